import PyProof.Rows.All
import Wide.All
import OpenK.AllK
import Wide.FinOn
import HandS.ForMost
import HandS.ForExc
import HandS.Wide
import KE.DataEq
import HandS.ExcCtx
import HandS.WordsExc
import HandS.ExcOwn
import HandS.IsInst
import HandS.TupAny
import HandS.TupLe
import HandS.Style
import HandS.Flow
import HandS.StrMore
import KE.IntTextText
import KE.KIntText
import HandS.ExcInit
import HandS.ExcField
import HandS.TryOnly
import HandS.TryMany
import HandS.ExcIs
import KE.KExcIs
import HandS.Rev
import HandS.Conv
import HandS.ExcValue
import HandS.Small
import HandS.More
import HandS.WideBits
import HandS.Dict
import HandS.EndBits
import PyProof.FitsBits
import HandS.CallSlots
import HandS.Defaults
import PyProof.MeetsStr3
import PyProof.FactsAll.str_7
import PyProof.StrLawsFirst
import PyProof.StrLawsLast
import KE.DataMinMax
import HandS.DeepEq
import PyProof.StrOps2
import HandS.SuiteRaise
import HandS.HotCalls
import HandS.ExcInitHot
import PySem.Challenge.RW_cuetimer_k48_the_table
set_option Elab.async false
set_option linter.all false
set_option maxRecDepth 100000
set_option maxHeartbeats 4000000
/-! Pu: values as plain trees; what a def's body does, as a plain function of them. Part A: the values, and how a heap bears them. -/
namespace Pu
open PySem PySem.Spec PyProof.Rows L2

abbrev Sl := L2.St
/-- texts by their codes -/
abbrev Tx := List Nat
def tx (s : Tx) : Str := ⟨s.toArray⟩
theorem tx_len (s : Tx) : (tx s).length = s.length := by simp [tx, Str.length]
theorem tx_inj {a b : Tx} (h : tx a = tx b) : a = b := by
  have := congrArg (fun z : Str => z.cps.toList) h
  simpa [tx] using this
theorem tx_surj (s : Str) : tx s.cps.toList = s := by cases s; simp [tx]
theorem tx_app (a b : Tx) : tx a ++ tx b = tx (a ++ b) := by
  show Str.append _ _ = _
  simp [Str.append, tx]
/-- keys of dicts -/
abbrev KD := Sum Int Tx
def kd : KD → Key
  | .inl i => .inl i
  | .inr s => .inr (tx s)
theorem kd_inj {a b : KD} (h : kd a = kd b) : a = b := by
  cases a <;> cases b <;> simp [kd] at h
  · rw [h]
  · rw [tx_inj h]

inductive D where
  | non | bl (b : Bool) | int (i : Int) | str (s : Tx)
  | tup (xs : List D) | lst (xs : List D) | scr (ns : List Int)
  | dct (ks : List KD) (vs : List D)
  | dtt (ks : List (List KD)) (vs : List D)
  | ins (c : Nat) (fs : List Str) (vs : List D)

/-- an exception: its class, its field -/
structure Exc where
  cls : Nat
  pay : Option (Str × D)

inductive R (α : Type) where
  | ok (a : α) | exc (x : Exc) | stuck

def R.bind {α β : Type} (r : R α) (f : α → R β) : R β :=
  match r with
  | .ok a => f a
  | .exc x => .exc x
  | .stuck => .stuck
instance : Monad R where
  pure := R.ok
  bind := R.bind
@[simp] theorem R.ok_bind {α β : Type} (a : α) (f : α → R β) : (R.ok a >>= f) = f a := rfl
@[simp] theorem R.pure_eq {α : Type} (a : α) : (pure a : R α) = R.ok a := rfl
@[simp] theorem R.exc_bind {α β : Type} (x : Exc) (f : α → R β) : (R.exc x >>= f) = R.exc x := rfl
@[simp] theorem R.stuck_bind {α β : Type} (f : α → R β) : ((R.stuck : R α) >>= f) = R.stuck := rfl

abbrev Env := List (Option D)
/-- how a statement ends -/
inductive SR where
  | nx (r : Env) | ret (d : D) | bk (r : Env) | ct (r : Env) | exc (x : Exc) (r : Env) | stuck

/-- the written part, and where the classes stand (by number) -/
structure KC where
  K : PySem.W.Frag
  ct : Nat → Option Addr
  ci : Nat → Option Addr

mutual
inductive Dv (k : KC) (F : Hp) : V → D → Prop
  | non : Dv k F .non .non
  | bl (b : Bool) : Dv k F (.bl b) (.bl b)
  | int (i : Int) : Dv k F (.int i) (.int i)
  | str (s : Tx) (h : s.length ≤ sizeLine) : Dv k F (.str (tx s)) (.str s)
  | lst {a : Addr} {xs : List V} {ds : List D} : F a = some (.lst xs) → DvAll k F xs ds → Dv k F (.ref a) (.lst ds)
  | scr {a : Addr} {ns : List Int} : SqL k.K F a (ns.map V.int) → Dv k F (.ref a) (.scr ns)
  | tup {a : Addr} {xs : List V} {ds : List D} : F a = some (.tup xs) → DvAll k F xs ds → Dv k F (.ref a) (.tup ds)
  | dct {a : Addr} {kvs : List (Key × V)} {ks : List KD} {ds : List D} : F a = some (.dK kvs) → kvs.map (·.1) = ks.map kd → DvAll k F (kvs.map (·.2)) ds → Dv k F (.ref a) (.dct ks ds)
  | dtt {a : Addr} {kvs : List (List Key × V)} {ks : List (List KD)} {ds : List D} : F a = some (.dT kvs) → kvs.map (·.1) = ks.map (List.map kd) → DvAll k F (kvs.map (·.2)) ds → Dv k F (.ref a) (.dtt ks ds)
  | ins {a C dx : Addr} {fs : List (Str × V)} {c : Nat} {ns : List Str} {ds : List D} : k.ci c = some C → F a = some (.ins C dx fs) → fs.map (·.1) = ns → DvAll k F (fs.map (·.2)) ds → Dv k F (.ref a) (.ins c ns ds)
inductive DvAll (k : KC) (F : Hp) : List V → List D → Prop
  | nil : DvAll k F [] []
  | cons {v : V} {vs : List V} {d : D} {ds : List D} : Dv k F v d → DvAll k F vs ds → DvAll k F (v :: vs) (d :: ds)
end

/-! ### heaps that grow -/
theorem sq_mono {K : PySem.W.Frag} {F F' : Hp} {a : Addr} {xs : List V} (s : Same F F') (h : SqL K F a xs) : SqL K F' a xs := s.seq h
theorem sqt_mono {K : PySem.W.Frag} {F F' : Hp} {a : Addr} {xs : List V} (s : Same F F') (h : SqT K F a xs) : SqT K F' a xs := by
  rcases h with (h | ⟨o, h⟩) | h
  · exact .inl (.inl (s _ _ h))
  · exact .inl (.inr ⟨o, s _ _ h⟩)
  · exact .inr h
mutual
theorem Dv.mono {k : KC} {F F' : Hp} (s : Same F F') : ∀ {v : V} {d : D}, Dv k F v d → Dv k F' v d
  | _, _, .non => .non
  | _, _, .bl b => .bl b
  | _, _, .int i => .int i
  | _, _, .str x h => .str x h
  | _, _, .lst h1 h2 => .lst (s _ _ h1) (DvAll.mono s h2)
  | _, _, .scr h => .scr (sq_mono s h)
  | _, _, .tup h1 h2 => .tup (s _ _ h1) (DvAll.mono s h2)
  | _, _, .dct h1 h2 h3 => .dct (s _ _ h1) h2 (DvAll.mono s h3)
  | _, _, .dtt h1 h2 h3 => .dtt (s _ _ h1) h2 (DvAll.mono s h3)
  | _, _, .ins h0 h1 h2 h3 => .ins h0 (s _ _ h1) h2 (DvAll.mono s h3)
theorem DvAll.mono {k : KC} {F F' : Hp} (s : Same F F') : ∀ {vs : List V} {ds : List D}, DvAll k F vs ds → DvAll k F' vs ds
  | _, _, .nil => .nil
  | _, _, .cons h1 h2 => .cons (Dv.mono s h1) (DvAll.mono s h2)
end
section
variable {k : KC} {F : Hp}
theorem DvAll.length : ∀ {vs : List V} {ds : List D}, DvAll k F vs ds → vs.length = ds.length
  | _, _, .nil => rfl
  | _, _, .cons _ h => by rw [List.length_cons, List.length_cons, DvAll.length h]
theorem DvAll.get : ∀ {vs : List V} {ds : List D} {i : Nat} {d : D}, DvAll k F vs ds → ds[i]? = some d → ∃ v, vs[i]? = some v ∧ Dv k F v d
  | _, _, _, _, .nil, e => by simp at e
  | _, _, 0, _, .cons h _, e => by simp at e; subst e; exact ⟨_, rfl, h⟩
  | _, _, i + 1, _, .cons _ h, e => by
    obtain ⟨v, h1, h2⟩ := DvAll.get (i := i) h (by simpa using e)
    exact ⟨v, by simpa using h1, h2⟩
theorem DvAll.getV : ∀ {vs : List V} {ds : List D} {i : Nat} {v : V}, DvAll k F vs ds → vs[i]? = some v → ∃ d, ds[i]? = some d ∧ Dv k F v d
  | _, _, _, _, .nil, e => by simp at e
  | _, _, 0, _, .cons h _, e => by simp at e; subst e; exact ⟨_, rfl, h⟩
  | _, _, i + 1, _, .cons _ h, e => by
    obtain ⟨v, h1, h2⟩ := DvAll.getV (i := i) h (by simpa using e)
    exact ⟨v, by simpa using h1, h2⟩
theorem DvAll.set {v : V} {d : D} (h : Dv k F v d) : ∀ {vs : List V} {ds : List D} (i : Nat), DvAll k F vs ds → DvAll k F (vs.set i v) (ds.set i d)
  | _, _, _, .nil => .nil
  | _, _, 0, .cons _ t => .cons h t
  | _, _, i + 1, .cons q t => .cons q (DvAll.set h i t)
theorem DvAll.append : ∀ {vs ws : List V} {ds es : List D}, DvAll k F vs ds → DvAll k F ws es → DvAll k F (vs ++ ws) (ds ++ es)
  | _, _, _, _, .nil, s => s
  | _, _, _, _, .cons h t, s => .cons h (DvAll.append t s)
theorem DvAll.take : ∀ {vs : List V} {ds : List D} (n : Nat), DvAll k F vs ds → DvAll k F (vs.take n) (ds.take n)
  | _, _, 0, _ => .nil
  | _, _, _ + 1, .nil => .nil
  | _, _, n + 1, .cons r t => .cons r (DvAll.take n t)
theorem DvAll.drop : ∀ {vs : List V} {ds : List D} (n : Nat), DvAll k F vs ds → DvAll k F (vs.drop n) (ds.drop n)
  | _, _, 0, r => r
  | _, _, _ + 1, .nil => .nil
  | _, _, n + 1, .cons r t => DvAll.drop n t
theorem DvAll.reverse : ∀ {vs : List V} {ds : List D}, DvAll k F vs ds → DvAll k F vs.reverse ds.reverse
  | _, _, .nil => .nil
  | _, _, .cons h t => by
    rw [List.reverse_cons, List.reverse_cons]
    exact (DvAll.reverse t).append (.cons h .nil)
theorem DvAll.eraseIdx : ∀ {vs : List V} {ds : List D} (i : Nat), DvAll k F vs ds → DvAll k F (vs.eraseIdx i) (ds.eraseIdx i)
  | _, _, _, .nil => .nil
  | _, _, 0, .cons _ t => t
  | _, _, i + 1, .cons q t => .cons q (DvAll.eraseIdx i t)
theorem DvAll.ints : ∀ (ns : List Int), DvAll k F (ns.map V.int) (ns.map D.int)
  | [] => .nil
  | i :: r => .cons (.int i) (DvAll.ints r)
theorem DvAll.rep {vs : List V} {ds : List D} (h : DvAll k F vs ds) : ∀ n : Nat, DvAll k F (List.replicate n vs).flatten (List.replicate n ds).flatten
  | 0 => .nil
  | n + 1 => by
    rw [List.replicate_succ, List.replicate_succ, List.flatten_cons, List.flatten_cons]
    exact h.append (DvAll.rep h n)
theorem Dv.str' (s : Str) (h : s.length ≤ sizeLine) : Dv k F (.str s) (.str s.cps.toList) := by
  have := Dv.str (k := k) (F := F) s.cps.toList (by simpa [Str.length] using h)
  rw [tx_surj] at this
  exact this
end

/-- F: what is kept for good; H: what stands. Both grow; what is new in F is new in H -/
structure Ext (F H F' H' : Hp) : Prop where
  sf : Same F F'
  sh : Same H H'
  sub : Same F' H'
  new : ∀ a, F a = none → H a ≠ none → F' a = none
theorem Ext.refl {F H : Hp} (s : Same F H) : Ext F H F H := ⟨Same.refl F, Same.refl H, s, fun _ h _ => h⟩
theorem some_of_ne {α : Type} {o : Option α} (h : o ≠ none) : ∃ x, o = some x := by
  cases o with
  | none => exact absurd rfl h
  | some x => exact ⟨x, rfl⟩
theorem Ext.trans {F H F1 H1 F2 H2 : Hp} (a : Ext F H F1 H1) (b : Ext F1 H1 F2 H2) : Ext F H F2 H2 :=
  ⟨a.sf.trans b.sf, a.sh.trans b.sh, b.sub, fun p h h' => by
    refine b.new p (a.new p h h') ?_
    obtain ⟨o, e⟩ := some_of_ne h'
    rw [a.sh _ _ e]
    exact fun z => by cases z⟩
/-- a new object, kept -/
theorem Ext.add {F H : Hp} {p : Addr} {o : HO} (s : Same F H) (h : H p = none) : Ext F H (upd F p o) (upd H p o) := by
  have fp : F p = none := s.free h
  refine ⟨fun b x e => ?_, fun b x e => ?_, fun b x e => ?_, fun b h1 h2 => ?_⟩
  · rw [upd_ne (ne_of_none e fp)]; exact e
  · rw [upd_ne (ne_of_none e h)]; exact e
  · by_cases hb : b = p
    · subst hb
      rw [upd_same] at e ⊢
      exact e
    · rw [upd_ne hb] at e ⊢
      exact s _ _ e
  · have : b ≠ p := fun z => h2 (by rw [z]; exact h)
    rw [upd_ne this]
    exact h1
/-- a new object, not kept -/
theorem Ext.own {F H : Hp} {p : Addr} {o : HO} (s : Same F H) (h : H p = none) : Ext F H F (upd H p o) := by
  refine ⟨Same.refl F, fun b x e => ?_, fun b x e => ?_, fun b h1 h2 => h1⟩
  · rw [upd_ne (ne_of_none e h)]; exact e
  · rw [upd_ne (ne_of_none (s _ _ e) h)]; exact s _ _ e
/-- an object that stands becomes kept, which was new in H0 -/
theorem Ext.keep {F H F1 H1 : Hp} {p : Addr} {o : HO} (x : Ext F H F1 H1) (h : H p = none) (h1 : H1 p = some o) : Ext F H (upd F1 p o) H1 := by
  refine ⟨fun b z e => ?_, x.sh, fun b z e => ?_, fun b q1 q2 => ?_⟩
  · by_cases hb : b = p
    · subst hb
      have a : F1 b = some z := x.sf _ _ e
      have c : H1 b = some z := x.sub _ _ a
      rw [h1] at c
      rw [upd_same]
      exact c
    · rw [upd_ne hb]; exact x.sf _ _ e
  · by_cases hb : b = p
    · subst hb
      rw [upd_same] at e
      cases e
      exact h1
    · rw [upd_ne hb] at e
      exact x.sub _ _ e
  · have : b ≠ p := fun z => q2 (by rw [z]; exact h)
    rw [upd_ne this]
    exact x.new b q1 q2

/-- an object of one's own: a list, a dict -/
inductive OwnAt (k : KC) (F H : Hp) (p : Addr) : D → Prop
  | lst {xs : List V} {ds : List D} : H p = some (.lst xs) → DvAll k F xs ds → OwnAt k F H p (.lst ds)
  | dct {kvs : List (Key × V)} {ks : List KD} {ds : List D} : H p = some (.dK kvs) → kvs.map (·.1) = ks.map kd → DvAll k F (kvs.map (·.2)) ds → OwnAt k F H p (.dct ks ds)
  | dtt {kvs : List (List Key × V)} {ks : List (List KD)} {ds : List D} : H p = some (.dT kvs) → kvs.map (·.1) = ks.map (List.map kd) → DvAll k F (kvs.map (·.2)) ds → OwnAt k F H p (.dtt ks ds)
theorem OwnAt.ext {k : KC} {F H F' H' : Hp} {p : Addr} {d : D} (x : Ext F H F' H') (h : OwnAt k F H p d) : OwnAt k F' H' p d := by
  cases h with
  | lst h1 h2 => exact .lst (x.sh _ _ h1) (h2.mono x.sf)
  | dct h1 h2 h3 => exact .dct (x.sh _ _ h1) h2 (h3.mono x.sf)
  | dtt h1 h2 h3 => exact .dtt (x.sh _ _ h1) h2 (h3.mono x.sf)
theorem OwnAt.there {k : KC} {F H : Hp} {p : Addr} {d : D} (h : OwnAt k F H p d) : ∃ o, H p = some o := by
  cases h with
  | lst h1 h2 => exact ⟨_, h1⟩
  | dct h1 h2 h3 => exact ⟨_, h1⟩
  | dtt h1 h2 h3 => exact ⟨_, h1⟩
/-- kept from now on -/
theorem OwnAt.dv {k : KC} {F H : Hp} {p : Addr} {d : D} (h : OwnAt k F H p d) (n : F p = none) : ∃ o, H p = some o ∧ Dv k (upd F p o) (.ref p) d := by
  have s : ∀ o, Same F (upd F p o) := fun o b z e => by rw [upd_ne (ne_of_none e n)]; exact e
  cases h with
  | lst h1 h2 => exact ⟨_, h1, .lst upd_same (h2.mono (s _))⟩
  | dct h1 h2 h3 => exact ⟨_, h1, .dct upd_same h2 (h3.mono (s _))⟩
  | dtt h1 h2 h3 => exact ⟨_, h1, .dtt upd_same h2 (h3.mono (s _))⟩

/-! ### objects of one's own, with objects of one's own in them -/
inductive Sh where
  | leaf
  | node (c : Nat → Sh)
  | tupS (c : Nat → Sh)
def shAt : List Sh → Nat → Sh
  | [], _ => .leaf
  | s :: _, 0 => s
  | _ :: r, i + 1 => shAt r i
def immK : D → Bool
  | .lst _ => false
  | .dct _ _ => false
  | .dtt _ _ => false
  | .ins _ _ _ => false
  | _ => true
mutual
/-- the value v, whose tree is d: of the shape sh; the objects that are one's own stand at A -/
inductive ODv (k : KC) (F H : Hp) : Sh → List Addr → V → D → Prop
  | leaf {v : V} {d : D} : Dv k F v d → ODv k F H .leaf [] v d
  | imm {c : Nat → Sh} {v : V} {d : D} : Dv k F v d → immK d = true → ODv k F H (.node c) [] v d
  | lst {c : Nat → Sh} {A : List Addr} {a : Addr} {xs : List V} {ds : List D} : H a = some (.lst xs) → ODvL k F H c 0 A xs ds → ODv k F H (.node c) (a :: A) (.ref a) (.lst ds)
  | tup {c : Nat → Sh} {A : List Addr} {a : Addr} {xs : List V} {ds : List D} : H a = some (.tup xs) → ODvL k F H c 0 A xs ds → ODv k F H (.tupS c) (a :: A) (.ref a) (.tup ds)
  | dct {c : Nat → Sh} {A : List Addr} {a : Addr} {kvs : List (Key × V)} {ks : List KD} {ds : List D} : H a = some (.dK kvs) → kvs.map (·.1) = ks.map kd → ODvL k F H c 0 A (kvs.map (·.2)) ds → ODv k F H (.node c) (a :: A) (.ref a) (.dct ks ds)
  | ins {c : Nat → Sh} {A : List Addr} {a C dx : Addr} {fs : List (Str × V)} {cn : Nat} {ns : List Str} {ds : List D} : k.ci cn = some C → H a = some (.ins C dx fs) → fs.map (·.1) = ns → ODvL k F H c 0 A (fs.map (·.2)) ds → ODv k F H (.node c) (a :: A) (.ref a) (.ins cn ns ds)
inductive ODvL (k : KC) (F H : Hp) : (Nat → Sh) → Nat → List Addr → List V → List D → Prop
  | nil {c : Nat → Sh} {i : Nat} : ODvL k F H c i [] [] []
  | cons {c : Nat → Sh} {i : Nat} {A B : List Addr} {v : V} {vs : List V} {d : D} {ds : List D} : ODv k F H (c i) A v d → ODvL k F H c (i + 1) B vs ds → ODvL k F H c i (A ++ B) (v :: vs) (d :: ds)
end
mutual
theorem ODv.frame {k : KC} {F H F' H' : Hp} (s : Same F F') : ∀ {sh : Sh} {A : List Addr} {v : V} {d : D}, ODv k F H sh A v d → (∀ a ∈ A, H' a = H a) → ODv k F' H' sh A v d
  | _, _, _, _, .leaf h, _ => .leaf (h.mono s)
  | _, _, _, _, .imm h1 h2, _ => .imm (h1.mono s) h2
  | _, _, _, _, .lst h1 h2, g => .lst ((g _ (List.mem_cons_self ..)).trans h1) (ODvL.frame s h2 fun a h => g a (List.mem_cons_of_mem _ h))
  | _, _, _, _, .tup h1 h2, g => .tup ((g _ (List.mem_cons_self ..)).trans h1) (ODvL.frame s h2 fun a h => g a (List.mem_cons_of_mem _ h))
  | _, _, _, _, .dct h1 h2 h3, g => .dct ((g _ (List.mem_cons_self ..)).trans h1) h2 (ODvL.frame s h3 fun a h => g a (List.mem_cons_of_mem _ h))
  | _, _, _, _, .ins h0 h1 h2 h3, g => .ins h0 ((g _ (List.mem_cons_self ..)).trans h1) h2 (ODvL.frame s h3 fun a h => g a (List.mem_cons_of_mem _ h))
theorem ODvL.frame {k : KC} {F H F' H' : Hp} (s : Same F F') : ∀ {c : Nat → Sh} {i : Nat} {A : List Addr} {vs : List V} {ds : List D}, ODvL k F H c i A vs ds → (∀ a ∈ A, H' a = H a) → ODvL k F' H' c i A vs ds
  | _, _, _, _, _, .nil, _ => .nil
  | _, _, _, _, _, .cons h1 h2, g => .cons (ODv.frame s h1 fun a h => g a (List.mem_append_left _ h)) (ODvL.frame s h2 fun a h => g a (List.mem_append_right _ h))
end
mutual
theorem ODv.there {k : KC} {F H : Hp} : ∀ {sh : Sh} {A : List Addr} {v : V} {d : D}, ODv k F H sh A v d → ∀ a ∈ A, ∃ o, H a = some o
  | _, _, _, _, .leaf _, _, g => by cases g
  | _, _, _, _, .imm _ _, _, g => by cases g
  | _, _, _, _, .lst h1 h2, a, g => by
    rcases List.mem_cons.mp g with rfl | g
    · exact ⟨_, h1⟩
    · exact ODvL.there h2 a g
  | _, _, _, _, .tup h1 h2, a, g => by
    rcases List.mem_cons.mp g with rfl | g
    · exact ⟨_, h1⟩
    · exact ODvL.there h2 a g
  | _, _, _, _, .dct h1 _ h2, a, g => by
    rcases List.mem_cons.mp g with rfl | g
    · exact ⟨_, h1⟩
    · exact ODvL.there h2 a g
  | _, _, _, _, .ins _ h1 _ h2, a, g => by
    rcases List.mem_cons.mp g with rfl | g
    · exact ⟨_, h1⟩
    · exact ODvL.there h2 a g
theorem ODvL.there {k : KC} {F H : Hp} : ∀ {c : Nat → Sh} {i : Nat} {A : List Addr} {vs : List V} {ds : List D}, ODvL k F H c i A vs ds → ∀ a ∈ A, ∃ o, H a = some o
  | _, _, _, _, _, .nil, _, g => by cases g
  | _, _, _, _, _, .cons h1 h2, a, g => by
    rcases List.mem_append.mp g with g | g
    · exact ODv.there h1 a g
    · exact ODvL.there h2 a g
end
mutual
/-- kept from now on -/
theorem ODv.dv {k : KC} {F H G : Hp} (s : Same F G) : ∀ {sh : Sh} {A : List Addr} {v : V} {d : D}, ODv k F H sh A v d → (∀ a ∈ A, G a = H a) → Dv k G v d
  | _, _, _, _, .leaf h, _ => h.mono s
  | _, _, _, _, .imm h1 _, _ => h1.mono s
  | _, _, _, _, .lst h1 h2, g => .lst ((g _ (List.mem_cons_self ..)).trans h1) (ODvL.dv s h2 fun a h => g a (List.mem_cons_of_mem _ h))
  | _, _, _, _, .tup h1 h2, g => .tup ((g _ (List.mem_cons_self ..)).trans h1) (ODvL.dv s h2 fun a h => g a (List.mem_cons_of_mem _ h))
  | _, _, _, _, .dct h1 h2 h3, g => .dct ((g _ (List.mem_cons_self ..)).trans h1) h2 (ODvL.dv s h3 fun a h => g a (List.mem_cons_of_mem _ h))
  | _, _, _, _, .ins h0 h1 h2 h3, g => .ins h0 ((g _ (List.mem_cons_self ..)).trans h1) h2 (ODvL.dv s h3 fun a h => g a (List.mem_cons_of_mem _ h))
theorem ODvL.dv {k : KC} {F H G : Hp} (s : Same F G) : ∀ {c : Nat → Sh} {i : Nat} {A : List Addr} {vs : List V} {ds : List D}, ODvL k F H c i A vs ds → (∀ a ∈ A, G a = H a) → DvAll k G vs ds
  | _, _, _, _, _, .nil, _ => .nil
  | _, _, _, _, _, .cons h1 h2, g => .cons (ODv.dv s h1 fun a h => g a (List.mem_append_left _ h)) (ODvL.dv s h2 fun a h => g a (List.mem_append_right _ h))
end

/-- what an expression's value may be: kept for good; a new object of one's own; a view (kept, or an object that a name owns) -/
inductive Mo where | frz | own | vw
  deriving DecidableEq
def Res (k : KC) (m : Mo) (H F' H' : Hp) (v : V) (d : D) : Prop :=
  match m with
  | .frz => Dv k F' v d
  | .own => ∃ p, v = .ref p ∧ H p = none ∧ F' p = none ∧ OwnAt k F' H' p d
  | .vw => Dv k F' v d ∨ ∃ p, v = .ref p ∧ F' p = none ∧ OwnAt k F' H' p d
/-- a new value of one's own, with what is in it -/
def ResD (k : KC) (sh : Sh) (H F' H' : Hp) (v : V) (d : D) : Prop := ∃ A : List Addr, ODv k F' H' sh A v d ∧ A.Nodup ∧ ∀ a ∈ A, H a = none ∧ F' a = none
/-- what a def hands back: kept; its own; its own, with what is in it; kept, and what became of the parameters that are lent to be changed -/
inductive RM where | frz | own | deep (sh : Sh) | io (ps : List (V × Sh))
@[reducible] def rmB : Bool → RM
  | true => .own
  | false => .frz
/-- the parameters behind -/
inductive IoV (k : KC) (F H : Hp) : List Addr → List (V × Sh) → List D → Prop
  | nil : IoV k F H [] [] []
  | cons {A B : List Addr} {v : V} {sh : Sh} {ps : List (V × Sh)} {d : D} {ds : List D} : ODv k F H sh A v d → IoV k F H B ps ds → IoV k F H (A ++ B) ((v, sh) :: ps) (d :: ds)
def ResR (k : KC) (m : RM) (H F' H' : Hp) (v : V) (d : D) : Prop :=
  match m with
  | .frz => Dv k F' v d
  | .own => Res k .own H F' H' v d
  | .deep sh => ResD k sh H F' H' v d
  | .io ps => ∃ (d1 : D) (ds : List D) (A : List Addr), d = .tup (d1 :: ds) ∧ Dv k F' v d1 ∧ IoV k F' H' A ps ds ∧ A.Nodup ∧ ∀ a ∈ A, H a = none ∧ F' a = none
/-- to be read now -/
def Rdv (k : KC) (H : Hp) (v : V) (d : D) : Prop := ∃ G, Same G H ∧ Dv k G v d

/-- an exception as it lies -/
def ExcAt (k : KC) (F : Hp) (x : Exc) (cls : Value) (dd : Option Addr) : Prop :=
  ∃ C, k.ct x.cls = some C ∧ cls = .ref C ∧
    match x.pay with
    | none => dd = none
    | some (f, d) => ∃ a v, dd = some a ∧ F a = some (.xd [(f, v)]) ∧ Dv k F v d
theorem ExcAt.mono {k : KC} {F F' : Hp} {x : Exc} {cls : Value} {dd : Option Addr} (s : Same F F') (h : ExcAt k F x cls dd) : ExcAt k F' x cls dd := by
  obtain ⟨C, h1, h2, h3⟩ := h
  refine ⟨C, h1, h2, ?_⟩
  cases z : x.pay with
  | none => rw [z] at h3; exact h3
  | some q =>
    rw [z] at h3
    obtain ⟨a, v, e1, e2, e3⟩ := h3
    exact ⟨a, v, e1, s _ _ e2, e3.mono s⟩

/-- a slot: kept for good; its object is one's own; the name of the exception that a suite holds -/
structure Pin where
  a : Addr
  x : Exc
  cls : Value
  dd : Option Addr
inductive Md where | frz | own | pin (p : Pin) | lock (p : Addr) | deep (sh : Sh) (o : Option V)
def isOwn : List Md → Nat → Bool
  | [], _ => false
  | .own :: _, 0 => true
  | .frz :: _, 0 => false
  | .pin _ :: _, 0 => false
  | .lock _ :: _, 0 => true
  | .deep _ _ :: _, 0 => false
  | _ :: r, i + 1 => isOwn r i
def pinAt : List Md → Nat → Option Pin
  | [], _ => none
  | .own :: _, 0 => none
  | .frz :: _, 0 => none
  | .pin a :: _, 0 => some a
  | .lock _ :: _, 0 => none
  | .deep _ _ :: _, 0 => none
  | _ :: r, i + 1 => pinAt r i
/-- a list that is walked: where it stands -/
def lockAt : List Md → Nat → Option Addr
  | [], _ => none
  | .own :: _, 0 => none
  | .frz :: _, 0 => none
  | .pin _ :: _, 0 => none
  | .lock a :: _, 0 => some a
  | .deep _ _ :: _, 0 => none
  | _ :: r, i + 1 => lockAt r i
theorem lockAt_own : ∀ {G : List Md} {i : Nat} {p : Addr}, lockAt G i = some p → isOwn G i = true
  | [], _, _, h => by cases h
  | x :: r, 0, p, h => by cases x <;> first | rfl | cases h
  | x :: r, i + 1, p, h => by
    have ih := lockAt_own (G := r) (i := i) (p := p)
    cases x <;> exact ih h
theorem lockAt_ne {m : Md} : ∀ {G : List Md} {i j : Nat}, j ≠ i → lockAt (G.set i m) j = lockAt G j
  | [], _, _, _ => rfl
  | x :: r, 0, 0, h => absurd rfl h
  | x :: r, 0, j + 1, _ => by cases x <;> cases m <;> rfl
  | x :: r, i + 1, 0, _ => by cases x <;> rfl
  | x :: r, i + 1, j + 1, h => by
    have ih := lockAt_ne (m := m) (G := r) (i := i) (j := j) (fun z => h (by rw [z]))
    cases x <;> exact ih
theorem lockAt_lock {a b : Addr} : ∀ {G : List Md} {i : Nat}, lockAt (G.set i (.lock a)) i = some b → b = a
  | [], _, h => by cases h
  | x :: r, 0, h => by cases h; rfl
  | x :: r, i + 1, h => by
    have ih := lockAt_lock (a := a) (b := b) (G := r) (i := i)
    cases x <;> exact ih h
theorem isOwn_lock {a : Addr} : ∀ {G : List Md} {i : Nat}, isOwn G i = true → isOwn (G.set i (.lock a)) i = true
  | [], _, h => h
  | x :: r, 0, h => rfl
  | x :: r, i + 1, h => by
    have ih := isOwn_lock (a := a) (G := r) (i := i)
    cases x <;> exact ih h
theorem pinAt_lock {a : Addr} : ∀ {G : List Md} {i : Nat}, pinAt (G.set i (.lock a)) i = none
  | [], _ => rfl
  | x :: r, 0 => rfl
  | x :: r, i + 1 => by
    have ih := pinAt_lock (a := a) (G := r) (i := i)
    cases x <;> exact ih
def noPin : List Md → Bool
  | [] => true
  | .pin _ :: _ => false
  | _ :: r => noPin r
theorem isOwn_ne {m : Md} : ∀ {G : List Md} {i j : Nat}, j ≠ i → isOwn (G.set i m) j = isOwn G j
  | [], _, _, _ => rfl
  | x :: r, 0, 0, h => absurd rfl h
  | x :: r, 0, j + 1, _ => by cases x <;> cases m <;> rfl
  | x :: r, i + 1, 0, _ => by cases x <;> rfl
  | x :: r, i + 1, j + 1, h => by
    have ih := isOwn_ne (m := m) (G := r) (i := i) (j := j) (fun z => h (by rw [z]))
    cases x <;> exact ih
theorem pinAt_ne {m : Md} : ∀ {G : List Md} {i j : Nat}, j ≠ i → pinAt (G.set i m) j = pinAt G j
  | [], _, _, _ => rfl
  | x :: r, 0, 0, h => absurd rfl h
  | x :: r, 0, j + 1, _ => by cases x <;> cases m <;> rfl
  | x :: r, i + 1, 0, _ => by cases x <;> rfl
  | x :: r, i + 1, j + 1, h => by
    have ih := pinAt_ne (m := m) (G := r) (i := i) (j := j) (fun z => h (by rw [z]))
    cases x <;> exact ih
theorem isOwn_frz : ∀ {G : List Md} {i : Nat}, isOwn (G.set i .frz) i = false
  | [], _ => rfl
  | x :: r, 0 => rfl
  | x :: r, i + 1 => by
    have ih := isOwn_frz (G := r) (i := i)
    cases x <;> exact ih
theorem isOwn_pin {a : Pin} : ∀ {G : List Md} {i : Nat}, isOwn (G.set i (.pin a)) i = false
  | [], _ => rfl
  | x :: r, 0 => rfl
  | x :: r, i + 1 => by
    have ih := isOwn_pin (a := a) (G := r) (i := i)
    cases x <;> exact ih
theorem pinAt_frz : ∀ {G : List Md} {i : Nat}, pinAt (G.set i .frz) i = none
  | [], _ => rfl
  | x :: r, 0 => rfl
  | x :: r, i + 1 => by
    have ih := pinAt_frz (G := r) (i := i)
    cases x <;> exact ih
theorem pinAt_own : ∀ {G : List Md} {i : Nat}, pinAt (G.set i .own) i = none
  | [], _ => rfl
  | x :: r, 0 => rfl
  | x :: r, i + 1 => by
    have ih := pinAt_own (G := r) (i := i)
    cases x <;> exact ih
theorem pinAt_pin {a b : Pin} : ∀ {G : List Md} {i : Nat}, pinAt (G.set i (.pin a)) i = some b → b = a
  | [], _, h => by cases h
  | x :: r, 0, h => by cases h; rfl
  | x :: r, i + 1, h => by
    have ih := pinAt_pin (a := a) (b := b) (G := r) (i := i)
    cases x <;> exact ih h
theorem isOwn_pinAt : ∀ {G : List Md} {i : Nat}, isOwn G i = true → pinAt G i = none
  | [], _, h => by cases h
  | x :: r, 0, h => by cases x <;> first | rfl | cases h
  | x :: r, i + 1, h => by
    have ih := isOwn_pinAt (G := r) (i := i)
    cases x <;> exact ih h
theorem noPin_at : ∀ {G : List Md}, noPin G = true → ∀ i, pinAt G i = none
  | [], _, _ => rfl
  | .own :: r, h, 0 => rfl
  | .frz :: r, h, 0 => rfl
  | .lock _ :: r, h, 0 => rfl
  | .pin _ :: r, h, _ => by cases h
  | .lock _ :: r, h, i + 1 => noPin_at (G := r) h i
  | .own :: r, h, i + 1 => noPin_at (G := r) h i
  | .frz :: r, h, i + 1 => noPin_at (G := r) h i
  | .deep _ _ :: r, h, 0 => rfl
  | .deep _ _ :: r, h, i + 1 => noPin_at (G := r) h i

/-- the shape of a deep slot, and its value, where it is told -/
def deepAt : List Md → Nat → Option (Sh × Option V)
  | [], _ => none
  | .own :: _, 0 => none
  | .frz :: _, 0 => none
  | .pin _ :: _, 0 => none
  | .lock _ :: _, 0 => none
  | .deep s o :: _, 0 => some (s, o)
  | _ :: r, i + 1 => deepAt r i
/-- whether a slot's value is not kept for good -/
def nf : List Md → Nat → Bool
  | [], _ => false
  | .own :: _, 0 => true
  | .frz :: _, 0 => false
  | .pin _ :: _, 0 => false
  | .lock _ :: _, 0 => true
  | .deep _ _ :: _, 0 => true
  | _ :: r, i + 1 => nf r i
theorem nf_of : ∀ {G : List Md} {i : Nat}, nf G i = true ↔ isOwn G i = true ∨ ∃ s, deepAt G i = some s
  | [], _ => Iff.intro (fun h => absurd h Bool.false_ne_true) (fun h => h.elim (fun z => absurd z Bool.false_ne_true) fun ⟨_, z⟩ => nomatch z)
  | x :: r, 0 => by cases x <;> simp [nf, isOwn, deepAt]
  | x :: r, i + 1 => by
    have ih := nf_of (G := r) (i := i)
    cases x <;> exact ih
theorem nf_own {G : List Md} {i : Nat} (h : isOwn G i = true) : nf G i = true := nf_of.mpr (.inl h)
theorem own_nf {G : List Md} {i : Nat} (h : nf G i ≠ true) : isOwn G i ≠ true := fun z => h (nf_own z)
theorem deep_nf {G : List Md} {i : Nat} (h : nf G i ≠ true) : deepAt G i = none := by
  cases e : deepAt G i with
  | none => rfl
  | some s => exact absurd (nf_of.mpr (.inr ⟨s, e⟩)) h
theorem own_deep : ∀ {G : List Md} {i : Nat}, isOwn G i = true → deepAt G i = none
  | [], _, h => by cases h
  | x :: r, 0, h => by cases x <;> first | rfl | cases h
  | x :: r, i + 1, h => by
    have ih := own_deep (G := r) (i := i)
    cases x <;> exact ih h
theorem lock_deep : ∀ {G : List Md} {i : Nat} {p : Addr}, lockAt G i = some p → deepAt G i = none := fun h => own_deep (lockAt_own h)
theorem pin_deep : ∀ {G : List Md} {i : Nat} {p : Pin}, pinAt G i = some p → deepAt G i = none
  | [], _, _, h => by cases h
  | x :: r, 0, _, h => by cases x <;> first | rfl | cases h
  | x :: r, i + 1, p, h => by
    have ih := pin_deep (G := r) (i := i) (p := p)
    cases x <;> exact ih h
theorem deepAt_ne {m : Md} : ∀ {G : List Md} {i j : Nat}, j ≠ i → deepAt (G.set i m) j = deepAt G j
  | [], _, _, _ => rfl
  | x :: r, 0, 0, h => absurd rfl h
  | x :: r, 0, j + 1, _ => by cases x <;> cases m <;> rfl
  | x :: r, i + 1, 0, _ => by cases x <;> rfl
  | x :: r, i + 1, j + 1, h => by
    have ih := deepAt_ne (m := m) (G := r) (i := i) (j := j) (fun z => h (by rw [z]))
    cases x <;> exact ih
theorem nf_ne {m : Md} {G : List Md} {i j : Nat} (h : j ≠ i) : (nf (G.set i m) j = true ↔ nf G j = true) := by
  rw [nf_of, nf_of, isOwn_ne h, deepAt_ne h]
/-- the deep slots: where their objects stand -/
structure Dps (k : KC) (G : List Md) (F H0 H : Hp) (r : Env) (σ : Sl) (fp : Nat → List Addr) : Prop where
  at_ : ∀ (i : Nat) (d : D) (sh : Sh) (o : Option V), deepAt G i = some (sh, o) → r[i]? = some (some d) → ∃ v, σ[i]? = some (some v) ∧ (∀ w, o = some w → v = w) ∧ ODv k F H sh (fp i) v d
  off : ∀ i, deepAt G i = none ∨ (∀ d, r[i]? ≠ some (some d)) → fp i = []
  nd : ∀ i, (fp i).Nodup
  fr : ∀ i a, a ∈ fp i → F a = none ∧ H0 a = none
  dis : ∀ i j a, a ∈ fp i → a ∈ fp j → i = j
  ow : ∀ (i j : Nat) (d : D) (p : Addr), isOwn G i = true → r[i]? = some (some d) → σ[i]? = some (some (.ref p)) → p ∉ fp j
theorem Dps.live {k : KC} {G : List Md} {F H0 H : Hp} {r : Env} {σ : Sl} {fp : Nat → List Addr} (h : Dps k G F H0 H r σ fp) {i : Nat} {a : Addr} (ha : a ∈ fp i) : ∃ d sh o, deepAt G i = some (sh, o) ∧ r[i]? = some (some d) := by
  by_cases z : deepAt G i = none ∨ ∀ d, r[i]? ≠ some (some d)
  · rw [h.off i z] at ha; cases ha
  · cases e : deepAt G i with
    | none => exact absurd (.inl e) z
    | some s =>
      obtain ⟨d, hd⟩ := Classical.not_forall.mp fun g => z (.inr g)
      exact ⟨d, s.1, s.2, rfl, Classical.not_not.mp hd⟩
theorem Dps.there {k : KC} {G : List Md} {F H0 H : Hp} {r : Env} {σ : Sl} {fp : Nat → List Addr} (h : Dps k G F H0 H r σ fp) {i : Nat} {a : Addr} (ha : a ∈ fp i) : H a ≠ none := by
  obtain ⟨d, sh, o, e1, e2⟩ := h.live ha
  obtain ⟨v, _, _, od⟩ := h.at_ i d sh o e1 e2
  obtain ⟨o, z⟩ := od.there a ha
  rw [z]
  exact fun q => by cases q
theorem Dps.ext {k : KC} {G : List Md} {F H0 H F' H' : Hp} {r : Env} {σ : Sl} {fp : Nat → List Addr} (h : Dps k G F H0 H r σ fp) (x : Ext F H F' H') : Dps k G F' H0 H' r σ fp where
  at_ := fun i d sh o e1 e2 => by
    obtain ⟨v, h1, h2, h3⟩ := h.at_ i d sh o e1 e2
    refine ⟨v, h1, h2, h3.frame x.sf fun a ha => ?_⟩
    obtain ⟨o, z⟩ := h3.there a ha
    rw [z]
    exact x.sh _ _ z
  off := h.off
  nd := h.nd
  fr := fun i a ha => ⟨x.new a (h.fr i a ha).1 (h.there ha), (h.fr i a ha).2⟩
  dis := h.dis
  ow := h.ow
/-- the state of a def's body: G: which slots hold objects of one's own; F0 H0: the entry -/
structure St4 (k : KC) (G : List Md) (F0 H0 F : Hp) (r : Env) (σ : Sl) (H : Hp) : Prop where
  ext : Ext F0 H0 F H
  len : r.length = σ.length
  frz : ∀ (i : Nat) (d : D), r[i]? = some (some d) → nf G i ≠ true → ∃ v, σ[i]? = some (some v) ∧ Dv k F v d
  own : ∀ (i : Nat) (d : D), r[i]? = some (some d) → isOwn G i = true → ∃ p, σ[i]? = some (some (.ref p)) ∧ F p = none ∧ H0 p = none ∧ OwnAt k F H p d
  sep : ∀ (i j : Nat) (d e : D) (p : Addr), r[i]? = some (some d) → r[j]? = some (some e) → isOwn G i = true → isOwn G j = true → σ[i]? = some (some (.ref p)) → σ[j]? = some (some (.ref p)) → i = j
  pin : ∀ (i : Nat) (a : Pin), pinAt G i = some a → r[i]? = some none ∧ σ[i]? = some (some (.ref a.a)) ∧ ExcAt k F a.x a.cls a.dd
  lk : ∀ (i : Nat) (p : Addr) (d : D), lockAt G i = some p → r[i]? = some (some d) → σ[i]? = some (some (.ref p))
  dp : ∃ fp, Dps k G F H0 H r σ fp
theorem St4.sub {k : KC} {G : List Md} {F0 H0 F : Hp} {r : Env} {σ : Sl} {H : Hp} (h : St4 k G F0 H0 F r σ H) : Same F H := h.ext.sub
theorem St4.step {k : KC} {G : List Md} {F0 H0 F F' : Hp} {r : Env} {σ : Sl} {H H' : Hp} (h : St4 k G F0 H0 F r σ H) (x : Ext F H F' H') : St4 k G F0 H0 F' r σ H' where
  ext := h.ext.trans x
  len := h.len
  frz := fun i d e g => by
    obtain ⟨v, e1, e2⟩ := h.frz i d e g
    exact ⟨v, e1, e2.mono x.sf⟩
  own := fun i d e g => by
    obtain ⟨p, e1, e2, e3, e4⟩ := h.own i d e g
    refine ⟨p, e1, x.new p e2 ?_, e3, e4.ext x⟩
    obtain ⟨o, z⟩ := e4.there
    rw [z]
    exact fun q => by cases q
  sep := h.sep
  pin := fun i a e => by
    obtain ⟨h1, h2, h3⟩ := h.pin i a e
    exact ⟨h1, h2, h3.mono x.sf⟩
  lk := h.lk
  dp := by
    obtain ⟨fp, h⟩ := h.dp
    exact ⟨fp, h.ext x⟩
/-- what may rise from an expression or a statement: W: what is wanted then; ge: the modes there, where they are told -/
structure WE where
  w : WX
  ge : List Md → Prop
  nn : Bool
def OkE (o : List Md → Prop) (G : List Md) : Prop := o G
def gAny : List Md → Prop := fun _ => True
theorem okN {G : List Md} : OkE gAny G := trivial
theorem okS {G : List Md} : OkE (fun g => G = g) G := rfl
end Pu

namespace Pu
open PySem PySem.Spec PyProof.Rows L2

/-! ### the readings as they are -/
def canE (X : Cx) (e : Expr) : TE := fun σ H Q => ∀ pins s, Inv X pins σ H s → wpAny (model X.prog X.w) X.A (eval e X.env) (EP X pins σ Q) X.xe s
def canT (X : Cx) (e : Expr) : TT := fun σ H Q => ∀ pins s, Inv X pins σ H s → wpAny (model X.prog X.w) X.A (isTrue e X.env (eval e X.env)) (TP X pins σ Q) X.xe s
def canW (X : Cx) (e : Expr) : TT := fun σ H Q => ∀ wh pins s, Inv X pins σ H s → wpAny (model X.prog X.w) X.A (isTrue e X.env wh) (TP X pins σ Q) X.xe s
def canA (X : Cx) (es : List Expr) : TA := fun σ H Q => ∀ (pos : Pos) pins s, Inv X pins σ H s → wpAny (model X.prog X.w) X.A (spliced (backTo pos (starEach es X.env))) (AP X pins σ Q) X.xe s
def canS (X : Cx) (st : Stmt) : TS := fun D σ H => ∀ pins s, Inv X pins σ H s → wpAny (model X.prog X.w) X.A (exec st X.env) (SP X pins D) X.xe s
def canB (X : Cx) (sts : List Stmt) : TS := fun D σ H => ∀ pins s, Inv X pins σ H s → wpAny (model X.prog X.w) X.A (execs sts X.env) (SP X pins D) X.xe s
section
variable {X : Cx} {e : Expr} {es : List Expr} {st : Stmt} {sts : List Stmt}
theorem pe_can : PE X e (canE X e) := ⟨fun pins s _ _ _ I h => h pins s I⟩
theorem pt_can : PT X e (canT X e) := ⟨fun pins s _ _ _ I h => h pins s I⟩
theorem pw_can : PW X e (canW X e) := ⟨fun wh pins s _ _ _ I h => h wh pins s I⟩
theorem pa_can : PA X es (canA X es) := ⟨fun pos pins s _ _ _ I h => h pos pins s I⟩
theorem ps_can : PS X st (canS X st) := ⟨fun pins s _ _ _ I h => h pins s I⟩
theorem pb_can : PSs X sts (canB X sts) := ⟨fun pins s _ _ _ I h => h pins s I⟩
theorem canE_of {t : TE} (h : PE X e t) {σ : Sl} {H : Hp} {Q : VK} (q : t σ H Q) : canE X e σ H Q := fun pins s I => h.run pins s σ H Q I q
theorem canT_of {t : TT} (h : PT X e t) {σ : Sl} {H : Hp} {Q : Bool → Hp → Prop} (q : t σ H Q) : canT X e σ H Q := fun pins s I => h.run pins s σ H Q I q
theorem canW_of {t : TT} (h : PW X e t) {σ : Sl} {H : Hp} {Q : Bool → Hp → Prop} (q : t σ H Q) : canW X e σ H Q := fun wh pins s I => h.run wh pins s σ H Q I q
theorem canA_of {t : TA} (h : PA X es t) {σ : Sl} {H : Hp} {Q : List V → Hp → Prop} (q : t σ H Q) : canA X es σ H Q := fun pos pins s I => h.run pos pins s σ H Q I q
theorem canS_of {t : TS} (h : PS X st t) {σ : Sl} {H : Hp} {Dn : Ends} (q : t Dn σ H) : canS X st Dn σ H := fun pins s I => h.run pins s σ H Dn I q
theorem canB_of {t : TS} (h : PSs X sts t) {σ : Sl} {H : Hp} {Dn : Ends} (q : t Dn σ H) : canB X sts Dn σ H := fun pins s I => h.run pins s σ H Dn I q
end

/-! ### the judgements -/
def PostR {α : Type} (k : KC) (F H : Hp) (W : WE) (σ : Sl) (N : α → Prop) : R α → Prop
  | .ok a => N a
  | .exc x => ∀ cls dd F' H', Ext F H F' H' → ExcAt k F' x cls dd → W.w cls dd σ H'
  | .stuck => False
/-- what a def may let out: with nn, exceptions alone that were risen where none was in hand -/
abbrev CXb (nn : Bool) (P : Program) (w : World) : CXT := match nn with
  | true => L2N.CX P w
  | false => L2.CX P w
def TkB (nn : Bool) (X : Cx) (W : WX) : Prop := match nn with
  | true => L2N.Takes X W
  | false => L2.Takes X W
theorem takes0B {nn : Bool} {X : Cx} : TkB nn X (fun _ _ _ _ => False) := match nn with
  | false => L2.takes0
  | true => fun _ _ x => by
    obtain ⟨_, _, _, _, _, _, _, _, _, _, _, _, _, _, _, _, z⟩ := x
    exact z.elim
theorem passAtB {nn : Bool} {X : Cx} {W : WX} (tk : TkB nn X W) : ∀ σ, PassesAt (CXb nn X.prog X.w) X σ (L2.WE W σ) := match nn, tk with
  | false, tk => fun σ => L2.passAt tk σ
  | true, tk => fun σ => L2N.passAt tk σ
/-- W: what is wanted where an exception rises -/
structure Jx (X : Cx) (k : KC) (G : List Md) (W : WE) : Prop where
  kk : k.K = X.K
  nd : X.N.Nodup
  tk : TkB W.nn X W.w
  oke : OkE W.ge G
structure PuE (X : Cx) (k : KC) (G : List Md) (W : WE) (m : Mo) (e : Expr) (f : Env → R D) : Prop where
  run : ∀ (F0 H0 F : Hp) (r : Env) (σ : Sl) (H : Hp) (Q : VK), St4 k G F0 H0 F r σ H →
    PostR k F H W σ (fun d => ∀ v F' H', Ext F H F' H' → Res k m H F' H' v d → Q v H') (f r) → canE X e σ H Q
structure PuT (X : Cx) (k : KC) (G : List Md) (W : WE) (e : Expr) (f : Env → R Bool) : Prop where
  run : ∀ (F0 H0 F : Hp) (r : Env) (σ : Sl) (H : Hp) (Q : Bool → Hp → Prop), St4 k G F0 H0 F r σ H →
    PostR k F H W σ (fun b => ∀ F' H', Ext F H F' H' → Q b H') (f r) → canT X e σ H Q
structure PuW (X : Cx) (k : KC) (G : List Md) (W : WE) (e : Expr) (f : Env → R Bool) : Prop where
  run : ∀ (F0 H0 F : Hp) (r : Env) (σ : Sl) (H : Hp) (Q : Bool → Hp → Prop), St4 k G F0 H0 F r σ H →
    PostR k F H W σ (fun b => ∀ F' H', Ext F H F' H' → Q b H') (f r) → canW X e σ H Q
/-- arguments: all kept, or views -/
def ResA (k : KC) (m : Mo) (H F' H' : Hp) : List V → List D → Prop
  | [], [] => True
  | v :: vs, d :: ds => Res k m H F' H' v d ∧ ResA k m H F' H' vs ds
  | _, _ => False
structure PuA (X : Cx) (k : KC) (G : List Md) (W : WE) (m : Mo) (es : List Expr) (f : Env → R (List D)) : Prop where
  run : ∀ (F0 H0 F : Hp) (r : Env) (σ : Sl) (H : Hp) (Q : List V → Hp → Prop), St4 k G F0 H0 F r σ H →
    PostR k F H W σ (fun ds => ∀ vs F' H', Ext F H F' H' → ResA k m H F' H' vs ds → Q vs H') (f r) → canA X es σ H Q
/-- Gn: slots behind it, Gl: at break and continue; ro: whether it hands back an object of one's own -/
def PostS (k : KC) (Gn Gl : List Md) (W : WE) (ro : RM) (F0 H0 F : Hp) (Dn : Ends) : SR → Prop
  | .nx r => ∀ F' σ' H', Same F F' → St4 k Gn F0 H0 F' r σ' H' → Dn.nx σ' H'
  | .ret d => ∀ v F' H', Ext F0 H0 F' H' → ResR k ro H0 F' H' v d → Dn.rt v H'
  | .bk r => ∀ F' σ' H', Same F F' → St4 k Gl F0 H0 F' r σ' H' → Dn.bk σ' H'
  | .ct r => ∀ F' σ' H', Same F F' → St4 k Gl F0 H0 F' r σ' H' → Dn.ct σ' H'
  | .exc x r => ∀ cls dd G F1 F' σ' H1 H', OkE W.ge G → Same F F1 → St4 k G F0 H0 F1 r σ' H1 → Ext F1 H1 F' H' → ExcAt k F' x cls dd → W.w cls dd σ' H'
  | .stuck => False
structure PuS (X : Cx) (k : KC) (G Gn Gl : List Md) (W : WE) (ro : RM) (st : Stmt) (g : Env → SR) : Prop where
  run : ∀ (F0 H0 F : Hp) (r : Env) (σ : Sl) (H : Hp) (Dn : Ends), St4 k G F0 H0 F r σ H → PostS k Gn Gl W ro F0 H0 F Dn (g r) → canS X st Dn σ H
structure PuB (X : Cx) (k : KC) (G Gn Gl : List Md) (W : WE) (ro : RM) (sts : List Stmt) (g : Env → SR) : Prop where
  run : ∀ (F0 H0 F : Hp) (r : Env) (σ : Sl) (H : Hp) (Dn : Ends), St4 k G F0 H0 F r σ H → PostS k Gn Gl W ro F0 H0 F Dn (g r) → canB X sts Dn σ H

/-! ### small steps of the posts -/
section
variable {α β : Type} {k : KC} {F H : Hp} {W : WE} {σ : Sl}
theorem PostR.imp {N N' : α → Prop} {r : R α} (h : PostR k F H W σ N r) (i : ∀ a, r = .ok a → N a → N' a) : PostR k F H W σ N' r := by
  cases r with
  | ok a => exact i a rfl h
  | exc x => exact h
  | stuck => exact h
theorem PostR.bind {r : R α} {f : α → R β} {N : β → Prop} (h : PostR k F H W σ N (r >>= f)) : PostR k F H W σ (fun a => PostR k F H W σ N (f a)) r := by
  cases r with
  | ok a => exact h
  | exc x => exact h
  | stuck => exact h
/-- the rest, from a state that has grown -/
theorem PostR.grow {r : R α} {N : α → Prop} {F1 H1 : Hp} (x : Ext F H F1 H1) (h : PostR k F H W σ N r) : PostR k F1 H1 W σ N r := by
  cases r with
  | ok a => exact h
  | exc e => exact fun cls dd F' H' y z => h cls dd F' H' (x.trans y) z
  | stuck => exact h
end
theorem Res.frz {k : KC} {m : Mo} {H F' H' : Hp} {v : V} {d : D} (s : Same F' H') (h : Res k m H F' H' v d) (hm : m ≠ .vw) : ∃ F2, Same F' F2 ∧ Same F2 H' ∧ (∀ a, F2 a ≠ F' a → H a = none) ∧ Dv k F2 v d := by
  cases m with
  | frz => exact ⟨F', Same.refl F', s, fun a z => absurd rfl z, h⟩
  | own =>
    obtain ⟨p, rfl, h1, h2, h3⟩ := h
    obtain ⟨o, e, dv⟩ := h3.dv h2
    refine ⟨upd F' p o, fun b z q => by rw [upd_ne (ne_of_none q h2)]; exact q, fun b z q => ?_, fun a z => ?_, dv⟩
    · by_cases hb : b = p
      · subst hb; rw [upd_same] at q; cases q; exact e
      · rw [upd_ne hb] at q; exact s _ _ q
    · by_cases ha : a = p
      · rw [ha]; exact h1
      · rw [upd_ne ha] at z; exact absurd rfl z
  | vw => exact absurd rfl hm
/-- kept from now on -/
theorem Res.keep {k : KC} {m : Mo} {F H F' H' : Hp} {v : V} {d : D} (x : Ext F H F' H') (h : Res k m H F' H' v d) (hm : m ≠ .vw) : ∃ F2, Ext F H F2 H' ∧ Dv k F2 v d := by
  cases m with
  | frz => exact ⟨F', x, h⟩
  | own =>
    obtain ⟨p, rfl, h1, h2, h3⟩ := h
    obtain ⟨o, e, dv⟩ := h3.dv h2
    exact ⟨_, x.keep h1 e, dv⟩
  | vw => exact absurd rfl hm
theorem Res.ext {k : KC} {m : Mo} {H F H1 F' H' : Hp} {v : V} {d : D} (x : Ext F H1 F' H') (h : Res k m H F H1 v d) : Res k m H F' H' v d := by
  cases m with
  | frz => exact Dv.mono x.sf h
  | own =>
    obtain ⟨p, e, h1, h2, h3⟩ := h
    obtain ⟨o, z⟩ := h3.there
    exact ⟨p, e, h1, x.new p h2 (by rw [z]; exact fun q => by cases q), h3.ext x⟩
  | vw =>
    rcases h with h | ⟨p, e, h2, h3⟩
    · exact .inl (h.mono x.sf)
    · obtain ⟨o, z⟩ := h3.there
      exact .inr ⟨p, e, x.new p h2 (by rw [z]; exact fun q => by cases q), h3.ext x⟩
theorem Res.rdv {k : KC} {m : Mo} {H F' H' : Hp} {v : V} {d : D} (s : Same F' H') (h : Res k m H F' H' v d) : Rdv k H' v d := by
  have fr : ∀ p, v = .ref p → F' p = none → OwnAt k F' H' p d → Rdv k H' v d := fun p e h2 h3 => by
    subst e
    obtain ⟨o, e, dv⟩ := h3.dv h2
    refine ⟨upd F' p o, fun b z q => ?_, dv⟩
    by_cases hb : b = p
    · subst hb; rw [upd_same] at q; cases q; exact e
    · rw [upd_ne hb] at q; exact s _ _ q
  cases m with
  | frz => exact ⟨F', s, h⟩
  | own =>
    obtain ⟨p, e, _, h2, h3⟩ := h
    exact fr p e h2 h3
  | vw =>
    rcases h with h | ⟨p, e, h2, h3⟩
    · exact ⟨F', s, h⟩
    · exact fr p e h2 h3
theorem Res.vw {k : KC} {m : Mo} {H F' H' : Hp} {v : V} {d : D} (h : Res k m H F' H' v d) : Res k .vw H F' H' v d := by
  cases m with
  | frz => exact .inl h
  | own =>
    obtain ⟨p, e, _, h2, h3⟩ := h
    exact .inr ⟨p, e, h2, h3⟩
  | vw => exact h
section
variable {X : Cx} {k : KC} {G : List Md} {W : WE} {m : Mo} {e : Expr} {f : Env → R D}
/-- kept -/
theorem PuE.frz (h : PuE X k G W .own e f) : PuE X k G W .frz e f := .mk fun F0 H0 F r σ H Q S q =>
  h.run F0 H0 F r σ H Q S (q.imp fun d _ n v F' H' x z => by
    obtain ⟨F2, x2, dv⟩ := z.keep x (by decide)
    exact n v F2 H' x2 dv)
theorem PuE.vw (h : PuE X k G W m e f) : PuE X k G W .vw e f := .mk fun F0 H0 F r σ H Q S q =>
  h.run F0 H0 F r σ H Q S (q.imp fun d _ n v F' H' x z => n v F' H' x z.vw)
end

/-! ### names and constants -/
def eVar (i : Nat) : Env → R D := fun r => match r[i]? with
  | some (some d) => .ok d
  | _ => .stuck
def eC (d : D) : Env → R D := fun _ => .ok d
section
variable {X : Cx} {k : KC} {G : List Md} {W : WE}
theorem pu_const {e : Expr} {v : V} {d : D} (h : PE X e (tC v)) (hd : ∀ F, Dv k F v d) : PuE X k G W .frz e (eC d) := .mk fun F0 H0 F r σ H Q S q =>
  canE_of h (q v F H (Ext.refl S.sub) (hd F))
theorem pu_int {i : Int} {j : Nat} {pos : Pos} : PuE X k G W .frz (.Constant (.int i) j pos) (eC (.int i)) := pu_const pe_int fun _ => .int i
theorem pu_bl {b : Bool} {j : Nat} {pos : Pos} : PuE X k G W .frz (.Constant (.bool b) j pos) (eC (.bl b)) := pu_const pe_bl fun _ => .bl b
theorem pu_non {j : Nat} {pos : Pos} : PuE X k G W .frz (.Constant .none j pos) (eC .non) := pu_const pe_non fun _ => .non
theorem pu_str {x : Str} {j : Nat} {pos : Pos} (s : Tx) (hx : x = tx s := by decide +kernel) (hl : s.length ≤ 100000 := by decide) : PuE X k G W .frz (.Constant (.str x) j pos) (eC (.str s)) := by
  subst hx
  exact pu_const pe_str fun _ => .str s (Nat.le_trans hl (by decide))
/-- a name: kept -/
theorem pu_var {x : Str} {pos : Pos} (i : Nat) (hN : X.N[i]? = some x := by rfl) (hg : nf G i ≠ true := by exact Bool.false_ne_true)
    (hv : Vis X.env.scope x := by first | exact Or.inl rfl | exact Or.inr (Or.inl rfl) | exact Or.inr (Or.inr rfl)) (hd : (x == ("__debug__" : Str)) = false := by decide) (hcd : (x == ("__classdict__" : Str)) = false := by decide) :
    PuE X k G W .frz (.Name x pos) (eVar i) := .mk fun F0 H0 F r σ H Q S q => by
  unfold eVar at q
  cases e : r[i]? with
  | none => rw [e] at q; exact q.elim
  | some o =>
    cases o with
    | none => rw [e] at q; exact q.elim
    | some d =>
      rw [e] at q
      obtain ⟨v, e1, dv⟩ := S.frz i d e hg
      exact canE_of (pe_var hN hv hd hcd) ⟨v, e1, q v F H (Ext.refl S.sub) dv⟩
/-- a name that owns its object: a view -/
theorem pu_view {x : Str} {pos : Pos} (i : Nat) (hN : X.N[i]? = some x := by rfl) (hg : isOwn G i = true := by rfl)
    (hv : Vis X.env.scope x := by first | exact Or.inl rfl | exact Or.inr (Or.inl rfl) | exact Or.inr (Or.inr rfl)) (hd : (x == ("__debug__" : Str)) = false := by decide) (hcd : (x == ("__classdict__" : Str)) = false := by decide) :
    PuE X k G W .vw (.Name x pos) (eVar i) := .mk fun F0 H0 F r σ H Q S q => by
  unfold eVar at q
  cases e : r[i]? with
  | none => rw [e] at q; exact q.elim
  | some o =>
    cases o with
    | none => rw [e] at q; exact q.elim
    | some d =>
      rw [e] at q
      obtain ⟨p, e1, fp, _, ow⟩ := S.own i d e hg
      exact canE_of (pe_var hN hv hd hcd) ⟨_, e1, q _ F H (Ext.refl S.sub) (.inr ⟨p, rfl, fp, ow⟩)⟩
end

/-! ### operators by values -/
/-- a two-place operation: its reading r by values, its plain function o -/
def OpP (k : KC) (m : Mo) (r : R2) (o : D → D → R D) : Prop :=
  ∀ (F H : Hp) (v w : V) (d e : D) (Q : VK), Same F H → Res k .vw H F H v d → Res k .vw H F H w e →
    (match o d e with
      | .ok z => ∀ u F' H', Ext F H F' H' → Res k m H F' H' u z → Q u H'
      | _ => False) → r v w H Q
def UnP (k : KC) (m : Mo) (r : V → Hp → VK → Prop) (o : D → R D) : Prop :=
  ∀ (F H : Hp) (v : V) (d : D) (Q : VK), Same F H → Res k .vw H F H v d →
    (match o d with
      | .ok z => ∀ u F' H', Ext F H F' H' → Res k m H F' H' u z → Q u H'
      | _ => False) → r v H Q
def e2 (o : D → D → R D) (f g : Env → R D) : Env → R D := fun r => f r >>= fun x => g r >>= fun y => o x y
def e1 (o : D → R D) (f : Env → R D) : Env → R D := fun r => f r >>= fun x => o x
/-- what is new behind H1 is new behind H -/
theorem Res.back {k : KC} {m : Mo} {H H1 F' H' : Hp} {v : V} {d : D} (s : Same H H1) (h : Res k m H1 F' H' v d) : Res k m H F' H' v d := by
  cases m with
  | frz => exact h
  | own =>
    obtain ⟨p, e, h1, r⟩ := h
    exact ⟨p, e, s.free h1, r⟩
  | vw => exact h
section
variable {X : Cx} {k : KC} {G : List Md} {W : WE} {m m1 m2 : Mo} {a b : Expr} {f g : Env → R D} {o : D → D → R D}
/-- an operation never raises here: o answers ok or is not served -/
def NoExc2 (o : D → D → R D) : Prop := ∀ d e x, o d e ≠ .exc x
def NoExc1 (o : D → R D) : Prop := ∀ d x, o d ≠ .exc x
theorem two {te : TE} {r : R2} (hp : PE X e te) (eq : ∀ σ H Q, (canE X a σ H fun x H1 => canE X b σ H1 fun y H2 => r x y H2 Q) → te σ H Q)
    (hr : OpP k m r o) (ne : NoExc2 o) (ha : PuE X k G W m1 a f) (hb : PuE X k G W m2 b g) : PuE X k G W m e (e2 o f g) := .mk fun F0 H0 F ρ σ H Q S q => by
  refine canE_of hp (eq σ H Q (ha.run F0 H0 F ρ σ H _ S ?_))
  refine (PostR.bind q).imp fun x _ q1 v F1 H1 x1 rv => ?_
  refine hb.run F0 H0 F1 ρ σ H1 _ (S.step x1) ?_
  refine ((PostR.bind q1).grow x1).imp fun y _ q2 w F2 H2 x2 rw_ => ?_
  refine hr F2 H2 v w x y Q x2.sub (rv.ext x2).vw rw_.vw ?_
  cases z : o x y with
  | ok d =>
    rw [z] at q2
    exact fun u F' H' x3 r3 => q2 u F' H' (x1.trans (x2.trans x3)) (r3.back (x1.sh.trans x2.sh))
  | exc e => exact absurd z (ne x y e)
  | stuck => rw [z] at q2; exact q2
end
end Pu

namespace Pu
open PySem PySem.Spec PyProof.Rows L2

/-! ### what a view is, by its plain value -/
section
variable {k : KC} {F H : Hp} {v : V}
theorem vw_non (h : Res k .vw H F H v .non) : v = .non := by
  rcases h with h | ⟨p, _, _, h⟩
  · cases h; rfl
  · cases h
theorem vw_bl {b : Bool} (h : Res k .vw H F H v (.bl b)) : v = .bl b := by
  rcases h with h | ⟨p, _, _, h⟩
  · cases h; rfl
  · cases h
theorem vw_int {i : Int} (h : Res k .vw H F H v (.int i)) : v = .int i := by
  rcases h with h | ⟨p, _, _, h⟩
  · cases h; rfl
  · cases h
theorem vw_str {s : Tx} (h : Res k .vw H F H v (.str s)) : v = .str (tx s) ∧ s.length ≤ sizeLine := by
  rcases h with h | ⟨p, _, _, h⟩
  · cases h with
    | str _ hl => exact ⟨rfl, hl⟩
  · cases h
theorem vw_lst {ds : List D} (s : Same F H) (h : Res k .vw H F H v (.lst ds)) : ∃ a xs, v = .ref a ∧ H a = some (.lst xs) ∧ DvAll k F xs ds := by
  rcases h with h | ⟨p, e, _, h⟩
  · cases h with
    | lst h1 h2 => exact ⟨_, _, rfl, s _ _ h1, h2⟩
  · cases h with
    | lst h1 h2 => exact ⟨_, _, e, h1, h2⟩
theorem vw_tup {ds : List D} (h : Res k .vw H F H v (.tup ds)) : ∃ a xs, v = .ref a ∧ F a = some (.tup xs) ∧ DvAll k F xs ds := by
  rcases h with h | ⟨p, e, _, h⟩
  · cases h with
    | tup h1 h2 => exact ⟨_, _, rfl, h1, h2⟩
  · cases h
theorem vw_scr {ns : List Int} (h : Res k .vw H F H v (.scr ns)) : ∃ a, v = .ref a ∧ SqL k.K F a (ns.map V.int) := by
  rcases h with h | ⟨p, e, _, h⟩
  · cases h with
    | scr h1 => exact ⟨_, rfl, h1⟩
  · cases h
theorem vw_dct {ks : List KD} {ds : List D} (s : Same F H) (h : Res k .vw H F H v (.dct ks ds)) : ∃ a kvs, v = .ref a ∧ H a = some (.dK kvs) ∧ kvs.map (·.1) = ks.map kd ∧ DvAll k F (kvs.map (·.2)) ds := by
  rcases h with h | ⟨p, e, _, h⟩
  · cases h with
    | dct h1 h2 h3 => exact ⟨_, _, rfl, s _ _ h1, h2, h3⟩
  · cases h with
    | dct h1 h2 h3 => exact ⟨_, _, e, h1, h2, h3⟩
theorem vw_dtt {ks : List (List KD)} {ds : List D} (s : Same F H) (h : Res k .vw H F H v (.dtt ks ds)) : ∃ a kvs, v = .ref a ∧ H a = some (.dT kvs) ∧ kvs.map (·.1) = ks.map (List.map kd) ∧ DvAll k F (kvs.map (·.2)) ds := by
  rcases h with h | ⟨p, e, _, h⟩
  · cases h with
    | dtt h1 h2 h3 => exact ⟨_, _, rfl, s _ _ h1, h2, h3⟩
  · cases h with
    | dtt h1 h2 h3 => exact ⟨_, _, e, h1, h2, h3⟩
end
/-- the items of a list or the script | of a tuple -/
def itemsL : D → Option (List D)
  | .lst ds => some ds
  | .scr ns => some (ns.map D.int)
  | _ => none
def itemsT : D → Option (List D)
  | .tup ds => some ds
  | _ => none
def items : D → Option (List D)
  | .lst ds => some ds
  | .scr ns => some (ns.map D.int)
  | .tup ds => some ds
  | _ => none
theorem vw_L {k : KC} {F H : Hp} {v : V} {d : D} {ds : List D} (s : Same F H) (h : Res k .vw H F H v d) (e : itemsL d = some ds) : ∃ a xs, v = .ref a ∧ SqL k.K H a xs ∧ DvAll k F xs ds := by
  cases d with
  | lst es =>
    cases e
    obtain ⟨a, xs, h1, h2, h3⟩ := vw_lst s h
    exact ⟨a, xs, h1, .inl (.inl h2), h3⟩
  | scr ns =>
    cases e
    obtain ⟨a, h1, h2⟩ := vw_scr h
    exact ⟨a, _, h1, sq_mono s h2, DvAll.ints ns⟩
  | _ => cases e
theorem vw_T {k : KC} {F H : Hp} {v : V} {d : D} {ds : List D} (s : Same F H) (h : Res k .vw H F H v d) (e : itemsT d = some ds) : ∃ a xs, v = .ref a ∧ H a = some (.tup xs) ∧ DvAll k F xs ds := by
  cases d with
  | tup es =>
    cases e
    obtain ⟨a, xs, h1, h2, h3⟩ := vw_tup h
    exact ⟨a, xs, h1, s _ _ h2, h3⟩
  | _ => cases e
theorem vw_I {k : KC} {F H : Hp} {v : V} {d : D} {ds : List D} (s : Same F H) (h : Res k .vw H F H v d) (e : items d = some ds) : ∃ a xs, v = .ref a ∧ (SqL k.K H a xs ∨ SqT k.K H a xs) ∧ DvAll k F xs ds := by
  cases d with
  | lst es =>
    obtain ⟨a, xs, h1, h2, h3⟩ := vw_L s h (ds := ds) e
    exact ⟨a, xs, h1, .inl h2, h3⟩
  | scr ns =>
    obtain ⟨a, xs, h1, h2, h3⟩ := vw_L s h (ds := ds) e
    exact ⟨a, xs, h1, .inl h2, h3⟩
  | tup es =>
    obtain ⟨a, xs, h1, h2, h3⟩ := vw_T s h (ds := ds) e
    exact ⟨a, xs, h1, .inr (SqT.of h2), h3⟩
  | _ => cases e

/-! ### arithmetic -/
@[irreducible] def fitI (i : Int) : Bool := decide (i.natAbs < 2 ^ 250)
theorem fitI_iff {i : Int} : fitI i = true ↔ i.natAbs < 2 ^ 250 := by unfold fitI; exact decide_eq_true_iff
theorem fit_mul {i j : Int} (hi : fitI i = true) (hj : fitI j = true) : CMulW i j := wide_mul (fitI_iff.mp hi) (fitI_iff.mp hj) (by decide) (by decide) (by decide)
theorem fit_div {i j : Int} (h : 0 < j) (hj : fitI j = true) : CDivW i j := wide_div h (fitI_iff.mp hj) (by decide) (by decide)
/-- ints alone -/
def intOp (c : Int → Int → Bool) (g : Int → Int → Int) : D → D → R D
  | .int a, .int b => if c a b = true then .ok (.int (g a b)) else .stuck
  | _, _ => .stuck
theorem noexc_int {c : Int → Int → Bool} {g : Int → Int → Int} : NoExc2 (intOp c g) := fun d e x h => by
  cases d <;> cases e <;> simp [intOp] at h
  all_goals (split at h <;> cases h)
theorem opp_int {k : KC} {c : Int → Int → Bool} {g : Int → Int → Int} {C : Int → Int → Prop} (hc : ∀ i j, c i j = true → C i j) : OpP k .frz (rI C fun i j => .int (g i j)) (intOp c g) := fun F H v w d e Q s h1 h2 q => by
  cases d with
  | int a =>
    cases e with
    | int b =>
      have e1 := vw_int h1
      have e2 := vw_int h2
      subst e1
      subst e2
      by_cases hcc : c a b = true
      · simp only [intOp, if_pos hcc] at q
        exact ⟨a, b, rfl, rfl, hc a b hcc, q _ F H (Ext.refl s) (.int _)⟩
      · simp only [intOp, if_neg hcc] at q
    | _ => exact q.elim
  | _ => exact q.elim
def subD : D → D → R D := intOp (fun _ _ => true) (· - ·)
def mulI : D → D → R D := intOp (fun a b => fitI a && fitI b) (· * ·)
def fdivD : D → D → R D := intOp (fun _ b => decide (0 < b) && fitI b) (· / ·)
def modD : D → D → R D := intOp (fun _ b => decide (0 < b)) (· % ·)
def powD : D → D → R D := intOp (fun a b => decide (0 ≤ b) && decide (b ≤ 1000) && decide (a.natAbs < 2 ^ 64)) (fun a b => a ^ b.toNat)
section
variable {X : Cx} {k : KC} {G : List Md} {W : WE} {m1 m2 : Mo} {a b : Expr} {f g : Env → R D} {pos : Pos}
theorem OpR.I0 {X : Cx} {h : Value → Value → Sem Value} {g : Int → Int → V} (o : OpR X h (rI0 g)) : OpR X h (rI (fun _ _ => True) g) := fun pins s σ H x y v u Q I rx ry q => by
  obtain ⟨i, j, e1, e2, _, q⟩ := q
  exact o pins s σ H x y v u Q I rx ry ⟨i, j, e1, e2, q⟩
theorem pu_op {op : Operator} {m : Mo} {r : R2} {o : D → D → R D} (ho : OpR X (binaryOp op) r) (hp : OpP k m r o) (ne : NoExc2 o) (ha : PuE X k G W m1 a f) (hb : PuE X k G W m2 b g) : PuE X k G W m (.BinOp a op b pos) (e2 o f g) :=
  two (pe_op ho pe_can pe_can) (fun _ _ _ q => q) hp ne ha hb
theorem pu_sub (ha : PuE X k G W m1 a f) (hb : PuE X k G W m2 b g) : PuE X k G W .frz (.BinOp a .Sub b pos) (e2 subD f g) := pu_op (OpR.I0 op_sub) (opp_int fun _ _ _ => trivial) noexc_int ha hb
theorem pu_mulI (ha : PuE X k G W m1 a f) (hb : PuE X k G W m2 b g) : PuE X k G W .frz (.BinOp a .Mult b pos) (e2 mulI f g) :=
  pu_op op_mulW (opp_int fun i j h => by rw [Bool.and_eq_true] at h; exact fit_mul h.1 h.2) noexc_int ha hb
theorem pu_fdiv (ha : PuE X k G W m1 a f) (hb : PuE X k G W m2 b g) : PuE X k G W .frz (.BinOp a .FloorDiv b pos) (e2 fdivD f g) :=
  pu_op op_fdivW (opp_int fun i j h => by rw [Bool.and_eq_true] at h; exact fit_div (of_decide_eq_true h.1) h.2) noexc_int ha hb
theorem pu_mod (ha : PuE X k G W m1 a f) (hb : PuE X k G W m2 b g) : PuE X k G W .frz (.BinOp a .Mod b pos) (e2 modD f g) :=
  pu_op op_mod (opp_int fun i j h => of_decide_eq_true h) noexc_int ha hb
theorem pu_pow (ha : PuE X k G W m1 a f) (hb : PuE X k G W m2 b g) : PuE X k G W .frz (.BinOp a .Pow b pos) (e2 powD f g) :=
  pu_op op_pow (opp_int fun i j h => by
    rw [Bool.and_eq_true, Bool.and_eq_true] at h
    exact ⟨of_decide_eq_true h.1.1, Int.le_trans (of_decide_eq_true h.1.2) (by decide), of_decide_eq_true h.2⟩) noexc_int ha hb

/-! ### + -/
def szT : Nat := 1000000
theorem szT_le {n : Nat} (h : n ≤ szT) : n ≤ sizeLine := Nat.le_trans h (by decide)
def addD : D → D → R D
  | .int a, .int b => .ok (.int (a + b))
  | .str a, .str b => if a.length + b.length ≤ szT then .ok (.str (a ++ b)) else .stuck
  | .tup a, .tup b => if a.length + b.length ≤ szT then .ok (.tup (a ++ b)) else .stuck
  | _, _ => .stuck
def addL : D → D → R D
  | .lst a, .lst b => if a.length + b.length ≤ szT then .ok (.lst (a ++ b)) else .stuck
  | _, _ => .stuck
theorem noexc_addD : NoExc2 addD := fun d e x h => by
  cases d <;> cases e <;> simp [addD] at h
  all_goals (split at h <;> cases h)
theorem noexc_addL : NoExc2 addL := fun d e x h => by
  cases d <;> cases e <;> simp [addL] at h
  all_goals (split at h <;> cases h)
def rAddS : R2 := fun x y H Q => ∃ i j, x = .str i ∧ y = .str j ∧ i.length + j.length ≤ sizeLine ∧ Q (.str (i ++ j)) H
theorem opp_addD (hk : k.K = X.K) : OpP k .frz (fun x y H Q => rI0 (fun i j => .int (i + j)) x y H Q ∨ rAddS x y H Q ∨ rCatA X.K x y H Q) addD := fun F H v w d e Q s h1 h2 q => by
  cases d with
  | int a =>
    cases e with
    | int b =>
      have e1 := vw_int h1
      have e2 := vw_int h2
      subst e1
      subst e2
      exact .inl ⟨a, b, rfl, rfl, q _ F H (Ext.refl s) (.int _)⟩
    | _ => exact q.elim
  | str a =>
    cases e with
    | str b =>
      obtain ⟨e1, l1⟩ := vw_str h1
      obtain ⟨e2, l2⟩ := vw_str h2
      subst e1
      subst e2
      by_cases hl : a.length + b.length ≤ szT
      · simp only [addD, if_pos hl] at q
        have hl' := szT_le hl
        refine .inr (.inl ⟨_, _, rfl, rfl, by rw [tx_len, tx_len]; exact hl', ?_⟩)
        rw [tx_app]
        exact q _ F H (Ext.refl s) (.str _ (by rw [List.length_append]; exact hl'))
      · simp only [addD, if_neg hl] at q
    | _ => exact q.elim
  | tup a =>
    cases e with
    | tup b =>
      obtain ⟨p1, xs, e1, t1, a1⟩ := vw_tup h1
      obtain ⟨p2, ys, e2, t2, a2⟩ := vw_tup h2
      subst e1
      subst e2
      by_cases hl : a.length + b.length ≤ szT
      · simp only [addD, if_pos hl] at q
        have hl' := szT_le hl
        refine .inr (.inr ⟨p1, p2, xs, ys, rfl, rfl, SqT.of (s _ _ t1), SqT.of (s _ _ t2), by rw [a1.length, a2.length]; exact hl', fun z => ?_, fun _ z => ?_, fun _ _ p hp => ?_⟩)
        · subst z
          have ea : a = [] := List.length_eq_zero_iff.mp a1.length.symm
          subst ea
          exact q _ F H (Ext.refl s) (.tup t2 a2)
        · subst z
          have eb : b = [] := List.length_eq_zero_iff.mp a2.length.symm
          subst eb
          rw [List.append_nil] at q
          exact q _ F H (Ext.refl s) (.tup t1 a1)
        · have x := Ext.add (o := .tup (xs ++ ys)) s hp
          exact q _ _ _ x (.tup upd_same ((a1.append a2).mono x.sf))
      · simp only [addD, if_neg hl] at q
    | _ => exact q.elim
  | _ => exact q.elim
theorem opp_addL : OpP k .own rCat addL := fun F H v w d e Q s h1 h2 q => by
  cases d with
  | lst a =>
    cases e with
    | lst b =>
      obtain ⟨p1, xs, e1, t1, a1⟩ := vw_lst s h1
      obtain ⟨p2, ys, e2, t2, a2⟩ := vw_lst s h2
      subst e1
      subst e2
      by_cases hl : a.length + b.length ≤ szT
      · simp only [addL, if_pos hl] at q
        have hl' := szT_le hl
        refine ⟨p1, p2, xs, ys, rfl, rfl, t1, t2, by rw [a1.length, a2.length]; exact hl', fun p hp => ?_⟩
        exact q _ F _ (Ext.own s hp) ⟨p, rfl, hp, s.free hp, .lst upd_same (a1.append a2)⟩
      · simp only [addL, if_neg hl] at q
    | _ => exact q.elim
  | _ => exact q.elim
theorem pu_add (J : Jx X k G W) (ha : PuE X k G W m1 a f) (hb : PuE X k G W m2 b g) : PuE X k G W .frz (.BinOp a .Add b pos) (e2 addD f g) :=
  pu_op (OpR.or op_add (OpR.or op_add_str op_catA)) (opp_addD J.kk) noexc_addD ha hb
theorem pu_addL (ha : PuE X k G W m1 a f) (hb : PuE X k G W m2 b g) : PuE X k G W .own (.BinOp a .Add b pos) (e2 addL f g) := pu_op op_cat opp_addL noexc_addL ha hb
/-- [x] * n -/
def repL : D → D → R D
  | .lst a, .int n => if (decide (-(2 ^ 62) ≤ n) && decide (n < 2 ^ 62) && decide (a.length * n.toNat ≤ szT)) = true then .ok (.lst (List.replicate n.toNat a).flatten) else .stuck
  | _, _ => .stuck
theorem noexc_repL : NoExc2 repL := fun d e x h => by
  cases d <;> cases e <;> simp [repL] at h
  all_goals (split at h <;> cases h)
theorem opp_repL : OpP k .own rRep repL := fun F H v w d e Q s h1 h2 q => by
  cases d with
  | lst a =>
    cases e with
    | int n =>
      obtain ⟨p1, xs, e1, t1, a1⟩ := vw_lst s h1
      have e2 := vw_int h2
      subst e1
      subst e2
      by_cases hl : (decide (-(2 ^ 62) ≤ n) && decide (n < 2 ^ 62) && decide (a.length * n.toNat ≤ szT)) = true
      · simp only [repL, if_pos hl] at q
        rw [Bool.and_eq_true, Bool.and_eq_true] at hl
        obtain ⟨⟨hn, hb⟩, hl⟩ := hl
        have hn := of_decide_eq_true hn
        have hb := of_decide_eq_true hb
        refine ⟨p1, n, xs, rfl, rfl, t1, by omega, by omega, by rw [a1.length]; exact szT_le (of_decide_eq_true hl), fun p hp => ?_⟩
        exact q _ F _ (Ext.own s hp) ⟨p, rfl, hp, s.free hp, .lst upd_same (a1.rep _)⟩
      · simp only [repL, if_neg hl] at q
    | _ => exact q.elim
  | _ => exact q.elim
theorem pu_rep (ha : PuE X k G W m1 a f) (hb : PuE X k G W m2 b g) : PuE X k G W .own (.BinOp a .Mult b pos) (e2 repL f g) := pu_op op_rep opp_repL noexc_repL ha hb
end
section
variable {X : Cx} {k : KC} {G : List Md} {W : WE} {m1 m2 : Mo} {a b : Expr} {f g : Env → R D} {pos : Pos}
/-- -x -/
def negD : D → R D
  | .int a => .ok (.int (-a))
  | _ => .stuck
theorem one {m : Mo} {e : Expr} {te : TE} {r : V → Hp → VK → Prop} {o : D → R D} (hp : PE X e te) (eq : ∀ σ H Q, (canE X a σ H fun x H1 => r x H1 Q) → te σ H Q)
    (hr : UnP k m r o) (ne : NoExc1 o) (ha : PuE X k G W m1 a f) : PuE X k G W m e (e1 o f) := .mk fun F0 H0 F ρ σ H Q S q => by
  refine canE_of hp (eq σ H Q (ha.run F0 H0 F ρ σ H _ S ?_))
  refine (PostR.bind q).imp fun x _ q1 v F1 H1 x1 rv => ?_
  refine hr F1 H1 v x Q x1.sub rv.vw ?_
  cases z : o x with
  | ok d =>
    rw [z] at q1
    exact fun u F' H' x3 r3 => q1 u F' H' (x1.trans x3) (r3.back x1.sh)
  | exc e => exact absurd z (ne x e)
  | stuck => rw [z] at q1; exact q1
theorem noexc_neg : NoExc1 negD := fun d x h => by cases d <;> cases h
theorem unp_neg : UnP k .frz (rU fun i => .int (-i)) negD := fun F H v d Q s h q => by
  cases d with
  | int a =>
    have e1 := vw_int h
    subst e1
    exact ⟨a, rfl, q _ F H (Ext.refl s) (.int _)⟩
  | _ => exact q.elim
theorem pu_neg (ha : PuE X k G W m1 a f) : PuE X k G W .frz (.UnaryOp .USub a pos) (e1 negD f) := one (pe_un un_neg pe_can) (fun _ _ _ q => q) unp_neg noexc_neg ha
end
end Pu

namespace Pu
open PySem PySem.Spec PyProof.Rows L2

/-! ### plain data, compared -/
mutual
def D.pd : D → PyData
  | .non => .none
  | .bl b => .bool b
  | .int i => .int i
  | .str s => .str (tx s)
  | .tup xs => .tuple (pds xs)
  | .lst xs => .list (pds xs)
  | .scr ns => .list (ns.map PyData.int)
  | .dct _ _ => .dict []
  | .dtt _ _ => .dict []
  | .ins _ _ _ => .dict []
def pds : List D → List PyData
  | [] => []
  | x :: r => D.pd x :: pds r
end
/-- data of at most so many levels -/
def shal : Nat → D → Bool
  | _, .non => true
  | _, .bl _ => true
  | _, .int _ => true
  | _, .str _ => true
  | n + 1, .tup xs => xs.all (shal n)
  | n + 1, .lst xs => xs.all (shal n)
  | _, _ => false
theorem depth_scal {n : Nat} {d : PyData} (h : d.depth = 0) : d.depth ≤ n := by omega
theorem shal_ok : ∀ (n : Nat) (d : D), shal n d = true → d.pd.plain = true ∧ d.pd.depth ≤ n := by
  have all : ∀ (n : Nat), (∀ d, shal n d = true → d.pd.plain = true ∧ d.pd.depth ≤ n) → ∀ xs : List D, xs.all (shal n) = true → PyData.plainAll (pds xs) = true ∧ PyData.depthAll (pds xs) ≤ n := by
    intro n ih xs
    induction xs with
    | nil => exact fun _ => ⟨rfl, Nat.zero_le _⟩
    | cons x r ihr =>
      intro h
      rw [List.all_cons, Bool.and_eq_true] at h
      obtain ⟨a1, a2⟩ := ih x h.1
      obtain ⟨b1, b2⟩ := ihr h.2
      refine ⟨?_, ?_⟩
      · simp only [pds, PyData.plainAll, a1, b1, Bool.and_self]
      · simp only [pds, PyData.depthAll]
        omega
  have sc : ∀ (n : Nat) (d : PyData), d.plain = true → d.depth = 0 → d.plain = true ∧ d.depth ≤ n := fun n d h1 h2 => ⟨h1, by omega⟩
  intro n
  induction n with
  | zero =>
    intro d h
    cases d <;> first | exact sc _ _ rfl rfl | cases h
  | succ n ih =>
    intro d h
    cases d with
    | tup xs =>
      obtain ⟨a, b⟩ := all n ih xs h
      refine ⟨by simp only [D.pd, PyData.plain, a], ?_⟩
      simp only [D.pd, PyData.depth]
      omega
    | lst xs =>
      obtain ⟨a, b⟩ := all n ih xs h
      refine ⟨by simp only [D.pd, PyData.plain, a], ?_⟩
      simp only [D.pd, PyData.depth]
      omega
    | non => exact sc _ _ rfl rfl
    | bl b => exact sc _ _ rfl rfl
    | int i => exact sc _ _ rfl rfl
    | str s => exact sc _ _ rfl rfl
    | scr _ => cases h
    | dct _ _ => cases h
    | dtt _ _ => cases h
    | ins _ _ _ => cases h
mutual
theorem Dv.dp {k : KC} {F H : Hp} (s : Same F H) : ∀ {v : V} {d : D}, Dv k F v d → (∀ n, shal n d = true → Dp k.K H v d.pd)
  | _, _, .non => fun _ _ => .non
  | _, _, .bl b => fun _ _ => .bl b
  | _, _, .int i => fun _ _ => .int i
  | _, _, .str x h => fun _ _ => .str _
  | _, _, .lst h1 h2 => fun n hn => by
    cases n with
    | zero => cases hn
    | succ n => exact .lst (.inl (.inl (s _ _ h1))) (DvAll.dp s h2 n hn)
  | _, _, .tup h1 h2 => fun n hn => by
    cases n with
    | zero => cases hn
    | succ n => exact .tup (.inl (.inl (s _ _ h1))) (DvAll.dp s h2 n hn)
  | _, _, .scr h => fun n hn => by cases n <;> cases hn
  | _, _, .dct h1 h2 h3 => fun n hn => by cases n <;> cases hn
  | _, _, .dtt h1 h2 h3 => fun n hn => by cases n <;> cases hn
  | _, _, .ins h0 h1 h2 h3 => fun n hn => by cases n <;> cases hn
theorem DvAll.dp {k : KC} {F H : Hp} (s : Same F H) : ∀ {vs : List V} {ds : List D}, DvAll k F vs ds → (∀ n, ds.all (shal n) = true → DpAll k.K H vs (pds ds))
  | _, _, .nil => fun _ _ => .nil
  | _, _, .cons h1 h2 => fun n hn => by
    rw [List.all_cons, Bool.and_eq_true] at hn
    exact .cons (Dv.dp s h1 n hn.1) (DvAll.dp s h2 n hn.2)
end
theorem Rdv.dp {k : KC} {H : Hp} {v : V} {d : D} {n : Nat} (h : Rdv k H v d) (hn : shal n d = true) : Dp k.K H v d.pd := by
  obtain ⟨G, s, dv⟩ := h
  exact dv.dp s n hn
def eqD (d e : D) : Bool := PyData.eqv d.pd e.pd
def lv : Nat := 12
def eqG (d e : D) : R Bool := if (shal lv d && shal lv e) = true then .ok (eqD d e) else .stuck
def neG (d e : D) : R Bool := if (shal lv d && shal lv e) = true then .ok (!eqD d e) else .stuck
def rEqP (K : PySem.W.Frag) : R2 := fun x y H Q => ∃ d e, Dp K H x d ∧ Dp K H y e ∧ d.plain = true ∧ e.plain = true ∧ d.depth ≤ lv ∧ Q (.bl (PyData.eqv d e)) H
def rNeP (K : PySem.W.Frag) : R2 := fun x y H Q => ∃ d e, Dp K H x d ∧ Dp K H y e ∧ d.plain = true ∧ e.plain = true ∧ d.depth ≤ lv ∧ Q (.bl (!PyData.eqv d e)) H
theorem op_eqP {X : Cx} (hu : X.A.units + 64 < cLine) : OpR X (compareOp .Eq) (rEqP X.K) := by
  intro pins s σ H x y v u Q I rx ry h
  obtain ⟨d, e, hd, he, pd, pe, dp, q⟩ := h
  obtain ⟨as, r1⟩ := Dp.reads I d x v hd rx
  obtain ⟨bs, r2⟩ := Dp.reads I e y u he ry
  have hl : d.depth ≤ 12 := dp
  exact SeqAt.eq_plain r1 r2 pd pe (by omega) ⟨.bl _, H, I, rfl, q⟩
theorem op_neP {X : Cx} (hu : X.A.units + 64 < cLine) : OpR X (compareOp .NotEq) (rNeP X.K) := by
  intro pins s σ H x y v u Q I rx ry h
  obtain ⟨d, e, hd, he, pd, pe, dp, q⟩ := h
  obtain ⟨as, r1⟩ := Dp.reads I d x v hd rx
  obtain ⟨bs, r2⟩ := Dp.reads I e y u he ry
  have hl : d.depth ≤ 12 := dp
  exact SeqAt.ne_plain r1 r2 pd pe (by omega) ⟨.bl _, H, I, rfl, q⟩

/-! ### comparisons -/
def CmpP (k : KC) (r : R2) (o : D → D → R Bool) : Prop :=
  ∀ (F H : Hp) (v w : V) (d e : D) (Q : VK), Same F H → Res k .vw H F H v d → Res k .vw H F H w e → (match o d e with | .ok b => Q (.bl b) H | _ => False) → r v w H Q
def NoExcC (o : D → D → R Bool) : Prop := ∀ d e x, o d e ≠ .exc x
def c2 (o : D → D → R Bool) (f g : Env → R D) : Env → R Bool := fun r => f r >>= fun x => g r >>= fun y => o x y
/-- a test's answer as a value -/
def bE (t : Env → R Bool) : Env → R D := fun r => t r >>= fun b => .ok (.bl b)
section
variable {X : Cx} {k : KC} {G : List Md} {W : WE} {m m1 m2 : Mo} {a b : Expr} {f g : Env → R D} {pos : Pos} {o : D → D → R Bool} {r : R2} {op : CmpOp}
theorem cmpT (ho : OpR X (compareOp op) r) (hp : CmpP k r o) (ne : NoExcC o) (ha : PuE X k G W m1 a f) (hb : PuE X k G W m2 b g) (hm : behindInMarks op b = false) : PuT X k G W (.Compare a [op] [b] pos) (c2 o f g) := .mk fun F0 H0 F ρ σ H Q S q => by
  refine canT_of (pt_cmpR ho pe_can pe_can hm) (ha.run F0 H0 F ρ σ H _ S ?_)
  refine (PostR.bind q).imp fun x _ q1 v F1 H1 x1 rv => ?_
  refine hb.run F0 H0 F1 ρ σ H1 _ (S.step x1) ?_
  refine ((PostR.bind q1).grow x1).imp fun y _ q2 w F2 H2 x2 rw_ => ?_
  refine hp F2 H2 v w x y _ x2.sub (rv.ext x2).vw rw_.vw ?_
  cases z : o x y with
  | ok d =>
    rw [z] at q2
    exact ⟨d, rfl, q2 F2 H2 (x1.trans x2)⟩
  | exc e => exact absurd z (ne x y e)
  | stuck => rw [z] at q2; exact q2
theorem cmpE (ho : OpR X (compareOp op) r) (hp : CmpP k r o) (ne : NoExcC o) (ha : PuE X k G W m1 a f) (hb : PuE X k G W m2 b g) (hm : behindInMarks op b = false) : PuE X k G W .frz (.Compare a [op] [b] pos) (bE (c2 o f g)) := .mk fun F0 H0 F ρ σ H Q S q => by
  refine canE_of (pe_cmpR ho pe_can pe_can hm) (ha.run F0 H0 F ρ σ H _ S ?_)
  refine (PostR.bind (PostR.bind q)).imp fun x _ q1 v F1 H1 x1 rv => ?_
  refine hb.run F0 H0 F1 ρ σ H1 _ (S.step x1) ?_
  refine ((PostR.bind q1).grow x1).imp fun y _ q2 w F2 H2 x2 rw_ => ?_
  refine hp F2 H2 v w x y _ x2.sub (rv.ext x2).vw rw_.vw ?_
  cases z : o x y with
  | ok d =>
    rw [z] at q2
    exact q2 _ F2 H2 (x1.trans x2) (.bl d)
  | exc e => exact absurd z (ne x y e)
  | stuck => rw [z] at q2; exact q2
end
theorem eqG_exc : NoExcC eqG := fun d e x h => by unfold eqG at h; split at h <;> cases h
theorem neG_exc : NoExcC neG := fun d e x h => by unfold neG at h; split at h <;> cases h
section
variable {X : Cx} {k : KC}
theorem cmp_eq : CmpP k (rEqP k.K) eqG := fun F H v w d e Q s h1 h2 q => by
  unfold eqG at q
  by_cases h : (shal lv d && shal lv e) = true
  · rw [if_pos h] at q
    rw [Bool.and_eq_true] at h
    obtain ⟨p1, p2⟩ := shal_ok lv d h.1
    obtain ⟨p3, _⟩ := shal_ok lv e h.2
    exact ⟨d.pd, e.pd, (h1.rdv s).dp h.1, (h2.rdv s).dp h.2, p1, p3, p2, q⟩
  · rw [if_neg h] at q
    exact q.elim
theorem cmp_ne : CmpP k (rNeP k.K) neG := fun F H v w d e Q s h1 h2 q => by
  unfold neG at q
  by_cases h : (shal lv d && shal lv e) = true
  · rw [if_pos h] at q
    rw [Bool.and_eq_true] at h
    obtain ⟨p1, p2⟩ := shal_ok lv d h.1
    obtain ⟨p3, _⟩ := shal_ok lv e h.2
    exact ⟨d.pd, e.pd, (h1.rdv s).dp h.1, (h2.rdv s).dp h.2, p1, p3, p2, q⟩
  · rw [if_neg h] at q
    exact q.elim
end
/-- ints, texts, tuples of ints -/
def intsOf : List D → Option (List Int)
  | [] => some []
  | .int i :: r => (intsOf r).map (i :: ·)
  | _ :: _ => none
theorem intsOf_eq : ∀ {ds : List D} {ns : List Int}, intsOf ds = some ns → ds = ns.map D.int
  | [], ns, h => by cases h; rfl
  | .int i :: r, ns, h => by
    cases e : intsOf r with
    | none => simp [intsOf, e] at h
    | some l =>
      simp [intsOf, e] at h
      subst h
      rw [intsOf_eq e]
      rfl
  | .non :: _, _, h => by cases h
  | .bl _ :: _, _, h => by cases h
  | .str _ :: _, _, h => by cases h
  | .tup _ :: _, _, h => by cases h
  | .lst _ :: _, _, h => by cases h
  | .scr _ :: _, _, h => by cases h
  | .dct _ _ :: _, _, h => by cases h
  | .dtt _ _ :: _, _, h => by cases h
  | .ins _ _ _ :: _, _, h => by cases h
theorem intsOf_map : ∀ ns : List Int, intsOf (ns.map D.int) = some ns
  | [] => rfl
  | i :: r => by simp [intsOf, intsOf_map r]
theorem DvAll.ints_inv {k : KC} {F : Hp} : ∀ {ns : List Int} {xs : List V}, DvAll k F xs (ns.map D.int) → xs = ns.map V.int
  | [], xs, h => by cases h; rfl
  | i :: r, xs, h => by
    cases h with
    | cons h1 h2 =>
      cases h1
      rw [DvAll.ints_inv h2]
      rfl
def cmpO (ci : Int → Int → Bool) (cs : Tx → Tx → Bool) (ctp : Option (List Int → List Int → Bool)) : D → D → R Bool
  | .int a, .int b => .ok (ci a b)
  | .str a, .str b => .ok (cs a b)
  | .tup a, .tup b => match ctp, intsOf a, intsOf b with
    | some f, some x, some y => .ok (f x y)
    | _, _, _ => .stuck
  | _, _ => .stuck
theorem noexc_cmpO {ci : Int → Int → Bool} {cs : Tx → Tx → Bool} {ctp : Option (List Int → List Int → Bool)} : NoExcC (cmpO ci cs ctp) := fun d e x h => by
  cases d <;> cases e <;> simp [cmpO] at h
  split at h <;> cases h
def rCmpS (cs : Tx → Tx → Bool) : R2 := fun x y H Q => ∃ i j, x = .str i ∧ y = .str j ∧ Q (.bl (cs i.cps.toList j.cps.toList)) H
theorem cmp_o {k : KC} {ci : Int → Int → Bool} {cs : Tx → Tx → Bool} : CmpP k (fun x y H Q => rI0 (fun i j => .bl (ci i j)) x y H Q ∨ rCmpS cs x y H Q) (cmpO ci cs none) := fun F H v w d e Q s h1 h2 q => by
  cases d with
  | int a =>
    cases e with
    | int b =>
      have e1 := vw_int h1
      have e2 := vw_int h2
      subst e1
      subst e2
      exact .inl ⟨a, b, rfl, rfl, q⟩
    | _ => exact q.elim
  | str a =>
    cases e with
    | str b =>
      obtain ⟨e1, _⟩ := vw_str h1
      obtain ⟨e2, _⟩ := vw_str h2
      subst e1
      subst e2
      refine .inr ⟨_, _, rfl, rfl, ?_⟩
      have q : Q (.bl (cs a b)) H := q
      simpa [tx] using q
    | _ => exact q.elim
  | tup a =>
    cases e with
    | tup b => exact q.elim
    | _ => exact q.elim
  | _ => exact q.elim
def ltD : D → D → R Bool := cmpO (fun a b => decide (a < b)) (fun a b => decide (a < b)) (some HT.lexLt)
def leD : D → D → R Bool := cmpO (fun a b => decide (a ≤ b)) (fun a b => !decide (b < a)) none
def gtD : D → D → R Bool := cmpO (fun a b => decide (b < a)) (fun a b => decide (b < a)) none
def geD : D → D → R Bool := cmpO (fun a b => decide (b ≤ a)) (fun a b => !decide (a < b)) none
theorem cmp_lt {k : KC} : CmpP k (fun x y H Q => (rI0 (fun i j => .bl (decide (i < j))) x y H Q ∨ rCmpS (fun a b => decide (a < b)) x y H Q) ∨ rLtT k.K x y H Q) ltD := fun F H v w d e Q s h1 h2 q => by
  cases d with
  | tup a =>
    cases e with
    | tup b =>
      obtain ⟨p1, xs, e1, t1, a1⟩ := vw_tup h1
      obtain ⟨p2, ys, e2, t2, a2⟩ := vw_tup h2
      subst e1
      subst e2
      unfold ltD at q
      simp only [cmpO] at q
      cases z1 : intsOf a with
      | none => simp only [z1] at q
      | some n1 =>
        cases z2 : intsOf b with
        | none => simp only [z1, z2] at q
        | some n2 =>
          simp only [z1, z2] at q
          rw [intsOf_eq z1] at a1
          rw [intsOf_eq z2] at a2
          have i1 := a1.ints_inv
          have i2 := a2.ints_inv
          subst i1
          subst i2
          exact .inr ⟨p1, p2, n1, n2, rfl, rfl, SqT.of (s _ _ t1), SqT.of (s _ _ t2), q⟩
    | _ => exact q.elim
  | int a =>
    refine .inl (cmp_o F H v w (.int a) e Q s h1 h2 ?_)
    cases e <;> exact q
  | str a =>
    refine .inl (cmp_o F H v w (.str a) e Q s h1 h2 ?_)
    cases e <;> exact q
  | _ => exact q.elim
section
variable {X : Cx} {k : KC} {G : List Md} {W : WE} {m1 m2 : Mo} {a b : Expr} {f g : Env → R D} {pos : Pos} {n : Nat}
/-- a comparison: as a test and as a value -/
structure PuC (X : Cx) (k : KC) (G : List Md) (W : WE) (e : Expr) (t : Env → R Bool) : Prop where
  T : PuT X k G W e t
  E : PuE X k G W .frz e (bE t)
theorem pc_of {op : CmpOp} {r : R2} {o : D → D → R Bool} (ho : OpR X (compareOp op) r) (hp : CmpP k r o) (ne : NoExcC o) (ha : PuE X k G W m1 a f) (hb : PuE X k G W m2 b g) (hm : behindInMarks op b = false) : PuC X k G W (.Compare a [op] [b] pos) (c2 o f g) :=
  ⟨cmpT ho hp ne ha hb hm, cmpE ho hp ne ha hb hm⟩
theorem pu_eq (J : Jx X k G W) (hr : Room n X.A) (ha : PuE X k G W m1 a f) (hb : PuE X k G W m2 b g) : PuC X k G W (.Compare a [.Eq] [b] pos) (c2 eqG f g) := pc_of (J.kk ▸ op_eqP hr.units) cmp_eq eqG_exc ha hb (nomark _)
theorem pu_ne (J : Jx X k G W) (hr : Room n X.A) (ha : PuE X k G W m1 a f) (hb : PuE X k G W m2 b g) : PuC X k G W (.Compare a [.NotEq] [b] pos) (c2 neG f g) := pc_of (J.kk ▸ op_neP hr.units) cmp_ne neG_exc ha hb (nomark _)
theorem pu_lt (J : Jx X k G W) (hr : Room n X.A) (ha : PuE X k G W m1 a f) (hb : PuE X k G W m2 b g) : PuC X k G W (.Compare a [.Lt] [b] pos) (c2 ltD f g) :=
  pc_of (OpR.or (OpR.or op_lt op_lt_str) (J.kk ▸ op_ltT hr.units0)) cmp_lt noexc_cmpO ha hb (nomark _)
theorem pu_le (ha : PuE X k G W m1 a f) (hb : PuE X k G W m2 b g) : PuC X k G W (.Compare a [.LtE] [b] pos) (c2 leD f g) := pc_of (OpR.or op_le op_le_str) cmp_o noexc_cmpO ha hb (nomark _)
theorem pu_gt (ha : PuE X k G W m1 a f) (hb : PuE X k G W m2 b g) : PuC X k G W (.Compare a [.Gt] [b] pos) (c2 gtD f g) := pc_of (OpR.or op_gt op_gt_str) cmp_o noexc_cmpO ha hb (nomark _)
theorem pu_ge (ha : PuE X k G W m1 a f) (hb : PuE X k G W m2 b g) : PuC X k G W (.Compare a [.GtE] [b] pos) (c2 geD f g) := pc_of (OpR.or op_ge op_ge_str) cmp_o noexc_cmpO ha hb (nomark _)
/-- is None -/
def isN : D → D → R Bool
  | .non, .non => .ok true
  | _, .non => .ok false
  | .bl a, .bl b => .ok (decide (a = b))
  | _, _ => .stuck
def notN : D → D → R Bool
  | .non, .non => .ok false
  | _, .non => .ok true
  | .bl a, .bl b => .ok (!decide (a = b))
  | _, _ => .stuck
theorem isN_exc : NoExcC isN := fun d e x h => by cases d <;> cases e <;> cases h
theorem notN_exc : NoExcC notN := fun d e x h => by cases d <;> cases e <;> cases h
theorem non_iff {F H : Hp} {v : V} {d : D} (h : Res k .vw H F H v d) (nd : d ≠ .non) : v ≠ .non := fun z => by
  subst z
  rcases h with h | ⟨p, e, _, _⟩
  · cases h; exact nd rfl
  · cases e
theorem cmp_isN : CmpP k (fun x y H Q => (y = .non ∧ Q (.bl (decide (x = .non))) H) ∨ ∃ a b, x = .bl a ∧ y = .bl b ∧ Q (.bl (decide (a = b))) H) isN := fun F H v w d e Q s h1 h2 q => by
  cases e with
  | non =>
    refine .inl ⟨vw_non h2, ?_⟩
    cases d with
    | non => rw [vw_non h1]; exact q
    | _ => rw [decide_eq_false (non_iff h1 (by intro z; cases z))]; exact q
  | bl b =>
    cases d with
    | bl a => exact .inr ⟨a, b, vw_bl h1, vw_bl h2, q⟩
    | _ => exact q.elim
  | _ => cases d <;> exact q.elim
theorem cmp_notN : CmpP k (fun x y H Q => (y = .non ∧ Q (.bl (!decide (x = .non))) H) ∨ rNotB x y H Q) notN := fun F H v w d e Q s h1 h2 q => by
  cases e with
  | non =>
    refine .inl ⟨vw_non h2, ?_⟩
    cases d with
    | non => rw [vw_non h1]; exact q
    | _ => rw [decide_eq_false (non_iff h1 (by intro z; cases z))]; exact q
  | bl b =>
    cases d with
    | bl a => exact .inr ⟨a, b, vw_bl h1, vw_bl h2, q⟩
    | _ => exact q.elim
  | _ => cases d <;> exact q.elim
theorem pu_isN (ha : PuE X k G W m1 a f) (hb : PuE X k G W m2 b g) : PuC X k G W (.Compare a [.Is] [b] pos) (c2 isN f g) := pc_of (OpR.or op_isN op_is_bl) cmp_isN isN_exc ha hb (nomark _)
theorem pu_notN (ha : PuE X k G W m1 a f) (hb : PuE X k G W m2 b g) : PuC X k G W (.Compare a [.IsNot] [b] pos) (c2 notN f g) := pc_of (OpR.or op_notN op_notBl) cmp_notN notN_exc ha hb (nomark _)
end

/-! ### tests -/
def truD : D → R Bool
  | .non => .ok false
  | .bl b => .ok b
  | .int i => .ok (i != 0)
  | .str s => .ok (!s.isEmpty)
  | .lst xs => .ok (!xs.isEmpty)
  | .tup xs => .ok (!xs.isEmpty)
  | .scr xs => .ok (!xs.isEmpty)
  | .dct ks _ => .ok (!ks.isEmpty)
  | .dtt _ _ => .stuck
  | .ins _ _ _ => .stuck
def tE (f : Env → R D) : Env → R Bool := fun r => f r >>= truD
def andT (t u : Env → R Bool) : Env → R Bool := fun r => t r >>= fun b => if b = true then u r else .ok false
def orT (t u : Env → R Bool) : Env → R Bool := fun r => t r >>= fun b => if b = true then .ok true else u r
def notT (t : Env → R Bool) : Env → R Bool := fun r => t r >>= fun b => .ok (!b)
theorem emp_len {α β : Type} {a : List α} {b : List β} (h : a.length = b.length) : a.isEmpty = b.isEmpty := by
  cases a <;> cases b <;> simp at h <;> rfl
theorem tru_of {k : KC} {F H : Hp} {v : V} {d : D} {b : Bool} (s : Same F H) (h : Res k .vw H F H v d) (e : truD d = .ok b) : TruV k.K v H b := by
  cases d with
  | non => rw [vw_non h]; cases e; rfl
  | bl c => rw [vw_bl h]; cases e; rfl
  | int i => rw [vw_int h]; cases e; rfl
  | str x =>
    obtain ⟨e1, l⟩ := vw_str h
    rw [e1]
    cases e
    refine ⟨by rw [tx_len]; exact l, ?_⟩
    rw [tx_len]
    cases x with
    | nil => rfl
    | cons c r =>
      show true = (((r.length + 1 : Nat) : Int) != 0)
      have : (((r.length + 1 : Nat) : Int) ≠ 0) := by omega
      exact (bne_iff_ne.mpr this).symm
  | lst ds =>
    obtain ⟨a, xs, e1, h1, h2⟩ := vw_lst s h
    rw [e1]
    cases e
    exact .inl ⟨xs, .inl (.inl h1), by rw [emp_len h2.length]⟩
  | tup ds =>
    obtain ⟨a, xs, e1, h1, h2⟩ := vw_tup h
    rw [e1]
    cases e
    exact .inr (.inl ⟨xs, .inl (.inl (s _ _ h1)), by rw [emp_len h2.length]⟩)
  | scr ns =>
    obtain ⟨a, e1, h1⟩ := vw_scr h
    rw [e1]
    cases e
    exact .inl ⟨_, sq_mono s h1, by rw [emp_len (List.length_map ..)]⟩
  | dct ks ds =>
    obtain ⟨a, kvs, e1, h1, h2, h3⟩ := vw_dct s h
    rw [e1]
    cases e
    refine .inr (.inr ⟨kvs, h1, ?_⟩)
    have : kvs.length = ks.length := by
      have z := congrArg List.length h2
      simpa using z
    rw [emp_len this]
  | dtt _ _ => cases e
  | ins _ _ _ => cases e
theorem truD_exc : ∀ d x, truD d ≠ .exc x := fun d x h => by cases d <;> cases h
section
variable {X : Cx} {k : KC} {G : List Md} {W : WE} {m : Mo} {a b c : Expr} {f g : Env → R D} {t u : Env → R Bool} {pos : Pos} {rest : List Expr}
/-- any expression as a test -/
theorem pu_truth (J : Jx X k G W) (ha : PuE X k G W m a f) (he : ∀ whole, isTrue a X.env whole = (do let v ← whole; standAt a.pos; holding [v] (truthy v)) := by intro _; rfl) : PuT X k G W a (tE f) := .mk fun F0 H0 F ρ σ H Q S q => by
  refine canT_of (pt_truth pe_can he) (ha.run F0 H0 F ρ σ H _ S ?_)
  refine (PostR.bind q).imp fun x _ q1 v F1 H1 x1 rv => ?_
  cases z : truD x with
  | ok d =>
    rw [z] at q1
    exact ⟨d, J.kk ▸ tru_of x1.sub rv.vw z, q1 F1 H1 x1⟩
  | exc e => exact absurd z (truD_exc x e)
  | stuck => rw [z] at q1; exact q1.elim
theorem pu_not (ha : PuT X k G W a t) : PuT X k G W (.UnaryOp .Not a pos) (notT t) := .mk fun F0 H0 F ρ σ H Q S q =>
  canT_of (pt_not pt_can) (ha.run F0 H0 F ρ σ H _ S ((PostR.bind q).imp fun b _ q1 F' H' x => q1 F' H' x))
theorem PuW.pt (h : PuW X k G W a t) : PuT X k G W a t := .mk fun F0 H0 F ρ σ H Q S q => canT_of pw_can.pt (h.run F0 H0 F ρ σ H Q S q)
theorem pu_and1 (ha : PuT X k G W a t) : PuW X k G W (.BoolOp .And [a] pos) t := .mk fun F0 H0 F ρ σ H Q S q => canW_of (pw_and1 pt_can) (ha.run F0 H0 F ρ σ H Q S q)
theorem pu_or1 (ha : PuT X k G W a t) : PuW X k G W (.BoolOp .Or [a] pos) t := .mk fun F0 H0 F ρ σ H Q S q => canW_of (pw_or1 pt_can) (ha.run F0 H0 F ρ σ H Q S q)
theorem PostR.growN {α : Type} {F H F1 H1 : Hp} {σ : Sl} {r : R α} {N N' : α → Prop} (x : Ext F H F1 H1) (h : PostR k F H W σ N r) (i : ∀ a, N a → N' a) : PostR k F1 H1 W σ N' r := (h.grow x).imp fun a _ => i a
theorem pu_and (ha : PuT X k G W a t) (hb : PuW X k G W (.BoolOp .And (b :: rest) pos) u) : PuW X k G W (.BoolOp .And (a :: b :: rest) pos) (andT t u) := .mk fun F0 H0 F ρ σ H Q S q => by
  refine canW_of (pw_and pt_can pw_can) (ha.run F0 H0 F ρ σ H _ S ?_)
  refine (PostR.bind q).imp fun c _ q1 F1 H1 x1 => ?_
  cases c with
  | true =>
    rw [if_pos rfl] at q1 ⊢
    exact hb.run F0 H0 F1 ρ σ H1 Q (S.step x1) (PostR.growN x1 q1 fun b n F' H' x => n F' H' (x1.trans x))
  | false =>
    rw [if_neg Bool.false_ne_true] at q1 ⊢
    exact q1 F1 H1 x1
theorem pu_or (ha : PuT X k G W a t) (hb : PuW X k G W (.BoolOp .Or (b :: rest) pos) u) : PuW X k G W (.BoolOp .Or (a :: b :: rest) pos) (orT t u) := .mk fun F0 H0 F ρ σ H Q S q => by
  refine canW_of (pw_or pt_can pw_can) (ha.run F0 H0 F ρ σ H _ S ?_)
  refine (PostR.bind q).imp fun c _ q1 F1 H1 x1 => ?_
  cases c with
  | true =>
    rw [if_pos rfl] at q1 ⊢
    exact q1 F1 H1 x1
  | false =>
    rw [if_neg Bool.false_ne_true] at q1 ⊢
    exact hb.run F0 H0 F1 ρ σ H1 Q (S.step x1) (PostR.growN x1 q1 fun b n F' H' x => n F' H' (x1.trans x))
/-- .. as values: the ways ahead of the last are truths -/
def blD : D → R Bool
  | .bl b => .ok b
  | _ => .stuck
def andE (f g : Env → R D) : Env → R D := fun r => f r >>= fun x => blD x >>= fun b => if b = true then g r else .ok (.bl false)
def orE (f g : Env → R D) : Env → R D := fun r => f r >>= fun x => blD x >>= fun b => if b = true then .ok (.bl true) else g r
def notE (f : Env → R D) : Env → R D := fun r => f r >>= fun x => truD x >>= fun b => .ok (.bl (!b))
theorem pu_oneE {op : BoolOp} (ha : PuE X k G W .frz a f) : PuE X k G W .frz (.BoolOp op [a] pos) f := .mk fun F0 H0 F ρ σ H Q S q => canE_of (pe_one pe_can) (ha.run F0 H0 F ρ σ H Q S q)
theorem pu_andE (ha : PuE X k G W m a f) (hb : PuE X k G W .frz (.BoolOp .And (b :: rest) pos) g) : PuE X k G W .frz (.BoolOp .And (a :: b :: rest) pos) (andE f g) := .mk fun F0 H0 F ρ σ H Q S q => by
  refine canE_of (pe_and pe_can pe_can) (ha.run F0 H0 F ρ σ H _ S ?_)
  refine (PostR.bind q).imp fun x _ q1 v F1 H1 x1 rv => ?_
  cases x with
  | bl c =>
    refine ⟨c, vw_bl rv.vw, ?_⟩
    cases c with
    | true =>
      rw [if_pos rfl]
      have q1 : PostR k F H W σ _ (g ρ) := q1
      exact hb.run F0 H0 F1 ρ σ H1 Q (S.step x1) (PostR.growN x1 q1 fun b n v F' H' x rv => n v F' H' (x1.trans x) (rv.back x1.sh))
    | false =>
      rw [if_neg Bool.false_ne_true]
      exact q1 _ F1 H1 x1 (.bl false)
  | _ => exact q1.elim
theorem pu_orE (ha : PuE X k G W m a f) (hb : PuE X k G W .frz (.BoolOp .Or (b :: rest) pos) g) : PuE X k G W .frz (.BoolOp .Or (a :: b :: rest) pos) (orE f g) := .mk fun F0 H0 F ρ σ H Q S q => by
  refine canE_of (pe_or pe_can pe_can) (ha.run F0 H0 F ρ σ H _ S ?_)
  refine (PostR.bind q).imp fun x _ q1 v F1 H1 x1 rv => ?_
  cases x with
  | bl c =>
    refine ⟨c, vw_bl rv.vw, ?_⟩
    cases c with
    | true =>
      rw [if_pos rfl]
      exact q1 _ F1 H1 x1 (.bl true)
    | false =>
      rw [if_neg Bool.false_ne_true]
      have q1 : PostR k F H W σ _ (g ρ) := q1
      exact hb.run F0 H0 F1 ρ σ H1 Q (S.step x1) (PostR.growN x1 q1 fun b n v F' H' x rv => n v F' H' (x1.trans x) (rv.back x1.sh))
  | _ => exact q1.elim
theorem pu_notE (J : Jx X k G W) (ha : PuE X k G W m a f) : PuE X k G W .frz (.UnaryOp .Not a pos) (notE f) := .mk fun F0 H0 F ρ σ H Q S q => by
  refine canE_of (pe_notT pe_can) (ha.run F0 H0 F ρ σ H _ S ?_)
  refine (PostR.bind q).imp fun x _ q1 v F1 H1 x1 rv => ?_
  cases z : truD x with
  | ok d =>
    rw [z] at q1
    exact ⟨d, J.kk ▸ tru_of x1.sub rv.vw z, q1 _ F1 H1 x1 (.bl _)⟩
  | exc e => exact absurd z (truD_exc x e)
  | stuck => rw [z] at q1; exact q1.elim
/-- a if c else b -/
def ifE (t : Env → R Bool) (f g : Env → R D) : Env → R D := fun r => t r >>= fun b => if b = true then f r else g r
theorem pu_ifE (hc : PuT X k G W c t) (ha : PuE X k G W m a f) (hb : PuE X k G W m b g) : PuE X k G W m (.IfExp c a b pos) (ifE t f g) := .mk fun F0 H0 F ρ σ H Q S q => by
  refine canE_of (pe_ifExp pt_can pe_can pe_can) (hc.run F0 H0 F ρ σ H _ S ?_)
  refine (PostR.bind q).imp fun c _ q1 F1 H1 x1 => ?_
  cases c with
  | true =>
    rw [if_pos rfl] at q1 ⊢
    exact ha.run F0 H0 F1 ρ σ H1 Q (S.step x1) (PostR.growN x1 q1 fun b n v F' H' x rv => n v F' H' (x1.trans x) (rv.back x1.sh))
  | false =>
    rw [if_neg Bool.false_ne_true] at q1 ⊢
    exact hb.run F0 H0 F1 ρ σ H1 Q (S.step x1) (PostR.growN x1 q1 fun b n v F' H' x rv => n v F' H' (x1.trans x) (rv.back x1.sh))
end
end Pu

namespace Pu
open PySem PySem.Spec PyProof.Rows L2

/-! ### arguments -/
theorem ResA.frz_iff {k : KC} {H F' H' : Hp} : ∀ {vs : List V} {ds : List D}, ResA k .frz H F' H' vs ds → DvAll k F' vs ds
  | [], [], _ => .nil
  | v :: vs, d :: ds, h => .cons h.1 (ResA.frz_iff h.2)
  | [], _ :: _, h => h.elim
  | _ :: _, [], h => h.elim
theorem ResA.of_frz {k : KC} {H F' H' : Hp} : ∀ {vs : List V} {ds : List D}, DvAll k F' vs ds → ResA k .frz H F' H' vs ds
  | _, _, .nil => trivial
  | _, _, .cons h1 h2 => ⟨h1, ResA.of_frz h2⟩
theorem ResA.ext {k : KC} {m : Mo} {H F H1 F' H' : Hp} (x : Ext F H1 F' H') : ∀ {vs : List V} {ds : List D}, ResA k m H F H1 vs ds → ResA k m H F' H' vs ds
  | [], [], _ => trivial
  | v :: vs, d :: ds, h => ⟨h.1.ext x, ResA.ext x h.2⟩
  | [], _ :: _, h => h.elim
  | _ :: _, [], h => h.elim
theorem ResA.back {k : KC} {m : Mo} {H H1 F' H' : Hp} (s : Same H H1) : ∀ {vs : List V} {ds : List D}, ResA k m H1 F' H' vs ds → ResA k m H F' H' vs ds
  | [], [], _ => trivial
  | v :: vs, d :: ds, h => ⟨h.1.back s, ResA.back s h.2⟩
  | [], _ :: _, h => h.elim
  | _ :: _, [], h => h.elim
theorem ResA.vw {k : KC} {m : Mo} {H H2 F' H' : Hp} : ∀ {vs : List V} {ds : List D}, ResA k m H F' H' vs ds → ResA k .vw H2 F' H' vs ds
  | [], [], _ => trivial
  | v :: vs, d :: ds, h => ⟨(h.1.vw : Res k .vw H F' H' v d), ResA.vw h.2⟩
  | [], _ :: _, h => h.elim
  | _ :: _, [], h => h.elim
def aNil : Env → R (List D) := fun _ => .ok []
def aCons (f : Env → R D) (g : Env → R (List D)) : Env → R (List D) := fun r => f r >>= fun x => g r >>= fun xs => .ok (x :: xs)
section
variable {X : Cx} {k : KC} {G : List Md} {W : WE} {m : Mo} {a b e : Expr} {es : List Expr} {f g : Env → R D} {fs : Env → R (List D)} {pos : Pos}
theorem pua_nil : PuA X k G W m [] aNil := .mk fun F0 H0 F ρ σ H Q S q => canA_of pa_nil (q [] F H (Ext.refl S.sub) trivial)
theorem pua_cons (ha : PuE X k G W m e f) (hr : PuA X k G W m es fs) (hs : starEach (e :: es) X.env = (false, eval e X.env) :: starEach es X.env := by rfl) : PuA X k G W m (e :: es) (aCons f fs) := .mk fun F0 H0 F ρ σ H Q S q => by
  refine canA_of (pa_cons pe_can pa_can hs) (ha.run F0 H0 F ρ σ H _ S ?_)
  refine (PostR.bind q).imp fun x _ q1 v F1 H1 x1 rv => ?_
  refine hr.run F0 H0 F1 ρ σ H1 _ (S.step x1) ?_
  refine ((PostR.bind q1).grow x1).imp fun xs _ q2 vs F2 H2 x2 rvs => ?_
  exact q2 (v :: vs) F2 H2 (x1.trans x2) ⟨rv.ext x2, rvs.back x1.sh⟩
/-- (a, b, ..) -/
def tupE (fs : Env → R (List D)) : Env → R D := fun r => fs r >>= fun ds => if ds.length ≤ szT then .ok (.tup ds) else .stuck
theorem ResA.length {k : KC} {m : Mo} {H F' H' : Hp} : ∀ {vs : List V} {ds : List D}, ResA k m H F' H' vs ds → vs.length = ds.length
  | [], [], _ => rfl
  | v :: vs, d :: ds, h => by rw [List.length_cons, List.length_cons, ResA.length h.2]
  | [], _ :: _, h => h.elim
  | _ :: _, [], h => h.elim
theorem pu_tup {x1 : Nat} (h : PuA X k G W .frz es fs) : PuE X k G W .frz (.Tuple es x1 pos) (tupE fs) := .mk fun F0 H0 F ρ σ H Q S q => by
  refine canE_of (pe_tup pa_can) (h.run F0 H0 F ρ σ H _ S ?_)
  refine (PostR.bind q).imp fun ds _ q1 vs F1 H1 x1 rv => ?_
  by_cases hl : ds.length ≤ szT
  · rw [if_pos hl] at q1
    refine ⟨by rw [rv.length]; exact szT_le hl, fun p hp => ?_⟩
    have x := Ext.add (o := .tup vs) x1.sub hp
    exact q1 _ _ _ (x1.trans x) (.tup upd_same (rv.frz_iff.mono x.sf))
  · rw [if_neg hl] at q1
    exact q1.elim
/-- [a, b, ..] -/
def lstE (fs : Env → R (List D)) : Env → R D := fun r => fs r >>= fun ds => if ds.length ≤ szT then .ok (.lst ds) else .stuck
theorem pu_lst (h : PuA X k G W .frz es fs) : PuE X k G W .own (.List es pos) (lstE fs) := .mk fun F0 H0 F ρ σ H Q S q => by
  refine canE_of (pe_lst pa_can) (h.run F0 H0 F ρ σ H _ S ?_)
  refine (PostR.bind q).imp fun ds _ q1 vs F1 H1 x1 rv => ?_
  by_cases hl : ds.length ≤ szT
  · rw [if_pos hl] at q1
    refine ⟨by rw [rv.length]; exact szT_le hl, fun p hp => ?_⟩
    exact q1 _ F1 _ (x1.trans (Ext.own x1.sub hp)) ⟨p, rfl, x1.sh.free hp, x1.sub.free hp, .lst upd_same rv.frz_iff⟩
  · rw [if_neg hl] at q1
    exact q1.elim

/-! ### items -/
theorem ixN_len {n : Nat} {i : Int} {j : Nat} (h : ixN n i = some j) : j < n := (ixN_seq h).2.1
theorem DvAll.atI {k : KC} {F : Hp} {vs : List V} {ds : List D} {i : Int} {d : D} (h : DvAll k F vs ds) (e : atI ds i = some d) : ∃ v, atI vs i = some v ∧ Dv k F v d := by
  unfold L2.atI at e ⊢
  rw [h.length]
  cases z : ixN ds.length i with
  | none => rw [z] at e; cases e
  | some j =>
    rw [z] at e
    exact h.get e
def ixD : D → D → R D
  | .lst ds, .int i => match atI ds i with | some d => .ok d | none => .stuck
  | .tup ds, .int i => match atI ds i with | some d => .ok d | none => .stuck
  | .scr ns, .int i => match atI ns i with | some n => .ok (.int n) | none => .stuck
  | .str s, .int i => match atI s i with | some c => .ok (.str [c]) | none => .stuck
  | _, _ => .stuck
theorem ixD_exc : NoExc2 ixD := fun d e x h => by
  cases d <;> cases e <;> simp [ixD] at h
  all_goals (split at h <;> cases h)
theorem opp_ix : OpP k .frz (rIx k.K) ixD := fun F H v w d e Q s h1 h2 q => by
  cases e with
  | int i =>
    have e2 := vw_int h2
    subst e2
    cases d with
    | lst ds =>
      obtain ⟨a, xs, e1, t1, a1⟩ := vw_lst s h1
      subst e1
      cases z : atI ds i with
      | none => simp only [ixD, z] at q
      | some d =>
        simp only [ixD, z] at q
        obtain ⟨v, hv, dv⟩ := a1.atI z
        exact .inl ⟨a, xs, i, v, rfl, rfl, SqL.of t1, hv, q v F H (Ext.refl s) dv⟩
    | tup ds =>
      obtain ⟨a, xs, e1, t1, a1⟩ := vw_tup h1
      subst e1
      cases z : atI ds i with
      | none => simp only [ixD, z] at q
      | some d =>
        simp only [ixD, z] at q
        obtain ⟨v, hv, dv⟩ := a1.atI z
        exact .inr (.inl ⟨a, xs, i, v, rfl, rfl, SqT.of (s _ _ t1), hv, q v F H (Ext.refl s) dv⟩)
    | scr ns =>
      obtain ⟨a, e1, t1⟩ := vw_scr h1
      subst e1
      cases z : atI ns i with
      | none => simp only [ixD, z] at q
      | some n =>
        simp only [ixD, z] at q
        refine .inl ⟨a, _, i, .int n, rfl, rfl, sq_mono s t1, ?_, q _ F H (Ext.refl s) (.int n)⟩
        unfold L2.atI at z ⊢
        rw [List.length_map]
        cases y : ixN ns.length i with
        | none => rw [y] at z; cases z
        | some j =>
          rw [y] at z
          have z : ns[j]? = some n := z
          show (ns.map V.int)[j]? = some (.int n)
          rw [List.getElem?_map, z]
          rfl
    | str x =>
      obtain ⟨e1, l1⟩ := vw_str h1
      subst e1
      cases z : atI x i with
      | none => simp only [ixD, z] at q
      | some c =>
        simp only [ixD, z] at q
        refine .inr (.inr ⟨_, i, c, rfl, rfl, by rw [tx_len]; exact l1, by simpa [tx] using z, ?_⟩)
        exact q (.str (tx [c])) F H (Ext.refl s) (.str [c] (by simp; decide))
    | _ => exact q.elim
  | _ => cases d <;> exact q.elim
theorem pu_ix (J : Jx X k G W) {m1 m2 : Mo} (ha : PuE X k G W m1 a f) (hb : PuE X k G W m2 b g) (hs : PlainIx b := by exact fun _ _ => rfl) : PuE X k G W .frz (.Subscript a b pos) (e2 ixD f g) :=
  two (pe_ix (J.kk ▸ ix_seq) pe_can pe_can hs) (fun _ _ _ q => q) opp_ix ixD_exc ha hb

/-! ### slices -/
def PuO (X : Cx) (k : KC) (G : List Md) (W : WE) (e : Option Expr) (f : Env → R (Option Int)) : Prop :=
  ∃ t, PO X e t ∧ ∀ (F0 H0 F : Hp) (r : Env) (σ : Sl) (H : Hp) (Q : Option Int → Hp → Prop), St4 k G F0 H0 F r σ H → PostR k F H W σ (fun o => ∀ F' H', Ext F H F' H' → Q o H') (f r) → t σ H Q
def oNone : Env → R (Option Int) := fun _ => .ok none
def intD : D → R Int
  | .int i => .ok i
  | _ => .stuck
def oSome (f : Env → R D) : Env → R (Option Int) := fun r => f r >>= fun x => intD x >>= fun i => .ok (some i)
theorem puo_none : PuO X k G W none oNone := ⟨_, po_none, fun F0 H0 F r σ H Q S q => q F H (Ext.refl S.sub)⟩
theorem puo_some (h : PuE X k G W m e f) : PuO X k G W (some e) (oSome f) := ⟨_, po_some pe_can, fun F0 H0 F ρ σ H Q S q => by
  refine h.run F0 H0 F ρ σ H _ S ?_
  refine (PostR.bind q).imp fun x _ q1 v F1 H1 x1 rv => ?_
  cases x with
  | int i => exact ⟨i, vw_int rv.vw, q1 F1 H1 x1⟩
  | _ => exact q1.elim⟩
def cut {α : Type} (xs : List α) (lo hi : Option Int) : List α := (xs.drop (HT.sIx xs.length 0 lo)).take (HT.sIx xs.length xs.length hi - HT.sIx xs.length 0 lo)
theorem DvAll.cut {F : Hp} {vs : List V} {ds : List D} (h : DvAll k F vs ds) (lo hi : Option Int) : DvAll k F (cutV vs lo hi) (Pu.cut ds lo hi) := by
  unfold cutV Pu.cut
  rw [h.length]
  exact (h.drop _).take _
def sliceD (d : D) (lo hi : Option Int) : R D :=
  match d with
  | .lst ds => .ok (.lst (cut ds lo hi))
  | .scr ns => .ok (.lst ((cut ns lo hi).map D.int))
  | .str s => .ok (.str (cut s lo hi))
  | .tup ds => .ok (.tup (cut ds lo hi))
  | _ => .stuck
def sliceL (d : D) (lo hi : Option Int) : R D :=
  match d with
  | .lst ds => .ok (.lst (cut ds lo hi))
  | .scr ns => .ok (.lst ((cut ns lo hi).map D.int))
  | _ => .stuck
def SlP (k : KC) (m : Mo) (r : V → Option Int → Option Int → Hp → VK → Prop) (o : D → Option Int → Option Int → R D) : Prop :=
  ∀ (F H : Hp) (v : V) (d : D) (lo hi : Option Int) (Q : VK), Same F H → Res k .vw H F H v d →
    (match o d lo hi with | .ok z => ∀ u F' H', Ext F H F' H' → Res k m H F' H' u z → Q u H' | _ => False) → r v lo hi H Q
theorem cut_map {α β : Type} (f : α → β) (xs : List α) (lo hi : Option Int) : cut (xs.map f) lo hi = (cut xs lo hi).map f := by
  unfold cut
  rw [List.length_map, List.map_take, List.map_drop]
theorem cut_len {α : Type} (xs : List α) (lo hi : Option Int) : (cut xs lo hi).length ≤ xs.length := by
  unfold cut
  rw [List.length_take, List.length_drop]
  omega
theorem slp_L : SlP k .own (rSlL k.K) sliceL := fun F H v d lo hi Q s h q => by
  cases d with
  | lst ds =>
    obtain ⟨a, xs, e1, t1, a1⟩ := vw_lst s h
    exact ⟨a, xs, e1, SqL.of t1, fun p hp => q _ F _ (Ext.own s hp) ⟨p, rfl, hp, s.free hp, .lst upd_same (a1.cut lo hi)⟩⟩
  | scr ns =>
    obtain ⟨a, e1, t1⟩ := vw_scr h
    refine ⟨a, _, e1, sq_mono s t1, fun p hp => q _ F _ (Ext.own s hp) ⟨p, rfl, hp, s.free hp, .lst upd_same ?_⟩⟩
    have z := (DvAll.ints (k := k) (F := F) ns).cut lo hi
    rw [cut_map] at z
    exact z
  | _ => exact q.elim
theorem slp_D : SlP k .frz (fun x lo hi H Q => rSlL k.K x lo hi H Q ∨ rSlS x lo hi H Q ∨ rSlA k.K x lo hi H Q) sliceD := fun F H v d lo hi Q s h q => by
  have own : ∀ ds : List D, (∀ u F' H', Ext F H F' H' → Res k .frz H F' H' u (.lst ds) → Q u H') → ∀ u F' H', Ext F H F' H' → Res k .own H F' H' u (.lst ds) → Q u H' := fun ds q u F' H' x r => by
    obtain ⟨F2, x2, dv⟩ := r.keep x (by decide)
    exact q u F2 H' x2 dv
  cases d with
  | lst ds => exact .inl (slp_L F H v (.lst ds) lo hi Q s h (own _ q))
  | scr ns => exact .inl (slp_L F H v (.scr ns) lo hi Q s h (own _ q))
  | str x =>
    obtain ⟨e1, l1⟩ := vw_str h
    subst e1
    refine .inr (.inl ⟨_, rfl, by rw [tx_len]; exact l1, ?_⟩)
    refine q (.str (tx (cut x lo hi))) F H (Ext.refl s) (.str _ (Nat.le_trans (cut_len x lo hi) l1)) |> cast ?_
    unfold cutS cut tx Str.length
    simp
  | tup ds =>
    obtain ⟨a, xs, e1, t1, a1⟩ := vw_tup h
    subst e1
    have q : ∀ u F' H', Ext F H F' H' → Res k .frz H F' H' u (.tup (cut ds lo hi)) → Q u H' := q
    refine .inr (.inr ⟨a, xs, rfl, SqT.of (s _ _ t1), fun hw => ?_, fun hw p hp => ?_⟩)
    · have e : cut ds lo hi = ds := by
        unfold cut
        rw [a1.length] at hw
        rw [hw.1, hw.2, List.drop_zero, Nat.sub_zero, List.take_length]
      rw [e] at q
      exact q _ F H (Ext.refl s) (.tup t1 a1)
    · have x := Ext.add (o := .tup (cutV xs lo hi)) s hp
      exact q _ _ _ x (.tup upd_same ((a1.cut lo hi).mono x.sf))
  | _ => exact q.elim
def slE (o : D → Option Int → Option Int → R D) (f : Env → R D) (l u : Env → R (Option Int)) : Env → R D := fun r => f r >>= fun x => l r >>= fun a => u r >>= fun b => o x a b
theorem pu_slice {m0 : Mo} {r : V → Option Int → Option Int → Hp → VK → Prop} {o : D → Option Int → Option Int → R D} {lo hi : Option Expr} {fl fu : Env → R (Option Int)} {p2 : Pos}
    (hr : SlR X r) (hp : SlP k m r o) (ne : ∀ d a b x, o d a b ≠ .exc x) (ha : PuE X k G W m0 a f) (hl : PuO X k G W lo fl) (hu : PuO X k G W hi fu) : PuE X k G W m (.Subscript a (.Slice lo hi none p2) pos) (slE o f fl fu) := .mk fun F0 H0 F ρ σ H Q S q => by
  obtain ⟨tl, pl, ql⟩ := hl
  obtain ⟨tu, pu, qu⟩ := hu
  refine canE_of (pe_slice hr pe_can pl pu) (ha.run F0 H0 F ρ σ H _ S ?_)
  refine (PostR.bind q).imp fun x _ q1 v F1 H1 x1 rv => ?_
  refine ql F0 H0 F1 ρ σ H1 _ (S.step x1) ?_
  refine ((PostR.bind q1).grow x1).imp fun a _ q2 F2 H2 x2 => ?_
  refine qu F0 H0 F2 ρ σ H2 _ ((S.step x1).step x2) ?_
  refine ((PostR.bind q2).grow (x1.trans x2)).imp fun b _ q3 F3 H3 x3 => ?_
  refine hp F3 H3 v x a b Q x3.sub (rv.ext (x2.trans x3)).vw ?_
  cases z : o x a b with
  | ok d =>
    rw [z] at q3
    exact fun u F' H' x4 r3 => q3 u F' H' (x1.trans (x2.trans (x3.trans x4))) (r3.back (x1.sh.trans (x2.sh.trans x3.sh)))
  | exc e => exact absurd z (ne x a b e)
  | stuck => rw [z] at q3; exact q3
theorem sliceD_exc : ∀ d a b x, sliceD d a b ≠ .exc x := fun d a b x h => by
  cases d <;> simp [sliceD] at h
theorem sliceL_exc : ∀ d a b x, sliceL d a b ≠ .exc x := fun d a b x h => by cases d <;> simp [sliceL] at h
theorem pu_cut {m0 : Mo} (J : Jx X k G W) {lo hi : Option Expr} {fl fu : Env → R (Option Int)} {p2 : Pos} (ha : PuE X k G W m0 a f) (hl : PuO X k G W lo fl) (hu : PuO X k G W hi fu) : PuE X k G W .frz (.Subscript a (.Slice lo hi none p2) pos) (slE sliceD f fl fu) :=
  pu_slice (SlR.or (J.kk ▸ sl_list) (SlR.or sl_str (J.kk ▸ sl_tupA))) slp_D sliceD_exc ha hl hu
theorem pu_cutL {m0 : Mo} (J : Jx X k G W) {lo hi : Option Expr} {fl fu : Env → R (Option Int)} {p2 : Pos} (ha : PuE X k G W m0 a f) (hl : PuO X k G W lo fl) (hu : PuO X k G W hi fu) : PuE X k G W .own (.Subscript a (.Slice lo hi none p2) pos) (slE sliceL f fl fu) :=
  pu_slice (J.kk ▸ sl_list) slp_L sliceL_exc ha hl hu
end

/-! ### calls of built-ins -/
theorem bt_divmod : bootBuiltins "divmod" = some (.builtin "divmod") := by decide +kernel
theorem bt_max : bootBuiltins "max" = some (.builtin "max") := by decide +kernel
theorem bt_min : bootBuiltins "min" = some (.builtin "min") := by decide +kernel
def CallP (k : KC) (m : Mo) (r : List V → Hp → VK → Prop) (o : List D → R D) : Prop :=
  ∀ (F H : Hp) (vs : List V) (ds : List D) (Q : VK), Same F H → ResA k .vw H F H vs ds →
    (match o ds with | .ok z => ∀ u F' H', Ext F H F' H' → Res k m H F' H' u z → Q u H' | _ => False) → r vs H Q
def eA (o : List D → R D) (fs : Env → R (List D)) : Env → R D := fun r => fs r >>= o
section
variable {X : Cx} {k : KC} {G : List Md} {W : WE} {m m1 : Mo} {a b e : Expr} {es : List Expr} {f g : Env → R D} {fs : Env → R (List D)} {pos p : Pos} {x : Str} {r : List V → Hp → VK → Prop} {o : List D → R D}
theorem args {te : TE} {e : Expr} (hp : PE X e te) (eq : ∀ σ H Q, (canA X es σ H fun vs H1 => r vs H1 Q) → te σ H Q) (hr : CallP k m r o) (ne : ∀ ds x, o ds ≠ .exc x) (ha : PuA X k G W m1 es fs) : PuE X k G W m e (eA o fs) := .mk fun F0 H0 F ρ σ H Q S q => by
  refine canE_of hp (eq σ H Q (ha.run F0 H0 F ρ σ H _ S ?_))
  refine (PostR.bind q).imp fun ds _ q1 vs F1 H1 x1 rv => ?_
  refine hr F1 H1 vs ds Q x1.sub rv.vw ?_
  cases z : o ds with
  | ok d =>
    rw [z] at q1
    exact fun u F' H' x3 r3 => q1 u F' H' (x1.trans x3) (r3.back x1.sh)
  | exc e => exact absurd z (ne ds e)
  | stuck => rw [z] at q1; exact q1
theorem pu_callB {id : String} (hc : CallR X (.builtin id) r) (hp : CallP k m r o) (ne : ∀ ds x, o ds ≠ .exc x) (ha : PuA X k G W m1 (e :: es) fs) (hm : X.mg x = none) (hv : bootBuiltins x = some (.builtin id)) (hg : Gl X x := by rfl) (hn : x ≠ "__name__" := by decide) (hdb : (x == ("__debug__" : Str)) = false := by decide)
    (he : starEach (e :: es) X.env = (false, eval e X.env) :: starEach es X.env := by rfl) (hpl : (backTo pos (starEach es X.env)).any (·.1) = false := by rfl) : PuE X k G W m (.Call (.Name x p) (e :: es) [] pos) (eA o fs) :=
  args (pe_callB hc hg hm hv pa_can hn hdb he hpl) (fun _ _ _ q => q) hp ne ha
theorem pu_callTy {T : String} (hc : CallR X (.type T) r) (hp : CallP k m r o) (ne : ∀ ds x, o ds ≠ .exc x) (ha : PuA X k G W m1 (e :: es) fs) (hm : X.mg x = none) (hv : bootBuiltins x = some (.type T)) (hg : Gl X x := by rfl) (hn : x ≠ "__name__" := by decide) (hdb : (x == ("__debug__" : Str)) = false := by decide)
    (he : starEach (e :: es) X.env = (false, eval e X.env) :: starEach es X.env := by rfl) (hpl : (backTo pos (starEach es X.env)).any (·.1) = false := by rfl) : PuE X k G W m (.Call (.Name x p) (e :: es) [] pos) (eA o fs) :=
  args (pe_callTy hc hg hm hv pa_can hn hdb he hpl) (fun _ _ _ q => q) hp ne ha
/-- len -/
def lenD : List D → R D
  | [.lst ds] => .ok (.int ds.length)
  | [.tup ds] => .ok (.int ds.length)
  | [.scr ds] => .ok (.int ds.length)
  | [.str ds] => .ok (.int ds.length)
  | [.dct ks _] => .ok (.int ks.length)
  | _ => .stuck
theorem lenD_exc : ∀ ds x, lenD ds ≠ .exc x := fun ds x h => by
  match ds, h with
  | [], h => cases h
  | [d], h => cases d <;> cases h
  | d :: _ :: _, h => cases d <;> cases h
def rLenA (K : PySem.W.Frag) : List V → Hp → VK → Prop := fun xs H Q => (∃ p ys, xs = [.ref p] ∧ (SqL K H p ys ∨ SqT K H p ys) ∧ Q (.int ys.length) H) ∨ (∃ z, xs = [.str z] ∧ z.length ≤ sizeLine ∧ Q (.int z.length) H)
theorem callp_len : CallP k .frz (fun xs H Q => rLenA k.K xs H Q ∨ ∃ a kvs, xs = [.ref a] ∧ H a = some (.dK kvs) ∧ Q (.int kvs.length) H) lenD := fun F H vs ds Q s h q => by
  match vs, ds, h, q with
  | [v], [d], h, q =>
    obtain ⟨h, _⟩ := h
    cases d with
    | lst es =>
      obtain ⟨a, xs, e1, t1, a1⟩ := vw_lst s h
      subst e1
      exact .inl (.inl ⟨a, xs, rfl, .inl (SqL.of t1), by rw [a1.length]; exact q _ F H (Ext.refl s) (.int _)⟩)
    | tup es =>
      obtain ⟨a, xs, e1, t1, a1⟩ := vw_tup h
      subst e1
      exact .inl (.inl ⟨a, xs, rfl, .inr (SqT.of (s _ _ t1)), by rw [a1.length]; exact q _ F H (Ext.refl s) (.int _)⟩)
    | scr ns =>
      obtain ⟨a, e1, t1⟩ := vw_scr h
      subst e1
      exact .inl (.inl ⟨a, _, rfl, .inl (sq_mono s t1), by rw [List.length_map]; exact q _ F H (Ext.refl s) (.int _)⟩)
    | str z =>
      obtain ⟨e1, l1⟩ := vw_str h
      subst e1
      exact .inl (.inr ⟨_, rfl, by rw [tx_len]; exact l1, by rw [tx_len]; exact q _ F H (Ext.refl s) (.int _)⟩)
    | dct ks es =>
      obtain ⟨a, kvs, e1, t1, hk, a1⟩ := vw_dct s h
      subst e1
      have hl : kvs.length = ks.length := by simpa using congrArg List.length hk
      exact .inr ⟨a, kvs, rfl, t1, by rw [hl]; exact q _ F H (Ext.refl s) (.int _)⟩
    | _ => exact q.elim
  | [], [], _, q => exact q.elim
  | [], _ :: _, h, _ => exact h.elim
  | _ :: _, [], h, _ => exact h.elim
  | _ :: _ :: _, [d], h, _ => exact h.2.elim
  | [_], _ :: _ :: _, h, _ => exact h.2.elim
  | _ :: _ :: _, d :: _ :: _, _, q => cases d <;> exact q.elim
theorem pu_len (J : Jx X k G W) (ha : PuA X k G W m1 [e] fs) (hm : X.mg "len" = none) (hg : Gl X "len" := by rfl)
    (he : starEach [e] X.env = [(false, eval e X.env)] := by rfl) : PuE X k G W .frz (.Call (.Name "len" p) [e] [] pos) (eA lenD fs) :=
  pu_callB (CallR.or (J.kk ▸ CallR.or call_len_seq call_len_str) call_lenD) callp_len lenD_exc ha hm PySem.boot_len hg (by decide) (by decide) he rfl
/-- divmod by a positive number -/
def divmodD : List D → R D
  | [.int a, .int b] => if (decide (0 < b) && decide (b < 1073741824)) = true then .ok (.tup [.int (a / b), .int (a % b)]) else .stuck
  | _ => .stuck
theorem callp_divmod : CallP k .frz (fun xs H Q => ∃ i j, xs = [.int i, .int j] ∧ CDiv i j ∧ ∀ p, H p = none → Q (.ref p) (upd H p (.tup [.int (i / j), .int (i % j)]))) divmodD := fun F H vs ds Q s h q => by
  unfold divmodD at q
  split at q
  · rename_i z
    split at z
    · rename_i a b
      match vs, h with
      | [v, w], h =>
        obtain ⟨h1, h2, _⟩ := h
        have e1 := vw_int h1
        have e2 := vw_int h2
        subst e1
        subst e2
        by_cases hc : (decide (0 < b) && decide (b < 1073741824)) = true
        · rw [if_pos hc] at z
          cases z
          rw [Bool.and_eq_true] at hc
          refine ⟨a, b, rfl, ⟨of_decide_eq_true hc.1, of_decide_eq_true hc.2⟩, fun p hp => ?_⟩
          exact q _ _ _ (Ext.add s hp) (.tup upd_same (.cons (.int _) (.cons (.int _) .nil)))
        · rw [if_neg hc] at z
          cases z
      | [], h => exact h.elim
      | [_], h => exact h.2.elim
      | _ :: _ :: _ :: _, h => exact h.2.2.elim
    · cases z
  · exact q.elim
theorem divmodD_exc : ∀ ds x, divmodD ds ≠ .exc x := fun ds x h => by
  unfold divmodD at h
  split at h
  · split at h <;> cases h
  · cases h
theorem pu_divmod (ha : PuA X k G W m1 [a, b] fs) (hm : X.mg "divmod" = none)  (hg : Gl X "divmod" := by rfl)
    (he : starEach [a, b] X.env = (false, eval a X.env) :: starEach [b] X.env := by rfl) (hpl : (backTo pos (starEach [b] X.env)).any (·.1) = false := by rfl) : PuE X k G W .frz (.Call (.Name "divmod" p) [a, b] [] pos) (eA divmodD fs) :=
  pu_callB call_divmod callp_divmod divmodD_exc ha hm bt_divmod hg (by decide) (by decide) he hpl
/-- two ints -/
def int2 (g : Int → Int → Int) : List D → R D
  | [.int a, .int b] => .ok (.int (g a b))
  | _ => .stuck
theorem int2_exc {g : Int → Int → Int} : ∀ ds x, int2 g ds ≠ .exc x := fun ds x h => by
  unfold int2 at h
  split at h <;> cases h
theorem callp_int2 {g : Int → Int → Int} : CallP k .frz (fun xs H Q => ∃ i j, xs = [.int i, .int j] ∧ Q (.int (g i j)) H) (int2 g) := fun F H vs ds Q s h q => by
  unfold int2 at q
  split at q
  · rename_i z
    split at z
    · rename_i a b
      cases z
      match vs, h with
      | [v, w], h =>
        obtain ⟨h1, h2, _⟩ := h
        exact ⟨a, b, by rw [vw_int h1, vw_int h2], q _ F H (Ext.refl s) (.int _)⟩
      | [], h => exact h.elim
      | [_], h => exact h.2.elim
      | _ :: _ :: _ :: _, h => exact h.2.2.elim
    · cases z
  · exact q.elim
def max2 (a b : Int) : Int := if b > a then b else a
def min2 (a b : Int) : Int := if b < a then b else a
theorem pu_max2 (hc : X.calm = true) (ha : PuA X k G W m1 [a, b] fs) (hm : X.mg "max" = none)  (hg : Gl X "max" := by rfl)
    (he : starEach [a, b] X.env = (false, eval a X.env) :: starEach [b] X.env := by rfl) (hpl : (backTo pos (starEach [b] X.env)).any (·.1) = false := by rfl) : PuE X k G W .frz (.Call (.Name "max" p) [a, b] [] pos) (eA (int2 max2) fs) :=
  pu_callB (call_max2 hc) callp_int2 int2_exc ha hm bt_max hg (by decide) (by decide) he hpl
theorem pu_min2 (hc : X.calm = true) (ha : PuA X k G W m1 [a, b] fs) (hm : X.mg "min" = none)  (hg : Gl X "min" := by rfl)
    (he : starEach [a, b] X.env = (false, eval a X.env) :: starEach [b] X.env := by rfl) (hpl : (backTo pos (starEach [b] X.env)).any (·.1) = false := by rfl) : PuE X k G W .frz (.Call (.Name "min" p) [a, b] [] pos) (eA (int2 min2) fs) :=
  pu_callB (call_min2 hc) callp_int2 int2_exc ha hm bt_min hg (by decide) (by decide) he hpl
end
end Pu

namespace Pu
open PySem PySem.Spec PyProof.Rows L2

/-- where statements stand -/
structure Jc (X : Cx) : Prop where
  calm : X.calm = true
  po : PassesOwn (model X.prog X.w) X.A X.env X.xe
/-- the same modes but at i -/
structure Eqx (G G' : List Md) (i : Nat) : Prop where
  o : ∀ j, j ≠ i → isOwn G' j = isOwn G j
  p : ∀ j, j ≠ i → pinAt G' j = pinAt G j
  l : ∀ j, j ≠ i → lockAt G' j = lockAt G j
  d : ∀ j, j ≠ i → deepAt G' j = deepAt G j
theorem Eqx.n {G G' : List Md} {i : Nat} (e : Eqx G G' i) (j : Nat) (h : j ≠ i) : nf G' j = true ↔ nf G j = true := by rw [nf_of, nf_of, e.o j h, e.d j h]
theorem Eqx.symm {G G' : List Md} {i : Nat} (e : Eqx G G' i) : Eqx G' G i := ⟨fun j h => (e.o j h).symm, fun j h => (e.p j h).symm, fun j h => (e.l j h).symm, fun j h => (e.d j h).symm⟩
theorem Eqx.refl {G : List Md} {i : Nat} : Eqx G G i := ⟨fun _ _ => rfl, fun _ _ => rfl, fun _ _ => rfl, fun _ _ => rfl⟩
theorem Eqx.at {G G' : List Md} {i : Nat} (m : Md) (h : G' = G.set i m := by rfl) : Eqx G G' i := by
  subst h
  exact ⟨fun _ h => isOwn_ne h, fun _ h => pinAt_ne h, fun _ h => lockAt_ne h, fun _ h => deepAt_ne h⟩
theorem Eqx.set {G : List Md} {i : Nat} {m : Md} : Eqx G (G.set i m) i := ⟨fun _ h => isOwn_ne h, fun _ h => pinAt_ne h, fun _ h => lockAt_ne h, fun _ h => deepAt_ne h⟩
/-! ### slots stored -/
section
variable {k : KC} {G G' : List Md} {F0 H0 F F' : Hp} {ρ : Env} {σ : Sl} {H H' : Hp} {i : Nat} {v : V} {d : D}
theorem get_set_some {α : Type} {l : List α} {i j : Nat} {x y : α} (h : (l.set i x)[j]? = some y) : (j = i ∧ x = y ∧ i < l.length) ∨ (j ≠ i ∧ l[j]? = some y) := by
  by_cases hj : j = i
  · subst hj
    rw [List.getElem?_set] at h
    simp only [if_true] at h
    by_cases hl : j < l.length
    · rw [if_pos hl] at h
      exact .inl ⟨rfl, Option.some.inj h, hl⟩
    · rw [if_neg hl] at h
      cases h
  · rw [List.getElem?_set_ne (Ne.symm hj)] at h
    exact .inr ⟨hj, h⟩
theorem St4.pin_set {r : Option D} {o : Option V} (S : St4 k G F0 H0 F ρ σ H) (e : Eqx G G' i) (hp : pinAt G' i = none) (j : Nat) (a : Pin) (h : pinAt G' j = some a) : (ρ.set i r)[j]? = some none ∧ (σ.set i o)[j]? = some (some (.ref a.a)) ∧ ExcAt k F a.x a.cls a.dd := by
  have ne : j ≠ i := fun z => by rw [z, hp] at h; cases h
  rw [e.p j ne] at h
  rw [List.getElem?_set_ne (Ne.symm ne), List.getElem?_set_ne (Ne.symm ne)]
  exact S.pin j a h
theorem St4.lk_set {r : Option D} {o : Option V} (S : St4 k G F0 H0 F ρ σ H) (e : Eqx G G' i) (hl : ∀ d, r = some d → lockAt G' i = none) (j : Nat) (p : Addr) (d : D) (h : lockAt G' j = some p) (q : (ρ.set i r)[j]? = some (some d)) : (σ.set i o)[j]? = some (some (.ref p)) := by
  rcases get_set_some q with ⟨rfl, q2, q3⟩ | ⟨q1, q2⟩
  · rw [hl d q2] at h; cases h
  · rw [e.l j q1] at h
    rw [List.getElem?_set_ne (Ne.symm q1)]
    exact S.lk j p d h q2
theorem Dps.set {fp : Nat → List Addr} {x : Option D} {o : Option V} (h : Dps k G F H0 H ρ σ fp) (e : Eqx G G' i) (hn : deepAt G' i = none ∨ x = none) (how : ∀ p, isOwn G' i = true → x ≠ none → o = some (.ref p) → ∀ j, p ∉ fp j) :
    Dps k G' F H0 H (ρ.set i x) (σ.set i o) (fun j => if j = i then [] else fp j) where
  at_ := fun j d sh o' e1 e2 => by
    rcases get_set_some e2 with ⟨rfl, q2, q3⟩ | ⟨q1, q2⟩
    · rcases hn with hn | hn
      · rw [hn] at e1; cases e1
      · rw [hn] at q2; cases q2
    · rw [e.d j q1] at e1
      obtain ⟨v, h1, h2, h3⟩ := h.at_ j d sh o' e1 q2
      exact ⟨v, by rw [List.getElem?_set_ne (Ne.symm q1)]; exact h1, h2, by simp only [if_neg q1]; exact h3⟩
  off := fun j z => by
    by_cases hj : j = i
    · simp only [if_pos hj]
    · simp only [if_neg hj]
      refine h.off j ?_
      rw [e.d j hj, List.getElem?_set_ne (Ne.symm hj)] at z
      exact z
  nd := fun j => by
    by_cases hj : j = i
    · simp only [if_pos hj]; exact List.nodup_nil
    · simp only [if_neg hj]; exact h.nd j
  fr := fun j a ha => by
    by_cases hj : j = i
    · simp only [if_pos hj] at ha; cases ha
    · simp only [if_neg hj] at ha; exact h.fr j a ha
  dis := fun a b y ha hb => by
    by_cases h1 : a = i
    · simp only [if_pos h1] at ha; cases ha
    · by_cases h2 : b = i
      · simp only [if_pos h2] at hb; cases hb
      · simp only [if_neg h1] at ha
        simp only [if_neg h2] at hb
        exact h.dis a b y ha hb
  ow := fun a b d p g q s hb => by
    by_cases h2 : b = i
    · simp only [if_pos h2] at hb; cases hb
    · simp only [if_neg h2] at hb
      rcases get_set_some q with ⟨rfl, q2, q3⟩ | ⟨q1, q2⟩
      · rw [List.getElem?_set] at s
        simp only [if_true] at s
        split at s
        · exact how p g (by rw [q2]; exact fun z => by cases z) (Option.some.inj s) b hb
        · cases s
      · rw [List.getElem?_set_ne (Ne.symm q1)] at s
        exact h.ow a b d p (by rw [← e.o a q1]; exact g) q2 s hb
theorem Dps.mode {fp : Nat → List Addr} (h : Dps k G F H0 H ρ σ fp) (hd : ∀ j, deepAt G' j = deepAt G j) (ho : ∀ j d, ρ[j]? = some (some d) → isOwn G' j = true → isOwn G j = true) : Dps k G' F H0 H ρ σ fp :=
  ⟨fun j d sh o e1 e2 => h.at_ j d sh o (by rw [← hd j]; exact e1) e2, fun j z => h.off j (by rw [← hd j]; exact z), h.nd, h.fr, h.dis, fun a b d p g q s => h.ow a b d p (ho a d q g) q s⟩
theorem Dps.kept {fp : Nat → List Addr} (h : Dps k G F H0 H ρ σ fp) (sf : Same F F') (hF : ∀ j a, a ∈ fp j → F' a = none) : Dps k G F' H0 H ρ σ fp :=
  ⟨fun j d sh o e1 e2 => by
    obtain ⟨v, h1, h2, h3⟩ := h.at_ j d sh o e1 e2
    exact ⟨v, h1, h2, h3.frame sf fun _ _ => rfl⟩, h.off, h.nd, fun j a ha => ⟨hF j a ha, (h.fr j a ha).2⟩, h.dis, h.ow⟩
/-- a kept value in the slot i -/
theorem St4.setF (S : St4 k G F0 H0 F ρ σ H) (h : Dv k F v d) (e : Eqx G G' i) (hg : nf G' i ≠ true) (hp : pinAt G' i = none) : St4 k G' F0 H0 F (ρ.set i (some d)) (σ.set i (some v)) H where
  ext := S.ext
  len := by rw [List.length_set, List.length_set]; exact S.len
  frz := fun j e' q g => by
    rcases get_set_some q with ⟨rfl, q2, q3⟩ | ⟨q1, q2⟩
    · cases q2
      exact ⟨v, by rw [List.getElem?_set_self (by rw [← S.len]; exact q3)], h⟩
    · obtain ⟨u, e1, e2⟩ := S.frz j e' q2 (fun z => g ((e.n j q1).mpr z))
      exact ⟨u, by rw [List.getElem?_set_ne (Ne.symm q1)]; exact e1, e2⟩
  own := fun j e' q g => by
    rcases get_set_some q with ⟨rfl, q2, q3⟩ | ⟨q1, q2⟩
    · exact absurd g (own_nf hg)
    · obtain ⟨p, e1, e2⟩ := S.own j e' q2 (by rw [← e.o j q1]; exact g)
      exact ⟨p, by rw [List.getElem?_set_ne (Ne.symm q1)]; exact e1, e2⟩
  sep := fun a b da db p qa qb ga gb sa sb => by
    rcases get_set_some qa with ⟨rfl, q2, q3⟩ | ⟨q1, q2⟩
    · exact absurd ga (own_nf hg)
    · rcases get_set_some qb with ⟨rfl, r2, r3⟩ | ⟨r1, r2⟩
      · exact absurd gb (own_nf hg)
      · rw [List.getElem?_set_ne (Ne.symm q1)] at sa
        rw [List.getElem?_set_ne (Ne.symm r1)] at sb
        exact S.sep a b da db p q2 r2 (by rw [← e.o a q1]; exact ga) (by rw [← e.o b r1]; exact gb) sa sb
  pin := S.pin_set e hp
  lk := S.lk_set e fun _ _ => by
    cases z : lockAt G' i with
    | none => rfl
    | some p => exact absurd (lockAt_own z) (own_nf hg)
  dp := by
    obtain ⟨fp, h⟩ := S.dp
    exact ⟨_, h.set e (.inl (deep_nf hg)) fun p g => absurd g (own_nf hg)⟩
/-- nothing told of the slot i -/
theorem St4.setE (S : St4 k G F0 H0 F ρ σ H) (o : Option V) (e : Eqx G G' i) (hp : ∀ a, pinAt G' i = some a → o = some (.ref a.a) ∧ i < σ.length ∧ ExcAt k F a.x a.cls a.dd) : St4 k G' F0 H0 F (ρ.set i none) (σ.set i o) H where
  ext := S.ext
  len := by rw [List.length_set, List.length_set]; exact S.len
  frz := fun j e' q g => by
    rcases get_set_some q with ⟨rfl, q2, q3⟩ | ⟨q1, q2⟩
    · cases q2
    · obtain ⟨u, e1, e2⟩ := S.frz j e' q2 (fun z => g ((e.n j q1).mpr z))
      exact ⟨u, by rw [List.getElem?_set_ne (Ne.symm q1)]; exact e1, e2⟩
  own := fun j e' q g => by
    rcases get_set_some q with ⟨rfl, q2, q3⟩ | ⟨q1, q2⟩
    · cases q2
    · obtain ⟨p, e1, e2⟩ := S.own j e' q2 (by rw [← e.o j q1]; exact g)
      exact ⟨p, by rw [List.getElem?_set_ne (Ne.symm q1)]; exact e1, e2⟩
  sep := fun a b da db p qa qb ga gb sa sb => by
    rcases get_set_some qa with ⟨rfl, q2, q3⟩ | ⟨q1, q2⟩
    · cases q2
    · rcases get_set_some qb with ⟨rfl, r2, r3⟩ | ⟨r1, r2⟩
      · cases r2
      · rw [List.getElem?_set_ne (Ne.symm q1)] at sa
        rw [List.getElem?_set_ne (Ne.symm r1)] at sb
        exact S.sep a b da db p q2 r2 (by rw [← e.o a q1]; exact ga) (by rw [← e.o b r1]; exact gb) sa sb
  pin := fun j a h => by
    by_cases hj : j = i
    · subst hj
      obtain ⟨h1, h2, h3⟩ := hp a h
      rw [List.getElem?_set_self (by rw [S.len]; exact h2), List.getElem?_set_self h2, h1]
      exact ⟨rfl, rfl, h3⟩
    · rw [e.p j hj] at h
      rw [List.getElem?_set_ne (Ne.symm hj), List.getElem?_set_ne (Ne.symm hj)]
      exact S.pin j a h
  lk := S.lk_set e fun _ h => by cases h
  dp := by
    obtain ⟨fp, h⟩ := S.dp
    exact ⟨_, h.set e (.inr rfl) fun p _ z => absurd rfl z⟩
theorem St4.setN (S : St4 k G F0 H0 F ρ σ H) (o : Option V) (hp : pinAt G i = none) : St4 k G F0 H0 F (ρ.set i none) (σ.set i o) H := S.setE o Eqx.refl fun a h => by rw [hp] at h; cases h
theorem St4.setO {p : Addr} {H1 : Hp} (S : St4 k G F0 H0 F ρ σ H1) (x : Ext F H1 F' H) (n : H1 p = none) (fp : F' p = none) (h : OwnAt k F' H p d) (e : Eqx G G' i) (hg : isOwn G' i = true) (hl : lockAt G' i = none) : St4 k G' F0 H0 F' (ρ.set i (some d)) (σ.set i (some (.ref p))) H where
  ext := S.ext.trans x
  len := by rw [List.length_set, List.length_set]; exact S.len
  frz := fun j e' q g => by
    rcases get_set_some q with ⟨rfl, q2, q3⟩ | ⟨q1, q2⟩
    · exact absurd (nf_own hg) g
    · obtain ⟨u, e1, e2⟩ := (S.step x).frz j e' q2 (fun z => g ((e.n j q1).mpr z))
      exact ⟨u, by rw [List.getElem?_set_ne (Ne.symm q1)]; exact e1, e2⟩
  own := fun j e' q g => by
    rcases get_set_some q with ⟨rfl, q2, q3⟩ | ⟨q1, q2⟩
    · cases q2
      exact ⟨p, by rw [List.getElem?_set_self (by rw [← S.len]; exact q3)], fp, S.ext.sh.free n, h⟩
    · obtain ⟨q, e1, e2⟩ := (S.step x).own j e' q2 (by rw [← e.o j q1]; exact g)
      exact ⟨q, by rw [List.getElem?_set_ne (Ne.symm q1)]; exact e1, e2⟩
  sep := fun a b da db p2 qa qb ga gb sa sb => by
    have far : ∀ j e', j ≠ i → ρ[j]? = some (some e') → isOwn G' j = true → σ[j]? = some (some (.ref p)) → False := fun j e' hj r1 r2 r3 => by
      obtain ⟨q, e1, _, _, e4⟩ := S.own j e' r1 (by rw [← e.o j hj]; exact r2)
      rw [r3] at e1
      cases e1
      obtain ⟨o, z⟩ := e4.there
      rw [n] at z
      cases z
    rcases get_set_some qa with ⟨rfl, q2, q3⟩ | ⟨q1, q2⟩
    · rcases get_set_some qb with ⟨rfl, r2, r3⟩ | ⟨r1, r2⟩
      · rfl
      · rw [List.getElem?_set_self (by rw [← S.len]; exact q3)] at sa
        cases sa
        rw [List.getElem?_set_ne (Ne.symm r1)] at sb
        exact (far b db r1 r2 gb sb).elim
    · rcases get_set_some qb with ⟨rfl, r2, r3⟩ | ⟨r1, r2⟩
      · rw [List.getElem?_set_self (by rw [← S.len]; exact r3)] at sb
        cases sb
        rw [List.getElem?_set_ne (Ne.symm q1)] at sa
        exact (far a da q1 q2 ga sa).elim
      · rw [List.getElem?_set_ne (Ne.symm q1)] at sa
        rw [List.getElem?_set_ne (Ne.symm r1)] at sb
        exact S.sep a b da db p2 q2 r2 (by rw [← e.o a q1]; exact ga) (by rw [← e.o b r1]; exact gb) sa sb
  pin := (S.step x).pin_set e (isOwn_pinAt hg)
  lk := (S.step x).lk_set e fun _ _ => hl
  dp := by
    obtain ⟨fp, h⟩ := S.dp
    refine ⟨_, (h.ext x).set e (.inl (own_deep hg)) fun q _ _ z j hj => ?_⟩
    cases z
    exact h.there hj n
/-- the object in an own slot is kept from now on -/
theorem St4.freeze (S : St4 k G F0 H0 F ρ σ H) (e : Eqx G G' i) (hg' : nf G' i ≠ true) (hp' : pinAt G' i = none) (hd : deepAt G i = none) : ∃ F', Same F F' ∧ St4 k G' F0 H0 F' ρ σ H := by
  have pin' : ∀ j a, pinAt G' j = some a → ρ[j]? = some none ∧ σ[j]? = some (some (.ref a.a)) ∧ ExcAt k F a.x a.cls a.dd := fun j a h => by
    have ne : j ≠ i := fun z => by rw [z, hp'] at h; cases h
    exact S.pin j a (by rw [← e.p j ne]; exact h)
  have lk' : ∀ j p d, lockAt G' j = some p → ρ[j]? = some (some d) → σ[j]? = some (some (.ref p)) := fun j p d h q => by
    have ne : j ≠ i := fun z => by subst z; exact hg' (nf_own (lockAt_own h))
    exact S.lk j p d (by rw [← e.l j ne]; exact h) q
  have same : (∀ x, ρ[i]? ≠ some (some x)) ∨ isOwn G i ≠ true → ∃ F', Same F F' ∧ St4 k G' F0 H0 F' ρ σ H := fun h => by
    have nt : ∀ j x, ρ[j]? = some (some x) → (isOwn G' j = true ↔ isOwn G j = true) := fun j x q => by
      by_cases hj : j = i
      · subst hj
        rcases h with h | h
        · exact absurd q (h x)
        · exact ⟨fun z => absurd z (own_nf hg'), fun z => absurd z h⟩
      · rw [e.o j hj]
    have hde : ∀ j, deepAt G' j = deepAt G j := fun j => by
      by_cases hj : j = i
      · rw [hj, hd, deep_nf hg']
      · exact e.d j hj
    have nn : ∀ j x, ρ[j]? = some (some x) → (nf G' j = true ↔ nf G j = true) := fun j x q => by rw [nf_of, nf_of, nt j x q, hde j]
    obtain ⟨fp, dp⟩ := S.dp
    exact ⟨F, Same.refl F, ⟨S.ext, S.len, fun j x q g => S.frz j x q fun z => g ((nn j x q).mpr z), fun j x q g => S.own j x q ((nt j x q).mp g), fun a b da db p2 qa qb ga gb sa sb => S.sep a b da db p2 qa qb ((nt a da qa).mp ga) ((nt b db qb).mp gb) sa sb, pin', lk', fp, dp.mode hde fun j d q g => (nt j d q).mp g⟩⟩
  by_cases hg : isOwn G i = true
  · cases e0 : ρ[i]? with
    | none => exact same (.inl fun x z => by rw [e0] at z; cases z)
    | some o =>
      cases o with
      | none => exact same (.inl fun x z => by rw [e0] at z; cases z)
      | some d =>
        obtain ⟨p, e1, e2, e3, e4⟩ := S.own i d e0 hg
        obtain ⟨o, e5, dv⟩ := e4.dv e2
        have sf : Same F (upd F p o) := fun b z q => by rw [upd_ne (ne_of_none q e2)]; exact q
        refine ⟨upd F p o, sf, ⟨S.ext.keep e3 e5, S.len, fun j x q g => ?_, fun j x q g => ?_, fun a b da db p2 qa qb ga gb sa sb => ?_, fun j a h => by
          obtain ⟨h1, h2, h3⟩ := pin' j a h
          exact ⟨h1, h2, h3.mono sf⟩, lk', by
          obtain ⟨fp, dp⟩ := S.dp
          refine ⟨fp, (dp.mode (G' := G') (fun j => ?_) fun j x q g => ?_).kept sf fun j a ha => ?_⟩
          · by_cases hj : j = i
            · rw [hj, hd, deep_nf hg']
            · exact e.d j hj
          · have hj : j ≠ i := fun z => by subst z; exact own_nf hg' g
            rw [← e.o j hj]; exact g
          · have ne : a ≠ p := fun z => by subst z; exact dp.ow i j d a hg e0 e1 ha
            rw [upd_ne ne]
            exact (dp.fr j a ha).1⟩⟩
        · by_cases hj : j = i
          · subst hj
            rw [e0] at q
            cases q
            exact ⟨_, e1, dv⟩
          · obtain ⟨u, f1, f2⟩ := S.frz j x q (fun z => g ((e.n j hj).mpr z))
            exact ⟨u, f1, f2.mono sf⟩
        · have hj : j ≠ i := fun z => by subst z; exact own_nf hg' g
          rw [e.o j hj] at g
          obtain ⟨q2, f1, f2, f3, f4⟩ := S.own j x q g
          have ne : q2 ≠ p := fun z => by
            subst z
            exact hj (S.sep j i x d q2 q e0 g hg f1 e1)
          refine ⟨q2, f1, by rw [upd_ne ne]; exact f2, f3, ?_⟩
          cases f4 with
          | lst a1 a2 => exact .lst a1 (a2.mono sf)
          | dct a1 a2 a3 => exact .dct a1 a2 (a3.mono sf)
          | dtt a1 a2 a3 => exact .dtt a1 a2 (a3.mono sf)
        · have na : a ≠ i := fun z => by subst z; exact own_nf hg' ga
          have nb : b ≠ i := fun z => by subst z; exact own_nf hg' gb
          exact S.sep a b da db p2 qa qb (by rw [← e.o a na]; exact ga) (by rw [← e.o b nb]; exact gb) sa sb
  · exact same (.inr hg)
end
theorem PostS.grow {k : KC} {Gn Gl : List Md} {W : WE} {ro : RM} {F0 H0 F F' : Hp} {Dn : Ends} {s : SR} (x : Same F F') (h : PostS k Gn Gl W ro F0 H0 F Dn s) : PostS k Gn Gl W ro F0 H0 F' Dn s := by
  cases s with
  | nx r => exact fun F2 σ' H' y => h F2 σ' H' (x.trans y)
  | bk r => exact fun F2 σ' H' y => h F2 σ' H' (x.trans y)
  | ct r => exact fun F2 σ' H' y => h F2 σ' H' (x.trans y)
  | ret d => exact h
  | exc e r => exact fun cls dd G F1 F2 σ' H1 H' ok y => h cls dd G F1 F2 σ' H1 H' ok (x.trans y)
  | stuck => exact h

/-! ### statements -/
def sOf (f : R D) (r : Env) (n : D → SR) : SR :=
  match f with
  | .ok d => n d
  | .exc x => .exc x r
  | .stuck => .stuck
def sOfB (f : R Bool) (r : Env) (n : Bool → SR) : SR :=
  match f with
  | .ok d => n d
  | .exc x => .exc x r
  | .stuck => .stuck
def sAsg (i : Nat) (f : Env → R D) : Env → SR := fun r => sOf (f r) r fun d => .nx (r.set i (some d))
def sDrop (f : Env → R D) : Env → SR := fun r => sOf (f r) r fun _ => .nx r
def sRet (f : Env → R D) : Env → SR := fun r => sOf (f r) r .ret
def sIf (t : Env → R Bool) (a b : Env → SR) : Env → SR := fun r => sOfB (t r) r fun c => if c = true then a r else b r
def sNil : Env → SR := .nx
def sSeq (a b : Env → SR) : Env → SR := fun r => match a r with
  | .nx r' => b r'
  | s => s
section
variable {X : Cx} {k : KC} {G G1 Gn Gl : List Md} {W : WE} {ro : RM} {m : Mo} {e c : Expr} {f : Env → R D} {t : Env → R Bool} {st : Stmt} {sts as bs : List Stmt} {g h : Env → SR} {pos : Pos}
/-- an expression's post from a statement's -/
theorem post_of (ok : OkE W.ge G) {F0 H0 F H : Hp} {ρ : Env} {σ : Sl} {Dn : Ends} {n : D → SR} {N : D → Prop} (S : St4 k G F0 H0 F ρ σ H) (q : PostS k Gn Gl W ro F0 H0 F Dn (sOf (f ρ) ρ n)) (i : ∀ d, PostS k Gn Gl W ro F0 H0 F Dn (n d) → N d) : PostR k F H W σ N (f ρ) := by
  cases z : f ρ with
  | ok d => rw [z] at q; exact i d q
  | exc x => rw [z] at q; exact fun cls dd F' H' y z => q cls dd G F F' σ H H' ok (Same.refl F) S y z
  | stuck => rw [z] at q; exact q
theorem post_ofB (ok : OkE W.ge G) {F0 H0 F H : Hp} {ρ : Env} {σ : Sl} {Dn : Ends} {n : Bool → SR} {N : Bool → Prop} (S : St4 k G F0 H0 F ρ σ H) (q : PostS k Gn Gl W ro F0 H0 F Dn (sOfB (t ρ) ρ n)) (i : ∀ d, PostS k Gn Gl W ro F0 H0 F Dn (n d) → N d) : PostR k F H W σ N (t ρ) := by
  cases z : t ρ with
  | ok d => rw [z] at q; exact i d q
  | exc x => rw [z] at q; exact fun cls dd F' H' y z => q cls dd G F F' σ H H' ok (Same.refl F) S y z
  | stuck => rw [z] at q; exact q
theorem pub_nil : PuB X k G G Gl W ro [] sNil := .mk fun F0 H0 F ρ σ H Dn S q => canB_of pss_nil (q F σ H (Same.refl F) S)
theorem pub_cons (h1 : PuS X k G G1 Gl W ro st g) (h2 : PuB X k G1 Gn Gl W ro sts h) : PuB X k G Gn Gl W ro (st :: sts) (sSeq g h) := .mk fun F0 H0 F ρ σ H Dn S q => by
  refine canB_of (pss_cons ps_can pb_can) (h1.run F0 H0 F ρ σ H { Dn with nx := canB X sts Dn } S ?_)
  unfold sSeq at q
  cases z : g ρ with
  | nx r =>
    rw [z] at q
    exact fun F' σ' H' y S' => h2.run F0 H0 F' r σ' H' Dn S' (PostS.grow y q)
  | bk r => rw [z] at q; exact q
  | ct r => rw [z] at q; exact q
  | ret d => rw [z] at q; exact q
  | exc e r => rw [z] at q; exact q
  | stuck => rw [z] at q; exact q
theorem pub_one (h1 : PuS X k G Gn Gl W ro st g) : PuB X k G Gn Gl W ro [st] g := .mk fun F0 H0 F ρ σ H Dn S q => canB_of (pss_one ps_can) (h1.run F0 H0 F ρ σ H Dn S q)
/-- an own slot is given up -/
theorem pub_freeze (i : Nat) (e : Eqx G G1 i) (h : PuB X k G1 Gn Gl W ro sts g) (hg : nf G1 i ≠ true := by exact Bool.false_ne_true) (hp : pinAt G1 i = none := by rfl) (hd : deepAt G i = none := by rfl) : PuB X k G Gn Gl W ro sts g := .mk fun F0 H0 F ρ σ H Dn S q => by
  obtain ⟨F', x, S'⟩ := S.freeze e hg hp hd
  exact h.run F0 H0 F' ρ σ H Dn S' (PostS.grow x q)
/-- .. at the end -/
theorem pub_end (i : Nat) (e : Eqx G1 Gn i) (h : PuB X k G G1 Gl W ro sts g) (hg : nf Gn i ≠ true := by exact Bool.false_ne_true) (hp : pinAt Gn i = none := by rfl) (hd : deepAt G1 i = none := by rfl) : PuB X k G Gn Gl W ro sts g := .mk fun F0 H0 F ρ σ H Dn S q => by
  refine h.run F0 H0 F ρ σ H Dn S ?_
  cases z : g ρ with
  | nx r =>
    rw [z] at q
    exact fun F' σ' H' y S' => by
      obtain ⟨F2, x, S2⟩ := S'.freeze e hg hp hd
      exact q F2 σ' H' (y.trans x) S2
  | bk r => rw [z] at q; exact q
  | ct r => rw [z] at q; exact q
  | ret d => rw [z] at q; exact q
  | exc e r => rw [z] at q; exact q
  | stuck => rw [z] at q; exact q
/-- .. ahead of break and continue -/
theorem pus_freeze (i : Nat) (e : Eqx G G1 i) (h : PuS X k G1 Gn Gl W ro st g) (hg : nf G1 i ≠ true := by exact Bool.false_ne_true) (hp : pinAt G1 i = none := by rfl) (hd : deepAt G i = none := by rfl) : PuS X k G Gn Gl W ro st g := .mk fun F0 H0 F ρ σ H Dn S q => by
  obtain ⟨F', x, S'⟩ := S.freeze e hg hp hd
  exact h.run F0 H0 F' ρ σ H Dn S' (PostS.grow x q)
theorem pus_pass : PuS X k G G Gl W ro (.Pass pos) sNil := .mk fun F0 H0 F ρ σ H Dn S q => canS_of ps_pass (q F σ H (Same.refl F) S)
theorem pus_break : PuS X k G Gn G W ro (.Break pos) .bk := .mk fun F0 H0 F ρ σ H Dn S q => canS_of ps_break (q F σ H (Same.refl F) S)
theorem pus_continue : PuS X k G Gn G W ro (.Continue pos) .ct := .mk fun F0 H0 F ρ σ H Dn S q => canS_of ps_continue (q F σ H (Same.refl F) S)
theorem pus_if (J : Jx X k G W) (hc : PuT X k G W c t) (ha : PuB X k G Gn Gl W ro as g) (hb : PuB X k G Gn Gl W ro bs h) : PuS X k G Gn Gl W ro (.If c as bs pos) (sIf t g h) := .mk fun F0 H0 F ρ σ H Dn S q => by
  refine canS_of (ps_if pt_can pb_can pb_can) (hc.run F0 H0 F ρ σ H _ S (post_ofB J.oke S q fun b q1 F' H' x => ?_))
  cases b with
  | true =>
    rw [if_pos rfl] at q1 ⊢
    exact ha.run F0 H0 F' ρ σ H' Dn (S.step x) (PostS.grow x.sf q1)
  | false =>
    rw [if_neg Bool.false_ne_true] at q1 ⊢
    exact hb.run F0 H0 F' ρ σ H' Dn (S.step x) (PostS.grow x.sf q1)
/-- e, dropped -/
theorem pus_expr (J : Jx X k G W) (he : PuE X k G W m e f) (hs : swapsWith e none pos.line X.env = pure false := by rfl) : PuS X k G G Gl W ro (.Expr e pos) (sDrop f) := .mk fun F0 H0 F ρ σ H Dn S q =>
  canS_of (ps_expr pe_can hs) (he.run F0 H0 F ρ σ H _ S (post_of J.oke S q fun d q1 v F' H' x _ => q1 F' σ H' x.sf (S.step x)))
/-- return e -/
theorem pus_ret (J : Jx X k G W) (he : PuE X k G W .frz e f) : PuS X k G Gn Gl W .frz (.Return (some e) pos) (sRet f) := .mk fun F0 H0 F ρ σ H Dn S q =>
  canS_of (ps_ret pe_can) (he.run F0 H0 F ρ σ H _ S (post_of J.oke S q fun d q1 v F' H' x r => q1 v F' H' (S.ext.trans x) r))
theorem pus_retO (J : Jx X k G W) (he : PuE X k G W .own e f) : PuS X k G Gn Gl W .own (.Return (some e) pos) (sRet f) := .mk fun F0 H0 F ρ σ H Dn S q =>
  canS_of (ps_ret pe_can) (he.run F0 H0 F ρ σ H _ S (post_of J.oke S q fun d q1 v F' H' x r => q1 v F' H' (S.ext.trans x) (by
    obtain ⟨p, e, h1, h2, h3⟩ := r
    exact ⟨p, e, S.ext.sh.free h1, h2, h3⟩)))
/-- return of a name that owns its object -/
theorem pus_retV {x : Str} {p1 : Pos} (i : Nat) (hN : X.N[i]? = some x := by rfl) (hg : isOwn G i = true := by rfl)
    (hv : Vis X.env.scope x := by first | exact Or.inl rfl | exact Or.inr (Or.inl rfl) | exact Or.inr (Or.inr rfl)) (hd : (x == ("__debug__" : Str)) = false := by decide) (hcd : (x == ("__classdict__" : Str)) = false := by decide) :
    PuS X k G Gn Gl W .own (.Return (some (.Name x p1)) pos) (sRet (eVar i)) := .mk fun F0 H0 F ρ σ H Dn S q => by
  cases e : ρ[i]? with
  | none => simp only [sRet, eVar, e, sOf] at q; exact q.elim
  | some o =>
    cases o with
    | none => simp only [sRet, eVar, e, sOf] at q; exact q.elim
    | some d =>
      simp only [sRet, eVar, e, sOf] at q
      obtain ⟨p, e1, fp, h0, ow⟩ := S.own i d e hg
      exact canS_of (ps_ret (pe_var hN hv hd hcd)) ⟨_, e1, q _ F H S.ext ⟨p, rfl, h0, fp, ow⟩⟩
/-- name = e -/
theorem pus_setG {x : Str} {p1 : Pos} (i : Nat) (J : Jx X k G W) (he : PuE X k G W .frz e f) (e1 : Eqx G G1 i) (hi : X.N[i]? = some x := by rfl) (hg : nf G1 i ≠ true := by exact Bool.false_ne_true) (hp : pinAt G1 i = none := by rfl)
    (hx : Loc X.env.scope x := by first | exact Or.inl rfl | exact Or.inr rfl) (hs : swapsWith e (some (.Name x p1)) pos.line X.env = pure false := by rfl)
    (hf : X.fn x = true ∨ X.env.scope.names.lookup x = some .local := by first | exact .inl rfl | exact .inr rfl) : PuS X k G G1 Gl W ro (.Assign [.Name x p1] e pos) (sAsg i f) := .mk fun F0 H0 F ρ σ H Dn S q =>
  canS_of (ps_set (i := i) J.nd hi hx pe_can hs hf) (he.run F0 H0 F ρ σ H _ S (post_of J.oke S q fun d q1 v F' H' x r => q1 F' _ H' x.sf ((S.step x).setF r e1 hg hp)))
theorem pus_set {x : Str} {p1 : Pos} (i : Nat) (J : Jx X k G W) (he : PuE X k G W .frz e f) (hi : X.N[i]? = some x := by rfl) (hg : nf G i ≠ true := by exact Bool.false_ne_true) (hp : pinAt G i = none := by rfl)
    (hx : Loc X.env.scope x := by first | exact Or.inl rfl | exact Or.inr rfl) (hs : swapsWith e (some (.Name x p1)) pos.line X.env = pure false := by rfl)
    (hf : X.fn x = true ∨ X.env.scope.names.lookup x = some .local := by first | exact .inl rfl | exact .inr rfl) : PuS X k G G Gl W ro (.Assign [.Name x p1] e pos) (sAsg i f) := pus_setG i J he Eqx.refl hi hg hp hx hs hf
theorem pus_setOG {x : Str} {p1 : Pos} (i : Nat) (J : Jx X k G W) (he : PuE X k G W .own e f) (e1 : Eqx G G1 i) (hi : X.N[i]? = some x := by rfl) (hg : isOwn G1 i = true := by rfl) (hl : lockAt G1 i = none := by rfl)
    (hx : Loc X.env.scope x := by first | exact Or.inl rfl | exact Or.inr rfl) (hs : swapsWith e (some (.Name x p1)) pos.line X.env = pure false := by rfl)
    (hf : X.fn x = true ∨ X.env.scope.names.lookup x = some .local := by first | exact .inl rfl | exact .inr rfl) : PuS X k G G1 Gl W ro (.Assign [.Name x p1] e pos) (sAsg i f) := .mk fun F0 H0 F ρ σ H Dn S q =>
  canS_of (ps_set (i := i) J.nd hi hx pe_can hs hf) (he.run F0 H0 F ρ σ H _ S (post_of J.oke S q fun d q1 v F' H' x r => by
    obtain ⟨p, rfl, h1, h2, h3⟩ := r
    exact q1 F' _ H' x.sf (S.setO x h1 h2 h3 e1 hg hl)))
theorem pus_setO {x : Str} {p1 : Pos} (i : Nat) (J : Jx X k G W) (he : PuE X k G W .own e f) (hi : X.N[i]? = some x := by rfl) (hg : isOwn G i = true := by rfl) (hl : lockAt G i = none := by rfl)
    (hx : Loc X.env.scope x := by first | exact Or.inl rfl | exact Or.inr rfl) (hs : swapsWith e (some (.Name x p1)) pos.line X.env = pure false := by rfl)
    (hf : X.fn x = true ∨ X.env.scope.names.lookup x = some .local := by first | exact .inl rfl | exact .inr rfl) : PuS X k G G Gl W ro (.Assign [.Name x p1] e pos) (sAsg i f) := pus_setOG i J he Eqx.refl hi hg hl hx hs hf

/-! ### targets -/
def canG (X : Cx) (tg : Expr) : TG := fun v σ H Q => ∀ pins s u, Inv X pins σ H s → RelV v u → wpAny (model X.prog X.w) X.A (assign tg X.env u) (fun _ s' => ∃ σ' H', Inv X pins σ' H' s' ∧ Q σ' H') X.xe s
theorem pg_can {tg : Expr} : PG X tg (canG X tg) := ⟨fun pins s σ H v u Q I r h => h pins s u I r⟩
theorem canG_of {tg : Expr} {t : TG} (h : PG X tg t) {v : V} {σ : Sl} {H : Hp} {Q : Sl → Hp → Prop} (q : t v σ H Q) : canG X tg v σ H Q := fun pins s u I r => h.run pins s σ H v u Q I r q
def canGs (X : Cx) (ts : List Expr) : TGs := fun vs σ H Q => ∀ pins s us, Inv X pins σ H s → Vals vs us → wpAny (model X.prog X.w) X.A (assignInOrder ((assignEach ts X.env).map (·.2)) us) (fun _ s' => ∃ σ' H', Inv X pins σ' H' s' ∧ Q σ' H') X.xe s
theorem pgs_can {ts : List Expr} : PGs X ts (canGs X ts) := ⟨fun pins s σ H vs us Q I r h => h pins s us I r⟩
theorem canGs_of {ts : List Expr} {t : TGs} (h : PGs X ts t) {vs : List V} {σ : Sl} {H : Hp} {Q : Sl → Hp → Prop} (q : t vs σ H Q) : canGs X ts vs σ H Q := fun pins s us I r => h.run pins s σ H vs us Q I r q
/-- what a target leaves alone -/
def Wp (vs : List Nat) (σ σ' : Sl) : Prop := σ'.length = σ.length ∧ ∀ j, j ∉ vs → σ'[j]? = σ[j]?
theorem Wp.refl {vs : List Nat} {σ : Sl} : Wp vs σ σ := ⟨rfl, fun _ _ => rfl⟩
theorem Wp.trans {vs ws : List Nat} {σ σ1 σ2 : Sl} (a : Wp vs σ σ1) (b : Wp ws σ1 σ2) : Wp (vs ++ ws) σ σ2 :=
  ⟨b.1.trans a.1, fun j h => (b.2 j fun z => h (List.mem_append_right _ z)).trans (a.2 j fun z => h (List.mem_append_left _ z))⟩
structure PuG (X : Cx) (k : KC) (G : List Md) (tg : Expr) (vs : List Nat) (g : D → Env → Option Env) : Prop where
  run : ∀ (F0 H0 F : Hp) (r r' : Env) (σ : Sl) (H : Hp) (v : V) (d : D) (Q : Sl → Hp → Prop), St4 k G F0 H0 F r σ H → Dv k F v d → g d r = some r' → (∀ σ', St4 k G F0 H0 F r' σ' H → Wp vs σ σ' → Q σ' H) → canG X tg v σ H Q
structure PuGs (X : Cx) (k : KC) (G : List Md) (ts : List Expr) (ws : List Nat) (g : List D → Env → Option Env) : Prop where
  run : ∀ (F0 H0 F : Hp) (r r' : Env) (σ : Sl) (H : Hp) (vs : List V) (ds : List D) (Q : Sl → Hp → Prop), St4 k G F0 H0 F r σ H → DvAll k F vs ds → g ds r = some r' → (∀ σ', St4 k G F0 H0 F r' σ' H → Wp ws σ σ' → Q σ' H) → canGs X ts vs σ H Q
def gN (i : Nat) : D → Env → Option Env := fun d r => some (r.set i (some d))
def gT (n : Nat) (g : List D → Env → Option Env) : D → Env → Option Env := fun d r => match d with
  | .tup ds => if ds.length = n then g ds r else none
  | _ => none
def gsNil : List D → Env → Option Env := fun ds r => match ds with
  | [] => some r
  | _ => none
def gsCons (g : D → Env → Option Env) (h : List D → Env → Option Env) : List D → Env → Option Env := fun ds r => match ds with
  | d :: ds => (g d r).bind (h ds)
  | [] => none
theorem pug_name {x : Str} {p1 : Pos} (i : Nat) (J : Jx X k G W) (hi : X.N[i]? = some x := by rfl) (hg : nf G i ≠ true := by exact Bool.false_ne_true) (hp : pinAt G i = none := by rfl)
    (hx : Loc X.env.scope x := by first | exact Or.inl rfl | exact Or.inr rfl) (hf : X.fn x = true ∨ X.env.scope.names.lookup x = some .local := by first | exact .inl rfl | exact .inr rfl) : PuG X k G (.Name x p1) [i] (gN i) := .mk fun F0 H0 F r r' σ H v d Q S dv e q => by
  cases e
  exact canG_of (pg_name (i := i) J.nd hi hx hf) (q _ (S.setF dv Eqx.refl hg hp) ⟨by rw [List.length_set], fun j h => by rw [List.getElem?_set_ne (fun z => h (by rw [z]; exact List.mem_singleton.mpr rfl))]⟩)
theorem pugs_nil : PuGs X k G [] [] gsNil := .mk fun F0 H0 F r r' σ H vs ds Q S dv e q => by
  cases dv with
  | nil => cases e; exact canGs_of pgs_nil ⟨rfl, q σ S Wp.refl⟩
  | cons _ _ => cases e
theorem pugs_cons {tg : Expr} {ts : List Expr} {g1 : D → Env → Option Env} {gs : List D → Env → Option Env} {ws1 ws2 : List Nat} (h1 : PuG X k G tg ws1 g1) (h2 : PuGs X k G ts ws2 gs)
    (hs : (assignEach (tg :: ts) X.env).map (·.2) = assign tg X.env :: (assignEach ts X.env).map (·.2) := by rfl) : PuGs X k G (tg :: ts) (ws1 ++ ws2) (gsCons g1 gs) := .mk fun F0 H0 F r r' σ H vs ds Q S dv e q => by
  cases dv with
  | nil => cases e
  | cons dv1 dvr =>
    rename_i v vs d ds
    simp only [gsCons] at e
    cases z : g1 d r with
    | none => rw [z] at e; cases e
    | some r1 =>
      rw [z] at e
      refine canGs_of (pgs_cons pg_can pgs_can hs) ⟨v, vs, rfl, h1.run F0 H0 F r r1 σ H v d _ S dv1 z fun σ1 S1 w1 => ?_⟩
      exact h2.run F0 H0 F r1 r' σ1 H vs ds Q S1 dvr e fun σ2 S2 w2 => q σ2 S2 (w1.trans w2)
theorem pug_tup (hc : X.calm = true) {ts : List Expr} {kk n : Nat} {gs : List D → Env → Option Env} {ws : List Nat} (h : PuGs X k G ts ws gs) (hn : (assignEach ts X.env).length = n := by rfl) (hst : (assignEach ts X.env).findIdx? (·.1) = none := by rfl) : PuG X k G (.Tuple ts kk pos) ws (gT n gs) := .mk fun F0 H0 F r r' σ H v d Q S dv e q => by
  cases dv with
  | tup h1 h2 =>
    rename_i a xs ds
    unfold gT at e
    by_cases hl : ds.length = n
    · simp only [if_pos hl] at e
      refine canG_of (pg_tup hc pgs_can hn hst) ⟨a, xs, rfl, SqT.of (S.sub _ _ h1), by rw [h2.length]; exact hl, ?_⟩
      exact h.run F0 H0 F r r' σ H xs ds Q S h2 e q
    · simp only [if_neg hl] at e
      cases e
  | _ => cases e
/-- target = e -/
def sAsgG (g : D → Env → Option Env) (f : Env → R D) : Env → SR := fun r => sOf (f r) r fun d => match g d r with
  | some r' => .nx r'
  | none => .stuck
theorem pus_asg (J : Jx X k G W) {tg : Expr} {ws : List Nat} {g : D → Env → Option Env} (he : PuE X k G W .frz e f) (hg : PuG X k G tg ws g) (hs : swapsWithSole [tg] e pos.line X.env = pure false := by rfl) (hw : swappedStores [tg] e X.env = pure none := by rfl)
    (h1 : (assignEach [tg] X.env).map (·.2) = [assign tg X.env] := by rfl) : PuS X k G G Gl W ro (.Assign [tg] e pos) (sAsgG g f) := .mk fun F0 H0 F ρ σ H Dn S q =>
  canS_of (ps_asg pe_can pg_can hs hw h1) (he.run F0 H0 F ρ σ H _ S (post_of J.oke S q fun d q1 v F' H' x r => by
    cases z : g d ρ with
    | none => rw [z] at q1; exact q1.elim
    | some r' =>
      rw [z] at q1
      exact hg.run F0 H0 F' ρ r' σ H' v d _ (S.step x) r z fun σ' S' _ => q1 F' σ' H' x.sf S'))
end

/-! ### what is walked -/
structure Wk (k : KC) (F : Hp) (J : It) (ds : List D) : Prop where
  stop : ∀ F' H, Same F F' → Same F' H → J.stop ds.length H
  go : ∀ (i : Nat) F' H, Same F F' → Same F' H → i < ds.length → J.go i H
  yld : ∀ (i : Nat) F' H x H', Same F F' → Same F' H → i < ds.length → J.yld i H x H' → ∃ d F2, ds[i]? = some d ∧ Ext F' H F2 H' ∧ Dv k F2 x d
def PuI (X : Cx) (k : KC) (G : List Md) (W : WE) (tg iter : Expr) (f : Env → R (List D)) : Prop :=
  ∃ wi, PI X tg iter wi ∧ ∀ (F0 H0 F : Hp) (r : Env) (σ : Sl) (H : Hp) (Q : It → Hp → Prop), St4 k G F0 H0 F r σ H →
    PostR k F H W σ (fun ds => ∀ J F' H', Ext F H F' H' → Wk k F' J ds → Q J H') (f r) → wi σ H Q
/-- a loop over items -/
def forD (g : D → Env → Option Env) (b : Env → SR) : List D → Env → SR
  | [], r => .nx r
  | d :: ds, r => match g d r with
    | none => .stuck
    | some r1 => match b r1 with
      | .nx r2 => forD g b ds r2
      | .ct r2 => forD g b ds r2
      | .bk r2 => .nx r2
      | s => s
def sFor (f : Env → R (List D)) (g : D → Env → Option Env) (b : Env → SR) : Env → SR := fun r => match f r with
  | .ok ds => forD g b ds r
  | .exc x => .exc x r
  | .stuck => .stuck
section
variable {X : Cx} {k : KC} {G G1 Gn Gl : List Md} {W : WE} {ro : RM} {m : Mo} {e c tg iter : Expr} {f : Env → R D} {t : Env → R Bool} {bs : List Stmt} {b : Env → SR} {pos : Pos}
theorem pus_for {fi : Env → R (List D)} {g : D → Env → Option Env} {ws : List Nat} (K : Jx X k G W) (J : Jc X) (hi : PuI X k G W tg iter fi) (hg : PuG X k G tg ws g) (hb : PuB X k G G G W ro bs b)
    (hs : ∀ x, foldedSetIterable iter X.env x = pure x := by intro _; rfl) : PuS X k G G Gl W ro (.For tg iter bs [] pos) (sFor fi g b) := .mk fun F0 H0 F ρ σ H Dn S q => by
  obtain ⟨wi, pi, qi⟩ := hi
  refine canS_of (ps_for J.po J.calm pi pg_can pb_can hs) (qi F0 H0 F ρ σ H _ S ?_)
  unfold sFor at q
  cases z : fi ρ with
  | exc x => rw [z] at q; exact fun cls dd F' H' y z => q cls dd G F F' σ H H' K.oke (Same.refl F) S y z
  | stuck => rw [z] at q; exact q
  | ok ds =>
    rw [z] at q
    intro Jt F1 H1 x1 wk
    refine ⟨fun i n σ2 H2 => n + i = ds.length ∧ ∃ F2 r2, Same F1 F2 ∧ St4 k G F0 H0 F2 r2 σ2 H2 ∧ PostS k G Gl W ro F0 H0 F2 Dn (forD g b (ds.drop i) r2), ⟨ds.length, by omega, F1, ρ, Same.refl F1, S.step x1, PostS.grow x1.sf (by rw [List.drop_zero]; exact q)⟩, ?_⟩
    rintro i n σ2 H2 ⟨hn, F2, r2, sf, S2, q2⟩
    by_cases hlt : i < ds.length
    · refine .inr ⟨wk.go i F2 H2 sf S2.sub hlt, fun σ' H' => n - 1 + (i + 1) = ds.length ∧ ∃ F2 r2, Same F1 F2 ∧ St4 k G F0 H0 F2 r2 σ' H' ∧ PostS k G Gl W ro F0 H0 F2 Dn (forD g b (ds.drop (i + 1)) r2), fun σ' H' hN => ⟨n - 1, by omega, hN⟩, fun x H' hy => ?_⟩
      obtain ⟨d, F3, e1, x3, dv⟩ := wk.yld i F2 H2 x H' sf S2.sub hlt hy
      have ed : ds.drop i = d :: ds.drop (i + 1) := by
        obtain ⟨hh, e2⟩ := List.getElem?_eq_some_iff.mp e1
        rw [List.drop_eq_getElem_cons hh, e2]
      rw [ed] at q2
      simp only [forD] at q2
      cases zg : g d r2 with
      | none => rw [zg] at q2; exact q2.elim
      | some r3 =>
        rw [zg] at q2
        refine hg.run F0 H0 F3 r2 r3 σ2 H' x d _ (S2.step x3) dv zg fun σ3 S3 _ => ?_
        refine hb.run F0 H0 F3 r3 σ3 H' _ S3 ?_
        cases zb : b r3 with
        | nx r4 => simp only [zb] at q2; exact fun F' σ' H' y S' => ⟨by omega, F', r4, sf.trans (x3.sf.trans y), S', PostS.grow (x3.sf.trans y) q2⟩
        | ct r4 => simp only [zb] at q2; exact fun F' σ' H' y S' => ⟨by omega, F', r4, sf.trans (x3.sf.trans y), S', PostS.grow (x3.sf.trans y) q2⟩
        | bk r4 => simp only [zb] at q2; exact fun F' σ' H' y S' => q2 F' σ' H' (x3.sf.trans y) S'
        | ret d => simp only [zb] at q2; exact q2
        | exc e r => simp only [zb] at q2; exact PostS.grow x3.sf q2
        | stuck => simp only [zb] at q2; exact q2
    · have hi : i = ds.length := by omega
      subst hi
      refine .inl ⟨wk.stop F2 H2 sf S2.sub, ?_⟩
      rw [List.drop_length] at q2
      exact q2 F2 σ2 H2 (Same.refl F2) S2
/-- while, by fuel -/
def whileF (t : Env → R Bool) (b : Env → SR) : Nat → Env → SR
  | 0, _ => .stuck
  | n + 1, r => match t r with
    | .ok true => match b r with
      | .nx r2 => whileF t b n r2
      | .ct r2 => whileF t b n r2
      | .bk r2 => .nx r2
      | s => s
    | .ok false => .nx r
    | .exc x => .exc x r
    | .stuck => .stuck
open Classical in
noncomputable def sWhile (t : Env → R Bool) (b : Env → SR) : Env → SR := fun r => if h : ∃ n, whileF t b n r ≠ .stuck then whileF t b (choose h) r else .stuck
theorem whileF_up {t : Env → R Bool} {b : Env → SR} : ∀ {n : Nat} {r : Env} {s : SR}, whileF t b n r = s → s ≠ .stuck → whileF t b (n + 1) r = s
  | 0, r, s, h, ns => absurd h.symm ns
  | n + 1, r, s, h, ns => by
    rw [whileF] at h
    rw [whileF]
    cases zt : t r with
    | exc x => rw [zt] at h; exact h
    | stuck => rw [zt] at h; exact h
    | ok c =>
      rw [zt] at h
      cases c with
      | false => exact h
      | true =>
        simp only at h ⊢
        cases zb : b r with
        | nx r2 => simp only [zb] at h ⊢; exact whileF_up h ns
        | ct r2 => simp only [zb] at h ⊢; exact whileF_up h ns
        | bk r2 => simp only [zb] at h ⊢; exact h
        | ret d => simp only [zb] at h ⊢; exact h
        | exc e r => simp only [zb] at h ⊢; exact h
        | stuck => simp only [zb] at h ⊢; exact h
theorem whileF_le {t : Env → R Bool} {b : Env → SR} {n : Nat} {r : Env} {s : SR} (h : whileF t b n r = s) (ns : s ≠ .stuck) : ∀ m, whileF t b (n + m) r = s
  | 0 => h
  | m + 1 => whileF_up (whileF_le h ns m) ns
theorem sWhile_eq {t : Env → R Bool} {b : Env → SR} {n : Nat} {r : Env} {s : SR} (h : whileF t b n r = s) (ns : s ≠ .stuck) : sWhile t b r = s := by
  have ex : ∃ n, whileF t b n r ≠ .stuck := ⟨n, by rw [h]; exact ns⟩
  unfold sWhile
  rw [dif_pos ex]
  have hc := Classical.choose_spec ex
  have a := whileF_le rfl hc n
  have c := whileF_le h ns (Classical.choose ex)
  rw [Nat.add_comm] at c
  exact a.symm.trans c
theorem pus_while (K : Jx X k G W) (J : Jc X) (hc : PuT X k G W c t) (hb : PuB X k G G G W ro bs b) : PuS X k G G Gl W ro (.While c bs [] pos) (sWhile t b) := .mk fun F0 H0 F ρ σ H Dn S q => by
  have ex : ∃ n, PostS k G Gl W ro F0 H0 F Dn (whileF t b n ρ) := by
    unfold sWhile at q
    by_cases h : ∃ n, whileF t b n ρ ≠ .stuck
    · rw [dif_pos h] at q
      exact ⟨_, q⟩
    · rw [dif_neg h] at q
      exact q.elim
  obtain ⟨n0, q0⟩ := ex
  refine canS_of (ps_while J.po pt_can pb_can) ⟨fun n σ2 H2 => ∃ F2 r2, St4 k G F0 H0 F2 r2 σ2 H2 ∧ PostS k G Gl W ro F0 H0 F2 Dn (whileF t b n r2), ⟨n0, F, ρ, S, q0⟩, ?_⟩
  rintro n σ2 H2 ⟨F2, r2, S2, q2⟩
  cases n with
  | zero => exact q2.elim
  | succ n =>
    rw [whileF] at q2
    refine hc.run F0 H0 F2 r2 σ2 H2 _ S2 ?_
    cases zt : t r2 with
    | exc x => rw [zt] at q2; exact fun cls dd F' H' y z => q2 cls dd G F2 F' σ2 H2 H' K.oke (Same.refl F2) S2 y z
    | stuck => rw [zt] at q2; exact q2
    | ok c =>
      rw [zt] at q2
      intro F3 H3 x3
      cases c with
      | false =>
        rw [if_neg Bool.false_ne_true]
        exact q2 F3 σ2 H3 x3.sf (S2.step x3)
      | true =>
        rw [if_pos rfl]
        refine ⟨fun σ' H' => ∃ F2 r2, St4 k G F0 H0 F2 r2 σ' H' ∧ PostS k G Gl W ro F0 H0 F2 Dn (whileF t b n r2), fun σ' H' hN => ⟨n, by omega, hN⟩, ?_⟩
        refine hb.run F0 H0 F3 r2 σ2 H3 _ (S2.step x3) ?_
        cases zb : b r2 with
        | nx r4 => simp only [zb] at q2; exact fun F' σ' H' y S' => ⟨F', r4, S', PostS.grow (x3.sf.trans y) q2⟩
        | ct r4 => simp only [zb] at q2; exact fun F' σ' H' y S' => ⟨F', r4, S', PostS.grow (x3.sf.trans y) q2⟩
        | bk r4 => simp only [zb] at q2; exact fun F' σ' H' y S' => q2 F' σ' H' (x3.sf.trans y) S'
        | ret d => simp only [zb] at q2; exact q2
        | exc e r => simp only [zb] at q2; exact PostS.grow x3.sf q2
        | stuck => simp only [zb] at q2; exact q2

/-! ### lists, tuples, texts, ranges walked -/
def iterD : D → R (List D)
  | .lst ds => .ok ds
  | .scr ns => .ok (ns.map D.int)
  | .tup ds => .ok ds
  | .str s => .ok (s.map fun c => D.str [c])
  | _ => .stuck
theorem wk_list {F : Hp} {a : Addr} {xs : List V} {ds : List D} (h : SqL k.K F a xs) (dv : DvAll k F xs ds) : Wk k F (Itl k.K a) ds where
  stop := fun F' H s1 s2 => ⟨xs, sq_mono (s1.trans s2) h, Nat.le_of_eq dv.length⟩
  go := fun i F' H s1 s2 hi => by
    obtain ⟨v, e, _⟩ := dv.get (List.getElem?_eq_getElem hi)
    exact ⟨xs, v, sq_mono (s1.trans s2) h, e⟩
  yld := fun i F' H x H' s1 s2 hi hy => by
    obtain ⟨rfl, hy⟩ := hy
    obtain ⟨v, e, d1⟩ := dv.get (List.getElem?_eq_getElem hi)
    have e2 := hy xs (sq_mono (s1.trans s2) h)
    rw [e] at e2
    cases e2
    exact ⟨_, F', List.getElem?_eq_getElem hi, Ext.refl s2, d1.mono s1⟩
theorem wk_tup {F : Hp} {a : Addr} {xs : List V} {ds : List D} (h : F a = some (.tup xs)) (dv : DvAll k F xs ds) : Wk k F (Itt k.K a) ds where
  stop := fun F' H s1 s2 => ⟨xs, SqT.of (s2 _ _ (s1 _ _ h)), Nat.le_of_eq dv.length⟩
  go := fun i F' H s1 s2 hi => by
    obtain ⟨v, e, _⟩ := dv.get (List.getElem?_eq_getElem hi)
    exact ⟨xs, v, SqT.of (s2 _ _ (s1 _ _ h)), e⟩
  yld := fun i F' H x H' s1 s2 hi hy => by
    obtain ⟨rfl, hy⟩ := hy
    obtain ⟨v, e, d1⟩ := dv.get (List.getElem?_eq_getElem hi)
    have e2 := hy xs (SqT.of (s2 _ _ (s1 _ _ h)))
    rw [e] at e2
    cases e2
    exact ⟨_, F', List.getElem?_eq_getElem hi, Ext.refl s2, d1.mono s1⟩
theorem wk_str {F : Hp} {s : Tx} : Wk k F (Its (tx s)) (s.map fun c => D.str [c]) where
  stop := fun F' H s1 s2 => by show (tx s).cps.size ≤ _; simp [tx]
  go := fun i F' H s1 s2 hi => by show i < (tx s).cps.size; simpa [tx] using hi
  yld := fun i F' H x H' s1 s2 hi hy => by
    obtain ⟨rfl, c, hc, rfl⟩ := hy
    have hc : s[i]? = some c := by simpa [tx] using hc
    exact ⟨.str [c], F', by rw [List.getElem?_map, hc]; rfl, Ext.refl s2, .str [c] (by simp; decide)⟩
theorem wk_range {F : Hp} {lo : Int} {n : Nat} : Wk k F (Itr lo n) ((List.range n).map fun i => D.int (lo + (i : Nat))) where
  stop := fun F' H s1 s2 => by show n ≤ _; simp
  go := fun i F' H s1 s2 hi => by show i < n; simpa using hi
  yld := fun i F' H x H' s1 s2 hi hy => by
    obtain ⟨rfl, rfl⟩ := hy
    have hi : i < n := by simpa using hi
    exact ⟨.int (lo + (i : Nat)), F', by rw [List.getElem?_map, List.getElem?_range hi]; rfl, Ext.refl s2, .int _⟩
def iE (f : Env → R D) : Env → R (List D) := fun r => f r >>= iterD
theorem pui_any (J : Jx X k G W) (he : PuE X k G W .frz iter f) : PuI X k G W tg iter (iE f) := by
  have hk := J.kk
  have hL : PI X tg iter (iList X.K (canE X iter)) := pi_list pe_can
  have hT : PI X tg iter (iTup X.K (canE X iter)) := pi_tup pe_can
  have hS : PI X tg iter (iStr (canE X iter)) := pi_str pe_can
  refine ⟨fun σ H R => iList X.K (canE X iter) σ H R ∨ iTup X.K (canE X iter) σ H R ∨ iStr (canE X iter) σ H R, ⟨fun pins s σ H R I h => ?_⟩, fun F0 H0 F ρ σ H Q S q => ?_⟩
  · rcases h with h | h | h
    · exact hL.run pins s σ H R I h
    · exact hT.run pins s σ H R I h
    · exact hS.run pins s σ H R I h
  · unfold iE at q
    cases z : f ρ with
    | exc x =>
      rw [z] at q
      refine .inl (he.run F0 H0 F ρ σ H _ S ?_)
      rw [z]
      exact q
    | stuck => rw [z] at q; exact q.elim
    | ok d =>
      rw [z] at q
      cases d with
      | lst ds =>
        refine .inl (he.run F0 H0 F ρ σ H _ S ?_)
        rw [z]
        intro v F1 H1 x1 rv
        cases rv with
        | lst h1 h2 => exact ⟨_, rfl, ⟨_, SqL.of (x1.sub _ _ h1)⟩, q _ F1 H1 x1 (by rw [← hk]; exact wk_list (.inl (.inl h1)) h2)⟩
      | scr ns =>
        refine .inl (he.run F0 H0 F ρ σ H _ S ?_)
        rw [z]
        intro v F1 H1 x1 rv
        cases rv with
        | scr h1 => exact ⟨_, rfl, ⟨_, hk ▸ sq_mono x1.sub h1⟩, q _ F1 H1 x1 (by rw [← hk]; exact wk_list h1 (DvAll.ints ns))⟩
      | tup ds =>
        refine .inr (.inl (he.run F0 H0 F ρ σ H _ S ?_))
        rw [z]
        intro v F1 H1 x1 rv
        cases rv with
        | tup h1 h2 => exact ⟨_, rfl, ⟨_, SqT.of (x1.sub _ _ h1)⟩, q _ F1 H1 x1 (by rw [← hk]; exact wk_tup h1 h2)⟩
      | str s =>
        refine .inr (.inr (he.run F0 H0 F ρ σ H _ S ?_))
        rw [z]
        intro v F1 H1 x1 rv
        cases rv with
        | str _ hl => exact ⟨_, rfl, q _ F1 H1 x1 wk_str⟩
      | _ => exact q.elim
end
end Pu

namespace Pu
open PySem PySem.Spec PyProof.Rows L2

/-! ### comprehensions -/
def wipeR (r : Env) : List Nat → Env
  | [] => r
  | v :: vs => (wipeR r vs).set v none
theorem St4.wipe {k : KC} {G : List Md} {F0 H0 F : Hp} {ρ : Env} {σ : Sl} {H : Hp} (np : noPin G = true) (S : St4 k G F0 H0 F ρ σ H) : ∀ vs : List Nat, St4 k G F0 H0 F (wipeR ρ vs) (L2.wipe σ vs) H
  | [] => S
  | v :: vs => (S.wipe np vs).setN none (noPin_at np v)
theorem wipe_in {σ : Sl} : ∀ {vs : List Nat} {i : Nat}, i ∈ vs → i < σ.length → (L2.wipe σ vs)[i]? = some none
  | v :: vs, i, h, hl => by
    show ((L2.wipe σ vs).set v none)[i]? = some none
    by_cases hi : i = v
    · subst hi
      rw [List.getElem?_set_self (by rw [wipe_length]; exact hl)]
    · rw [List.getElem?_set_ne (Ne.symm hi)]
      exact wipe_in ((List.mem_cons.mp h).resolve_left hi) hl
theorem wipe_wp {vs ws : List Nat} {σ σ2 : Sl} (hs : ∀ i ∈ ws, i ∈ vs) (w : Wp ws (L2.wipe σ vs) σ2) : L2.wipe σ2 vs = L2.wipe σ vs := by
  apply List.ext_getElem?
  intro i
  have l2 : σ2.length = σ.length := by rw [w.1, wipe_length]
  by_cases hi : i ∈ vs
  · by_cases hl : i < σ.length
    · rw [wipe_in hi hl, wipe_in hi (by rw [l2]; exact hl)]
    · rw [List.getElem?_eq_none (by rw [wipe_length]; omega), List.getElem?_eq_none (by rw [wipe_length]; omega)]
  · rw [wipe_out hi, w.2 i fun z => hi (hs i z)]
def compD (vs : List Nat) (g : D → Env → Option Env) (t : Env → R Bool) (f : Env → R D) : List D → Env → R (List D)
  | [], _ => .ok []
  | d :: ds, r => match g d (wipeR r vs) with
    | none => .stuck
    | some r1 => match t r1 with
      | .ok true => match f r1 with
        | .ok y => compD vs g t f ds r >>= fun ys => .ok (y :: ys)
        | _ => .stuck
      | .ok false => compD vs g t f ds r
      | _ => .stuck
def tYesP : Env → R Bool := fun _ => .ok true
def lcE (fi : Env → R (List D)) (vs : List Nat) (g : D → Env → Option Env) (t : Env → R Bool) (f : Env → R D) : Env → R D := fun r => fi r >>= fun ds => if ds.length ≤ szT then compD vs g t f ds r >>= fun ys => .ok (.lst ys) else .stuck
def W0 (nn : Bool) : WE := ⟨fun _ _ _ _ => False, gAny, nn⟩
abbrev Blk (X : Cx) (P : Cx → Prop) (scope : Scope) : Prop := ∀ (s : Shared) (H : Hp) (C : Addr) (cl : List (Str × Addr)) (fp : List Addr), P (X.blk s H scope (compEnvC scope cl C X.env) fp)
def PuTs (X : Cx) (k : KC) (G : List Md) (W : WE) (es : List Expr) (t : Env → R Bool) : Prop :=
  ∃ tt, PTs X es tt ∧ ∀ (F0 H0 F : Hp) (r : Env) (σ : Sl) (H : Hp) (Q : Bool → Hp → Prop), St4 k G F0 H0 F r σ H → PostR k F H W σ (fun b => ∀ F' H', Ext F H F' H' → Q b H') (t r) → tt σ H Q
theorem puts_nil {X : Cx} {k : KC} {G : List Md} {W : WE} : PuTs X k G W [] tYesP := ⟨_, pts_nil, fun F0 H0 F r σ H Q S q => q F H (Ext.refl S.sub)⟩
theorem puts_one {X : Cx} {k : KC} {G : List Md} {W : WE} {c : Expr} {t : Env → R Bool} (h : PuT X k G W c t) : PuTs X k G W [c] t := ⟨_, pts_one pt_can, fun F0 H0 F r σ H Q S q => h.run F0 H0 F r σ H Q S q⟩
theorem compD_len {vs : List Nat} {g : D → Env → Option Env} {t : Env → R Bool} {f : Env → R D} : ∀ {ds : List D} {r : Env} {ys : List D}, compD vs g t f ds r = .ok ys → ys.length ≤ ds.length
  | [], r, ys, h => by cases h; exact Nat.le_refl _
  | d :: ds, r, ys, h => by
    simp only [compD] at h
    cases zg : g d (wipeR r vs) with
    | none => rw [zg] at h; cases h
    | some r1 =>
      simp only [zg] at h
      cases zt : t r1 with
      | exc x => simp only [zt] at h; cases h
      | stuck => simp only [zt] at h; cases h
      | ok b =>
        simp only [zt] at h
        cases b with
        | false =>
          have := compD_len (ds := ds) h
          rw [List.length_cons]
          omega
        | true =>
          simp only at h
          cases zf : f r1 with
          | exc x => simp only [zf] at h; cases h
          | stuck => simp only [zf] at h; cases h
          | ok y =>
            simp only [zf] at h
            cases zr : compD vs g t f ds r with
            | exc x => rw [zr] at h; cases h
            | stuck => rw [zr] at h; cases h
            | ok zs =>
              rw [zr] at h
              cases h
              have := compD_len (ds := ds) zr
              rw [List.length_cons, List.length_cons]
              omega
/-- what is walked, where what stands stays -/
structure WkS (k : KC) (F H0 : Hp) (J : It) (ds : List D) : Prop where
  stop : ∀ F' H, Same F F' → Same H0 H → Same F' H → J.stop ds.length H
  go : ∀ (i : Nat) F' H, Same F F' → Same H0 H → Same F' H → i < ds.length → J.go i H
  yld : ∀ (i : Nat) F' H x H', Same F F' → Same H0 H → Same F' H → i < ds.length → J.yld i H x H' → ∃ d F2, ds[i]? = some d ∧ Ext F' H F2 H' ∧ Dv k F2 x d
theorem Wk.s {k : KC} {F H0 : Hp} {J : It} {ds : List D} (w : Wk k F J ds) : WkS k F H0 J ds := ⟨fun F' H a _ b => w.stop F' H a b, fun i F' H a _ b => w.go i F' H a b, fun i F' H x H' a _ b => w.yld i F' H x H' a b⟩
def PuIS (X : Cx) (k : KC) (G : List Md) (W : WE) (tg iter : Expr) (f : Env → R (List D)) : Prop :=
  ∃ wi, PI X tg iter wi ∧ ∀ (F0 H0 F : Hp) (r : Env) (σ : Sl) (H : Hp) (Q : It → Hp → Prop), St4 k G F0 H0 F r σ H →
    PostR k F H W σ (fun ds => ∀ J F' H', Ext F H F' H' → WkS k F' H' J ds → Q J H') (f r) → wi σ H Q
theorem PuI.s {X : Cx} {k : KC} {G : List Md} {W : WE} {tg iter : Expr} {f : Env → R (List D)} (h : PuI X k G W tg iter f) : PuIS X k G W tg iter f := by
  obtain ⟨wi, h1, h2⟩ := h
  exact ⟨wi, h1, fun F0 H0 F r σ H Q S q => h2 F0 H0 F r σ H Q S (q.imp fun ds _ n J F' H' x w => n J F' H' x w.s)⟩
section
variable {X : Cx} {k : KC} {G G1 Gn Gl : List Md} {W : WE} {ro : RM}
/-- the reading of a comprehension -/
theorem lc_read {vs ws : List Nat} {wi : TI} {fi : Env → R (List D)} {g : D → Env → Option Env} {t : Env → R Bool} {f : Env → R D} {te : TE} {tgg : TG} {tt : TT}
    (qi : ∀ (F0 H0 F : Hp) (r : Env) (σ : Sl) (H : Hp) (Q : It → Hp → Prop), St4 k G F0 H0 F r σ H → PostR k F H W σ (fun ds => ∀ J F' H', Ext F H F' H' → WkS k F' H' J ds → Q J H') (fi r) → wi σ H Q)
    (np : noPin G = true) (hws : ∀ i ∈ ws, i ∈ vs)
    (hg : ∀ (F0 H0 F : Hp) (r r' : Env) (σ : Sl) (H : Hp) (v : V) (d : D) (Q : Sl → Hp → Prop), St4 k G F0 H0 F r σ H → Dv k F v d → g d r = some r' → (∀ σ', St4 k G F0 H0 F r' σ' H → Wp ws σ σ' → Q σ' H) → tgg v σ H Q)
    (ht : ∀ (F0 H0 F : Hp) (r : Env) (σ : Sl) (H : Hp) (Q : Bool → Hp → Prop), St4 k G F0 H0 F r σ H → PostR k F H (W0 W.nn) σ (fun b => ∀ F' H', Ext F H F' H' → Q b H') (t r) → tt σ H Q)
    (he : ∀ (F0 H0 F : Hp) (r : Env) (σ : Sl) (H : Hp) (Q : VK), St4 k G F0 H0 F r σ H → PostR k F H (W0 W.nn) σ (fun d => ∀ v F' H', Ext F H F' H' → Dv k F' v d → Q v H') (f r) → te σ H Q)
    {F0 H0 F : Hp} {ρ : Env} {σ : Sl} {H : Hp} {Q : VK} (S : St4 k G F0 H0 F ρ σ H)
    (q : PostR k F H W σ (fun d => ∀ v F' H', Ext F H F' H' → Res k .own H F' H' v d → Q v H') (lcE fi vs g t f ρ)) : tLc wi tgg tt te vs σ H Q := by
  refine qi F0 H0 F ρ σ H _ S ((PostR.bind q).imp fun ds _ q1 J F1 H1 x1 wk D hD => ?_)
  by_cases hz : ds.length ≤ szT
  · rw [if_pos hz] at q1
    have hsz := szT_le hz
    have S1 := S.step x1
    have fD : F1 D = none := x1.sub.free hD
    -- the list at D is nobody else's
    have st : ∀ {F2 H2 : Hp} {xs : List V}, St4 k G F0 H0 F2 ρ σ H2 → Same H1 H2 → True := fun _ _ => trivial
    refine ⟨fun i n H2 => n + i = ds.length ∧ ∃ F2 acc as, Ext F1 H1 F2 (fun a => if a = D then none else H2 a) ∧ H2 D = some (.lst acc) ∧ DvAll k F2 acc as ∧ as.length ≤ i ∧ ∃ ys, compD vs g t f (ds.drop i) ρ = .ok ys ∧ compD vs g t f ds ρ = .ok (as ++ ys), ?_⟩
    cases zc : compD vs g t f ds ρ with
    | exc x => exact absurd zc (by
        intro z
        have : ∀ ds, compD vs g t f ds ρ ≠ .exc x := fun ds => by
          induction ds with
          | nil => intro h; cases h
          | cons d r ih =>
            intro h
            simp only [compD] at h
            cases zg : g d (wipeR ρ vs) with
            | none => simp only [zg] at h; cases h
            | some r1 =>
              simp only [zg] at h
              cases zt : t r1 with
              | exc x => simp only [zt] at h; cases h
              | stuck => simp only [zt] at h; cases h
              | ok b =>
                simp only [zt] at h
                cases b with
                | false => exact ih h
                | true =>
                  simp only at h
                  cases zf : f r1 with
                  | exc x => simp only [zf] at h; cases h
                  | stuck => simp only [zf] at h; cases h
                  | ok y =>
                    simp only [zf] at h
                    cases zr : compD vs g t f r ρ with
                    | exc x2 =>
                      rw [zr] at h
                      have h : R.exc x2 = R.exc x := h
                      cases h
                      exact ih zr
                    | stuck => rw [zr] at h; cases h
                    | ok zs => rw [zr] at h; cases h
        exact this ds z)
    | stuck => rw [zc] at q1; exact q1.elim
    | ok all =>
      rw [zc] at q1
      have hid : (fun a => if a = D then none else (upd H1 D (.lst [])) a) = H1 := by
        funext a
        by_cases ha : a = D
        · rw [if_pos ha, ha]; exact hD.symm
        · rw [if_neg ha, upd_ne ha]
      refine ⟨⟨ds.length, by omega, F1, [], [], by rw [hid]; exact Ext.refl x1.sub, upd_same, .nil, Nat.zero_le _, all, by rw [List.drop_zero]; exact zc, rfl⟩, ?_⟩
      rintro i n H2 ⟨hn, F2, acc, as, x2, hacc, dva, hal, ys, c1, c2⟩
      -- facts of the heap H2
      have f2D : F2 D = none := by
        cases z : F2 D with
        | none => rfl
        | some o =>
          have := x2.sub _ _ z
          simp at this
      have s12 : Same H1 H2 := fun a o e => by
        have := x2.sh a o e
        by_cases ha : a = D
        · rw [if_pos ha] at this; cases this
        · rw [if_neg ha] at this; exact this
      have s22 : Same F2 H2 := fun a o e => by
        have := x2.sub a o e
        by_cases ha : a = D
        · rw [if_pos ha] at this; cases this
        · rw [if_neg ha] at this; exact this
      have xx : Ext F1 H1 F2 H2 := ⟨x2.sf, s12, s22, x2.new⟩
      by_cases hlt : i < ds.length
      · refine .inr ⟨wk.go i F2 H2 x2.sf s12 s22 hlt, fun H' => n - 1 + (i + 1) = ds.length ∧ ∃ F2 acc as, Ext F1 H1 F2 (fun a => if a = D then none else H' a) ∧ H' D = some (.lst acc) ∧ DvAll k F2 acc as ∧ as.length ≤ i + 1 ∧ ∃ ys, compD vs g t f (ds.drop (i + 1)) ρ = .ok ys ∧ compD vs g t f ds ρ = .ok (as ++ ys), fun H' hN => ⟨n - 1, by omega, by rw [← zc]; exact hN⟩, fun x H' hy => ?_⟩
        obtain ⟨d, F3, e1, x3, dv⟩ := wk.yld i F2 H2 x H' x2.sf s12 s22 hlt hy
        have ed : ds.drop i = d :: ds.drop (i + 1) := by
          obtain ⟨hh, e2⟩ := List.getElem?_eq_some_iff.mp e1
          rw [List.drop_eq_getElem_cons hh, e2]
        rw [ed] at c1
        simp only [compD] at c1
        cases zg : g d (wipeR ρ vs) with
        | none => simp only [zg] at c1; cases c1
        | some r1 =>
          simp only [zg] at c1
          have x13 : Ext F1 H1 F3 H' := xx.trans x3
          refine hg F0 H0 F3 (wipeR ρ vs) r1 (L2.wipe σ vs) H' x d _ ((S1.step x13).wipe np vs) dv zg fun σ2 S2 w2 => ⟨wipe_wp hws w2, ?_⟩
          refine ht F0 H0 F3 r1 σ2 H' _ S2 ?_
          cases zt : t r1 with
          | exc x => simp only [zt] at c1; cases c1
          | stuck => simp only [zt] at c1; cases c1
          | ok b =>
            simp only [zt] at c1
            intro F4 H4 x4
            have f4 : H2 D ≠ none := by rw [hacc]; intro z; cases z
            have h4D : H4 D = some (.lst acc) := x4.sh _ _ (x3.sh _ _ hacc)
            have f4D : F4 D = none := (x3.trans x4).new D f2D f4
            have drop : ∀ {F5 H5 : Hp} {o : HO}, Ext F2 H2 F5 H5 → Ext F1 H1 F5 (fun a => if a = D then none else (upd H5 D o) a) := fun {F5 H5 o} y => by
              have f5 : F5 D = none := y.new D f2D f4
              refine ⟨x2.sf.trans y.sf, fun a u e => ?_, fun a u e => ?_, fun a h1 h2 => ?_⟩
              · have na : a ≠ D := fun z => by rw [z, hD] at e; cases e
                rw [if_neg na, upd_ne na]
                exact y.sh _ _ (s12 _ _ e)
              · have na : a ≠ D := fun z => by rw [z, f5] at e; cases e
                rw [if_neg na, upd_ne na]
                exact y.sub _ _ e
              · refine y.new a (x2.new a h1 h2) ?_
                obtain ⟨u, e⟩ := some_of_ne h2
                rw [s12 _ _ e]
                intro z; cases z
            cases b with
            | false =>
              rw [if_neg Bool.false_ne_true]
              have hu : upd H4 D (.lst acc) = H4 := by
                funext a
                by_cases ha : a = D
                · rw [ha, upd_same, h4D]
                · rw [upd_ne ha]
              have y := drop (o := .lst acc) (x3.trans x4)
              rw [hu] at y
              exact ⟨by omega, F4, acc, as, y, h4D, dva.mono (x3.sf.trans x4.sf), by omega, ys, c1, by rw [zc]; exact c2⟩
            | true =>
              rw [if_pos rfl]
              simp only at c1
              refine he F0 H0 F4 r1 σ2 H4 _ (S2.step x4) ?_
              cases zf : f r1 with
              | exc x => simp only [zf] at c1; cases c1
              | stuck => simp only [zf] at c1; cases c1
              | ok y0 =>
                simp only [zf] at c1
                cases zr : compD vs g t f (ds.drop (i + 1)) ρ with
                | exc x => rw [zr] at c1; cases c1
                | stuck => rw [zr] at c1; cases c1
                | ok zs =>
                  rw [zr] at c1
                  have c1 : R.ok (y0 :: zs) = R.ok ys := c1
                  cases c1
                  intro v F5 H5 x5 dv5
                  have x35 := (x3.trans x4).trans x5
                  refine ⟨acc, x5.sh _ _ h4D, by rw [dva.length]; omega, by omega, F5, acc ++ [v], as ++ [y0], drop x35, upd_same, (dva.mono x35.sf).append (.cons dv5 .nil), by rw [List.length_append]; simp; omega, zs, rfl, ?_⟩
                  rw [zc, c2, List.append_assoc]
                  rfl
      · have hi : i = ds.length := by omega
        subst hi
        refine .inl ⟨wk.stop F2 H2 x2.sf s12 s22, ?_⟩
        rw [List.drop_length] at c1
        cases c1
        rw [List.append_nil] at c2
        cases c2
        refine q1 _ F2 H2 (x1.trans xx) ⟨D, rfl, x1.sh.free hD, f2D, .lst hacc dva⟩
  · rw [if_neg hz] at q1
    exact q1.elim
/-- [e for x in xs if t] -/
theorem pu_lc {elt tg iter : Expr} {ifs : List Expr} {scope : Scope} (own : List (Str × Nat)) {ws : List Nat} {pos : Pos} {fi : Env → R (List D)} {g : D → Env → Option Env} {t : Env → R Bool} {f : Env → R D}
    (K : Jx X k G W) (J : Jc X) (hi : PuIS X k G W tg iter fi) (hg : Blk X (fun Y => PuG Y k G tg ws g) scope) (ht : Blk X (fun Y => PuTs Y k G (W0 W.nn) ifs t) scope) (he : Blk X (fun Y => PuE Y k G (W0 W.nn) .frz elt f) scope)
    (ok : blkC X.N X.env.scope scope own = true) (hw : ∀ i ∈ ws, i ∈ own.map (·.2)) (np : noPin G = true := by rfl) (hs : ∀ x, foldedSetIterable iter X.env x = pure x := by intro _; rfl) :
    PuE X k G W .own (.ListComp elt [⟨tg, iter, ifs, 0⟩] scope pos) (lcE fi (own.map (·.2)) g t f) := .mk fun F0 H0 F ρ σ H Q S q => by
  obtain ⟨wi, pi, qi⟩ := hi
  refine canE_of (pe_lc (tt := fun σ H Q => ∀ s H' C cl fp, Classical.choose (ht s H' C cl fp) σ H Q) (te := fun σ H Q => ∀ s H' C cl fp, canE (X.blk s H' scope (compEnvC scope cl C X.env) fp) elt σ H Q)
    (g := fun v σ H Q => ∀ s H' C cl fp, canG (X.blk s H' scope (compEnvC scope cl C X.env) fp) tg v σ H Q) J.calm K.nd pi (blkOk_by ok)
    (fun s H' C cl fp => ⟨fun pins s1 σ H v u Q I r h => h s H' C cl fp pins s1 u I r⟩)
    (fun s H' C cl fp => ⟨fun pins s1 σ H Q I h => (Classical.choose_spec (ht s H' C cl fp)).1.run pins s1 σ H Q I (h s H' C cl fp)⟩)
    (fun s H' C cl fp => ⟨fun pins s1 σ H Q I h => h s H' C cl fp pins s1 I⟩) hs) ?_
  refine lc_read qi np hw (fun F0 H0 F r r' σ H v d Q S dv e n s H' C cl fp => (hg s H' C cl fp).run F0 H0 F r r' σ H v d Q S dv e n)
    (fun F0 H0 F r σ H Q S n s H' C cl fp => (Classical.choose_spec (ht s H' C cl fp)).2 F0 H0 F r σ H Q S n)
    (fun F0 H0 F r σ H Q S n s H' C cl fp => (he s H' C cl fp).run F0 H0 F r σ H Q S n) S q
/-- y = [..], y a plain local -/
theorem pus_setLc (i : Nat) (e1 : Eqx G G1 i) {elt tg iter : Expr} {ifs : List Expr} {scope : Scope} {y : Str} {py spos : Pos} (own : List (Str × Nat)) {ws : List Nat} {pos : Pos} {fi : Env → R (List D)} {g : D → Env → Option Env} {t : Env → R Bool} {f : Env → R D}
    (K : Jx X k G W) (J : Jc X) (hi : PuIS X k G W tg iter fi) (hg : Blk X (fun Y => PuG Y k G tg ws g) scope) (ht : Blk X (fun Y => PuTs Y k G (W0 W.nn) ifs t) scope) (he : Blk X (fun Y => PuE Y k G (W0 W.nn) .frz elt f) scope)
    (ok : blkC X.N X.env.scope scope own = true) (hw : ∀ i ∈ ws, i ∈ own.map (·.2)) (hp : pinAt G1 i = none) (hl : lockAt G1 i = none := by rfl) (hdp : deepAt G1 i = none := by rfl)
    (hsw : swapsWith (.ListComp elt [⟨tg, iter, ifs, 0⟩] scope pos) (some (.Name y py)) spos.line X.env = pure true) (hy : X.N[i]? = some y := by rfl) (hyl : X.env.scope.names.lookup y = some .local := by rfl) (np : noPin G = true := by rfl) (hs : ∀ x, foldedSetIterable iter X.env x = pure x := by intro _; rfl) :
    PuS X k G G1 Gl W ro (.Assign [.Name y py] (.ListComp elt [⟨tg, iter, ifs, 0⟩] scope pos) spos) (sAsg i (lcE fi (own.map (·.2)) g t f)) := .mk fun F0 H0 F ρ σ H Dn S q => by
  obtain ⟨wi, pi, qi⟩ := hi
  refine canS_of (ps_setLc (i := i) (tt := fun σ H Q => ∀ s H' C cl fp, Classical.choose (ht s H' C cl fp) σ H Q) (te := fun σ H Q => ∀ s H' C cl fp, canE (X.blk s H' scope (compEnvC scope cl C X.env) fp) elt σ H Q)
    (g := fun v σ H Q => ∀ s H' C cl fp, canG (X.blk s H' scope (compEnvC scope cl C X.env) fp) tg v σ H Q) J.calm K.nd hy hyl hsw pi (blkOk_by ok)
    (fun s H' C cl fp => ⟨fun pins s1 σ H v u Q I r h => h s H' C cl fp pins s1 u I r⟩)
    (fun s H' C cl fp => ⟨fun pins s1 σ H Q I h => (Classical.choose_spec (ht s H' C cl fp)).1.run pins s1 σ H Q I (h s H' C cl fp)⟩)
    (fun s H' C cl fp => ⟨fun pins s1 σ H Q I h => h s H' C cl fp pins s1 I⟩) hs) ?_
  refine lc_read qi np hw (fun F0 H0 F r r' σ H v d Q S dv e n s H' C cl fp => (hg s H' C cl fp).run F0 H0 F r r' σ H v d Q S dv e n)
    (fun F0 H0 F r σ H Q S n s H' C cl fp => (Classical.choose_spec (ht s H' C cl fp)).2 F0 H0 F r σ H Q S n)
    (fun F0 H0 F r σ H Q S n s H' C cl fp => (he s H' C cl fp).run F0 H0 F r σ H Q S n) S ?_
  refine post_of K.oke S q fun d q1 v F' H' x r => ?_
  by_cases hg : isOwn G1 i = true
  · obtain ⟨p, rfl, h1, h2, h3⟩ := r
    exact q1 F' _ H' x.sf (S.setO x h1 h2 h3 e1 hg hl)
  · obtain ⟨F2, x2, dv⟩ := r.keep x (by decide)
    exact q1 F2 _ H' x2.sf ((S.step x2).setF dv e1 (fun z => (nf_of.mp z).elim hg fun ⟨s, e⟩ => by rw [hdp] at e; cases e) hp)
end
end Pu

namespace Pu
open PySem PySem.Spec PyProof.Rows L2

theorem Jx.blk {X : Cx} {k : KC} {G : List Md} {W : WE} (J : Jx X k G W) (s : Shared) (H : Hp) (scope : Scope) (cenv : PySem.Env) (fp : List Addr) : Jx (X.blk s H scope cenv fp) k G (W0 W.nn) := ⟨J.kk, J.nd, takes0B, okN⟩
theorem Jc.blk {X : Cx} (J : Jc X) (s : Shared) (H : Hp) (scope : Scope) (cenv : PySem.Env) (fp : List Addr) : Jc (X.blk s H scope cenv fp) := ⟨J.calm, PassesOwn.never⟩
theorem resA1 {k : KC} {m : Mo} {H F' H' : Hp} {d : D} : ∀ {vs : List V}, ResA k m H F' H' vs [d] → ∃ v, vs = [v] ∧ Res k m H F' H' v d
  | [v], h => ⟨v, rfl, h.1⟩
  | [], h => h.elim
  | _ :: _ :: _, h => h.2.elim
theorem resA2 {k : KC} {m : Mo} {H F' H' : Hp} {d e : D} : ∀ {vs : List V}, ResA k m H F' H' vs [d, e] → ∃ v w, vs = [v, w] ∧ Res k m H F' H' v d ∧ Res k m H F' H' w e
  | [v, w], h => ⟨v, w, rfl, h.1, h.2.1⟩
  | [], h => h.elim
  | [_], h => h.2.elim
  | _ :: _ :: _ :: _, h => h.2.2.elim
theorem resA3 {k : KC} {m : Mo} {H F' H' : Hp} {d e c : D} : ∀ {vs : List V}, ResA k m H F' H' vs [d, e, c] → ∃ v w u, vs = [v, w, u] ∧ Res k m H F' H' v d ∧ Res k m H F' H' w e ∧ Res k m H F' H' u c
  | [v, w, u], h => ⟨v, w, u, rfl, h.1, h.2.1, h.2.2.1⟩
  | [], h => h.elim
  | [_], h => h.2.elim
  | [_, _], h => h.2.2.elim
  | _ :: _ :: _ :: _ :: _, h => h.2.2.2.elim

/-! ### ranges, enumerate, reversed, zip -/
section
variable {X : Cx} {k : KC} {G : List Md} {W : WE} {m : Mo} {tg a b c e : Expr} {es : List Expr} {fs : Env → R (List D)} {pos p : Pos}
def i62 (i : Int) : Bool := decide (-(2 ^ 62) ≤ i) && decide (i < 2 ^ 62)
theorem i62_ok {i : Int} (h : i62 i = true) : -(2 ^ 62) ≤ i ∧ i < 2 ^ 62 := by
  unfold i62 at h
  rw [Bool.and_eq_true] at h
  exact ⟨of_decide_eq_true h.1, of_decide_eq_true h.2⟩
def rng (lo hi : Int) : List D := (List.range (hi - lo).toNat).map fun i => D.int (lo + (i : Nat))
def range1D : List D → R (List D)
  | [.int n] => if i62 n = true then .ok (rng 0 n) else .stuck
  | _ => .stuck
def range2D : List D → R (List D)
  | [.int lo, .int hi] => if (i62 lo && i62 hi) = true then .ok (rng lo hi) else .stuck
  | _ => .stuck
/-- downward by ones -/
def rngDown (hi lo : Int) : List D := (List.range (hi - lo).toNat).map fun i => D.int (hi + (i : Nat) * (-1))
def range3D : List D → R (List D)
  | [.int hi, .int lo, .int c] => if (i62 hi && i62 lo && decide (c = -1)) = true then .ok (rngDown hi lo) else .stuck
  | _ => .stuck
def iA (o : List D → R (List D)) (fs : Env → R (List D)) : Env → R (List D) := fun r => fs r >>= o
theorem pui_of {tg iter : Expr} {wi : TI} {r : List V → Hp → (It → Hp → Prop) → Prop} {o : List D → R (List D)} (hp : PI X tg iter wi) (eq : ∀ σ H R, (canA X es σ H fun vs H1 => r vs H1 R) → wi σ H R) (ne : ∀ ds x, o ds ≠ .exc x)
    (hr : ∀ F H vs ds zs R, Same F H → ResA k .vw H F H vs ds → o ds = .ok zs → (∀ J F' H', Ext F H F' H' → Wk k F' J zs → R J H') → r vs H R) (ha : PuA X k G W m es fs) : PuI X k G W tg iter (iA o fs) :=
  ⟨wi, hp, fun F0 H0 F ρ σ H Q S q => eq σ H Q (ha.run F0 H0 F ρ σ H _ S ((PostR.bind q).imp fun ds _ q1 vs F1 H1 x1 rv => by
    cases z : o ds with
    | ok zs =>
      rw [z] at q1
      exact hr F1 H1 vs ds zs Q x1.sub rv.vw z fun J F' H' x w => q1 J F' H' (x1.trans x) w
    | exc x => exact absurd z (ne ds x)
    | stuck => rw [z] at q1; exact q1.elim))⟩
theorem range1D_exc : ∀ ds x, range1D ds ≠ .exc x := fun ds x h => by
  unfold range1D at h
  split at h
  · split at h <;> cases h
  · cases h
theorem range2D_exc : ∀ ds x, range2D ds ≠ .exc x := fun ds x h => by
  unfold range2D at h
  split at h
  · split at h <;> cases h
  · cases h
theorem range3D_exc : ∀ ds x, range3D ds ≠ .exc x := fun ds x h => by
  unfold range3D at h
  split at h
  · split at h <;> cases h
  · cases h
theorem pui_range1 (ha : PuA X k G W m [a] fs) (hm : X.mg "range" = none) (hg : Gl X "range" := by rfl) (hs : starEach [a] X.env = [(false, eval a X.env)] := by rfl) : PuI X k G W tg (.Call (.Name "range" p) [a] [] pos) (iA range1D fs) :=
  pui_of (pi_range1 hg hm pa_can hs) (fun _ _ _ q => q) range1D_exc (fun F H vs ds zs R s rv z q => by
    unfold range1D at z
    split at z
    · rename_i n
      obtain ⟨v, e, r1⟩ := resA1 rv
      subst e
      have ev := vw_int r1
      subst ev
      by_cases h : i62 n = true
      · rw [if_pos h] at z
        cases z
        obtain ⟨h1, h2⟩ := i62_ok h
        refine ⟨n, rfl, h1, h2, q _ F H (Ext.refl s) ?_⟩
        unfold rng
        rw [Int.sub_zero]
        exact wk_range
      · rw [if_neg h] at z
        cases z
    · cases z) ha
theorem pui_range2 (ha : PuA X k G W m [a, b] fs) (hm : X.mg "range" = none) (hg : Gl X "range" := by rfl) (hs : starEach [a, b] X.env = [(false, eval a X.env), (false, eval b X.env)] := by rfl) (hs2 : starEach [b] X.env = [(false, eval b X.env)] := by rfl) : PuI X k G W tg (.Call (.Name "range" p) [a, b] [] pos) (iA range2D fs) :=
  pui_of (pi_range2 hg hm pa_can hs hs2) (fun _ _ _ q => q) range2D_exc (fun F H vs ds zs R s rv z q => by
    unfold range2D at z
    split at z
    · rename_i lo hi
      obtain ⟨v, w, e, r1, r2⟩ := resA2 rv
      subst e
      have e1 := vw_int r1
      have e2 := vw_int r2
      subst e1
      subst e2
      by_cases h : (i62 lo && i62 hi) = true
      · rw [if_pos h] at z
        cases z
        rw [Bool.and_eq_true] at h
        obtain ⟨h1, h2⟩ := i62_ok h.1
        obtain ⟨h3, h4⟩ := i62_ok h.2
        exact ⟨lo, hi, rfl, ⟨h1, h2, h3, h4⟩, q _ F H (Ext.refl s) wk_range⟩
      · rw [if_neg h] at z
        cases z
    · cases z) ha
theorem wk_rangeC {F : Hp} {lo c : Int} {n : Nat} : Wk k F (Itc lo c n) ((List.range n).map fun i => D.int (lo + (i : Nat) * c)) where
  stop := fun F' H s1 s2 => by show n ≤ _; simp
  go := fun i F' H s1 s2 hi => by show i < n; simpa using hi
  yld := fun i F' H x H' s1 s2 hi hy => by
    obtain ⟨rfl, rfl⟩ := hy
    have hi : i < n := by simpa using hi
    exact ⟨.int (lo + (i : Nat) * c), F', by rw [List.getElem?_map, List.getElem?_range hi]; rfl, Ext.refl s2, .int _⟩
theorem pui_range3 (ha : PuA X k G W m [a, b, c] fs) (hm : X.mg "range" = none) (hg : Gl X "range" := by rfl) (hs : starEach [a, b, c] X.env = (false, eval a X.env) :: starEach [b, c] X.env := by rfl) (hpl : (backTo pos (starEach [b, c] X.env)).any (·.1) = false := by rfl) : PuI X k G W tg (.Call (.Name "range" p) [a, b, c] [] pos) (iA range3D fs) :=
  pui_of (pi_range3 hg hm pa_can hs hpl) (fun _ _ _ q => q) range3D_exc (fun F H vs ds zs R s rv z q => by
    unfold range3D at z
    split at z
    · rename_i hi lo c
      obtain ⟨v, w, u, e, r1, r2, r3⟩ := resA3 rv
      subst e
      have e1 := vw_int r1
      have e2 := vw_int r2
      have e3 := vw_int r3
      subst e1
      subst e2
      subst e3
      by_cases h : (i62 hi && i62 lo && decide (c = -1)) = true
      · rw [if_pos h] at z
        cases z
        rw [Bool.and_eq_true, Bool.and_eq_true] at h
        obtain ⟨h1, h2⟩ := i62_ok h.1.1
        obtain ⟨h3, h4⟩ := i62_ok h.1.2
        have hc := of_decide_eq_true h.2
        subst hc
        exact ⟨hi, lo, -1, (hi - lo).toNat, rfl, RgC.neg h1 h2 h3 h4, q _ F H (Ext.refl s) wk_rangeC⟩
      · rw [if_neg h] at z
        cases z
    · cases z) ha
/-- enumerate over a list -/
def enumD (ds : List D) : List D := (List.range ds.length).zipWith (fun i d => D.tup [.int (i : Nat), d]) ds
def enum1D : List D → R (List D)
  | [d] => match itemsL d with
    | some ds => .ok (enumD ds)
    | none => .stuck
  | _ => .stuck
theorem enum1D_exc : ∀ ds x, enum1D ds ≠ .exc x := fun ds x h => by
  unfold enum1D at h
  split at h
  · split at h <;> cases h
  · cases h
theorem enumD_len (ds : List D) : (enumD ds).length = ds.length := by unfold enumD; simp
theorem enumD_get {ds : List D} {i : Nat} {d : D} (h : ds[i]? = some d) : (enumD ds)[i]? = some (.tup [.int (i : Nat), d]) := by
  unfold enumD
  have hl : i < ds.length := (List.getElem?_eq_some_iff.mp h).1
  rw [List.getElem?_zipWith, List.getElem?_range hl, h]
theorem dv_L {F : Hp} {v : V} {d : D} {ds : List D} (h : Dv k F v d) (e : itemsL d = some ds) : ∃ a xs, v = .ref a ∧ SqL k.K F a xs ∧ DvAll k F xs ds := by
  cases h with
  | lst h1 h2 => cases e; exact ⟨_, _, rfl, .inl (.inl h1), h2⟩
  | scr h1 => cases e; exact ⟨_, _, rfl, h1, DvAll.ints _⟩
  | _ => cases e
theorem wk_enum {F : Hp} {a : Addr} {xs : List V} {ds : List D} (h : SqL k.K F a xs) (dv : DvAll k F xs ds) : Wk k F (Ite k.K a) (enumD ds) where
  stop := fun F' H s1 s2 => ⟨xs, sq_mono (s1.trans s2) h, by rw [enumD_len]; exact Nat.le_of_eq dv.length⟩
  go := fun i F' H s1 s2 hi => by
    rw [enumD_len] at hi
    obtain ⟨v, e, _⟩ := dv.get (List.getElem?_eq_getElem hi)
    exact ⟨xs, v, sq_mono (s1.trans s2) h, e⟩
  yld := fun i F' H x H' s1 s2 hi hy => by
    rw [enumD_len] at hi
    obtain ⟨T, y, rfl, hT, rfl, hy⟩ := hy
    obtain ⟨v, e, d1⟩ := dv.get (List.getElem?_eq_getElem hi)
    have e2 := hy xs (sq_mono (s1.trans s2) h)
    rw [e] at e2
    cases e2
    have x := Ext.add (o := .tup [.int (i : Nat), y]) s2 hT
    exact ⟨_, _, enumD_get (List.getElem?_eq_getElem hi), x, .tup upd_same (.cons (.int _) (.cons ((d1.mono s1).mono x.sf) .nil))⟩
/-- arguments that are kept -/
theorem pui_ofF {tg iter : Expr} {wi : TI} {r : List V → Hp → (It → Hp → Prop) → Prop} {o : List D → R (List D)} (hp : PI X tg iter wi) (eq : ∀ σ H R, (canA X es σ H fun vs H1 => r vs H1 R) → wi σ H R) (ne : ∀ ds x, o ds ≠ .exc x)
    (hr : ∀ F H vs ds zs R, Same F H → DvAll k F vs ds → o ds = .ok zs → (∀ J F' H', Ext F H F' H' → Wk k F' J zs → R J H') → r vs H R) (ha : PuA X k G W .frz es fs) : PuI X k G W tg iter (iA o fs) :=
  ⟨wi, hp, fun F0 H0 F ρ σ H Q S q => eq σ H Q (ha.run F0 H0 F ρ σ H _ S ((PostR.bind q).imp fun ds _ q1 vs F1 H1 x1 rv => by
    cases z : o ds with
    | ok zs =>
      rw [z] at q1
      exact hr F1 H1 vs ds zs Q x1.sub rv.frz_iff z fun J F' H' x w => q1 J F' H' (x1.trans x) w
    | exc x => exact absurd z (ne ds x)
    | stuck => rw [z] at q1; exact q1.elim))⟩
theorem dvA1 {F : Hp} {d : D} : ∀ {vs : List V}, DvAll k F vs [d] → ∃ v, vs = [v] ∧ Dv k F v d
  | _, .cons h .nil => ⟨_, rfl, h⟩
theorem dvA2 {F : Hp} {d e : D} : ∀ {vs : List V}, DvAll k F vs [d, e] → ∃ v w, vs = [v, w] ∧ Dv k F v d ∧ Dv k F w e
  | _, .cons h (.cons h2 .nil) => ⟨_, _, rfl, h, h2⟩
theorem pui_enum {elts : List Expr} {kk : Nat} {tpos : Pos} (J : Jx X k G W) (ha : PuA X k G W .frz [e] fs) (hm : X.mg "enumerate" = none) (hg : Gl X "enumerate" := by rfl) (hs : starEach [e] X.env = [(false, eval e X.env)] := by rfl) :
    PuI X k G W (.Tuple elts kk tpos) (.Call (.Name "enumerate" p) [e] [] pos) (iA enum1D fs) :=
  pui_ofF (pi_enum hg hm pa_can hs) (fun _ _ _ q => q) enum1D_exc (fun F H vs ds zs R s rv z q => by
    unfold enum1D at z
    split at z
    · rename_i d
      obtain ⟨v, e, r1⟩ := dvA1 rv
      subst e
      cases y : itemsL d with
      | none => rw [y] at z; cases z
      | some es =>
        rw [y] at z
        cases z
        obtain ⟨a, xs, e1, h1, h2⟩ := dv_L r1 y
        subst e1
        exact ⟨a, xs, rfl, J.kk ▸ sq_mono s h1, q _ F H (Ext.refl s) (J.kk ▸ wk_enum h1 h2)⟩
    · cases z) ha
/-- reversed of a list -/
def rev1D : List D → R (List D)
  | [d] => match itemsL d with
    | some ds => .ok ds.reverse
    | none => .stuck
  | _ => .stuck
theorem rev1D_exc : ∀ ds x, rev1D ds ≠ .exc x := fun ds x h => by
  unfold rev1D at h
  split at h
  · split at h <;> cases h
  · cases h
theorem wk_rev {F : Hp} {a : Addr} {xs : List V} {ds : List D} (h : SqL k.K F a xs) (dv : DvAll k F xs ds) : Wk k F (Itv k.K a xs.length) ds.reverse where
  stop := fun F' H s1 s2 => by show xs.length ≤ _; rw [List.length_reverse, dv.length]; exact Nat.le_refl _
  go := fun i F' H s1 s2 hi => by
    rw [List.length_reverse] at hi
    have hl := dv.length
    have hj : xs.length - 1 - i < ds.length := by omega
    obtain ⟨v, e, _⟩ := dv.get (List.getElem?_eq_getElem hj)
    exact ⟨by omega, xs, v, sq_mono (s1.trans s2) h, e⟩
  yld := fun i F' H x H' s1 s2 hi hy => by
    rw [List.length_reverse] at hi
    have hl := dv.length
    have hj : xs.length - 1 - i < ds.length := by omega
    obtain ⟨rfl, hy⟩ := hy
    obtain ⟨v, e, d1⟩ := dv.get (List.getElem?_eq_getElem hj)
    have e2 := hy xs (sq_mono (s1.trans s2) h)
    rw [e] at e2
    cases e2
    refine ⟨ds[xs.length - 1 - i], F', ?_, Ext.refl s2, d1.mono s1⟩
    rw [List.getElem?_reverse hi]
    rw [show ds.length - 1 - i = xs.length - 1 - i by omega]
    exact List.getElem?_eq_getElem hj
theorem pui_rev (J : Jx X k G W) (ha : PuA X k G W .frz [e] fs) (hm : X.mg "reversed" = none) (hg : Gl X "reversed" := by rfl) (hs : starEach [e] X.env = [(false, eval e X.env)] := by rfl) :
    PuI X k G W tg (.Call (.Name "reversed" p) [e] [] pos) (iA rev1D fs) :=
  pui_ofF (pi_reversed hg hm pa_can hs) (fun _ _ _ q => q) rev1D_exc (fun F H vs ds zs R s rv z q => by
    unfold rev1D at z
    split at z
    · rename_i d
      obtain ⟨v, e, r1⟩ := dvA1 rv
      subst e
      cases y : itemsL d with
      | none => rw [y] at z; cases z
      | some es =>
        rw [y] at z
        cases z
        obtain ⟨a, xs, e1, h1, h2⟩ := dv_L r1 y
        subst e1
        exact ⟨a, xs, rfl, J.kk ▸ sq_mono s h1, q _ F H (Ext.refl s) (J.kk ▸ wk_rev h1 h2)⟩
    · cases z) ha
end

/-! ### defs -/
section
/-- what a def hands back, by its plain function -/
def PostC (k : KC) (F H : Hp) (ro : Bool) (Q : VK) (E : XK) : R D → Prop
  | .ok d => ∀ v F' H', Ext F H F' H' → Res k (if ro then .own else .frz) H F' H' v d → Q v H'
  | .exc x => ∀ cls dd F' H', Ext F H F' H' → ExcAt k F' x cls dd → E cls dd H'
  | .stuck => False
/-- the promise of a def of n parameters -/
def spP (k : KC) (n : Nat) (m : List D → R D) (ro : Bool) : Sp := fun vs H Q E => ∃ F ds, Same F H ∧ DvAll k F vs ds ∧ ds.length = n ∧ PostC k F H ro Q E (m ds)
/-- a def's plain function: N names, of which n are parameters -/
def runD (N : Nat) (b : Env → SR) (ds : List D) : R D :=
  match b (ds.map some ++ List.replicate (N - ds.length) none) with
  | .nx _ => .ok .non
  | .ret d => .ok d
  | .exc x _ => .exc x
  | _ => .stuck
variable {P : Program} {w : World} {K : PySem.W.Frag} {mg : Str → Option Value} {base : Heap}
theorem St4.start {k : KC} {G : List Md} {F H : Hp} {N : List Str} {vs : List V} {ds : List D} {n : Nat} (s : Same F H) (dv : DvAll k F vs ds) (hn : ds.length = n) (np : noPin G = true) (hG : ∀ i, i < n → nf G i ≠ true) :
    St4 k G F H F (ds.map some ++ List.replicate (N.length - ds.length) none) (start N vs) H := by
  have none_ : ∀ (i : Nat) (d : D), (ds.map some ++ List.replicate (N.length - ds.length) none)[i]? = some (some d) → i < ds.length ∧ ds[i]? = some d := fun i d e => by
    by_cases hi : i < ds.length
    · rw [List.getElem?_append_left (by simpa using hi), List.getElem?_map] at e
      cases z : ds[i]? with
      | none => rw [z] at e; cases e
      | some x => rw [z] at e; cases e; exact ⟨hi, rfl⟩
    · rw [List.getElem?_append_right (by simpa using hi), List.getElem?_replicate] at e
      split at e <;> cases e
  refine ⟨Ext.refl s, ?_, fun i d e g => ?_, fun i d e g => ?_, fun i j d e p e1 e2 g1 g2 => ?_, fun i a h => (by rw [noPin_at np i] at h; cases h), fun i p d h e => absurd (nf_own (lockAt_own h)) (hG i (hn ▸ (none_ i d e).1)), fun _ => [], ⟨fun i d sh o e1 e2 => absurd (nf_of.mpr (.inr ⟨_, e1⟩)) (hG i (hn ▸ (none_ i d e2).1)), fun _ _ => rfl, fun _ => List.nodup_nil, fun _ _ h => (nomatch h), fun _ _ _ h => (nomatch h), fun _ _ _ _ _ _ _ => List.not_mem_nil⟩⟩
  · unfold L2.start
    rw [List.length_append, List.length_append, List.length_map, List.length_map, List.length_replicate, List.length_replicate, dv.length]
  · obtain ⟨hi, e⟩ := none_ i d e
    obtain ⟨v, e1, e2⟩ := dv.get e
    refine ⟨v, ?_, e2⟩
    unfold L2.start
    rw [List.getElem?_append_left (by rw [List.length_map, dv.length]; exact hi), List.getElem?_map, e1]
    rfl
  · obtain ⟨hi, e⟩ := none_ i d e
    exact absurd (nf_own g) (hG i (hn ▸ hi))
  · obtain ⟨hi, e⟩ := none_ i d e1
    exact absurd (nf_own g1) (hG i (hn ▸ hi))
theorem okXb {nn : Bool} {P : Program} {w : World} {K : PySem.W.Frag} {mg : Str → Option Value} {base : Heap} {x qual : Str} {st : Stmt} {f : Addr} {fd : FuncData} {N ps : List Str} {k : Nat} {sp : Sp} (F : Fun K x qual st f fd) (S : FnScope N ps (defScope st)) (len : ∀ vs H Q E, sp vs H Q E → vs.length = ps.length)
    (hbody : ∀ (cdv : Value) (A : Around) (outer : List PySem.Env) (s : Shared) (H : Hp) (vs : List V) (Q : VK) (E : XK), Room k (A.deeper (envOfC qual (defScope st) s.heap.objs.size f cdv)) → sp vs H Q E →
      ∃ t, PSs (cxOf (CXb nn P w) P w K mg base N qual (defScope st) f cdv A outer s H E) (defBody st) t ∧ t { nx := fun _ H' => Q .non H', rt := Q } (start N vs) H) : FnOk P w K mg base (CXb nn P w) (k + 1) f fd ps sp := by
  obtain ⟨oc, od, kV, doc, pm, an, cdv, ct, osl, rfl, lk, hcd⟩ := F.ex
  exact fn_of lk hcd S len fun A outer s H vs Q E hr hsp => hbody cdv A outer s H vs Q E hr hsp
theorem takesB {nn : Bool} {P : Program} {w : World} {K : PySem.W.Frag} {mg : Str → Option Value} {base : Heap} {N : List Str} {qual : Str} {scope : Scope} {f : Addr} {cdv : Value} {A : Around} {outer : List PySem.Env} {s : Shared} {H : Hp} {E : XK} :
    TkB nn (cxOf (CXb nn P w) P w K mg base N qual scope f cdv A outer s H E) (fun cls d _ H => E cls d H) := match nn with
  | false => L2.takes_of rfl rfl rfl rfl
  | true => L2N.takes_of rfl rfl rfl rfl
/-- THE RULE for a def: its body's derivation -/
theorem pu_def {nn : Bool} {x qual : Str} {st : Stmt} {f : Addr} {fd : FuncData} {N ps : List Str} {lvl : Nat} {k : KC} {ro : Bool} {m : List D → R D} (nN n : Nat) (G Gn : List Md) (b : Env → SR) (hm : m = runD nN b) (hNl : N.length = nN) (hnl : ps.length = n) (F : Fun K x qual st f fd) (S : FnScope N ps (defScope st)) (hk : k.K = K)
    (np : noPin G = true) (hG : ∀ i, i < ps.length → nf G i ≠ true) (hnx : ro = true → ∀ r r', b r ≠ .nx r')
    (hbody : ∀ (cdv : Value) (A : Around) (outer : List PySem.Env) (s : Shared) (H : Hp) (E : XK), Room lvl (cxOf (CXb nn P w) P w K mg base N qual (defScope st) f cdv A outer s H E).A → Jc (cxOf (CXb nn P w) P w K mg base N qual (defScope st) f cdv A outer s H E) →
      ∀ wv ge, (∀ {G : List Md}, Jx (cxOf (CXb nn P w) P w K mg base N qual (defScope st) f cdv A outer s H E) k G ⟨wv, ge, nn⟩) → PuB (cxOf (CXb nn P w) P w K mg base N qual (defScope st) f cdv A outer s H E) k G Gn Gn ⟨wv, ge, nn⟩ (rmB ro) (defBody st) b) :
    FnOk P w K mg base (CXb nn P w) (lvl + 1) f fd ps (spP k n m ro) := by
  subst hm hNl hnl
  refine okXb F S (fun vs H Q E h => ?_) (fun cdv A outer s H vs Q E hr h => ?_)
  · obtain ⟨F, ds, _, dv, hl, _⟩ := h
    rw [dv.length, hl]
  · obtain ⟨F, ds, sm, dv, hl, q⟩ := h
    have body := hbody cdv A outer s H E hr ⟨rfl, passes_of rfl⟩ (fun cls d _ H => E cls d H) gAny ⟨hk, S.nd, takesB, okN⟩
    refine ⟨_, pb_can, body.run F H F _ _ H _ (St4.start sm dv hl np hG) ?_⟩
    unfold runD at q
    cases z : b (ds.map some ++ List.replicate (N.length - ds.length) none) with
    | nx r =>
      rw [z] at q
      intro F' σ' H' _ S'
      cases ro with
      | false => exact q .non F' H' S'.ext .non
      | true => exact absurd z (hnx rfl _ _)
    | ret d => rw [z] at q; exact fun v F' H' x r => q v F' H' x (by cases ro <;> exact r)
    | bk r => rw [z] at q; exact q.elim
    | ct r => rw [z] at q; exact q.elim
    | exc e r => rw [z] at q; exact fun cls dd G' F1 F' σ' H1 H' _ _ S1 x1 ea => q cls dd F' H' (S1.ext.trans x1) ea
    | stuck => rw [z] at q; exact q.elim
end
section
variable {X : Cx} {k : KC} {G : List Md} {W : WE} {lvl n : Nat} {f : Addr} {fd : FuncData} {ps : List Str} {M : List D → R D} {ro : Bool} {x : Str} {e : Expr} {es : List Expr} {fs : Env → R (List D)} {p pos : Pos}
/-- f(e, ..) -/
def callN (n : Nat) (M : List D → R D) (fs : Env → R (List D)) : Env → R D := fun r => fs r >>= fun ds => if ds.length = n then M ds else .stuck
theorem pu_call (J : Jx X k G W) (F : FnOk X.prog X.w X.K X.mg X.base (CXb W.nn X.prog X.w) lvl f fd ps (spP k n M ro)) (hr : Room lvl X.A) (hm : X.mg x = some (.ref f)) (hk : PySem.W.keepIn X.K (.ref f) = true) (hb : Binds X.K fd ps [])
    (ha : PuA X k G W .frz (e :: es) fs) (hg : Gl X x := by rfl) (hdb : (x == ("__debug__" : Str)) = false := by decide) (he : starEach (e :: es) X.env = (false, eval e X.env) :: starEach es X.env := by rfl) (hpl : (backTo pos (starEach es X.env)).any (·.1) = false := by rfl) :
    PuE X k G W (if ro then .own else .frz) (.Call (.Name x p) (e :: es) [] pos) (callN n M fs) := .mk fun F0 H0 F1 ρ σ H Q S q => by
  refine canE_of (pe_callS F hr hg hm hk hb (passAtB J.tk) pa_can hdb he hpl) (ha.run F0 H0 F1 ρ σ H _ S ?_)
  refine (PostR.bind q).imp fun ds _ q1 vs F2 H2 x2 rv => ?_
  by_cases hl : ds.length = n
  · rw [if_pos hl] at q1
    refine ⟨F2, ds, x2.sub, rv.frz_iff, hl, ?_⟩
    cases z : M ds with
    | ok d =>
      rw [z] at q1
      exact fun v F' H' x3 r3 => q1 v F' H' (x2.trans x3) (r3.back x2.sh)
    | exc y =>
      rw [z] at q1
      exact fun cls dd F' H' x3 ea => q1 cls dd F' H' (x2.trans x3) ea
    | stuck => rw [z] at q1; exact q1
  · rw [if_neg hl] at q1
    exact q1.elim
end

/-! ### isinstance of built-in kinds -/
theorem bt_int : bootBuiltins "int" = some (.type "int") := by decide +kernel
theorem bt_bool : bootBuiltins "bool" = some (.type "bool") := by decide +kernel
theorem bt_str : bootBuiltins "str" = some (.type "str") := by decide +kernel
theorem bt_list : bootBuiltins "list" = some (.type "list") := by decide +kernel
theorem bt_tuple : bootBuiltins "tuple" = some (.type "tuple") := by decide +kernel
theorem bt_dict : bootBuiltins "dict" = some (.type "dict") := by decide +kernel
theorem bt_isi : bootBuiltins "isinstance" = some (.builtin "isinstance") := by decide +kernel
inductive Kd where | int | bool | str | list | tuple | dict
  deriving DecidableEq
def Kd.nm : Kd → String
  | .int => "int" | .bool => "bool" | .str => "str" | .list => "list" | .tuple => "tuple" | .dict => "dict"
def isK (t : Kd) : D → R D
  | .non => .ok (.bl false)
  | .bl _ => .ok (.bl (decide (t = .bool ∨ t = .int)))
  | .int _ => .ok (.bl (decide (t = .int)))
  | .str _ => .ok (.bl (decide (t = .str)))
  | .tup _ => .ok (.bl (decide (t = .tuple)))
  | .lst _ => .ok (.bl (decide (t = .list)))
  | .scr _ => .stuck
  | .dct _ _ => .ok (.bl (decide (t = .dict)))
  | .dtt _ _ => .stuck
  | .ins _ _ _ => .stuck
def isIns (t : Kd) : List D → R D
  | [d] => isK t d
  | _ => .stuck
theorem isIns_exc {t : Kd} : ∀ ds x, isIns t ds ≠ .exc x := fun ds x h => by
  match ds, h with
  | [], h => cases h
  | [d], h => cases d <;> cases h
  | d :: _ :: _, h => cases d <;> cases h
section
variable {X : Cx} {k : KC} {G : List Md} {W : WE} {m : Mo} {e : Expr} {f : Env → R D} {p p2 pos : Pos}
theorem kit_tb {K : PySem.W.Frag} : ∀ (t : Kd),
    PySem.W.kitOne K (.type "NoneType") (.type t.nm) = some false ∧ PySem.W.kitOne K (.type "bool") (.type t.nm) = some (decide (t = .bool ∨ t = .int)) ∧ PySem.W.kitOne K (.type "int") (.type t.nm) = some (decide (t = .int)) ∧
    PySem.W.kitOne K (.type "str") (.type t.nm) = some (decide (t = .str)) ∧ PySem.W.kitOne K (.type "tuple") (.type t.nm) = some (decide (t = .tuple)) ∧ PySem.W.kitOne K (.type "list") (.type t.nm) = some (decide (t = .list)) ∧
    PySem.W.kitOne K (.type "dict") (.type t.nm) = some (decide (t = .dict)) := fun t => by
  cases t <;> exact ⟨kit_ty (by decide +kernel), kit_ty (by decide +kernel), kit_ty (by decide +kernel), kit_ty (by decide +kernel), kit_ty (by decide +kernel), kit_ty (by decide +kernel), kit_ty (by decide +kernel)⟩
theorem pu_isins (J : Jx X k G W) (t : Kd) {tn : Str} (he : PuE X k G W m e f) (hm : X.mg "isinstance" = none) (hn : X.mg tn = none) (ht : bootBuiltins tn = some (.type t.nm)) 
    (hg : Gl X "isinstance" := by rfl) (hg2 : Gl X tn := by rfl) (hne : tn ≠ "__name__" := by decide) (hdb : (tn == ("__debug__" : Str)) = false := by decide)
    (hs : starEach [e, .Name tn p2] X.env = (false, eval e X.env) :: starEach [.Name tn p2] X.env := by rfl) (hs2 : starEach [.Name tn p2] X.env = [(false, eval (.Name tn p2) X.env)] := by rfl) (hpl : (backTo pos (starEach [.Name tn p2] X.env)).any (·.1) = false := by rfl) :
    PuE X k G W .frz (.Call (.Name "isinstance" p) [e, .Name tn p2] [] pos) (fun r => f r >>= isK t) := .mk fun F0 H0 F ρ σ H Q S q => by
  refine canE_of (pe_callB call_isi hg hm bt_isi (pa_cons pe_can (pa_cons (pe_bltn (v := .ty t.nm) hg2 hn ht rfl hne hdb) pa_nil hs2) hs) (by decide) (by decide) hs hpl) (he.run F0 H0 F ρ σ H _ S ?_)
  refine (PostR.bind q).imp fun d _ q1 v F1 H1 x1 rv => ?_
  obtain ⟨k1, k2, k3, k4, k5, k6, k7⟩ := kit_tb (K := X.K) t
  have fin : ∀ {b : Bool} {tv : Value}, isK t d = .ok (.bl b) → TyX X.K H1 v tv → PySem.W.kitOne X.K tv (.type t.nm) = some b → ∃ x c t' u b, [v, V.ty t.nm] = [x, c] ∧ ClsV c u ∧ TyX X.K H1 x t' ∧ PySem.W.kitOne X.K t' u = some b ∧ Q (.bl b) H1 := fun {b tv} hz ty kt => by
    rw [hz] at q1
    exact ⟨v, .ty t.nm, tv, .type t.nm, b, rfl, .ty _, ty, kt, q1 _ F1 H1 x1 (.bl _)⟩
  cases d with
  | non => rw [vw_non rv.vw] at fin ⊢; exact fin rfl (.base .non) k1
  | bl b => rw [vw_bl rv.vw] at fin ⊢; exact fin rfl (.base (.bl _)) k2
  | int i => rw [vw_int rv.vw] at fin ⊢; exact fin rfl (.base (.int _)) k3
  | str z => rw [(vw_str rv.vw).1] at fin ⊢; exact fin rfl (.base (.str _)) k4
  | tup ds =>
    obtain ⟨a, xs, e1, t1, a1⟩ := vw_tup rv.vw
    rw [e1] at fin ⊢
    exact fin rfl (.base (.tup (x1.sub _ _ t1))) k5
  | lst ds =>
    obtain ⟨a, xs, e1, t1, a1⟩ := vw_lst x1.sub rv.vw
    rw [e1] at fin ⊢
    exact fin rfl (.base (.lst t1)) k6
  | dct ks ds =>
    obtain ⟨a, xs, e1, t1, a1⟩ := vw_dct x1.sub rv.vw
    rw [e1] at fin ⊢
    exact fin rfl (.base (.dK t1)) k7
  | _ => exact q1.elim
end
end Pu

namespace Pu
open PySem PySem.Spec PyProof.Rows L2

/-! ### the end of a law -/
theorem law_end {K : PySem.W.Frag} {ct ci : Nat → Option Addr} {H : Hp} {a : Addr} {ns : List Int} {M : List D → R D} (hS : SqL K H a (ns.map V.int)) (h : M [.scr ns] = .ok (.bl true)) :
    spP ⟨K, ct, ci⟩ 1 M false [.ref a] H (fun v _ => v = .bl true) fun _ _ _ => False :=
  ⟨H, [.scr ns], Same.refl H, .cons (.scr hS) .nil, rfl, by rw [h]; exact fun v F' H' x r => by cases r; rfl⟩
theorem noCX {P : Program} {w : World} {H : Hp} {s : Shared} {e : Value} {s' : Shared} (h : L2.CX P w [] H s (fun _ _ _ => False) e s') : False := by
  obtain ⟨_, _, _, _, _, _, _, _, _, _, _, _, z⟩ := h
  exact z

/-! ### a, b = x, y -/
def sPar (i j : Nat) (fs : Env → R (List D)) : Env → SR := fun r => match fs r with
  | .ok [d, e] => .nx ((r.set i (some d)).set j (some e))
  | .ok _ => .stuck
  | .exc x => .exc x r
  | .stuck => .stuck
section
variable {X : Cx} {k : KC} {G Gl : List Md} {W : WE} {ro : RM} {a b e : Expr} {f g : Env → R D} {fs : Env → R (List D)} {pos : Pos}
theorem pus_par {x y : Str} {px py pt : Pos} {kt k2 : Nat} {pt2 : Pos} (i j : Nat) (K : Jx X k G W) (J : Jc X) (ha : PuA X k G W .frz [a, b] fs) (hi : X.N[i]? = some x := by rfl) (hj : X.N[j]? = some y := by rfl) (hij : i ≠ j := by decide)
    (hx : X.env.scope.names.lookup x = some .local := by rfl) (hy : X.env.scope.names.lookup y = some .local := by rfl) (hgi : nf G i ≠ true := by exact Bool.false_ne_true) (hgj : nf G j ≠ true := by exact Bool.false_ne_true) (hpi : pinAt G i = none := by rfl) (hpj : pinAt G j = none := by rfl)
    (hw : swappedStores [.Tuple [.Name x px, .Name y py] kt pt] (.Tuple [a, b] k2 pt2) X.env = pure (some [x, y]) := by rfl)
    (hs : swapsWithSole [.Tuple [.Name x px, .Name y py] kt pt] (.Tuple [a, b] k2 pt2) pos.line X.env = pure false := by rfl) :
    PuS X k G G Gl W ro (.Assign [.Tuple [.Name x px, .Name y py] kt pt] (.Tuple [a, b] k2 pt2) pos) (sPar i j fs) := .mk fun F0 H0 F ρ σ H Dn S q => by
  refine canS_of (ps_par (i := i) (j := j) J.calm K.nd hi hj hij hx hy pa_can hw hs) (ha.run F0 H0 F ρ σ H _ S ?_)
  unfold sPar at q
  cases z : fs ρ with
  | exc x => rw [z] at q; exact fun cls dd F' H' y z => q cls dd G F F' σ H H' K.oke (Same.refl F) S y z
  | stuck => rw [z] at q; exact q
  | ok ds =>
    rw [z] at q
    intro vs F1 H1 x1 rv
    match ds, vs, q, rv with
    | [d, e], [v, w], q, rv =>
      exact ⟨v, w, rfl, q F1 _ H1 x1.sf (((S.step x1).setF rv.1 Eqx.refl hgi hpi).setF rv.2.1 Eqx.refl hgj hpj)⟩
    | [], _, q, _ => exact q.elim
    | [_], _, q, _ => exact q.elim
    | _ :: _ :: _ :: _, _, q, _ => exact q.elim
    | [_, _], [], _, rv => exact rv.elim
    | [_, _], [_], _, rv => exact rv.2.elim
    | [_, _], _ :: _ :: _ :: _, _, rv => exact rv.2.2.elim
end
end Pu

namespace Pu
open PySem PySem.Spec PyProof.Rows L2

abbrev cs (s : Str) : Tx := s.cps.toList
theorem tx_cs (s : Str) : tx (cs s) = s := tx_surj s
theorem cs_tx (s : Tx) : cs (tx s) = s := by simp [cs, tx]
theorem cs_len (s : Str) : (cs s).length = s.length := by simp [cs, Str.length]
theorem dv_str {k : KC} {F : Hp} (s : Str) (h : s.length ≤ sizeLine) : Dv k F (.str s) (.str (cs s)) := Dv.str' s h
/-! ### module constants -/
section
variable {X : Cx} {k : KC} {G : List Md} {W : WE} {x : Str} {pos : Pos}
theorem pu_gstr (s : Tx) (hm : ∃ t, X.mg x = some (.str (tx s) t)) (hl : s.length ≤ 100000 := by decide) (hg : Gl X x := by rfl) (hd : (x == ("__debug__" : Str)) = false := by decide) : PuE X k G W .frz (.Name x pos) (eC (.str s)) := by
  obtain ⟨t, hm⟩ := hm
  exact pu_const (pe_glob (v := .str (tx s)) hg hm ⟨t, rfl⟩ hd) fun _ => .str s (Nat.le_trans hl (by decide))
theorem pu_gint {i : Int} (hm : ∃ t, X.mg x = some (.int i t)) (hg : Gl X x := by rfl) (hd : (x == ("__debug__" : Str)) = false := by decide) : PuE X k G W .frz (.Name x pos) (eC (.int i)) := by
  obtain ⟨t, hm⟩ := hm
  exact pu_const (pe_glob (v := .int i) hg hm ⟨t, rfl⟩ hd) fun _ => .int i
end
/-! ### more built-ins -/
theorem bt_abs : bootBuiltins "abs" = some (.builtin "abs") := by decide +kernel
theorem bt_sum : bootBuiltins "sum" = some (.builtin "sum") := by decide +kernel
theorem bt_sorted : bootBuiltins "sorted" = some (.builtin "sorted") := by decide +kernel
/-- not served: what is not asked -/
def un1 (o : D → R D) : List D → R D
  | [d] => o d
  | _ => .stuck
theorem un1_exc {o : D → R D} (h : ∀ d x, o d ≠ .exc x) : ∀ ds x, un1 o ds ≠ .exc x := fun ds x z => by
  match ds, z with
  | [], z => cases z
  | [d], z => exact h d x z
  | _ :: _ :: _, z => cases z
def OneP (k : KC) (m : Mo) (r : V → Hp → VK → Prop) (o : D → R D) : Prop :=
  ∀ (F H : Hp) (v : V) (d : D) (Q : VK), Same F H → Res k .vw H F H v d → (match o d with | .ok z => ∀ u F' H', Ext F H F' H' → Res k m H F' H' u z → Q u H' | _ => False) → r v H Q
theorem callp_un {k : KC} {m : Mo} {r : List V → Hp → VK → Prop} {o : D → R D} (h : OneP k m (fun v H Q => r [v] H Q) o) : CallP k m r (un1 o) := fun F H vs ds Q s rv q => by
  match ds, q, rv with
  | [], q, _ => exact q.elim
  | [d], q, rv =>
    obtain ⟨v, e, r1⟩ := resA1 rv
    subst e
    exact h F H v d Q s r1 q
  | _ :: _ :: _, q, _ => exact q.elim
section
variable {X : Cx} {k : KC} {G : List Md} {W : WE} {m m1 m2 : Mo} {a b e : Expr} {es : List Expr} {f g : Env → R D} {fs : Env → R (List D)} {pos p apos : Pos} {x : Str}
def absI : D → R D
  | .int i => .ok (.int (if i < 0 then -i else i))
  | _ => .stuck
def absD : List D → R D := un1 absI
theorem pu_abs (ha : PuA X k G W m1 [e] fs) (hm : X.mg "abs" = none) (hg : Gl X "abs" := by rfl) (he : starEach [e] X.env = [(false, eval e X.env)] := by rfl) : PuE X k G W .frz (.Call (.Name "abs" p) [e] [] pos) (eA absD fs) :=
  pu_callB call_abs (callp_un fun F H v d Q s h q => by
    cases d with
    | int i => exact ⟨i, by rw [vw_int h], q _ F H (Ext.refl s) (.int _)⟩
    | _ => exact q.elim) (un1_exc fun d x h => by cases d <;> cases h) ha hm bt_abs hg (by decide) (by decide) he rfl
/-- list(..) of a list, a tuple -/
def listI : D → R D
  | .lst ds => .ok (.lst ds)
  | .tup ds => .ok (.lst ds)
  | .scr ns => .ok (.lst (ns.map D.int))
  | _ => .stuck
def listD : List D → R D := un1 listI
theorem one_list : OneP k .own (fun v H Q => ∃ p ys, [v] = [V.ref p] ∧ (SqL k.K H p ys ∨ SqT k.K H p ys) ∧ ∀ l, H l = none → Q (.ref l) (upd H l (.lst ys))) listI := fun F H v d Q s h q => by
  have fin : ∀ {a : Addr} {xs : List V} {ds : List D}, v = .ref a → (SqL k.K H a xs ∨ SqT k.K H a xs) → DvAll k F xs ds → (∀ u F' H', Ext F H F' H' → Res k .own H F' H' u (.lst ds) → Q u H') →
      ∃ p ys, [v] = [V.ref p] ∧ (SqL k.K H p ys ∨ SqT k.K H p ys) ∧ ∀ l, H l = none → Q (.ref l) (upd H l (.lst ys)) := fun {a xs ds} e h1 h2 q => by
    subst e
    exact ⟨a, xs, rfl, h1, fun l hl => q _ F _ (Ext.own s hl) ⟨l, rfl, hl, s.free hl, .lst upd_same h2⟩⟩
  cases d with
  | lst ds =>
    obtain ⟨a, xs, e, h1, h2⟩ := vw_lst s h
    exact fin e (.inl (SqL.of h1)) h2 q
  | tup ds =>
    obtain ⟨a, xs, e, h1, h2⟩ := vw_tup h
    exact fin e (.inr (SqT.of (s _ _ h1))) h2 q
  | scr ns =>
    obtain ⟨a, e, h1⟩ := vw_scr h
    exact fin e (.inl (sq_mono s h1)) (DvAll.ints ns) q
  | _ => exact q.elim
theorem pu_list (J : Jx X k G W) (ha : PuA X k G W m1 [e] fs) (hm : X.mg "list" = none) (hg : Gl X "list" := by rfl) (he : starEach [e] X.env = [(false, eval e X.env)] := by rfl) : PuE X k G W .own (.Call (.Name "list" p) [e] [] pos) (eA listD fs) :=
  pu_callTy (J.kk ▸ call_list_of) (callp_un one_list) (un1_exc fun d x h => by cases d <;> cases h) ha hm bt_list hg (by decide) (by decide) he rfl
/-- tuple(..) of a list, a tuple -/
def tupleI : D → R D
  | .lst ds => .ok (.tup ds)
  | .tup ds => .ok (.tup ds)
  | _ => .stuck
def tupleD : List D → R D := un1 tupleI
theorem pu_tuple (J : Jx X k G W) (ha : PuA X k G W m1 [e] fs) (hm : X.mg "tuple" = none) (hg : Gl X "tuple" := by rfl) (he : starEach [e] X.env = [(false, eval e X.env)] := by rfl) : PuE X k G W .frz (.Call (.Name "tuple" p) [e] [] pos) (eA tupleD fs) :=
  pu_callTy (J.kk ▸ call_tuple_of) (callp_un fun F H v d Q s h q => by
    cases d with
    | lst ds =>
      obtain ⟨a, xs, e, h1, h2⟩ := vw_lst s h
      subst e
      refine ⟨a, xs, rfl, .inl ⟨SqL.of h1, fun l hl => ?_⟩⟩
      have x := Ext.add (o := .tup xs) s hl
      exact q _ _ _ x (.tup upd_same (h2.mono x.sf))
    | tup ds =>
      obtain ⟨a, xs, e, h1, h2⟩ := vw_tup h
      subst e
      exact ⟨a, xs, rfl, .inr ⟨SqT.of (s _ _ h1), q _ F H (Ext.refl s) (.tup h1 h2)⟩⟩
    | _ => exact q.elim) (un1_exc fun d x h => by cases d <;> cases h) ha hm bt_tuple hg (by decide) (by decide) he rfl
/-- sum, max, min of a list of ints -/
def intsL (g : List Int → Option Int) : D → R D
  | .lst ds => match intsOf ds with
    | some ns => match g ns with
      | some n => .ok (.int n)
      | none => .stuck
    | none => .stuck
  | _ => .stuck
theorem intsL_exc {g : List Int → Option Int} : ∀ d x, intsL g d ≠ .exc x := fun d x h => by
  cases d with
  | lst ds =>
    simp only [intsL] at h
    split at h
    · split at h <;> cases h
    · cases h
  | _ => cases h
theorem intsL_inv {g : List Int → Option Int} {F H : Hp} {v : V} {d : D} {Q : VK} (s : Same F H) (h : Res k .vw H F H v d) (q : match intsL g d with | .ok z => ∀ u F' H', Ext F H F' H' → Res k .frz H F' H' u z → Q u H' | _ => False) :
    ∃ a ns n, v = .ref a ∧ SqL k.K H a (ns.map V.int) ∧ g ns = some n ∧ Q (.int n) H := by
  cases d with
  | lst ds =>
    obtain ⟨a, xs, e, h1, h2⟩ := vw_lst s h
    simp only [intsL] at q
    cases z : intsOf ds with
    | none => simp only [z] at q
    | some ns =>
      simp only [z] at q
      cases y : g ns with
      | none => simp only [y] at q
      | some n =>
        simp only [y] at q
        rw [intsOf_eq z] at h2
        have i1 := h2.ints_inv
        subst i1
        exact ⟨a, ns, n, e, SqL.of h1, y, q _ F H (Ext.refl s) (.int n)⟩
  | _ => exact q.elim
def sumI : D → R D := intsL (fun ns => some ns.sum)
def sumD : List D → R D := un1 sumI
theorem pu_sum (J : Jx X k G W) (hc : X.calm = true) (ha : PuA X k G W m1 [e] fs) (hm : X.mg "sum" = none) (hg : Gl X "sum" := by rfl) (he : starEach [e] X.env = [(false, eval e X.env)] := by rfl) : PuE X k G W .frz (.Call (.Name "sum" p) [e] [] pos) (eA sumD fs) :=
  pu_callB (J.kk ▸ cr_sum hc) (callp_un fun F H v d Q s h q => by
    obtain ⟨a, ns, n, e, h1, h2, h3⟩ := intsL_inv s h q
    cases h2
    exact ⟨a, ns, by rw [e], h1, h3⟩) (un1_exc intsL_exc) ha hm bt_sum hg (by decide) (by decide) he rfl
def maxOf : List Int → Option Int
  | [] => none
  | x :: r => some (r.foldl (fun a b => if b > a then b else a) x)
def minOf : List Int → Option Int
  | [] => none
  | x :: r => some (r.foldl (fun a b => if b < a then b else a) x)
theorem maxOf_is : ∀ {ns : List Int} {n m : Int}, maxOf ns = some n → m ∈ ns → (∀ y, y ∈ ns → y ≤ m) → m = n := by
  have key : ∀ (r : List Int) (x : Int), let n := r.foldl (fun a b => if b > a then b else a) x; (n = x ∨ n ∈ r) ∧ x ≤ n ∧ ∀ y ∈ r, y ≤ n := by
    intro r
    induction r with
    | nil => intro x; exact ⟨.inl rfl, Int.le_refl _, fun y h => nomatch h⟩
    | cons b r ih =>
      intro x
      simp only [List.foldl_cons]
      by_cases hb : b > x
      · rw [if_pos hb]
        obtain ⟨i1, i2, i3⟩ := ih b
        refine ⟨?_, by omega, ?_⟩
        · rcases i1 with i | i
          · exact .inr (by rw [i]; exact List.mem_cons_self ..)
          · exact .inr (List.mem_cons_of_mem _ i)
        · intro y hy
          rcases List.mem_cons.mp hy with rfl | hy
          · exact i2
          · exact i3 y hy
      · rw [if_neg hb]
        obtain ⟨i1, i2, i3⟩ := ih x
        refine ⟨?_, i2, ?_⟩
        · rcases i1 with i | i
          · exact .inl i
          · exact .inr (List.mem_cons_of_mem _ i)
        · intro y hy
          rcases List.mem_cons.mp hy with rfl | hy
          · omega
          · exact i3 y hy
  intro ns n m h hm hle
  cases ns with
  | nil => cases h
  | cons x r =>
    cases h
    obtain ⟨i1, i2, i3⟩ := key r x
    refine Int.le_antisymm ?_ ?_
    · rcases List.mem_cons.mp hm with rfl | hm
      · exact i2
      · exact i3 m hm
    · rcases i1 with i | i
      · rw [i]; exact hle x (List.mem_cons_self ..)
      · exact hle _ (List.mem_cons_of_mem _ i)
theorem minOf_is : ∀ {ns : List Int} {n m : Int}, minOf ns = some n → m ∈ ns → (∀ y, y ∈ ns → m ≤ y) → m = n := by
  have key : ∀ (r : List Int) (x : Int), let n := r.foldl (fun a b => if b < a then b else a) x; (n = x ∨ n ∈ r) ∧ n ≤ x ∧ ∀ y ∈ r, n ≤ y := by
    intro r
    induction r with
    | nil => intro x; exact ⟨.inl rfl, Int.le_refl _, fun y h => nomatch h⟩
    | cons b r ih =>
      intro x
      simp only [List.foldl_cons]
      by_cases hb : b < x
      · rw [if_pos hb]
        obtain ⟨i1, i2, i3⟩ := ih b
        refine ⟨?_, by omega, ?_⟩
        · rcases i1 with i | i
          · exact .inr (by rw [i]; exact List.mem_cons_self ..)
          · exact .inr (List.mem_cons_of_mem _ i)
        · intro y hy
          rcases List.mem_cons.mp hy with rfl | hy
          · exact i2
          · exact i3 y hy
      · rw [if_neg hb]
        obtain ⟨i1, i2, i3⟩ := ih x
        refine ⟨?_, i2, ?_⟩
        · rcases i1 with i | i
          · exact .inl i
          · exact .inr (List.mem_cons_of_mem _ i)
        · intro y hy
          rcases List.mem_cons.mp hy with rfl | hy
          · omega
          · exact i3 y hy
  intro ns n m h hm hle
  cases ns with
  | nil => cases h
  | cons x r =>
    cases h
    obtain ⟨i1, i2, i3⟩ := key r x
    refine Int.le_antisymm ?_ ?_
    · rcases i1 with i | i
      · rw [i]; exact hle x (List.mem_cons_self ..)
      · exact hle _ (List.mem_cons_of_mem _ i)
    · rcases List.mem_cons.mp hm with rfl | hm
      · exact i2
      · exact i3 m hm
def maxI : D → R D := intsL maxOf
def minI : D → R D := intsL minOf
def maxD : List D → R D := un1 maxI
def minD : List D → R D := un1 minI
theorem pu_max (J : Jx X k G W) (hc : X.calm = true) (ha : PuA X k G W m1 [e] fs) (hm : X.mg "max" = none) (hg : Gl X "max" := by rfl) (he : starEach [e] X.env = [(false, eval e X.env)] := by rfl) : PuE X k G W .frz (.Call (.Name "max" p) [e] [] pos) (eA maxD fs) :=
  pu_callB (J.kk ▸ cr_max hc) (callp_un fun F H v d Q s h q => by
    obtain ⟨a, ns, n, e, h1, h2, h3⟩ := intsL_inv s h q
    refine ⟨a, ns, by rw [e], h1, ?_, fun m hm hle => by rw [maxOf_is h2 hm hle]; exact h3⟩
    cases ns with
    | nil => cases h2
    | cons _ _ => exact Nat.succ_pos _) (un1_exc intsL_exc) ha hm bt_max hg (by decide) (by decide) he rfl
theorem pu_min (J : Jx X k G W) (hc : X.calm = true) (ha : PuA X k G W m1 [e] fs) (hm : X.mg "min" = none) (hg : Gl X "min" := by rfl) (he : starEach [e] X.env = [(false, eval e X.env)] := by rfl) : PuE X k G W .frz (.Call (.Name "min" p) [e] [] pos) (eA minD fs) :=
  pu_callB (J.kk ▸ cr_min hc) (callp_un fun F H v d Q s h q => by
    obtain ⟨a, ns, n, e, h1, h2, h3⟩ := intsL_inv s h q
    refine ⟨a, ns, by rw [e], h1, ?_, fun m hm hle => by rw [minOf_is h2 hm hle]; exact h3⟩
    cases ns with
    | nil => cases h2
    | cons _ _ => exact Nat.succ_pos _) (un1_exc intsL_exc) ha hm bt_min hg (by decide) (by decide) he rfl
/-- str(n); int(n), int(flag), int(text) -/
def strI : D → R D
  | .int i => if (decide (i.natAbs.log2 < 1920) && decide (((toString i : String) : Str).length ≤ szT)) = true then .ok (.str (cs ((toString i : String) : Str))) else .stuck
  | _ => .stuck
def strD : List D → R D := un1 strI
theorem pu_strI (ha : PuA X k G W m1 [e] fs) (hm : X.mg "str" = none) (hg : Gl X "str" := by rfl) (he : starEach [e] X.env = [(false, eval e X.env)] := by rfl) : PuE X k G W .frz (.Call (.Name "str" p) [e] [] pos) (eA strD fs) :=
  pu_callTy call_str_int (callp_un fun F H v d Q s h q => by
    cases d with
    | int i =>
      simp only [strI] at q
      split at q
      · rename_i z
        split at z
        · rename_i hc
          cases z
          rw [Bool.and_eq_true] at hc
          exact ⟨i, by rw [vw_int h], of_decide_eq_true hc.1, q _ F H (Ext.refl s) (dv_str _ (szT_le (of_decide_eq_true hc.2)))⟩
        · cases z
      · exact q.elim
    | _ => exact q.elim) (un1_exc fun d x h => by
      cases d with
      | int i => simp only [strI] at h; split at h <;> cases h
      | _ => cases h) ha hm bt_str hg (by decide) (by decide) he rfl
def intI : D → R D
  | .int i => .ok (.int i)
  | .bl b => .ok (.int (if b then 1 else 0))
  | .str s => if s.length ≤ 640 then (match PySem.intText? (tx s) with
    | some n => .ok (.int n)
    | none => .stuck) else .stuck
  | _ => .stuck
def intS : List D → R D := un1 intI
theorem pu_intS (ha : PuA X k G W m1 [e] fs) (hm : X.mg "int" = none) (hg : Gl X "int" := by rfl) (he : starEach [e] X.env = [(false, eval e X.env)] := by rfl) : PuE X k G W .frz (.Call (.Name "int" p) [e] [] pos) (eA intS fs) :=
  pu_callTy (CallR.or call_int1 call_int_str) (callp_un fun F H v d Q s h q => by
    cases d with
    | int i => exact .inl (.inl ⟨i, by rw [vw_int h], q _ F H (Ext.refl s) (.int _)⟩)
    | bl b => exact .inl (.inr ⟨b, by rw [vw_bl h], q _ F H (Ext.refl s) (.int _)⟩)
    | str z =>
      obtain ⟨e1, l1⟩ := vw_str h
      subst e1
      simp only [intI] at q
      by_cases hl : z.length ≤ 640
      · simp only [if_pos hl] at q
        cases y : PySem.intText? (tx z) with
        | none => simp only [y] at q
        | some n =>
          simp only [y] at q
          exact .inr ⟨tx z, n, rfl, y, by rw [tx_len]; exact hl, q _ F H (Ext.refl s) (.int n)⟩
      · simp only [if_neg hl] at q
    | _ => exact q.elim) (un1_exc fun d x h => by
      cases d with
      | str z =>
        simp only [intI] at h
        split at h
        · split at h <;> cases h
        · cases h
      | _ => cases h) ha hm bt_int hg (by decide) (by decide) he rfl

/-! ### methods of texts, of one argument -/
def txtD : D → R Unit
  | .str _ => .ok ()
  | _ => .stuck
def m1E (o : D → D → R D) (f g : Env → R D) : Env → R D := fun r => f r >>= fun x => txtD x >>= fun _ => g r >>= fun y => o x y
def Mt1 (k : KC) (m : Mo) (r : V → List V → Hp → VK → Prop) (o : D → D → R D) : Prop :=
  ∀ (F H : Hp) (v w : V) (d e : D) (Q : VK), Same F H → Res k .vw H F H v d → Res k .vw H F H w e →
    (match o d e with | .ok z => ∀ u F' H', Ext F H F' H' → Res k m H F' H' u z → Q u H' | _ => False) → (∃ a, v = .str a) ∧ r v [w] H Q
theorem pu_m1 {id : String} {name : Str} {r : V → List V → Hp → VK → Prop} {o : D → D → R D} (slot : Slot "str" name id) (ty : typeOf (.builtin id) = pure (.type "method_descriptor")) (rule : MtR X id r) (hp : Mt1 k m r o) (ne : NoExc2 o)
    (ha : PuE X k G W m1 a f) (hb : PuE X k G W m2 b g)
    (hs : starEach [b] X.env = [(false, eval b X.env)] := by rfl) (hbase : attributeBase a name X.env (eval a X.env) = eval a X.env := by rfl) (hline : (apos.endLine == pos.line) = true := by rfl) :
    PuE X k G W m (.Call (.Attribute a name apos) [b] [] pos) (m1E o f g) := .mk fun F0 H0 F ρ σ H Q S q => by
  refine canE_of (pe_m1 slot ty rule pe_can pe_can hs hbase hline) (ha.run F0 H0 F ρ σ H _ S ?_)
  refine (PostR.bind q).imp fun x _ q1 v F1 H1 x1 rv => ?_
  cases x with
  | str s =>
    refine ⟨⟨tx s, (vw_str rv.vw).1⟩, ?_⟩
    refine hb.run F0 H0 F1 ρ σ H1 _ (S.step x1) ?_
    have q1 : PostR k F H W σ _ (g ρ >>= fun y => o (.str s) y) := q1
    refine ((PostR.bind q1).grow x1).imp fun y _ q2 w F2 H2 x2 rw_ => ?_
    refine (hp F2 H2 v w (.str s) y Q x2.sub (rv.ext x2).vw rw_.vw ?_).2
    cases z : o (.str s) y with
    | ok d =>
      rw [z] at q2
      exact fun u F' H' x3 r3 => q2 u F' H' (x1.trans (x2.trans x3)) (r3.back (x1.sh.trans x2.sh))
    | exc e => exact absurd z (ne _ y e)
    | stuck => rw [z] at q2; exact q2
  | _ => exact q1.elim
theorem txt_of {F H : Hp} {v : V} {s : Tx} (h : Res k .vw H F H v (.str s)) : ∃ a, v = .str a := ⟨_, (vw_str h).1⟩
/-- s.zfill(n) -/
def zfillD : D → D → R D
  | .str s, .int i => if (PadOk i && decide ((Txt.zfill (tx s) i).length ≤ szT)) = true then .ok (.str (cs (Txt.zfill (tx s) i))) else .stuck
  | _, _ => .stuck
theorem pu_zfill (ha : PuE X k G W m1 a f) (hb : PuE X k G W m2 b g)
    (hs : starEach [b] X.env = [(false, eval b X.env)] := by rfl) (hbase : attributeBase a "zfill" X.env (eval a X.env) = eval a X.env := by rfl) (hline : (apos.endLine == pos.line) = true := by rfl) :
    PuE X k G W .frz (.Call (.Attribute a "zfill" apos) [b] [] pos) (m1E zfillD f g) :=
  pu_m1 PySem.F.slot_str_zfill PySem.F.type_str_zfill mt_zfill (fun F H v w d e Q s h1 h2 q => by
    cases d with
    | str z =>
      cases e with
      | int i =>
        simp only [zfillD] at q
        split at q
        · rename_i y
          split at y
          · rename_i hc
            cases y
            rw [Bool.and_eq_true] at hc
            obtain ⟨e1, l1⟩ := vw_str h1
            have e2 := vw_int h2
            subst e1
            subst e2
            exact ⟨⟨_, rfl⟩, _, i, rfl, rfl, hc.1, q _ F H (Ext.refl s) (dv_str _ (szT_le (of_decide_eq_true hc.2)))⟩
          · cases y
        · exact q.elim
      | _ => exact q.elim
    | _ => cases e <;> exact q.elim) (fun d e x h => by
      cases d <;> cases e <;> simp only [zfillD] at h
      all_goals first | cases h | (split at h <;> cases h)) ha hb hs hbase hline
theorem dvs_strs {F : Hp} : ∀ {ys : List Str}, (∀ y ∈ ys, y.length ≤ sizeLine) → DvAll k F (ys.map V.str) (ys.map fun y => D.str (cs y))
  | [], _ => .nil
  | y :: r, h => .cons (dv_str y (h y (List.mem_cons_self ..))) (dvs_strs fun z hz => h z (List.mem_cons_of_mem _ hz))
/-- s.split(sep) -/
def splitD : D → D → R D
  | .str s, .str b => if (!b.isEmpty && decide (s.length ≤ szT) && (Txt.split (tx s) (tx b)).all (fun y => decide (y.length ≤ szT))) = true then .ok (.lst ((Txt.split (tx s) (tx b)).map fun y => D.str (cs y))) else .stuck
  | _, _ => .stuck
theorem pu_split (ha : PuE X k G W m1 a f) (hb : PuE X k G W m2 b g)
    (hs : starEach [b] X.env = [(false, eval b X.env)] := by rfl) (hbase : attributeBase a "split" X.env (eval a X.env) = eval a X.env := by rfl) (hline : (apos.endLine == pos.line) = true := by rfl) :
    PuE X k G W .own (.Call (.Attribute a "split" apos) [b] [] pos) (m1E splitD f g) :=
  pu_m1 PySem.F.slot_str_split PySem.F.type_str_split mt_split (fun F H v w d e Q s h1 h2 q => by
    cases d with
    | str z =>
      cases e with
      | str b =>
        simp only [splitD] at q
        split at q
        · rename_i y
          split at y
          · rename_i hc
            cases y
            rw [Bool.and_eq_true, Bool.and_eq_true] at hc
            obtain ⟨⟨hb, hl⟩, ha⟩ := hc
            obtain ⟨e1, l1⟩ := vw_str h1
            obtain ⟨e2, l2⟩ := vw_str h2
            subst e1
            subst e2
            have hl' : z.length ≤ 1000000 := of_decide_eq_true hl
            refine ⟨⟨_, rfl⟩, _, _, rfl, rfl, ?_, ?_, fun p hp => ?_⟩
            · rw [tx_len]
              cases b with
              | nil => cases hb
              | cons _ _ => rfl
            · rw [tx_len, sizeLine_eq]
              omega
            · exact q _ F _ (Ext.own s hp) ⟨p, rfl, hp, s.free hp, .lst upd_same (dvs_strs fun y hy => szT_le (of_decide_eq_true (List.all_eq_true.mp ha y hy)))⟩
          · cases y
        · exact q.elim
      | _ => exact q.elim
    | _ => cases e <;> exact q.elim) (fun d e x h => by
      cases d <;> cases e <;> simp only [splitD] at h
      all_goals first | cases h | (split at h <;> cases h)) ha hb hs hbase hline
/-- s.partition(sep) -/
def partD : D → D → R D
  | .str s, .str b => if (!b.isEmpty && decide ((Txt.partition (tx s) (tx b)).1.length ≤ szT) && decide ((Txt.partition (tx s) (tx b)).2.1.length ≤ szT) && decide ((Txt.partition (tx s) (tx b)).2.2.length ≤ szT)) = true then
      .ok (.tup [.str (cs (Txt.partition (tx s) (tx b)).1), .str (cs (Txt.partition (tx s) (tx b)).2.1), .str (cs (Txt.partition (tx s) (tx b)).2.2)]) else .stuck
  | _, _ => .stuck
theorem pu_partition (ha : PuE X k G W m1 a f) (hb : PuE X k G W m2 b g)
    (hs : starEach [b] X.env = [(false, eval b X.env)] := by rfl) (hbase : attributeBase a "partition" X.env (eval a X.env) = eval a X.env := by rfl) (hline : (apos.endLine == pos.line) = true := by rfl) :
    PuE X k G W .frz (.Call (.Attribute a "partition" apos) [b] [] pos) (m1E partD f g) :=
  pu_m1 PySem.F.slot_str_partition PySem.F.type_str_partition mt_partition (fun F H v w d e Q s h1 h2 q => by
    cases d with
    | str z =>
      cases e with
      | str b =>
        simp only [partD] at q
        split at q
        · rename_i y
          split at y
          · rename_i hc
            cases y
            rw [Bool.and_eq_true, Bool.and_eq_true, Bool.and_eq_true] at hc
            obtain ⟨⟨⟨hb, h3⟩, h4⟩, h5⟩ := hc
            obtain ⟨e1, l1⟩ := vw_str h1
            obtain ⟨e2, l2⟩ := vw_str h2
            subst e1
            subst e2
            refine ⟨⟨_, rfl⟩, _, _, rfl, rfl, ?_, by rw [tx_len]; exact l1, fun p hp => ?_⟩
            · rw [tx_len]
              cases b with
              | nil => cases hb
              | cons _ _ => rfl
            · exact q _ _ _ (Ext.add s hp) (.tup upd_same (.cons (dv_str _ (szT_le (of_decide_eq_true h3))) (.cons (dv_str _ (szT_le (of_decide_eq_true h4))) (.cons (dv_str _ (szT_le (of_decide_eq_true h5))) .nil))))
          · cases y
        · exact q.elim
      | _ => exact q.elim
    | _ => cases e <;> exact q.elim) (fun d e x h => by
      cases d <;> cases e <;> simp only [partD] at h
      all_goals first | cases h | (split at h <;> cases h)) ha hb hs hbase hline
/-- sep.join(texts) -/
def strsOf : List D → Option (List Tx)
  | [] => some []
  | .str s :: r => (strsOf r).map (s :: ·)
  | _ :: _ => none
theorem strsOf_eq : ∀ {ds : List D} {ns : List Tx}, strsOf ds = some ns → ds = ns.map D.str
  | [], ns, h => by cases h; rfl
  | .str i :: r, ns, h => by
    cases e : strsOf r with
    | none => simp [strsOf, e] at h
    | some l =>
      simp [strsOf, e] at h
      subst h
      rw [strsOf_eq e]
      rfl
  | .non :: _, _, h => by cases h
  | .bl _ :: _, _, h => by cases h
  | .int _ :: _, _, h => by cases h
  | .tup _ :: _, _, h => by cases h
  | .lst _ :: _, _, h => by cases h
  | .scr _ :: _, _, h => by cases h
  | .dct _ _ :: _, _, h => by cases h
  | .dtt _ _ :: _, _, h => by cases h
  | .ins _ _ _ :: _, _, h => by cases h
theorem strsOf_map : ∀ ns : List Tx, strsOf (ns.map D.str) = some ns
  | [] => rfl
  | i :: r => by simp [strsOf, strsOf_map r]
theorem DvAll.strs_inv {F : Hp} : ∀ {ns : List Tx} {xs : List V}, DvAll k F xs (ns.map D.str) → xs = (ns.map tx).map V.str
  | [], xs, h => by cases h; rfl
  | i :: r, xs, h => by
    cases h with
    | cons h1 h2 =>
      cases h1
      rw [DvAll.strs_inv h2]
      rfl
def joinD : D → D → R D
  | .str s, d => match items d with
    | some ds => match strsOf ds with
      | some ts => if ((ts.map List.length).sum + ts.length * s.length ≤ szT ∧ (Txt.join (tx s) (ts.map tx)).length ≤ szT) then .ok (.str (cs (Txt.join (tx s) (ts.map tx)))) else .stuck
      | none => .stuck
    | none => .stuck
  | _, _ => .stuck
theorem joinD_exc : NoExc2 joinD := fun d e x h => by
  cases d with
  | str s =>
    simp only [joinD] at h
    split at h
    · split at h
      · split at h <;> cases h
      · cases h
    · cases h
  | _ => cases e <;> cases h
theorem pu_join (J : Jx X k G W) (ha : PuE X k G W m1 a f) (hb : PuE X k G W m2 b g)
    (hs : starEach [b] X.env = [(false, eval b X.env)] := by rfl) (hbase : attributeBase a "join" X.env (eval a X.env) = eval a X.env := by rfl) (hline : (apos.endLine == pos.line) = true := by rfl) :
    PuE X k G W .frz (.Call (.Attribute a "join" apos) [b] [] pos) (m1E joinD f g) :=
  pu_m1 PySem.F.slot_str_join PySem.F.type_str_join (J.kk ▸ mt_join) (fun F H v w d e Q s h1 h2 q => by
    cases d with
    | str z =>
      simp only [joinD] at q
      cases y1 : items e with
      | none => simp only [y1] at q
      | some ds =>
        cases y2 : strsOf ds with
        | none => simp only [y1, y2] at q
        | some ts =>
          simp only [y1, y2] at q
          split at q
          · rename_i y3
            split at y3
            · rename_i hc
              cases y3
              obtain ⟨e1, l1⟩ := vw_str h1
              subst e1
              obtain ⟨p, xs, e2, hp, dv⟩ := vw_I s h2 y1
              subst e2
              rw [strsOf_eq y2] at dv
              have ex := dv.strs_inv
              subst ex
              refine ⟨⟨_, rfl⟩, _, p, ts.map tx, rfl, rfl, hp, ?_, q _ F H (Ext.refl s) (dv_str _ (szT_le hc.2))⟩
              have hm : ((ts.map tx).map (·.length)) = ts.map List.length := by
                rw [List.map_map]
                exact List.map_congr_left fun t _ => tx_len t
              rw [hm, List.length_map, tx_len]
              have hz : (szT : Nat) ≤ 16777216 := by decide
              exact Nat.le_trans hc.1 hz
            · cases y3
          · exact q.elim
    | _ => exact q.elim) joinD_exc ha hb hs hbase hline
end
end Pu

namespace Pu
open PySem PySem.Spec PyProof.Rows L2

/-! ### what is never reached -/
def sDead : Env → SR := fun _ => .stuck
def eDead : Env → R D := fun _ => .stuck
section
variable {X : Cx} {k : KC} {G G1 Gn Gl : List Md} {W : WE} {ro : RM} {m : Mo} {e : Expr} {st : Stmt}
theorem pus_dead : PuS X k G Gn Gl W ro st sDead := .mk fun _ _ _ _ _ _ _ _ q => q.elim
theorem pu_dead : PuE X k G W m e eDead := .mk fun _ _ _ _ _ _ _ _ q => q.elim
end
/-! ### bodies that end by return -/
def NoNx (g : Env → SR) : Prop := ∀ r r', g r ≠ .nx r'
theorem nx_ret {f : Env → R D} : NoNx (sRet f) := fun r r' h => by
  unfold sRet sOf at h
  split at h <;> cases h
theorem nx_dead : NoNx sDead := fun _ _ h => by cases h
theorem nx_seq {a b : Env → SR} (hb : NoNx b) : NoNx (sSeq a b) := fun r r' h => by
  unfold sSeq at h
  split at h
  · exact hb _ _ h
  · rename_i z
    exact z _ h
theorem nx_if {t : Env → R Bool} {a b : Env → SR} (ha : NoNx a) (hb : NoNx b) : NoNx (sIf t a b) := fun r r' h => by
  unfold sIf sOfB at h
  split at h
  · dsimp only at h
    split at h
    · exact ha _ _ h
    · exact hb _ _ h
  · cases h
  · cases h

/-! ### own objects changed -/
section
variable {k : KC} {G : List Md} {F0 H0 F : Hp} {ρ : Env} {σ : Sl} {H : Hp}
theorem St4.wr (S : St4 k G F0 H0 F ρ σ H) {i : Nat} {d d' : D} {p : Addr} {o : HO} (hg : isOwn G i = true) (hd : ρ[i]? = some (some d)) (hs : σ[i]? = some (some (.ref p))) (hF : F p = none) (h0 : H0 p = none) (hw : OwnAt k F (upd H p o) p d') :
    St4 k G F0 H0 F (ρ.set i (some d')) σ (upd H p o) where
  ext := by
    refine ⟨S.ext.sf, fun a z e => ?_, fun a z e => ?_, S.ext.new⟩
    · rw [upd_ne (ne_of_none e h0)]; exact S.ext.sh _ _ e
    · rw [upd_ne (ne_of_none e hF)]; exact S.ext.sub _ _ e
  len := by rw [List.length_set]; exact S.len
  frz := fun j e q g => by
    rcases get_set_some q with ⟨rfl, q2, q3⟩ | ⟨q1, q2⟩
    · exact absurd (nf_own hg) g
    · exact S.frz j e q2 g
  own := fun j e q g => by
    rcases get_set_some q with ⟨rfl, q2, q3⟩ | ⟨q1, q2⟩
    · cases q2
      exact ⟨p, hs, hF, h0, hw⟩
    · obtain ⟨q, e1, e2, e3, e4⟩ := S.own j e q2 g
      have ne : q ≠ p := fun z => by
        subst z
        exact q1 (S.sep j i e d q q2 hd g hg e1 hs)
      refine ⟨q, e1, e2, e3, ?_⟩
      cases e4 with
      | lst a b => exact .lst (by rw [upd_ne ne]; exact a) b
      | dct a b c => exact .dct (by rw [upd_ne ne]; exact a) b c
      | dtt a b c => exact .dtt (by rw [upd_ne ne]; exact a) b c
  sep := fun a b da db p2 qa qb ga gb sa sb => by
    have up : ∀ j x, (ρ.set i (some d'))[j]? = some (some x) → ∃ y, ρ[j]? = some (some y) := fun j x q => by
      rcases get_set_some q with ⟨rfl, q2, q3⟩ | ⟨q1, q2⟩
      · exact ⟨_, hd⟩
      · exact ⟨_, q2⟩
    obtain ⟨x, hx⟩ := up a da qa
    obtain ⟨y, hy⟩ := up b db qb
    exact S.sep a b x y p2 hx hy ga gb sa sb
  pin := fun j a h => by
    have ne : i ≠ j := fun z => by rw [← z, isOwn_pinAt hg] at h; cases h
    obtain ⟨h1, h2, h3⟩ := S.pin j a h
    exact ⟨by rw [List.getElem?_set_ne ne]; exact h1, h2, h3⟩
  lk := fun j q d h e => by
    rcases get_set_some e with ⟨rfl, q2, q3⟩ | ⟨q1, q2⟩
    · exact S.lk _ q _ h hd
    · exact S.lk j q d h q2
  dp := by
    obtain ⟨fp, h⟩ := S.dp
    refine ⟨fp, fun j e sh o' e1 e2 => ?_, fun j z => ?_, h.nd, h.fr, h.dis, fun a b d2 q g e s => ?_⟩
    · rcases get_set_some e2 with ⟨rfl, q2, q3⟩ | ⟨q1, q2⟩
      · rw [own_deep hg] at e1; cases e1
      · obtain ⟨v, h1, h2, h3⟩ := h.at_ j e sh o' e1 q2
        refine ⟨v, h1, h2, h3.frame (Same.refl F) fun a ha => ?_⟩
        have ne : a ≠ p := fun z => by subst z; exact h.ow i j d a hg hd hs ha
        rw [upd_ne ne]
    · refine h.off j ?_
      rcases z with z | z
      · exact .inl z
      · by_cases hj : j = i
        · subst hj; exact .inl (own_deep hg)
        · right; intro e; have := z e; rw [List.getElem?_set_ne (Ne.symm hj)] at this; exact this
    · rcases get_set_some e with ⟨rfl, q2, q3⟩ | ⟨q1, q2⟩
      · exact h.ow _ b d q g hd s
      · exact h.ow a b d2 q g q2 s
end
/-- x.m(e, ..) of an own list, its answer dropped -/
def sMt (i : Nat) (o : List D → List D → R (List D)) (fs : Env → R (List D)) : Env → SR := fun r => match r[i]? with
  | some (some (.lst xs)) => match fs r with
    | .ok ds => match o xs ds with
      | .ok ys => .nx (r.set i (some (.lst ys)))
      | _ => .stuck
    | .exc x => .exc x r
    | .stuck => .stuck
  | _ => .stuck
def MtO (k : KC) (m : Mo) (r : V → List V → Hp → VK → Prop) (o : List D → List D → R (List D)) : Prop :=
  ∀ (F H H1 : Hp) (p : Addr) (vs : List V) (xs ys ds : List D) (Q : VK), Same F H → F p = none → OwnAt k F H p (.lst xs) → ResA k m H1 F H vs ds → o xs ds = .ok ys → (∀ o' u, OwnAt k F (upd H p o') p (.lst ys) → Q u (upd H p o')) → r (.ref p) vs H Q
section
variable {X : Cx} {k : KC} {G G1 Gn Gl : List Md} {W : WE} {ro : RM} {m m1 m2 : Mo} {e a b c : Expr} {es : List Expr} {fs : Env → R (List D)} {f g h : Env → R D} {x name : Str} {p1 apos cpos pos : Pos} {id T : String} {r : V → List V → Hp → VK → Prop} {o : List D → List D → R (List D)}
theorem own_ty {K : PySem.W.Frag} {F H : Hp} {p : Addr} {ds : List D} (h : OwnAt k F H p (.lst ds)) : tyV K "list" (.ref p) H := by
  cases h with
  | lst h1 _ => exact .inl ⟨rfl, _, SqL.of h1⟩
theorem pus_mt (J : Jx X k G W) (pa : PlainAttrs "list") (slot : Slot "list" name id) (hty : typeOf (.builtin id) = pure (.type "method_descriptor")) (rule : MtR X id r) (hp : MtO k m r o) (i : Nat) (ha : PuA X k G W m (e :: es) fs) (hN : X.N[i]? = some x) (hg : isOwn G i = true)
    (hv : Vis X.env.scope x) (hd : (x == ("__debug__" : Str)) = false) (hcd : (x == ("__classdict__" : Str)) = false)
    (hbase : attributeBase (.Name x p1) name X.env (eval (.Name x p1) X.env) = eval (.Name x p1) X.env)
    (hfew : ((backTo cpos (starEach (e :: es) X.env)).all (fun x => !x.1) && (backToKw cpos (keywordEach [] X.env)).all (fun x => x.1.isSome)
      && decide ((e :: es).length + ([] : List Keyword).length + (if ([] : List Keyword).isEmpty then 0 else 1) < 30)) = true)
    (hline : (apos.endLine == cpos.line) = true) (hs : starEach (e :: es) X.env = (false, eval e X.env) :: starEach es X.env) (hplain : (backTo cpos (starEach es X.env)).any (·.1) = false)
    (hsw : swapsWith (.Call (.Attribute (.Name x p1) name apos) (e :: es) [] cpos) none pos.line X.env = pure false) :
    PuS X k G G Gl W ro (.Expr (.Call (.Attribute (.Name x p1) name apos) (e :: es) [] cpos) pos) (sMt i o fs) := .mk fun F0 H0 F ρ σ H Dn S q => by
  refine canS_of (ps_expr (pe_bm pa slot hty rule (pe_var hN hv hd hcd) pa_can hbase hfew hline hs hplain) hsw) ?_
  unfold sMt at q
  cases y : ρ[i]? with
  | none => rw [y] at q; exact q.elim
  | some z =>
    cases z with
    | none => rw [y] at q; exact q.elim
    | some d =>
      cases d with
      | lst xs =>
        rw [y] at q
        simp only at q
        obtain ⟨p, e1, fp, h0, ow⟩ := S.own i _ y hg
        refine ⟨_, e1, own_ty ow, ha.run F0 H0 F ρ σ H _ S ?_⟩
        cases z : fs ρ with
        | stuck => rw [z] at q; exact q.elim
        | exc y => rw [z] at q; exact fun cls dd F' H' y z => q cls dd G F F' σ H H' J.oke (Same.refl F) S y z
        | ok ds =>
          rw [z] at q
          simp only at q
          intro vs F1 H1 x1 rv
          cases zo : o xs ds with
          | exc _ => rw [zo] at q; exact q.elim
          | stuck => rw [zo] at q; exact q.elim
          | ok ys =>
            rw [zo] at q
            have S1 := S.step x1
            obtain ⟨p', e1', fp', h0', ow'⟩ := S1.own i _ y hg
            rw [e1] at e1'
            cases e1'
            exact hp F1 H1 H p vs xs ys ds _ S1.sub fp' ow' rv zo fun o' _ w' => q F1 σ _ x1.sf (S1.wr hg y e1 fp' h0' w')
      | _ => rw [y] at q; exact q.elim
/-- x.append(e) -/
def appO : List D → List D → R (List D)
  | xs, [d] => if xs.length < szT then .ok (xs ++ [d]) else .stuck
  | _, _ => .stuck
theorem own_lst {F H : Hp} {p : Addr} {xs : List D} (h : OwnAt k F H p (.lst xs)) : ∃ us, H p = some (.lst us) ∧ DvAll k F us xs := by
  cases h with
  | lst h1 h2 => exact ⟨_, h1, h2⟩
theorem mo_append : MtO k .frz rAppend appO := fun F H H1 p vs xs ys ds Q s fp ow rv z q => by
  obtain ⟨us, h1, h2⟩ := own_lst ow
  match ds, z, rv with
  | [d], z, rv =>
    obtain ⟨v, e, r1⟩ := resA1 rv
    subst e
    simp only [appO] at z
    split at z
    · rename_i hl
      cases z
      refine ⟨p, us, v, rfl, rfl, h1, ?_, q _ _ (.lst upd_same (h2.append (.cons r1 .nil)))⟩
      rw [h2.length]
      exact Nat.lt_of_lt_of_le hl (szT_le (Nat.le_refl _))
    · cases z
  | [], z, _ => cases z
  | _ :: _ :: _, z, _ => cases z
def sApp (i : Nat) (fs : Env → R (List D)) : Env → SR := sMt i appO fs
theorem pus_append (i : Nat) (J : Jx X k G W) (ha : PuA X k G W .frz [e] fs) (hN : X.N[i]? = some x := by rfl) (hg : isOwn G i = true := by rfl)
    (hv : Vis X.env.scope x := by first | exact Or.inl rfl | exact Or.inr (Or.inl rfl) | exact Or.inr (Or.inr rfl)) (hd : (x == ("__debug__" : Str)) = false := by decide) (hcd : (x == ("__classdict__" : Str)) = false := by decide)
    (hbase : attributeBase (.Name x p1) "append" X.env (eval (.Name x p1) X.env) = eval (.Name x p1) X.env := by rfl)
    (hfew : ((backTo cpos (starEach [e] X.env)).all (fun x => !x.1) && (backToKw cpos (keywordEach [] X.env)).all (fun x => x.1.isSome)
      && decide ([e].length + ([] : List Keyword).length + (if ([] : List Keyword).isEmpty then 0 else 1) < 30)) = true := by rfl)
    (hline : (apos.endLine == cpos.line) = true := by rfl) (hs : starEach [e] X.env = (false, eval e X.env) :: starEach [] X.env := by rfl) (hplain : (backTo cpos (starEach [] X.env)).any (·.1) = false := by rfl)
    (hsw : swapsWith (.Call (.Attribute (.Name x p1) "append" apos) [e] [] cpos) none pos.line X.env = pure false := by rfl) :
    PuS X k G G Gl W ro (.Expr (.Call (.Attribute (.Name x p1) "append" apos) [e] [] cpos) pos) (sApp i fs) :=
  pus_mt J PySem.F.plainAttrs_list PySem.F.slot_list_append PySem.type_list_append mt_append mo_append i ha hN hg hv hd hcd hbase hfew hline hs hplain hsw
/-- x.extend(e) -/
def extO : List D → List D → R (List D)
  | xs, [.lst ds] => if xs.length + ds.length ≤ szT then .ok (xs ++ ds) else .stuck
  | _, _ => .stuck
theorem mo_extend : MtO k .vw rExtend extO := fun F H H1 p vs xs ys ds Q s fp ow rv z q => by
  obtain ⟨us, h1, h2⟩ := own_lst ow
  match ds, z, rv with
  | [d], z, rv =>
    obtain ⟨v, e, r1⟩ := resA1 rv
    subst e
    cases d with
    | lst ds =>
      simp only [extO] at z
      split at z
      · rename_i hl
        cases z
        obtain ⟨a, ws, e2, t1, a1⟩ := vw_lst s r1
        subst e2
        refine ⟨p, a, us, ws, rfl, rfl, h1, t1, ?_, q _ _ (.lst upd_same (h2.append a1))⟩
        rw [h2.length, a1.length]
        exact szT_le hl
      · cases z
    | _ => cases z
  | [], z, _ => cases z
  | d1 :: _ :: _, z, _ => cases d1 <;> cases z
def sExt (i : Nat) (fs : Env → R (List D)) : Env → SR := sMt i extO fs
theorem pus_extend (i : Nat) (J : Jx X k G W) (ha : PuA X k G W .vw [e] fs) (hN : X.N[i]? = some x := by rfl) (hg : isOwn G i = true := by rfl)
    (hv : Vis X.env.scope x := by first | exact Or.inl rfl | exact Or.inr (Or.inl rfl) | exact Or.inr (Or.inr rfl)) (hd : (x == ("__debug__" : Str)) = false := by decide) (hcd : (x == ("__classdict__" : Str)) = false := by decide)
    (hbase : attributeBase (.Name x p1) "extend" X.env (eval (.Name x p1) X.env) = eval (.Name x p1) X.env := by rfl)
    (hfew : ((backTo cpos (starEach [e] X.env)).all (fun x => !x.1) && (backToKw cpos (keywordEach [] X.env)).all (fun x => x.1.isSome)
      && decide ([e].length + ([] : List Keyword).length + (if ([] : List Keyword).isEmpty then 0 else 1) < 30)) = true := by rfl)
    (hline : (apos.endLine == cpos.line) = true := by rfl) (hs : starEach [e] X.env = (false, eval e X.env) :: starEach [] X.env := by rfl) (hplain : (backTo cpos (starEach [] X.env)).any (·.1) = false := by rfl)
    (hsw : swapsWith (.Call (.Attribute (.Name x p1) "extend" apos) [e] [] cpos) none pos.line X.env = pure false := by rfl) :
    PuS X k G G Gl W ro (.Expr (.Call (.Attribute (.Name x p1) "extend" apos) [e] [] cpos) pos) (sExt i fs) :=
  pus_mt J PySem.F.plainAttrs_list PySem.F.slot_list_extend PySem.F.type_list_extend mt_extend mo_extend i ha hN hg hv hd hcd hbase hfew hline hs hplain hsw
/-- x.reverse() -/
def sRev (i : Nat) : Env → SR := fun r => match r[i]? with
  | some (some (.lst xs)) => .nx (r.set i (some (.lst xs.reverse)))
  | _ => .stuck
theorem pus_reverse (i : Nat) (hN : X.N[i]? = some x := by rfl) (hg : isOwn G i = true := by rfl)
    (hv : Vis X.env.scope x := by first | exact Or.inl rfl | exact Or.inr (Or.inl rfl) | exact Or.inr (Or.inr rfl)) (hd : (x == ("__debug__" : Str)) = false := by decide) (hcd : (x == ("__classdict__" : Str)) = false := by decide)
    (hbase : attributeBase (.Name x p1) "reverse" X.env (eval (.Name x p1) X.env) = eval (.Name x p1) X.env := by rfl) (hline : (apos.endLine == cpos.line) = true := by rfl)
    (hsw : swapsWith (.Call (.Attribute (.Name x p1) "reverse" apos) [] [] cpos) none pos.line X.env = pure false := by rfl) :
    PuS X k G G Gl W ro (.Expr (.Call (.Attribute (.Name x p1) "reverse" apos) [] [] cpos) pos) (sRev i) := .mk fun F0 H0 F ρ σ H Dn S q => by
  refine canS_of (ps_expr (pe_bm0 PySem.F.plainAttrs_list PySem.F.slot_list_reverse PySem.F.type_list_reverse mt_reverse (pe_var hN hv hd hcd) hbase hline) hsw) ?_
  unfold sRev at q
  cases y : ρ[i]? with
  | none => rw [y] at q; exact q.elim
  | some z =>
    cases z with
    | none => rw [y] at q; exact q.elim
    | some d =>
      cases d with
      | lst xs =>
        rw [y] at q
        obtain ⟨p, e1, fp, h0, ow⟩ := S.own i _ y hg
        obtain ⟨us, h1, h2⟩ := own_lst ow
        exact ⟨_, e1, own_ty ow, p, us, rfl, rfl, h1, q F σ _ (Same.refl F) (S.wr hg y e1 fp h0 (.lst upd_same h2.reverse))⟩
      | _ => rw [y] at q; exact q.elim
/-- x[a] = e of an own list -/
def setO : List D → D → D → R (List D)
  | xs, .int i, d => match ixN xs.length i with
    | some j => .ok (xs.set j d)
    | none => .stuck
  | _, _, _ => .stuck
def sPut (i : Nat) (f g : Env → R D) : Env → SR := fun r => match g r with
  | .ok d => match r[i]? with
    | some (some (.lst xs)) => match f r with
      | .ok j => match setO xs j d with
        | .ok ys => .nx (r.set i (some (.lst ys)))
        | _ => .stuck
      | .exc x => .exc x r
      | .stuck => .stuck
    | _ => .stuck
  | .exc x => .exc x r
  | .stuck => .stuck
theorem pus_put (i : Nat) (J : Jx X k G W) (ha : PuE X k G W m1 a f) (he : PuE X k G W .frz e g) (hN : X.N[i]? = some x := by rfl) (hg : isOwn G i = true := by rfl)
    (hv : Vis X.env.scope x := by first | exact Or.inl rfl | exact Or.inr (Or.inl rfl) | exact Or.inr (Or.inr rfl)) (hd : (x == ("__debug__" : Str)) = false := by decide) (hcd : (x == ("__classdict__" : Str)) = false := by decide)
    (hst : ∀ v, assign (.Subscript (.Name x p1) a apos) X.env v = (do
      let ov ← holding [v] (eval (.Name x p1) X.env)
      let iv ← holding [v, ov] (eval a X.env)
      standAt apos
      holding [v, ov, iv] (setItem ov iv v)
      release [v, ov, iv] []) := by intro _; rfl)
    (hs : swapsWithSole [(.Subscript (.Name x p1) a apos)] e pos.line X.env = pure false := by rfl) (hw : swappedStores [(.Subscript (.Name x p1) a apos)] e X.env = pure none := by rfl)
    (h1 : (assignEach [(.Subscript (.Name x p1) a apos)] X.env).map (·.2) = [assign (.Subscript (.Name x p1) a apos) X.env] := by rfl) :
    PuS X k G G Gl W ro (.Assign [.Subscript (.Name x p1) a apos] e pos) (sPut i f g) := .mk fun F0 H0 F ρ σ H Dn S q => by
  refine canS_of (ps_asg pe_can (pg_sub (pe_var hN hv hd hcd) pe_can set_list hst) hs hw h1) ?_
  unfold sPut at q
  refine he.run F0 H0 F ρ σ H _ S ?_
  cases z : g ρ with
  | stuck => rw [z] at q; exact q.elim
  | exc y => rw [z] at q; exact fun cls dd F' H' y z => q cls dd G F F' σ H H' J.oke (Same.refl F) S y z
  | ok d =>
    rw [z] at q
    simp only at q
    intro v F1 H1 x1 rv
    have S1 := S.step x1
    cases y : ρ[i]? with
    | none => rw [y] at q; exact q.elim
    | some z =>
      cases z with
      | none => rw [y] at q; exact q.elim
      | some d0 =>
        cases d0 with
        | lst xs =>
          rw [y] at q
          simp only at q
          obtain ⟨p, e1, fp, h0, ow⟩ := S1.own i _ y hg
          refine ⟨_, e1, ha.run F0 H0 F1 ρ σ H1 _ S1 ?_⟩
          cases zf : f ρ with
          | stuck => rw [zf] at q; exact q.elim
          | exc y => rw [zf] at q; exact fun cls dd F' H' y z => q cls dd G F1 F' σ H1 H' J.oke x1.sf S1 y z
          | ok j =>
            rw [zf] at q
            simp only at q
            intro w F2 H2 x2 rw_
            have S2 := S1.step x2
            obtain ⟨p', e1', fp', h0', ow'⟩ := S2.own i _ y hg
            rw [e1] at e1'
            cases e1'
            obtain ⟨us, t1, t2⟩ := own_lst ow'
            cases j with
            | int j =>
              cases zj : ixN xs.length j with
              | none => simp only [setO, zj] at q; exact q.elim
              | some n =>
                simp only [setO, zj] at q
                have ew := vw_int rw_.vw
                subst ew
                exact ⟨p, us, j, n, rfl, rfl, t1, by rw [t2.length]; exact zj, q F2 σ _ (x1.sf.trans x2.sf) (S2.wr hg y e1 fp' h0' (.lst upd_same (t2.set (Dv.mono x2.sf rv) n)))⟩
            | _ => simp only [setO] at q; exact q.elim
        | _ => rw [y] at q; exact q.elim

/-! ### a < b <= c -/
def c3 (o o' : D → D → R Bool) (f g h : Env → R D) : Env → R Bool := fun r => f r >>= fun x => g r >>= fun y => o x y >>= fun b => if b = true then h r >>= fun z => o' y z else .ok false
variable {op op' : CmpOp} {rr rr' : R2} {oo oo' : D → D → R Bool}
theorem chain_post {F0 H0 F H : Hp} {ρ : Env} {σ : Sl} {Q : VK} (hp : CmpP k rr oo) (hp' : CmpP k rr' oo') (ne : NoExcC oo) (ne' : NoExcC oo') (ha : PuE X k G W m a f) (hb : PuE X k G W m1 b g) (hc : PuE X k G W m2 c h) (S : St4 k G F0 H0 F ρ σ H)
    (q : PostR k F H W σ (fun b => ∀ F' H', Ext F H F' H' → Q (.bl b) H') (c3 oo oo' f g h ρ)) : tChain rr rr' (canE X a) (canE X b) (canE X c) σ H Q := by
  refine ha.run F0 H0 F ρ σ H _ S ?_
  refine (PostR.bind q).imp fun x _ q1 v F1 H1 x1 rv => ?_
  refine hb.run F0 H0 F1 ρ σ H1 _ (S.step x1) ?_
  refine ((PostR.bind q1).grow x1).imp fun y _ q2 w F2 H2 x2 rw_ => ?_
  refine hp F2 H2 v w x y _ x2.sub (rv.ext x2).vw rw_.vw ?_
  cases z : oo x y with
  | exc e => exact absurd z (ne x y e)
  | stuck => rw [z] at q2; exact q2
  | ok d =>
    rw [z] at q2
    refine ⟨d, rfl, ?_⟩
    cases d with
    | false =>
      rw [if_neg Bool.false_ne_true]
      exact q2 F2 H2 (x1.trans x2)
    | true =>
      rw [if_pos rfl]
      have q2 : PostR k F H W σ _ (h ρ >>= fun z => oo' y z) := q2
      refine hc.run F0 H0 F2 ρ σ H2 _ ((S.step x1).step x2) ?_
      refine ((PostR.bind q2).grow (x1.trans x2)).imp fun u _ q3 uv F3 H3 x3 ru => ?_
      refine hp' F3 H3 w uv y u _ x3.sub (rw_.ext x3).vw ru.vw ?_
      cases z' : oo' y u with
      | exc e => exact absurd z' (ne' y u e)
      | stuck => rw [z'] at q3; exact q3
      | ok d => rw [z'] at q3; exact q3 F3 H3 ((x1.trans x2).trans x3)
theorem pu_chain (ho : OpR X (compareOp op) rr) (ho' : OpR X (compareOp op') rr') (hp : CmpP k rr oo) (hp' : CmpP k rr' oo') (ne : NoExcC oo) (ne' : NoExcC oo') (ha : PuE X k G W m a f) (hb : PuE X k G W m1 b g) (hc : PuE X k G W m2 c h)
    (hm : lastMarks [op, op'] [b, c] = false := by with_unfolding_all rfl) : PuC X k G W (.Compare a [op, op'] [b, c] pos) (c3 oo oo' f g h) where
  T := .mk fun F0 H0 F ρ σ H Q S q => canT_of (L2.pt_chain ho ho' pe_can pe_can pe_can hm) (chain_post hp hp' ne ne' ha hb hc S (q.imp fun b _ i F' H' x => ⟨b, rfl, i F' H' x⟩))
  E := .mk fun F0 H0 F ρ σ H Q S q => canE_of (L2.pe_chain ho ho' pe_can pe_can pe_can hm) (chain_post hp hp' ne ne' ha hb hc S ((PostR.bind q).imp fun b _ i F' H' x => i _ F' H' x (.bl b)))
/-- the parts of a chain -/
def ChOp (X : Cx) (k : KC) (op : CmpOp) (o : D → D → R Bool) : Prop := ∃ r, OpR X (compareOp op) r ∧ CmpP k r o ∧ NoExcC o
theorem ch_lt {n : Nat} (J : Jx X k G W) (hr : Room n X.A) : ChOp X k .Lt ltD := ⟨_, OpR.or (OpR.or op_lt op_lt_str) (J.kk ▸ op_ltT hr.units0), cmp_lt, noexc_cmpO⟩
theorem ch_le : ChOp X k .LtE leD := ⟨_, OpR.or op_le op_le_str, cmp_o, noexc_cmpO⟩
theorem ch_gt : ChOp X k .Gt gtD := ⟨_, OpR.or op_gt op_gt_str, cmp_o, noexc_cmpO⟩
theorem ch_ge : ChOp X k .GtE geD := ⟨_, OpR.or op_ge op_ge_str, cmp_o, noexc_cmpO⟩
theorem ch_eq {n : Nat} (J : Jx X k G W) (hr : Room n X.A) : ChOp X k .Eq eqG := ⟨_, J.kk ▸ op_eqP hr.units, cmp_eq, eqG_exc⟩
theorem pu_chain2 (h1 : ChOp X k op oo) (h2 : ChOp X k op' oo') (ha : PuE X k G W m a f) (hb : PuE X k G W m1 b g) (hc : PuE X k G W m2 c h)
    (hm : lastMarks [op, op'] [b, c] = false := by with_unfolding_all rfl) : PuC X k G W (.Compare a [op, op'] [b, c] pos) (c3 oo oo' f g h) := by
  obtain ⟨r1, a1, b1, d1⟩ := h1
  obtain ⟨r2, a2, b2, d2⟩ := h2
  exact pu_chain a1 a2 b1 b2 d1 d2 ha hb hc hm

/-! ### a in b, a not in b -/
def fv : D → V
  | .bl b => .bl b
  | .int i => .int i
  | .str s => .str (tx s)
  | _ => .non
def flatD : D → Bool
  | .non => true
  | .bl _ => true
  | .int _ => true
  | .str _ => true
  | _ => false
def inTx (a b : Tx) : Bool := !(Builtin.Str.occurrences (tx b) (tx a) 0 (tx b).length 1).isEmpty
def inO (neg : Bool) : D → D → R Bool
  | .str a, .str b => .ok (if neg then !inTx a b else inTx a b)
  | d, e => match items e with
    | some es => if (flatD d && es.all flatD) = true then .ok (if neg then !inV (fv d) (es.map fv) else inV (fv d) (es.map fv)) else .stuck
    | none => .stuck
theorem inO_exc {neg : Bool} : NoExcC (inO neg) := fun d e x h => by
  unfold inO at h
  split at h
  · cases h
  · split at h
    · split at h <;> cases h
    · cases h
theorem dv_flat {F : Hp} {v : V} {d : D} (h : Dv k F v d) (f : flatD d = true) : v = fv d ∧ flatV v = true := by
  cases h with
  | non => exact ⟨rfl, rfl⟩
  | bl b => exact ⟨rfl, rfl⟩
  | int i => exact ⟨rfl, rfl⟩
  | str s _ => exact ⟨rfl, rfl⟩
  | _ => cases f
theorem vw_flat {F H : Hp} {v : V} {d : D} (h : Res k .vw H F H v d) (f : flatD d = true) : v = fv d ∧ flatV v = true := by
  rcases h with h | ⟨p, e, n, ow⟩
  · exact dv_flat h f
  · cases ow <;> cases f
theorem dvs_flat {F : Hp} : ∀ {vs : List V} {ds : List D}, DvAll k F vs ds → ds.all flatD = true → vs = ds.map fv ∧ vs.all flatV = true
  | _, _, .nil, _ => ⟨rfl, rfl⟩
  | _, _, .cons h t, f => by
    rw [List.all_cons, Bool.and_eq_true] at f
    obtain ⟨e1, f1⟩ := dv_flat h f.1
    obtain ⟨e2, f2⟩ := dvs_flat t f.2
    refine ⟨by rw [e1, e2]; rfl, ?_⟩
    rw [List.all_cons, f1, f2]
    rfl
theorem cmp_in {neg : Bool} : CmpP k (fun x y H Q => (∃ i j, x = .str i ∧ y = .str j ∧ Q (.bl (if neg then !(!(Builtin.Str.occurrences j i 0 j.length 1).isEmpty) else !(Builtin.Str.occurrences j i 0 j.length 1).isEmpty)) H) ∨ rIn k.K neg x y H Q) (inO neg) := fun F H v w d e Q s h1 h2 q => by
  unfold inO at q
  split at q
  · rename_i b z
    split at z
    · rename_i sa sb
      cases z
      exact .inl ⟨tx sa, tx sb, (vw_str h1).1, (vw_str h2).1, q⟩
    · split at z
      · rename_i es he
        split at z
        · rename_i hf
          cases z
          rw [Bool.and_eq_true] at hf
          obtain ⟨a, xs, ew, hs, dv⟩ := vw_I s h2 he
          obtain ⟨e1, f1⟩ := vw_flat h1 hf.1
          obtain ⟨e2, f2⟩ := dvs_flat dv hf.2
          refine .inr ⟨a, xs, ew, hs, f1, f2, ?_⟩
          rw [e1, e2]
          exact q
        · cases z
      · cases z
  · exact q.elim
theorem pu_in (J : Jx X k G W) (ha : PuE X k G W m1 a f) (hb : PuE X k G W m2 b g) (hm : behindInMarks .In b = false := by with_unfolding_all rfl) : PuC X k G W (.Compare a [.In] [b] pos) (c2 (inO false) f g) :=
  pc_of (OpR.or op_in_str (J.kk ▸ op_in_seq)) (cmp_in (neg := false)) inO_exc ha hb hm
theorem pu_notIn (J : Jx X k G W) (ha : PuE X k G W m1 a f) (hb : PuE X k G W m2 b g) (hm : behindInMarks .NotIn b = false := by with_unfolding_all rfl) : PuC X k G W (.Compare a [.NotIn] [b] pos) (c2 (inO true) f g) :=
  pc_of (OpR.or op_notin_str (J.kk ▸ op_notIn_seq)) (cmp_in (neg := true)) inO_exc ha hb hm
/-! ### sorted, of ints -/
def sortI (ns : List Int) : List Int := ns.mergeSort (fun a b => decide (a ≤ b))
theorem sortI_perm (ns : List Int) : (sortI ns).Perm ns := List.mergeSort_perm ..
theorem sortI_up (ns : List Int) : (sortI ns).Pairwise (· ≤ ·) :=
  (List.pairwise_mergeSort (le := fun a b => decide (a ≤ b)) (fun a b c h1 h2 => by simp at *; omega) (fun a b => by simp; omega) ns).imp fun h => of_decide_eq_true h
theorem sortI_eq {ns ns' : List Int} (h : ns'.Perm ns) (p : ns'.Pairwise (· ≤ ·)) : ns' = sortI ns :=
  List.Perm.eq_of_pairwise (fun a b _ _ h1 h2 => Int.le_antisymm h1 h2) p (sortI_up ns) (h.trans (sortI_perm ns).symm)
def sortedI : D → R D
  | .lst ds => match intsOf ds with
    | some ns => if ns.length < 64 then .ok (.lst ((sortI ns).map D.int)) else .stuck
    | none => .stuck
  | _ => .stuck
def sortedD : List D → R D := un1 sortedI
theorem pu_sorted (J : Jx X k G W) (ha : PuA X k G W m1 [e] fs) (hm : X.mg "sorted" = none) (hg : L2.Gl X "sorted" := by rfl) (he : starEach [e] X.env = [(false, eval e X.env)] := by rfl) : PuE X k G W .own (.Call (.Name "sorted" p1) [e] [] pos) (eA sortedD fs) :=
  pu_callB (J.kk ▸ cr_sorted) (callp_un fun F H v d Q s h q => by
    cases d with
    | lst ds =>
      simp only [sortedI] at q
      cases y : intsOf ds with
      | none => simp only [y] at q
      | some ns =>
        simp only [y] at q
        split at q
        · rename_i z hz
          split at hz
          · rename_i h64
            cases hz
            obtain ⟨a, xs, e1, t1, a1⟩ := vw_lst s h
            subst e1
            rw [intsOf_eq y] at a1
            have ex := a1.ints_inv
            subst ex
            refine ⟨a, ns, rfl, SqL.of t1, h64, fun ns' p hp hs hn => ?_⟩
            rw [sortI_eq hp hs]
            exact q _ F _ (Ext.own s hn) ⟨p, rfl, hn, s.free hn, .lst upd_same (DvAll.ints _)⟩
          · cases hz
        · exact q.elim
    | _ => exact q.elim) (un1_exc fun d x h => by
      cases d with
      | lst ds =>
        simp only [sortedI] at h
        split at h
        · split at h <;> cases h
        · cases h
      | _ => cases h) ha hm bt_sorted hg (by decide) (by decide) he rfl
end
end Pu

/-! Weakest preconditions of the plain functions. -/
namespace Pu
open PySem PySem.Spec PyProof.Rows L2

def R.wp {α : Type} (x : R α) (P : α → Prop) (E : Exc → Prop) : Prop :=
  match x with
  | .ok a => P a
  | .exc e => E e
  | .stuck => False
structure Ws where
  N : Env → Prop
  T : D → Prop
  B : Env → Prop
  C : Env → Prop
  E : Exc → Env → Prop
def SR.wp (s : SR) (w : Ws) : Prop :=
  match s with
  | .nx r => w.N r
  | .ret d => w.T d
  | .bk r => w.B r
  | .ct r => w.C r
  | .exc x r => w.E x r
  | .stuck => False
abbrev noE : Exc → Prop := fun _ => False
theorem wp_ok_iff {α : Type} {x : R α} {a : α} : x.wp (· = a) noE ↔ x = .ok a := by
  cases x <;> simp [R.wp]
theorem wp_imp {α : Type} {x : R α} {P P' : α → Prop} {E E' : Exc → Prop} (h : x.wp P E) (i : ∀ a, P a → P' a) (j : ∀ e, E e → E' e) : x.wp P' E' := by
  cases x with
  | ok a => exact i a h
  | exc e => exact j e h
  | stuck => exact h
theorem wp_of_eq {α : Type} {x : R α} {a : α} (h : x = .ok a) {P : α → Prop} {E : Exc → Prop} (p : P a) : x.wp P E := by rw [h]; exact p
theorem ok_of_wp {α : Type} {x : R α} {P : α → Prop} (h : x.wp P noE) : ∃ a, x = .ok a ∧ P a := by
  cases x with
  | ok a => exact ⟨a, rfl, h⟩
  | exc e => exact h.elim
  | stuck => exact h.elim
section
variable {α β : Type} {P : α → Prop} {E : Exc → Prop} {PD : D → Prop}
theorem wp_ok {a : α} : (R.ok a).wp P E ↔ P a := Iff.rfl
theorem wp_exc {e : Exc} : (R.exc e : R α).wp P E ↔ E e := Iff.rfl
theorem wp_stuck : (R.stuck : R α).wp P E ↔ False := Iff.rfl
theorem wp_bind {x : R α} {f : α → R β} {P : β → Prop} : (x >>= f).wp P E ↔ x.wp (fun a => (f a).wp P E) E := by cases x <;> exact Iff.rfl
theorem wp_ite {c : Prop} [Decidable c] {x y : R α} : (if c then x else y).wp P E ↔ if c then x.wp P E else y.wp P E := by
  by_cases h : c
  · rw [if_pos h, if_pos h]
  · rw [if_neg h, if_neg h]
theorem wp_guard {c : Prop} [Decidable c] {x : R α} : (if c then x else R.stuck).wp P E ↔ c ∧ x.wp P E := by
  by_cases h : c
  · rw [if_pos h]; exact ⟨fun q => ⟨h, q⟩, fun q => q.2⟩
  · rw [if_neg h]; exact ⟨fun q => q.elim, fun q => absurd q.1 h⟩

/-! expressions -/
variable {r : Env} {f g : Env → R D} {t u : Env → R Bool} {fs : Env → R (List D)} {i j : Int} {n : Nat}
theorem wp_C {d : D} : (eC d r).wp PD E ↔ PD d := Iff.rfl
theorem wp_var {k : Nat} {d : D} (h : r[k]? = some (some d)) : (eVar k r).wp PD E ↔ PD d := by unfold eVar; rw [h]; exact Iff.rfl
theorem wp_var0 {d : D} {r : Env} : (eVar 0 (some d :: r)).wp PD E ↔ PD d := Iff.rfl
theorem wp_varS {k : Nat} {o : Option D} {r : Env} : (eVar (k + 1) (o :: r)).wp PD E ↔ (eVar k r).wp PD E := Iff.rfl
theorem wp_e2 {o : D → D → R D} : (e2 o f g r).wp PD E ↔ (f r).wp (fun x => (g r).wp (fun y => (o x y).wp PD E) E) E := by
  unfold e2
  rw [wp_bind]
  simp only [wp_bind]
theorem wp_e1 {o : D → R D} : (e1 o f r).wp PD E ↔ (f r).wp (fun x => (o x).wp PD E) E := by unfold e1; rw [wp_bind]
theorem wp_mulI : (mulI (.int i) (.int j)).wp PD E ↔ (fitI i = true ∧ fitI j = true) ∧ PD (.int (i * j)) := by
  unfold mulI
  simp only [Pu.intOp, wp_guard, wp_ok, Bool.and_eq_true]
theorem wp_fdiv : (fdivD (.int i) (.int j)).wp PD E ↔ (0 < j ∧ fitI j = true) ∧ PD (.int (i / j)) := by
  unfold fdivD
  simp only [Pu.intOp, wp_guard, wp_ok, Bool.and_eq_true, decide_eq_true_eq]
theorem wp_mod : (modD (.int i) (.int j)).wp PD E ↔ 0 < j ∧ PD (.int (i % j)) := by
  unfold modD
  simp only [Pu.intOp, wp_guard, wp_ok, decide_eq_true_eq]
theorem wp_sub : (subD (.int i) (.int j)).wp PD E ↔ PD (.int (i - j)) := by
  unfold subD
  simp only [Pu.intOp, if_true, wp_ok]
theorem wp_addI : (addD (.int i) (.int j)).wp PD E ↔ PD (.int (i + j)) := Iff.rfl
theorem wp_neg : (negD (.int i)).wp PD E ↔ PD (.int (-i)) := Iff.rfl
theorem wp_pow : (powD (.int i) (.int j)).wp PD E ↔ (0 ≤ j ∧ j ≤ 1000 ∧ i.natAbs < 2 ^ 64) ∧ PD (.int (i ^ j.toNat)) := by
  unfold powD
  simp only [Pu.intOp, wp_guard, wp_ok, Bool.and_eq_true, decide_eq_true_eq, and_assoc]
theorem wp_addS {a b : Tx} : (addD (.str a) (.str b)).wp PD E ↔ a.length + b.length ≤ szT ∧ PD (.str (a ++ b)) := by unfold addD; simp only [wp_guard, wp_ok]
theorem wp_addT {a b : List D} : (addD (.tup a) (.tup b)).wp PD E ↔ a.length + b.length ≤ szT ∧ PD (.tup (a ++ b)) := by unfold addD; simp only [wp_guard, wp_ok]
theorem wp_addL {a b : List D} : (addL (.lst a) (.lst b)).wp PD E ↔ a.length + b.length ≤ szT ∧ PD (.lst (a ++ b)) := by unfold addL; simp only [wp_guard, wp_ok]
theorem wp_repL {a : List D} : (repL (.lst a) (.int i)).wp PD E ↔ (-(2 ^ 62) ≤ i ∧ i < 2 ^ 62 ∧ a.length * i.toNat ≤ szT) ∧ PD (.lst (List.replicate i.toNat a).flatten) := by
  unfold repL
  simp only [wp_guard, wp_ok, Bool.and_eq_true, decide_eq_true_eq, and_assoc]
/-! comparisons, tests -/
variable {PB : Bool → Prop}
theorem wp_c2 {o : D → D → R Bool} : (c2 o f g r).wp PB E ↔ (f r).wp (fun x => (g r).wp (fun y => (o x y).wp PB E) E) E := by
  unfold c2
  rw [wp_bind]
  simp only [wp_bind]
theorem wp_bE : (bE t r).wp PD E ↔ (t r).wp (fun b => PD (.bl b)) E := by
  unfold bE
  rw [wp_bind]
  simp only [wp_ok]
theorem wp_ltI : (ltD (.int i) (.int j)).wp PB E ↔ PB (decide (i < j)) := Iff.rfl
theorem wp_leI : (leD (.int i) (.int j)).wp PB E ↔ PB (decide (i ≤ j)) := Iff.rfl
theorem wp_gtI : (gtD (.int i) (.int j)).wp PB E ↔ PB (decide (j < i)) := Iff.rfl
theorem wp_geI : (geD (.int i) (.int j)).wp PB E ↔ PB (decide (j ≤ i)) := Iff.rfl
theorem wp_ltS {a b : Tx} : (ltD (.str a) (.str b)).wp PB E ↔ PB (decide (a < b)) := Iff.rfl
theorem wp_eqI : (eqG (.int i) (.int j)).wp PB E ↔ PB (decide (i = j)) := by
  rw [← Bool.beq_eq_decide_eq]
  exact Iff.rfl
theorem wp_neI : (neG (.int i) (.int j)).wp PB E ↔ PB (decide (¬ i = j)) := by
  rw [decide_not, ← Bool.beq_eq_decide_eq]
  exact Iff.rfl
theorem eqD_str {a b : Tx} : eqD (.str a) (.str b) = (a == b) := by
  show (tx a == tx b) = (a == b)
  by_cases h : a = b
  · subst h; simp
  · have : tx a ≠ tx b := fun z => h (tx_inj z)
    rw [beq_eq_false_iff_ne.mpr h]
    exact beq_eq_false_iff_ne.mpr this
theorem wp_eqS {a b : Tx} : (eqG (.str a) (.str b)).wp PB E ↔ PB (decide (a = b)) := by
  show PB (eqD (.str a) (.str b)) ↔ _
  rw [eqD_str, Bool.beq_eq_decide_eq]
theorem wp_neS {a b : Tx} : (neG (.str a) (.str b)).wp PB E ↔ PB (decide (¬ a = b)) := by
  show PB (!eqD (.str a) (.str b)) ↔ _
  rw [eqD_str, decide_not, Bool.beq_eq_decide_eq]
theorem wp_eqG {d e : D} : (eqG d e).wp PB E ↔ (shal lv d = true ∧ shal lv e = true) ∧ PB (eqD d e) := by unfold eqG; simp only [wp_guard, wp_ok, Bool.and_eq_true]
theorem wp_neG {d e : D} : (neG d e).wp PB E ↔ (shal lv d = true ∧ shal lv e = true) ∧ PB (!eqD d e) := by unfold neG; simp only [wp_guard, wp_ok, Bool.and_eq_true]
theorem wp_tE : (tE f r).wp PB E ↔ (f r).wp (fun d => (truD d).wp PB E) E := by unfold tE; rw [wp_bind]
theorem wp_truB {b : Bool} : (truD (.bl b)).wp PB E ↔ PB b := Iff.rfl
theorem wp_truI : (truD (.int i)).wp PB E ↔ PB (i != 0) := Iff.rfl
theorem wp_truN : (truD .non).wp PB E ↔ PB false := Iff.rfl
theorem wp_truL {xs : List D} : (truD (.lst xs)).wp PB E ↔ PB (!xs.isEmpty) := Iff.rfl
theorem wp_truS {s : Tx} : (truD (.str s)).wp PB E ↔ PB (!s.isEmpty) := Iff.rfl
theorem wp_and : (andT t u r).wp PB E ↔ (t r).wp (fun b => if b = true then (u r).wp PB E else PB false) E := by
  unfold andT
  simp only [wp_bind, wp_ite, wp_ok]
theorem wp_or : (orT t u r).wp PB E ↔ (t r).wp (fun b => if b = true then PB true else (u r).wp PB E) E := by
  unfold orT
  simp only [wp_bind, wp_ite, wp_ok]
theorem wp_not : (notT t r).wp PB E ↔ (t r).wp (fun b => PB (!b)) E := by
  unfold notT
  simp only [wp_bind, wp_ok]
theorem wp_andE : (andE f g r).wp PD E ↔ (f r).wp (fun x => (blD x).wp (fun b => if b = true then (g r).wp PD E else PD (.bl false)) E) E := by
  unfold andE
  simp only [wp_bind, wp_ite, wp_ok]
theorem wp_orE : (orE f g r).wp PD E ↔ (f r).wp (fun x => (blD x).wp (fun b => if b = true then PD (.bl true) else (g r).wp PD E) E) E := by
  unfold orE
  simp only [wp_bind, wp_ite, wp_ok]
theorem wp_notE : (notE f r).wp PD E ↔ (f r).wp (fun x => (truD x).wp (fun b => PD (.bl (!b))) E) E := by
  unfold notE
  simp only [wp_bind, wp_ok]
theorem wp_blD {b : Bool} : (blD (.bl b)).wp PB E ↔ PB b := Iff.rfl
theorem wp_ifE : (ifE t f g r).wp PD E ↔ (t r).wp (fun b => if b = true then (f r).wp PD E else (g r).wp PD E) E := by
  unfold ifE
  simp only [wp_bind, wp_ite]
/-! lists -/
variable {PL : List D → Prop}
theorem wp_aNil : (aNil r).wp PL E ↔ PL [] := Iff.rfl
theorem wp_aCons : (aCons f fs r).wp PL E ↔ (f r).wp (fun x => (fs r).wp (fun xs => PL (x :: xs)) E) E := by
  unfold aCons
  simp only [wp_bind, wp_ok]
theorem wp_tupE : (tupE fs r).wp PD E ↔ (fs r).wp (fun ds => ds.length ≤ szT ∧ PD (.tup ds)) E := by
  unfold tupE
  simp only [wp_bind, wp_guard, wp_ok]
theorem wp_lstE : (lstE fs r).wp PD E ↔ (fs r).wp (fun ds => ds.length ≤ szT ∧ PD (.lst ds)) E := by
  unfold lstE
  simp only [wp_bind, wp_guard, wp_ok]
theorem wp_eA {o : List D → R D} : (eA o fs r).wp PD E ↔ (fs r).wp (fun ds => (o ds).wp PD E) E := by unfold eA; rw [wp_bind]
theorem wp_ixL {ds : List D} : (ixD (.lst ds) (.int i)).wp PD E ↔ ∃ d, atI ds i = some d ∧ PD d := by
  simp only [ixD]
  cases h : atI ds i with
  | none => simp only [wp_stuck]; exact ⟨fun z => z.elim, fun ⟨d, e, _⟩ => by cases e⟩
  | some d => simp only [wp_ok]; exact ⟨fun z => ⟨d, rfl, z⟩, fun ⟨e, h, z⟩ => by cases h; exact z⟩
theorem wp_ixT {ds : List D} : (ixD (.tup ds) (.int i)).wp PD E ↔ ∃ d, atI ds i = some d ∧ PD d := by
  simp only [ixD]
  cases h : atI ds i with
  | none => simp only [wp_stuck]; exact ⟨fun z => z.elim, fun ⟨d, e, _⟩ => by cases e⟩
  | some d => simp only [wp_ok]; exact ⟨fun z => ⟨d, rfl, z⟩, fun ⟨e, h, z⟩ => by cases h; exact z⟩
theorem wp_ixT0 {x : D} {xs : List D} : (ixD (.tup (x :: xs)) (.int 0)).wp PD E ↔ PD x := by
  rw [wp_ixT, show atI (x :: xs) 0 = some x from atI_nat (j := 0) rfl]
  exact ⟨fun ⟨d, e, h⟩ => by cases e; exact h, fun h => ⟨x, rfl, h⟩⟩
theorem wp_ixT1 {x y : D} {xs : List D} : (ixD (.tup (x :: y :: xs)) (.int 1)).wp PD E ↔ PD y := by
  rw [wp_ixT, show atI (x :: y :: xs) 1 = some y from atI_nat (j := 1) rfl]
  exact ⟨fun ⟨d, e, h⟩ => by cases e; exact h, fun h => ⟨y, rfl, h⟩⟩
theorem wp_ixT2 {x y z : D} {xs : List D} : (ixD (.tup (x :: y :: z :: xs)) (.int 2)).wp PD E ↔ PD z := by
  rw [wp_ixT, show atI (x :: y :: z :: xs) 2 = some z from atI_nat (j := 2) rfl]
  exact ⟨fun ⟨d, e, h⟩ => by cases e; exact h, fun h => ⟨z, rfl, h⟩⟩
theorem wp_ixT3 {x y z u : D} {xs : List D} : (ixD (.tup (x :: y :: z :: u :: xs)) (.int 3)).wp PD E ↔ PD u := by
  rw [wp_ixT, show atI (x :: y :: z :: u :: xs) 3 = some u from atI_nat (j := 3) rfl]
  exact ⟨fun ⟨d, e, h⟩ => by cases e; exact h, fun h => ⟨u, rfl, h⟩⟩
theorem wp_ixT4 {x y z u v : D} {xs : List D} : (ixD (.tup (x :: y :: z :: u :: v :: xs)) (.int 4)).wp PD E ↔ PD v := by
  rw [wp_ixT, show atI (x :: y :: z :: u :: v :: xs) 4 = some v from atI_nat (j := 4) rfl]
  exact ⟨fun ⟨d, e, h⟩ => by cases e; exact h, fun h => ⟨v, rfl, h⟩⟩
theorem wp_ixL0 {x : D} {xs : List D} : (ixD (.lst (x :: xs)) (.int 0)).wp PD E ↔ PD x := by
  rw [wp_ixL, show atI (x :: xs) 0 = some x from atI_nat (j := 0) rfl]
  exact ⟨fun ⟨d, e, h⟩ => by cases e; exact h, fun h => ⟨x, rfl, h⟩⟩
theorem wp_ixL1 {x y : D} {xs : List D} : (ixD (.lst (x :: y :: xs)) (.int 1)).wp PD E ↔ PD y := by
  rw [wp_ixL, show atI (x :: y :: xs) 1 = some y from atI_nat (j := 1) rfl]
  exact ⟨fun ⟨d, e, h⟩ => by cases e; exact h, fun h => ⟨y, rfl, h⟩⟩
theorem wp_ixL2 {x y z : D} {xs : List D} : (ixD (.lst (x :: y :: z :: xs)) (.int 2)).wp PD E ↔ PD z := by
  rw [wp_ixL, show atI (x :: y :: z :: xs) 2 = some z from atI_nat (j := 2) rfl]
  exact ⟨fun ⟨d, e, h⟩ => by cases e; exact h, fun h => ⟨z, rfl, h⟩⟩
theorem wp_ixL3 {x y z u : D} {xs : List D} : (ixD (.lst (x :: y :: z :: u :: xs)) (.int 3)).wp PD E ↔ PD u := by
  rw [wp_ixL, show atI (x :: y :: z :: u :: xs) 3 = some u from atI_nat (j := 3) rfl]
  exact ⟨fun ⟨d, e, h⟩ => by cases e; exact h, fun h => ⟨u, rfl, h⟩⟩
theorem wp_ixL4 {x y z u v : D} {xs : List D} : (ixD (.lst (x :: y :: z :: u :: v :: xs)) (.int 4)).wp PD E ↔ PD v := by
  rw [wp_ixL, show atI (x :: y :: z :: u :: v :: xs) 4 = some v from atI_nat (j := 4) rfl]
  exact ⟨fun ⟨d, e, h⟩ => by cases e; exact h, fun h => ⟨v, rfl, h⟩⟩
theorem atI_in {α : Type} {ds : List α} {i : Int} (h0 : 0 ≤ i) (h1 : i < ds.length) : ∃ d, atI ds i = some d ∧ ds[i.toNat]? = some d := by
  have hl : i.toNat < ds.length := by omega
  refine ⟨ds[i.toNat], ?_, List.getElem?_eq_getElem hl⟩
  have := atI_nat (xs := ds) (j := i.toNat) (v := ds[i.toNat]) (List.getElem?_eq_getElem hl)
  rwa [Int.toNat_of_nonneg h0] at this
/-- an item at a place that is known to lie within, by what holds of all -/
theorem ix_any {ds : List D} (Q : D → Prop) (hi : 0 ≤ i ∧ i < ds.length) (hQ : ∀ d ∈ ds, Q d) (h : ∀ d, Q d → PD d) : (ixD (.lst ds) (.int i)).wp PD E := by
  obtain ⟨d, h1, h2⟩ := atI_in hi.1 hi.2
  rw [wp_ixL]
  exact ⟨d, h1, h d (hQ d (List.mem_of_getElem? h2))⟩
/-- an item at a place -/
theorem ix_at {ds : List D} (hi : 0 ≤ i ∧ i < ds.length) (h : ∀ d, ds[i.toNat]? = some d → PD d) : (ixD (.lst ds) (.int i)).wp PD E := by
  obtain ⟨d, h1, h2⟩ := atI_in hi.1 hi.2
  rw [wp_ixL]
  exact ⟨d, h1, h d h2⟩
theorem ix_scr {ns : List Int} (hi : 0 ≤ i ∧ i < ns.length) (h : ∀ n, ns[i.toNat]? = some n → PD (.int n)) : (ixD (.scr ns) (.int i)).wp PD E := by
  obtain ⟨d, h1, h2⟩ := atI_in hi.1 hi.2
  unfold ixD
  simp only [h1, wp_ok]
  exact h d h2
theorem wp_ixS {ns : List Int} : (ixD (.scr ns) (.int i)).wp PD E ↔ ∃ n, atI ns i = some n ∧ PD (.int n) := by
  simp only [ixD]
  cases h : atI ns i with
  | none => simp only [wp_stuck]; exact ⟨fun z => z.elim, fun ⟨d, e, _⟩ => by cases e⟩
  | some d => simp only [wp_ok]; exact ⟨fun z => ⟨d, rfl, z⟩, fun ⟨e, h, z⟩ => by cases h; exact z⟩
theorem wp_len {xs : List D} : (lenD [.lst xs]).wp PD E ↔ PD (.int xs.length) := Iff.rfl
theorem wp_lenT {xs : List D} : (lenD [.tup xs]).wp PD E ↔ PD (.int xs.length) := Iff.rfl
theorem wp_lenS {xs : List Int} : (lenD [.scr xs]).wp PD E ↔ PD (.int xs.length) := Iff.rfl
theorem wp_lenX {xs : Tx} : (lenD [.str xs]).wp PD E ↔ PD (.int xs.length) := Iff.rfl
theorem wp_divmod : (divmodD [.int i, .int j]).wp PD E ↔ (0 < j ∧ j < 1073741824) ∧ PD (.tup [.int (i / j), .int (i % j)]) := by
  unfold divmodD
  simp only [wp_guard, wp_ok, Bool.and_eq_true, decide_eq_true_eq]
theorem wp_int2 {h : Int → Int → Int} : (int2 h [.int i, .int j]).wp PD E ↔ PD (.int (h i j)) := Iff.rfl
theorem wp_slE {o : D → Option Int → Option Int → R D} {l h : Env → R (Option Int)} : (slE o f l h r).wp PD E ↔ (f r).wp (fun x => (l r).wp (fun a => (h r).wp (fun b => (o x a b).wp PD E) E) E) E := by
  unfold slE
  simp only [wp_bind]
theorem wp_oNone {PO : Option Int → Prop} : (oNone r).wp PO E ↔ PO none := Iff.rfl
theorem wp_oSome {PO : Option Int → Prop} : (oSome f r).wp PO E ↔ (f r).wp (fun x => (intD x).wp (fun i => PO (some i)) E) E := by
  unfold oSome
  simp only [wp_bind, wp_ok]
theorem wp_intD {PI : Int → Prop} : (intD (.int i)).wp PI E ↔ PI i := Iff.rfl
theorem wp_slL {xs : List D} {a b : Option Int} : (sliceL (.lst xs) a b).wp PD E ↔ PD (.lst (cut xs a b)) := Iff.rfl
theorem wp_slLS {xs : List Int} {a b : Option Int} : (sliceL (.scr xs) a b).wp PD E ↔ PD (.lst ((cut xs a b).map D.int)) := Iff.rfl
theorem wp_slD {xs : List D} {a b : Option Int} : (sliceD (.lst xs) a b).wp PD E ↔ PD (.lst (cut xs a b)) := Iff.rfl
theorem wp_slDS {xs : List Int} {a b : Option Int} : (sliceD (.scr xs) a b).wp PD E ↔ PD (.lst ((cut xs a b).map D.int)) := Iff.rfl
theorem wp_slT {xs : List D} {a b : Option Int} : (sliceD (.tup xs) a b).wp PD E ↔ PD (.tup (cut xs a b)) := Iff.rfl
theorem wp_slX {xs : Tx} {a b : Option Int} : (sliceD (.str xs) a b).wp PD E ↔ PD (.str (cut xs a b)) := Iff.rfl
theorem wp_iE : (iE f r).wp PL E ↔ (f r).wp (fun d => (iterD d).wp PL E) E := by unfold iE; rw [wp_bind]
theorem wp_iterL {xs : List D} : (iterD (.lst xs)).wp PL E ↔ PL xs := Iff.rfl
theorem wp_iterT {xs : List D} : (iterD (.tup xs)).wp PL E ↔ PL xs := Iff.rfl
theorem wp_iterX {xs : Tx} : (iterD (.str xs)).wp PL E ↔ PL (xs.map fun c => D.str [c]) := Iff.rfl
theorem wp_iA {o : List D → R (List D)} : (iA o fs r).wp PL E ↔ (fs r).wp (fun ds => (o ds).wp PL E) E := by unfold iA; rw [wp_bind]
theorem wp_rg1 : (range1D [.int i]).wp PL E ↔ i62 i = true ∧ PL (rng 0 i) := by unfold range1D; simp only [wp_guard, wp_ok]
theorem wp_rg2 : (range2D [.int i, .int j]).wp PL E ↔ (i62 i = true ∧ i62 j = true) ∧ PL (rng i j) := by unfold range2D; simp only [wp_guard, wp_ok, Bool.and_eq_true]
theorem wp_enum {xs : List D} : (enum1D [.lst xs]).wp PL E ↔ PL (enumD xs) := Iff.rfl
theorem wp_rev {xs : List D} : (rev1D [.lst xs]).wp PL E ↔ PL xs.reverse := Iff.rfl
theorem wp_isK {k : Kd} {PD : D → Prop} : ((fun r => f r >>= isK k) r).wp PD E ↔ (f r).wp (fun d => (isK k d).wp PD E) E := by
  show (f r >>= isK k).wp PD E ↔ _
  rw [wp_bind]
theorem wp_callN {M : List D → R D} : (callN n M fs r).wp PD E ↔ (fs r).wp (fun ds => ds.length = n ∧ (M ds).wp PD E) E := by
  unfold callN
  simp only [wp_bind, wp_guard]
/-! statements -/
variable {w : Ws} {a b : Env → SR}
theorem ws_seq : (sSeq a b r).wp w ↔ (a r).wp { w with N := fun r' => (b r').wp w } := by
  unfold sSeq
  cases a r <;> exact Iff.rfl
theorem ws_of {x : R D} {h : D → SR} : (sOf x r h).wp w ↔ x.wp (fun d => (h d).wp w) (fun e => w.E e r) := by cases x <;> exact Iff.rfl
theorem ws_ofB {x : R Bool} {h : Bool → SR} : (sOfB x r h).wp w ↔ x.wp (fun d => (h d).wp w) (fun e => w.E e r) := by cases x <;> exact Iff.rfl
theorem ws_nil : (sNil r).wp w ↔ w.N r := Iff.rfl
theorem ws_nx : (SR.nx r).wp w ↔ w.N r := Iff.rfl
theorem ws_bk : (SR.bk r).wp w ↔ w.B r := Iff.rfl
theorem ws_ct : (SR.ct r).wp w ↔ w.C r := Iff.rfl
theorem ws_asg {k : Nat} : (sAsg k f r).wp w ↔ (f r).wp (fun d => w.N (r.set k (some d))) (fun e => w.E e r) := by unfold sAsg; rw [ws_of]; exact Iff.rfl
theorem ws_drop : (sDrop f r).wp w ↔ (f r).wp (fun d => w.N r) (fun e => w.E e r) := by unfold sDrop; rw [ws_of]; exact Iff.rfl
theorem ws_ret : (sRet f r).wp w ↔ (f r).wp w.T (fun e => w.E e r) := by unfold sRet; rw [ws_of]; exact Iff.rfl
theorem ws_ite {c : Prop} [Decidable c] {x y : SR} : (if c then x else y).wp w ↔ if c then x.wp w else y.wp w := by
  by_cases h : c
  · rw [if_pos h, if_pos h]
  · rw [if_neg h, if_neg h]
theorem ws_if : (sIf t a b r).wp w ↔ (t r).wp (fun c => if c = true then (a r).wp w else (b r).wp w) (fun e => w.E e r) := by
  unfold sIf
  rw [ws_ofB]
  simp only [ws_ite]
def OpW (o : Option Env) (N : Env → Prop) : Prop := match o with
  | some r => N r
  | none => False
theorem ws_asgG {h : D → Env → Option Env} : (sAsgG h f r).wp w ↔ (f r).wp (fun d => OpW (h d r) w.N) (fun e => w.E e r) := by
  unfold sAsgG
  rw [ws_of]
  have : ∀ d, SR.wp (match h d r with | some r' => SR.nx r' | none => SR.stuck) w ↔ OpW (h d r) w.N := fun d => by cases h d r <;> exact Iff.rfl
  exact ⟨fun q => wp_imp q (fun d h => (this d).mp h) fun _ z => z, fun q => wp_imp q (fun d h => (this d).mpr h) fun _ z => z⟩
variable {N : Env → Prop}
theorem ow_N {k : Nat} {d : D} : OpW (gN k d r) N ↔ N (r.set k (some d)) := Iff.rfl
theorem ow_T {k : Nat} {h : List D → Env → Option Env} {ds : List D} : OpW (gT k h (.tup ds) r) N ↔ ds.length = k ∧ OpW (h ds r) N := by
  unfold gT
  by_cases z : ds.length = k
  · simp only [if_pos z]; exact ⟨fun q => ⟨z, q⟩, fun q => q.2⟩
  · simp only [if_neg z]; exact ⟨fun q => q.elim, fun q => absurd q.1 z⟩
theorem ow_nil : OpW (gsNil [] r) N ↔ N r := Iff.rfl
theorem ow_cons {h : D → Env → Option Env} {hs : List D → Env → Option Env} {d : D} {ds : List D} : OpW (gsCons h hs (d :: ds) r) N ↔ OpW (h d r) (fun r' => OpW (hs ds r') N) := by
  show OpW ((h d r).bind (hs ds)) N ↔ _
  cases h d r <;> exact Iff.rfl
theorem ws_par {k l : Nat} : (sPar k l fs r).wp w ↔ (fs r).wp (fun ds => ∃ d e, ds = [d, e] ∧ w.N ((r.set k (some d)).set l (some e))) (fun e => w.E e r) := by
  unfold sPar
  cases fs r with
  | ok ds =>
    match ds with
    | [d, e] => exact ⟨fun h => ⟨d, e, rfl, h⟩, fun ⟨d', e', h1, h2⟩ => by cases h1; exact h2⟩
    | [] => exact ⟨fun h => h.elim, fun ⟨d', e', h1, h2⟩ => by cases h1⟩
    | [_] => exact ⟨fun h => h.elim, fun ⟨d', e', h1, h2⟩ => by cases h1⟩
    | _ :: _ :: _ :: _ => exact ⟨fun h => h.elim, fun ⟨d', e', h1, h2⟩ => by cases h1⟩
  | exc e => exact Iff.rfl
  | stuck => exact Iff.rfl
theorem wp_runD {k : Nat} {ds : List D} : (runD k a ds).wp PD E ↔ (a (ds.map some ++ List.replicate (k - ds.length) none)).wp ⟨fun _ => PD .non, PD, fun _ => False, fun _ => False, fun e _ => E e⟩ := by
  unfold runD
  cases a (ds.map some ++ List.replicate (k - ds.length) none) <;> exact Iff.rfl
end
/-- a loop, by what holds between the turns -/
theorem ws_for {fi : Env → R (List D)} {g : D → Env → Option Env} {b : Env → SR} {r : Env} {w : Ws} (h : (fi r).wp (fun ds => ∃ I : List D → Env → Prop, I ds r ∧ (∀ r', I [] r' → w.N r') ∧
    ∀ d rest r', I (d :: rest) r' → OpW (g d r') fun r1 => (b r1).wp ⟨I rest, w.T, w.N, I rest, w.E⟩) (fun e => w.E e r)) : (sFor fi g b r).wp w := by
  unfold sFor
  cases z : fi r with
  | exc e => rw [z] at h; exact h
  | stuck => rw [z] at h; exact h
  | ok ds =>
    rw [z] at h
    obtain ⟨I, h0, hN, hS⟩ := h
    clear z
    have key : ∀ (ds : List D) (r : Env), I ds r → (forD g b ds r).wp w := by
      intro ds
      induction ds with
      | nil => exact fun r h => hN r h
      | cons d rest ih =>
        intro r h
        have q := hS d rest r h
        simp only [forD]
        cases zg : g d r with
        | none => rw [zg] at q; exact q
        | some r1 =>
          rw [zg] at q
          have q : (b r1).wp _ := q
          simp only
          cases zb : b r1 with
          | nx r2 => rw [zb] at q; exact ih r2 q
          | ct r2 => rw [zb] at q; exact ih r2 q
          | bk r2 => rw [zb] at q; exact q
          | ret d => rw [zb] at q; exact q
          | exc e r2 => rw [zb] at q; exact q
          | stuck => rw [zb] at q; exact q
    exact key ds r h0
/-- a while, by what holds between the turns and a number that falls -/
theorem ws_while {t : Env → R Bool} {b : Env → SR} {r : Env} {w : Ws} (I : Nat → Env → Prop) (m : Nat) (h0 : I m r)
    (hS : ∀ m r, I m r → (t r).wp (fun c => if c = true then (b r).wp ⟨fun r' => ∃ m', m' < m ∧ I m' r', w.T, w.N, fun r' => ∃ m', m' < m ∧ I m' r', w.E⟩ else w.N r) (fun e => w.E e r)) : (sWhile t b r).wp w := by
  have key : ∀ (m : Nat) (r : Env), I m r → ∃ n, (whileF t b n r).wp w := by
    intro m
    induction m using Nat.strongRecOn with
    | _ m ih =>
      intro r h
      have q := hS m r h
      cases zt : t r with
      | exc e => rw [zt] at q; exact ⟨1, by rw [whileF, zt]; exact q⟩
      | stuck => rw [zt] at q; exact q.elim
      | ok c =>
        rw [zt] at q
        cases c with
        | false => exact ⟨1, by rw [whileF, zt]; exact q⟩
        | true =>
          have q : (b r).wp _ := q
          cases zb : b r with
          | nx r2 =>
            rw [zb] at q
            obtain ⟨m', hm, hi⟩ := q
            obtain ⟨n, hn⟩ := ih m' hm r2 hi
            exact ⟨n + 1, by rw [whileF, zt]; simp only [zb]; exact hn⟩
          | ct r2 =>
            rw [zb] at q
            obtain ⟨m', hm, hi⟩ := q
            obtain ⟨n, hn⟩ := ih m' hm r2 hi
            exact ⟨n + 1, by rw [whileF, zt]; simp only [zb]; exact hn⟩
          | bk r2 => rw [zb] at q; exact ⟨1, by rw [whileF, zt]; simp only [zb]; exact q⟩
          | ret d => rw [zb] at q; exact ⟨1, by rw [whileF, zt]; simp only [zb]; exact q⟩
          | exc e r2 => rw [zb] at q; exact ⟨1, by rw [whileF, zt]; simp only [zb]; exact q⟩
          | stuck => rw [zb] at q; exact q.elim
  obtain ⟨n, hn⟩ := key m r h0
  have ns : whileF t b n r ≠ .stuck := fun z => by rw [z] at hn; exact hn
  rw [sWhile_eq rfl ns]
  exact hn

/-! methods, built-ins of one argument, own lists -/
section
variable {α : Type} {E : Exc → Prop} {PD : D → Prop} {PB : Bool → Prop} {PL : List D → Prop} {r : Env} {f g h : Env → R D} {fs : Env → R (List D)} {i j : Int} {w : Ws}
theorem wp_m1E {o : D → D → R D} : (m1E o f g r).wp PD E ↔ (f r).wp (fun x => (txtD x).wp (fun _ => (g r).wp (fun y => (o x y).wp PD E) E) E) E := by
  unfold m1E
  simp only [wp_bind]
theorem wp_txt {s : Tx} {P : Unit → Prop} : (txtD (.str s)).wp P E ↔ P () := Iff.rfl
theorem wp_intI : (intS [.int i]).wp PD E ↔ PD (.int i) := Iff.rfl
theorem wp_intB {b : Bool} : (intS [.bl b]).wp PD E ↔ PD (.int (if b = true then 1 else 0)) := Iff.rfl
theorem wp_absI : (absD [.int i]).wp PD E ↔ PD (.int (if i < 0 then -i else i)) := Iff.rfl
theorem wp_listL {xs : List D} : (listD [.lst xs]).wp PD E ↔ PD (.lst xs) := Iff.rfl
theorem wp_listT {xs : List D} : (listD [.tup xs]).wp PD E ↔ PD (.lst xs) := Iff.rfl
theorem wp_listS {ns : List Int} : (listD [.scr ns]).wp PD E ↔ PD (.lst (ns.map D.int)) := Iff.rfl
theorem wp_tupL {xs : List D} : (tupleD [.lst xs]).wp PD E ↔ PD (.tup xs) := Iff.rfl
theorem wp_tupT {xs : List D} : (tupleD [.tup xs]).wp PD E ↔ PD (.tup xs) := Iff.rfl
theorem wp_strI : (strD [.int i]).wp PD E ↔ (i.natAbs.log2 < 1920 ∧ ((toString i : String) : Str).length ≤ szT) ∧ PD (.str (cs ((toString i : String) : Str))) := by
  unfold strD un1 strI
  simp only [wp_guard, wp_ok, Bool.and_eq_true, decide_eq_true_eq]
theorem wp_ixX {s : Tx} : (ixD (.str s) (.int i)).wp PD E ↔ ∃ c, atI s i = some c ∧ PD (.str [c]) := by
  simp only [ixD]
  cases h : atI s i with
  | none => simp only [wp_stuck]; exact ⟨fun z => z.elim, fun ⟨d, e, _⟩ => by cases e⟩
  | some d => simp only [wp_ok]; exact ⟨fun z => ⟨d, rfl, z⟩, fun ⟨e, h, z⟩ => by cases h; exact z⟩
theorem wp_c3 {o o' : D → D → R Bool} : (c3 o o' f g h r).wp PB E ↔ (f r).wp (fun x => (g r).wp (fun y => (o x y).wp (fun b => if b = true then (h r).wp (fun z => (o' y z).wp PB E) E else PB false) E) E) E := by
  unfold c3
  simp only [wp_bind, wp_ite, wp_ok]
theorem ws_dead : (sDead r).wp w ↔ False := Iff.rfl
theorem wp_dead : (eDead r).wp PD E ↔ False := Iff.rfl
/-- an own list, read -/
def lsAt : Nat → Env → R (List D)
  | 0, some (.lst xs) :: _ => .ok xs
  | k + 1, _ :: r => lsAt k r
  | _, _ => .stuck
theorem lsAt_get : ∀ (k : Nat) (r : Env), lsAt k r = match r[k]? with | some (some (.lst xs)) => .ok xs | _ => .stuck
  | 0, [] => rfl
  | 0, none :: _ => rfl
  | 0, some d :: _ => by cases d <;> rfl
  | k + 1, [] => by simp [lsAt]
  | k + 1, _ :: r => by simp only [lsAt, List.getElem?_cons_succ]; exact lsAt_get k r
theorem ls_0 {xs : List D} {r : Env} {P : List D → Prop} : (lsAt 0 (some (.lst xs) :: r)).wp P E ↔ P xs := Iff.rfl
theorem ls_S {k : Nat} {o : Option D} {r : Env} {P : List D → Prop} : (lsAt (k + 1) (o :: r)).wp P E ↔ (lsAt k r).wp P E := Iff.rfl
theorem ws_mt {k : Nat} {o : List D → List D → R (List D)} (hne : ∀ xs ds x, o xs ds ≠ .exc x) : (sMt k o fs r).wp w ↔ (lsAt k r).wp (fun xs => (fs r).wp (fun ds => (o xs ds).wp (fun ys => w.N (r.set k (some (.lst ys)))) noE) (fun e => w.E e r)) noE := by
  rw [lsAt_get]
  unfold sMt
  cases z : r[k]? with
  | none => exact Iff.rfl
  | some y =>
    cases y with
    | none => exact Iff.rfl
    | some d =>
      cases d with
      | lst xs =>
        simp only [wp_ok]
        cases fs r with
        | ok ds =>
          simp only [wp_ok]
          cases zo : o xs ds with
          | ok ys => exact Iff.rfl
          | exc x => exact absurd zo (hne xs ds x)
          | stuck => exact Iff.rfl
        | exc e => exact Iff.rfl
        | stuck => exact Iff.rfl
      | _ => exact Iff.rfl
theorem appO_exc : ∀ xs ds x, appO xs ds ≠ .exc x := fun xs ds x h => by
  match ds, h with
  | [], h => cases h
  | [d], h => simp only [appO] at h; split at h <;> cases h
  | _ :: _ :: _, h => cases h
theorem extO_exc : ∀ xs ds x, extO xs ds ≠ .exc x := fun xs ds x h => by
  match ds, h with
  | [], h => cases h
  | [d], h => cases d <;> first | (simp only [extO] at h; split at h <;> cases h) | cases h
  | d :: _ :: _, h => cases d <;> cases h
theorem ws_app {k : Nat} : (sApp k fs r).wp w ↔ (lsAt k r).wp (fun xs => (fs r).wp (fun ds => (appO xs ds).wp (fun ys => w.N (r.set k (some (.lst ys)))) noE) (fun e => w.E e r)) noE := ws_mt appO_exc
theorem ws_ext {k : Nat} : (sExt k fs r).wp w ↔ (lsAt k r).wp (fun xs => (fs r).wp (fun ds => (extO xs ds).wp (fun ys => w.N (r.set k (some (.lst ys)))) noE) (fun e => w.E e r)) noE := ws_mt extO_exc
theorem wp_appO {xs : List D} {d : D} : (appO xs [d]).wp PL E ↔ xs.length < szT ∧ PL (xs ++ [d]) := by unfold appO; simp only [wp_guard, wp_ok]
theorem wp_extO {xs ds : List D} : (extO xs [.lst ds]).wp PL E ↔ xs.length + ds.length ≤ szT ∧ PL (xs ++ ds) := by unfold extO; simp only [wp_guard, wp_ok]
theorem ws_rev {k : Nat} : (sRev k r).wp w ↔ (lsAt k r).wp (fun xs => w.N (r.set k (some (.lst xs.reverse)))) noE := by
  rw [lsAt_get]
  unfold sRev
  cases z : r[k]? with
  | none => exact Iff.rfl
  | some y =>
    cases y with
    | none => exact Iff.rfl
    | some d => cases d <;> exact Iff.rfl
theorem ws_put {k : Nat} : (sPut k f g r).wp w ↔ (g r).wp (fun d => (lsAt k r).wp (fun xs => (f r).wp (fun a => (setO xs a d).wp (fun ys => w.N (r.set k (some (.lst ys)))) noE) (fun e => w.E e r)) noE) (fun e => w.E e r) := by
  rw [lsAt_get]
  unfold sPut
  cases g r with
  | exc e => exact Iff.rfl
  | stuck => exact Iff.rfl
  | ok d =>
    simp only [wp_ok]
    cases z : r[k]? with
    | none => exact Iff.rfl
    | some y =>
      cases y with
      | none => exact Iff.rfl
      | some c =>
        cases c with
        | lst xs =>
          simp only [wp_ok]
          cases f r with
          | ok a =>
            simp only [wp_ok]
            cases zo : setO xs a d with
            | ok ys => exact Iff.rfl
            | exc x =>
              cases a <;> simp only [setO] at zo
              all_goals first | cases zo | (split at zo <;> cases zo)
            | stuck => exact Iff.rfl
          | exc e => exact Iff.rfl
          | stuck => exact Iff.rfl
        | _ => exact Iff.rfl
/-- a place known to lie within -/
theorem wp_setO {xs : List D} {d : D} (h : 0 ≤ i ∧ i < xs.length) (p : PL (xs.set i.toNat d)) : (setO xs (.int i) d).wp PL E := by
  have e : ixN xs.length i = some i.toNat := by
    unfold ixN
    rw [if_pos h.1, if_pos h.2]
  unfold setO
  simp only [e, wp_ok]
  exact p
end
theorem eqD_refl {d : D} (h : shal lv d = true) : eqD d d = true := PySem.SeqAt.eqv_refl_plain d.pd (shal_ok lv d h).1
theorem wp_eqR {d : D} {PB : Bool → Prop} {E : Exc → Prop} (h : shal lv d = true) (p : PB true) : (eqG d d).wp PB E := by
  rw [wp_eqG, eqD_refl h]
  exact ⟨⟨h, h⟩, p⟩
theorem wp_neR {d : D} {PB : Bool → Prop} {E : Exc → Prop} (h : shal lv d = true) (p : PB false) : (neG d d).wp PB E := by
  rw [wp_neG, eqD_refl h]
  exact ⟨⟨h, h⟩, p⟩
/-! loops over few items -/
section
variable {fi : Env → R (List D)} {g : D → Env → Option Env} {b : Env → SR} {r : Env} {w : Ws} {d : D} {ds : List D}
theorem ws_forX : (sFor fi g b r).wp w ↔ (fi r).wp (fun ds => (forD g b ds r).wp w) (fun e => w.E e r) := by
  unfold sFor
  cases fi r <;> exact Iff.rfl
theorem wf_nil : (forD g b [] r).wp w ↔ w.N r := Iff.rfl
theorem wf_cons : (forD g b (d :: ds) r).wp w ↔ OpW (g d r) (fun r1 => (b r1).wp ⟨fun r2 => (forD g b ds r2).wp w, w.T, w.N, fun r2 => (forD g b ds r2).wp w, w.E⟩) := by
  rw [forD]
  cases g d r with
  | none => exact Iff.rfl
  | some r1 =>
    show SR.wp (match b r1 with | .nx r2 => forD g b ds r2 | .ct r2 => forD g b ds r2 | .bk r2 => .nx r2 | s => s) w ↔ (b r1).wp _
    cases b r1 <;> exact Iff.rfl
end
/-! comprehensions -/
theorem comp_map {vs : List Nat} {g : D → Env → Option Env} {t : Env → R Bool} {f : Env → R D} {F : D → D} {r : Env} : ∀ {ds : List D}, (∀ d ∈ ds, OpW (g d (wipeR r vs)) (fun r1 => t r1 = .ok true ∧ (f r1).wp (· = F d) noE)) → compD vs g t f ds r = .ok (ds.map F)
  | [], _ => rfl
  | d :: ds, h => by
    have h0 := h d (List.mem_cons_self ..)
    have ih := comp_map (ds := ds) fun x hx => h x (List.mem_cons_of_mem _ hx)
    rw [compD]
    cases z : g d (wipeR r vs) with
    | none => rw [z] at h0; exact h0.elim
    | some r1 =>
      rw [z] at h0
      obtain ⟨h1, h2⟩ := h0
      simp only [h1, wp_ok_iff.mp h2, ih]
      rfl
theorem wp_lc {fi : Env → R (List D)} {vs : List Nat} {g : D → Env → Option Env} {t : Env → R Bool} {f : Env → R D} {r : Env} {PD : D → Prop} {E : Exc → Prop} (F : D → D)
    (h : (fi r).wp (fun ds => ds.length ≤ szT ∧ (∀ d ∈ ds, OpW (g d (wipeR r vs)) (fun r1 => t r1 = .ok true ∧ (f r1).wp (· = F d) noE)) ∧ PD (.lst (ds.map F))) E) : (lcE fi vs g t f r).wp PD E := by
  unfold lcE
  rw [wp_bind]
  refine wp_imp h (fun ds ⟨h1, h2, h3⟩ => ?_) fun _ z => z
  rw [if_pos h1, comp_map h2]
  exact h3
theorem i62_of {i : Int} (h1 : -(2 ^ 62) ≤ i) (h2 : i < 2 ^ 62) : i62 i = true := by
  unfold i62
  rw [decide_eq_true h1, decide_eq_true h2]
  rfl
theorem lit_cast {n : Nat} : (((no_index (OfNat.ofNat n : Nat)) : Nat) : Int) = (OfNat.ofNat n : Int) := rfl
/-! ### sizes of ints -/
def Fit (n : Nat) (a : Int) : Prop := a.natAbs < 2 ^ n
theorem Fit.mono {n m : Nat} {a : Int} (h : Fit n a) (hl : n ≤ m) : Fit m a := Nat.lt_of_lt_of_le h (Nat.pow_le_pow_right (by decide) hl)
theorem Fit.add {n m : Nat} {a b : Int} (h : Fit n a) (h' : Fit m b) : Fit (max n m + 1) (a + b) := by
  have h1 := h.mono (Nat.le_max_left n m)
  have h2 := h'.mono (Nat.le_max_right n m)
  unfold Fit at *
  rw [Nat.pow_succ]
  omega
theorem Fit.sub {n m : Nat} {a b : Int} (h : Fit n a) (h' : Fit m b) : Fit (max n m + 1) (a - b) := by
  have h1 := h.mono (Nat.le_max_left n m)
  have h2 := h'.mono (Nat.le_max_right n m)
  unfold Fit at *
  rw [Nat.pow_succ]
  omega
theorem Fit.mul {n m : Nat} {a b : Int} (h : Fit n a) (h' : Fit m b) : Fit (n + m) (a * b) := by
  unfold Fit at *
  rw [Int.natAbs_mul, Nat.pow_add]
  exact Nat.mul_lt_mul'' h h'
theorem Fit.neg {n : Nat} {a : Int} (h : Fit n a) : Fit n (-a) := by
  unfold Fit at *
  rw [Int.natAbs_neg]
  exact h
theorem Fit.le {n : Nat} {a b : Int} (h : Fit n b) (h0 : 0 ≤ a) (h1 : a ≤ b) : Fit n a := by
  unfold Fit at *
  omega
theorem fit_of {n : Nat} {a : Int} (h : Fit n a) (hn : n ≤ 250) : fitI a = true := fitI_iff.mpr (h.mono hn)
theorem fit_small {a : Int} (h1 : -(2 ^ 100) < a) (h2 : a < 2 ^ 100) : fitI a = true := fit_of (n := 100) (by unfold Fit; omega) (by decide)
theorem Fit.of {a : Int} (n : Nat) (h : a.natAbs < 2 ^ n) : Fit n a := h
end Pu

/-! Texts as lists of codes: what the text operations come to. -/
namespace Pu
open PySem PySem.Spec PyProof.Rows L2
open PySem.StrLaws PySem.Builtin PySem.Builtin.Str PySem.NumText

theorem cs_len' (s : Tx) : (tx s).cps.toList = s := by simp [tx]
/-! ### one sign within a text -/
theorem inTx_one (c : Nat) (s : Tx) : inTx [c] s = decide (c ∈ s) := by
  have h := found_iff (tx s) (tx [c])
  have e : (∃ i, i + (tx [c]).length ≤ (tx s).length ∧ subAt (tx s) (tx [c]) i = true) ↔ c ∈ s := by
    constructor
    · rintro ⟨i, hi⟩
      have := (subAt_one (tx s) c i).mp hi
      rw [cs_len'] at this
      exact List.mem_of_getElem? this
    · intro hc
      obtain ⟨i, hi⟩ := List.getElem?_of_mem hc
      exact ⟨i, (subAt_one (tx s) c i).mpr (by rw [cs_len']; exact hi)⟩
  rw [e] at h
  unfold inTx
  by_cases hc : c ∈ s
  · rw [decide_eq_true hc, h.mpr hc]
  · rw [decide_eq_false hc]
    exact Bool.eq_false_iff.mpr fun z => hc (h.mp z)

/-! ### split by one sign -/
def occFrom (c : Nat) : Nat → Tx → List Nat
  | _, [] => []
  | k, a :: r => if a = c then k :: occFrom c (k + 1) r else occFrom c (k + 1) r
theorem occ_from (c : Nat) (s : Tx) (lim : Nat) (hl : s.length < lim) : ∀ (t : Tx) (k : Nat) (acc : Array Nat) (free : Nat), s.drop k = t → k + t.length = s.length → free ≤ k → acc.size ≤ k →
    (forIn (List.range' k (t.length + 1)) (acc, free) (occBody (tx s) (tx [c]) s.length lim)).run.fst.toList = acc.toList ++ occFrom c k t
  | [], k, acc, free, hd, hk, hf, ha => by
    show (forIn [k] (acc, free) (occBody (tx s) (tx [c]) s.length lim)).run.fst.toList = _
    rw [List.forIn_cons]
    unfold occBody
    have : ¬ (((((acc, free) : Array Nat × Nat).fst.size < lim ∧ ((acc, free) : Array Nat × Nat).snd ≤ k) ∧ k + (tx [c]).length ≤ s.length) ∧ subAt (tx s) (tx [c]) k = true) := fun z => by
      have := z.1.2
      rw [tx_len] at this
      simp at this hk
      omega
    rw [if_neg this]
    simp [occFrom]
  | a :: r, k, acc, free, hd, hk, hf, ha => by
    have hd2 : s.drop (k + 1) = r := by rw [← List.drop_drop, hd]; rfl
    have hk2 : k + 1 + r.length = s.length := by simp at hk; omega
    have hat : s[k]? = some a := by
      have := congrArg (fun l => l[0]?) hd
      simpa [List.getElem?_drop] using this
    show (forIn (k :: List.range' (k + 1) (r.length + 1)) (acc, free) (occBody (tx s) (tx [c]) s.length lim)).run.fst.toList = _
    rw [List.forIn_cons]
    unfold occBody
    have h1 := subAt_one (tx s) c k
    rw [cs_len', hat, tx_len] at h1
    by_cases hc : a = c
    · subst hc
      have h2 := h1.mpr rfl
      rw [if_pos ⟨⟨⟨Nat.lt_of_le_of_lt ha (by omega), hf⟩, h2.1⟩, h2.2⟩]
      have ih := occ_from a s lim hl r (k + 1) (acc.push k) (k + (tx [a]).length) hd2 hk2 (Nat.le_refl _) (by simp; omega)
      unfold occFrom
      rw [if_pos rfl]
      refine Eq.trans ih ?_
      simp
    · have h2 : ¬ (((((acc, free) : Array Nat × Nat).fst.size < lim ∧ ((acc, free) : Array Nat × Nat).snd ≤ k) ∧ k + (tx [c]).length ≤ s.length) ∧ subAt (tx s) (tx [c]) k = true) := fun z => by
        have := h1.mp ⟨z.1.2, z.2⟩
        exact hc (Option.some.inj this)
      rw [if_neg h2]
      have ih := occ_from c s lim hl r (k + 1) acc free hd2 hk2 (by omega) (by omega)
      unfold occFrom
      rw [if_neg hc]
      exact ih
theorem occ_one (c : Nat) (s : Tx) : occurrences (tx s) (tx [c]) 0 (tx s).length ((tx s).length + 1) = occFrom c 0 s := by
  rw [occ_eq, tx_len]
  have := occ_from c s (s.length + 1) (by omega) s 0 #[] 0 rfl (by omega) (by omega) (by simp)
  simpa using this
def splitL (c : Nat) : Tx → List Tx
  | [] => [[]]
  | a :: r => if a = c then [] :: splitL c r else match splitL c r with
    | p :: ps => (a :: p) :: ps
    | [] => [[a]]
theorem splitL_cons (c a : Nat) (r : Tx) : splitL c (a :: r) = if a = c then [] :: splitL c r else match splitL c r with
    | p :: ps => (a :: p) :: ps
    | [] => [[a]] := by rw [splitL]
theorem splitL_ne (c : Nat) : ∀ s : Tx, ∃ p ps, splitL c s = p :: ps
  | [] => ⟨_, _, rfl⟩
  | a :: r => by
    obtain ⟨p, ps, e⟩ := splitL_ne c r
    rw [splitL_cons]
    split
    · exact ⟨_, _, rfl⟩
    · rw [e]; exact ⟨_, _, rfl⟩
theorem strSub_tx (s : Tx) (i j : Nat) : strSub (tx s) i j = tx ((s.drop i).take (j - i)) := by
  have h := strSub_toList (tx s) i j
  rw [cs_len'] at h
  rw [← tx_surj (strSub (tx s) i j), h]
theorem parts_from (c : Nat) (s : Tx) : ∀ (t p : Tx) (a k : Nat) (q : Tx) (qs : List Tx), s.drop a = p ++ t → k = a + p.length → a ≤ s.length → splitL c t = q :: qs → partsFrom (tx s) 1 a (occFrom c k t) = tx (p ++ q) :: qs.map tx
  | [], p, a, k, q, qs, hd, hk, hle, hs => by
    cases hs
    show [strSub (tx s) a (tx s).length] = _
    rw [strSub_tx, tx_len, hd]
    have : s.length - a = (p ++ []).length := by rw [← hd, List.length_drop]
    rw [this, List.take_length]
    rfl
  | x :: r, p, a, k, q, qs, hd, hk, hle, hs => by
    have hl : s.length = a + p.length + 1 + r.length := by
      have := congrArg List.length hd
      simp [List.length_drop] at this
      omega
    unfold occFrom
    rw [splitL_cons] at hs
    by_cases hc : x = c
    · rw [if_pos hc] at hs ⊢
      cases hs
      obtain ⟨q2, qs2, e⟩ := splitL_ne c r
      have hd2 : s.drop (k + 1) = [] ++ r := by
        rw [hk, show a + p.length + 1 = a + (p.length + 1) by omega, ← List.drop_drop, hd]
        simp
      show strSub (tx s) a k :: partsFrom (tx s) 1 (k + 1) (occFrom c (k + 1) r) = _
      rw [parts_from c s r [] (k + 1) (k + 1) q2 qs2 hd2 (by simp) (by omega) e, strSub_tx, hd, e]
      have : k - a = p.length := by omega
      rw [this, List.take_left]
      simp
    · rw [if_neg hc] at hs ⊢
      obtain ⟨q2, qs2, e⟩ := splitL_ne c r
      rw [e] at hs
      cases hs
      rw [parts_from c s r (p ++ [x]) a (k + 1) q2 _ (by rw [hd]; simp) (by simp; omega) hle e]
      simp
theorem splitL_none (c : Nat) : ∀ {s : Tx}, c ∉ s → splitL c s = [s]
  | [], _ => rfl
  | a :: r, h => by
    rw [splitL_cons, if_neg fun z => h (by rw [z]; exact List.mem_cons_self ..), splitL_none c fun z => h (List.mem_cons_of_mem _ z)]
theorem splitL_app (c : Nat) : ∀ {p r : Tx}, c ∉ p → splitL c (p ++ c :: r) = p :: splitL c r
  | [], r, _ => by
    show splitL c (c :: r) = _
    rw [splitL_cons, if_pos rfl]
  | a :: p, r, h => by
    show splitL c (a :: (p ++ c :: r)) = _
    rw [splitL_cons, if_neg fun z => h (by rw [z]; exact List.mem_cons_self ..), splitL_app c fun z => h (List.mem_cons_of_mem _ z)]
theorem occFrom_none (c : Nat) : ∀ {s : Tx} {k : Nat}, occFrom c k s = [] → c ∉ s
  | [], _, _ => by simp
  | a :: r, k, h => by
    unfold occFrom at h
    split at h
    · cases h
    · rename_i hc
      intro z
      rcases List.mem_cons.mp z with rfl | z
      · exact hc rfl
      · exact occFrom_none c h z
theorem kind_one {c : Nat} (h : c < 256) : PySem.Builtin.Str.strKind (tx [c]) = 1 := by
  unfold PySem.Builtin.Str.strKind tx
  simp [h]
theorem kind_pos (s : Str) : ¬ PySem.Builtin.Str.strKind s < 1 := by
  unfold PySem.Builtin.Str.strKind
  split
  · omega
  · split <;> omega
theorem split_one (c : Nat) (hc : c < 256) (s : Tx) : Txt.split (tx s) (tx [c]) = (splitL c s).map tx := by
  unfold Txt.split
  rw [kind_one hc, decide_eq_false (kind_pos _), Bool.or_false]
  by_cases h1 : (tx s).length < (tx [c]).length
  · rw [if_pos (decide_eq_true h1)]
    rw [tx_len, tx_len] at h1
    have : s = [] := by
      cases s with
      | nil => rfl
      | cons _ _ => simp at h1
    subst this
    rfl
  · rw [if_neg (by simpa using h1), occ_one]
    by_cases h2 : (occFrom c 0 s).isEmpty = true
    · rw [if_pos h2, splitL_none c (occFrom_none c (List.isEmpty_iff.mp h2))]
      rfl
    · rw [if_neg h2, partsBetween_eq, tx_len]
      obtain ⟨q, qs, e⟩ := splitL_ne c s
      have := parts_from c s s [] 0 0 q qs rfl rfl (by omega) e
      rw [e]
      exact this
/-! ### decimals -/
def figN (n : Nat) : Tx := (Nat.toDigits 10 n).map Char.toNat
theorem figN_lt {n : Nat} (h : n < 10) : figN n = [48 + n] := by
  unfold figN
  rw [Nat.toDigits_of_lt_base h]
  have : ∀ d : Nat, d < 10 → (Nat.digitChar d).toNat = 48 + d := by decide
  simp [this n h]
theorem figN_ge {n : Nat} (h : 10 ≤ n) : figN n = figN (n / 10) ++ [48 + n % 10] := by
  have hm : n % 10 < 10 := Nat.mod_lt n (by decide)
  have t : Nat.toDigits 10 (n / 10) ++ Nat.toDigits 10 (n % 10) = Nat.toDigits 10 (10 * (n / 10) + n % 10) := Nat.toDigits_append_toDigits (by decide) (by omega) hm
  rw [Nat.div_add_mod] at t
  rw [← figN_lt hm]
  unfold figN
  rw [← t, List.map_append]
theorem figN_str (n : Nat) : cs ((toString ((n : Nat) : Int) : String) : Str) = figN n := PySem.W.KIN.signs_num n
theorem figN_digits : ∀ (n : Nat), AllDigits (figN n) := fun n => by
  induction n using Nat.strongRecOn with
  | _ n ih =>
    by_cases h : n < 10
    · rw [figN_lt h]
      intro c hc
      rw [List.mem_singleton] at hc
      omega
    · rw [figN_ge (by omega)]
      intro c hc
      rw [List.mem_append, List.mem_singleton] at hc
      rcases hc with hc | hc
      · exact ih (n / 10) (by omega) c hc
      · omega
theorem figN_val (n : Nat) : digitsVal (figN n) = n := PySem.W.KIN.val_back n
theorem figN_ne (n : Nat) : figN n ≠ [] := by
  by_cases h : n < 10
  · rw [figN_lt h]; simp
  · rw [figN_ge (by omega)]; simp
theorem figN_len : ∀ (k n : Nat), n < 10 ^ (k + 1) → (figN n).length ≤ k + 1
  | 0, n, h => by
    rw [figN_lt (by simpa using h)]
    simp
  | k + 1, n, h => by
    by_cases h1 : n < 10
    · rw [figN_lt h1]; simp
    · rw [figN_ge (by omega), List.length_append, List.length_singleton]
      have := figN_len k (n / 10) (by rw [Nat.pow_succ] at h; omega)
      omega
/-- zeros ahead, up to k signs -/
def pad0 (k : Nat) (s : Tx) : Tx := List.replicate (k - s.length) 48 ++ s
theorem pad0_digits {k : Nat} {s : Tx} (h : AllDigits s) : AllDigits (pad0 k s) := fun c hc => by
  unfold pad0 at hc
  rw [List.mem_append] at hc
  rcases hc with hc | hc
  · rw [(List.mem_replicate.mp hc).2]; omega
  · exact h c hc
theorem zeros_val (s : Tx) : ∀ k : Nat, digitsVal (List.replicate k 48 ++ s) = digitsVal s
  | 0 => rfl
  | k + 1 => by
    rw [List.replicate_succ, List.cons_append, digitsVal_zero]
    exact zeros_val s k
theorem pad0_val (k : Nat) (s : Tx) : digitsVal (pad0 k s) = digitsVal s := zeros_val s _
theorem pad0_len (k : Nat) (s : Tx) : (pad0 k s).length = max k s.length := by
  unfold pad0
  rw [List.length_append, List.length_replicate]
  omega
theorem zfill_digits {s : Tx} (h : AllDigits s) (k : Nat) : cs (Txt.zfill (tx s) (k : Int)) = pad0 k s := by
  unfold Txt.zfill pad0
  rw [tx_len]
  by_cases hk : (k : Int) ≤ s.length
  · rw [if_pos hk, show k - s.length = 0 by omega, cs_tx]
    rfl
  · rw [if_neg hk, Int.toNat_natCast]
    have hz : zfilled (tx s) (k - s.length) = padded (tx s) (k - s.length) 0 48 := by
      unfold zfilled
      split
      · rename_i e
        have : s[0]? = some 43 := by simpa [tx] using e
        have := h 43 (List.mem_of_getElem? this)
        omega
      · rename_i e
        have : s[0]? = some 45 := by simpa [tx] using e
        have := h 45 (List.mem_of_getElem? this)
        omega
      · rfl
    rw [hz]
    unfold padded
    simp [cs, tx]
theorem int_digits {s : Tx} (h : AllDigits s) (h1 : s ≠ []) (h2 : s.length ≤ 640) : (intS [.str s]) = .ok (.int (digitsVal s : Nat)) := by
  have e := intText_digits (x := tx s) (by rw [cs_len']; exact h) (by rw [cs_len']; exact h1) (by rw [tx_len]; omega)
  rw [cs_len'] at e
  show (if s.length ≤ 640 then (match intText? (tx s) with | some n => R.ok (D.int n) | none => R.stuck) else R.stuck) = _
  rw [if_pos h2, e]
/-! ### slices from behind -/
theorem sIx_neg {n d : Nat} {v : Int} (h : v < 0) : HT.sIx n d (some v) = (v + (n : Int)).toNat := if_pos h
theorem cut_mid {α : Type} {A R : List α} {m : α} {k : Nat} {i j : Int} (hR : R.length = k) (hk : 1 ≤ k) (hi : i = -1 - (k : Int)) (hj : j = -(k : Int)) : cut (A ++ m :: R) (some i) (some j) = [m] := by
  subst hi hj
  unfold cut
  have l : (A ++ m :: R).length = A.length + 1 + k := by simp [hR]; omega
  rw [l, sIx_neg (by omega), sIx_neg (by omega)]
  rw [show (-1 - (k : Int) + ((A.length + 1 + k : Nat) : Int)).toNat = A.length by omega, show (-(k : Int) + ((A.length + 1 + k : Nat) : Int)).toNat - A.length = 1 by omega, List.drop_left]
  rfl
theorem cut_front {α : Type} {A R : List α} {m : α} {k : Nat} {i : Int} (hR : R.length = k) (hi : i = -1 - (k : Int)) : cut (A ++ m :: R) none (some i) = A := by
  subst hi
  unfold cut
  have l : (A ++ m :: R).length = A.length + 1 + k := by simp [hR]; omega
  rw [l, sIx_neg (by omega), HT.sIx_none]
  rw [show (-1 - (k : Int) + ((A.length + 1 + k : Nat) : Int)).toNat - 0 = A.length by omega, List.drop_zero, List.take_left]
theorem cut_back {α : Type} {A R : List α} {k : Nat} {j : Int} (hR : R.length = k) (hk : 1 ≤ k) (hj : j = -(k : Int)) : cut (A ++ R) (some j) none = R := by
  subst hj
  unfold cut
  have l : (A ++ R).length = A.length + k := by simp [hR]
  rw [l, sIx_neg (by omega), HT.sIx_none]
  rw [show (-(k : Int) + ((A.length + k : Nat) : Int)).toNat = A.length by omega, List.drop_left]
  rw [show A.length + k - A.length = R.length by omega, List.take_length]
theorem figN_head : ∀ n : Nat, 1 ≤ n → ∃ c r, figN n = c :: r ∧ c ≠ 48 := fun n => by
  induction n using Nat.strongRecOn with
  | _ n ih =>
    intro h
    by_cases h1 : n < 10
    · exact ⟨48 + n, [], figN_lt h1, by omega⟩
    · obtain ⟨c, r, e, hc⟩ := ih (n / 10) (by omega) (by omega)
      exact ⟨c, r ++ [48 + n % 10], by rw [figN_ge (by omega), e]; rfl, hc⟩
/-- more than two signs: the first one is no 0 -/
theorem pad2_head (n : Nat) (h : 2 < (pad0 2 (figN n)).length) : ∃ c r, pad0 2 (figN n) = c :: r ∧ c ≠ 48 := by
  rw [pad0_len] at h
  have n1 : 1 ≤ n := by
    by_cases h1 : n < 10
    · rw [figN_lt h1] at h; simp at h
    · omega
  obtain ⟨c, r, e, hc⟩ := figN_head n n1
  refine ⟨c, r, ?_, hc⟩
  unfold pad0
  rw [show 2 - (figN n).length = 0 by omega]
  exact e
/-- the figures of n, none of 0 -/
def figZ (n : Nat) : Tx := if n = 0 then [] else figN n
theorem figZ_step {n : Nat} (h : 0 < n) : figZ n = figZ (n / 10) ++ [48 + n % 10] := by
  unfold figZ
  rw [if_neg (by omega)]
  by_cases h1 : n < 10
  · rw [if_pos (by omega), figN_lt h1, show n % 10 = n by omega]
    rfl
  · rw [if_neg (by omega), figN_ge (by omega)]
theorem pad0_snoc {k : Nat} {q : Tx} {d : Nat} (hk : 0 < k) : pad0 k (q ++ [d]) = pad0 (k - 1) q ++ [d] := by
  unfold pad0
  rw [List.length_append, List.length_singleton, ← List.append_assoc]
  rw [show k - (q.length + 1) = k - 1 - q.length by omega]
theorem pad0_figZ {k n : Nat} (hk : 1 ≤ k) : pad0 k (figZ n) = pad0 k (figN n) := by
  unfold figZ
  split
  · rename_i h
    subst h
    rw [figN_lt (by omega)]
    unfold pad0
    obtain ⟨j, rfl⟩ : ∃ j, k = j + 1 := ⟨k - 1, by omega⟩
    simp [List.replicate_succ']
  · rfl
section
variable {E : Exc → Prop} {PD : D → Prop} {PB : Bool → Prop}
theorem wp_inX {neg : Bool} {a b : Tx} : (inO neg (.str a) (.str b)).wp PB E ↔ PB (if neg = true then !inTx a b else inTx a b) := Iff.rfl
theorem strN_ok {n : Nat} (h : n < 10 ^ 40) (q : PD (.str (figN n))) : (strD [.int (n : Int)]).wp PD E := by
  rw [wp_strI, figN_str]
  refine ⟨⟨?_, ?_⟩, q⟩
  · rw [Int.natAbs_natCast]
    by_cases z : n = 0
    · subst z; decide
    · have : n.log2 < 200 := (Nat.log2_lt z).mpr (Nat.lt_trans h (by decide))
      omega
  · have l : (figN n).length ≤ 40 := figN_len 39 n h
    have e := figN_str n
    rw [← cs_len, e]
    unfold szT
    omega
theorem zf_ok {s : Tx} {k : Nat} (hs : AllDigits s) (hl : s.length ≤ 1000) (hk : k ≤ 1000) (q : PD (.str (pad0 k s))) : (zfillD (.str s) (.int (k : Int))).wp PD E := by
  unfold zfillD
  have e := zfill_digits hs k
  rw [wp_guard, wp_ok, e]
  refine ⟨?_, q⟩
  rw [Bool.and_eq_true]
  refine ⟨?_, decide_eq_true ?_⟩
  · unfold PadOk fitsSsize tooLong
    rw [Int.toNat_natCast]
    have := sizeLine_eq
    simp
    omega
  · rw [← cs_len, e, pad0_len]
    unfold szT
    omega
theorem intT_ok {s : Tx} (h : AllDigits s) (h1 : s ≠ []) (h2 : s.length ≤ 640) (q : PD (.int (digitsVal s : Nat))) : (intS [.str s]).wp PD E := by
  rw [int_digits h h1 h2]
  exact q
end
/-! ### join -/
def joinL (sep : Tx) : List Tx → Tx
  | [] => []
  | t :: r => r.foldl (fun a p => a ++ sep ++ p) t
theorem join_fold (sep : Tx) : ∀ (r : List Tx) (a : Array Nat), ((r.map tx).foldl (fun acc p => acc ++ (tx sep).cps ++ p.cps) a).toList = r.foldl (fun a p => a ++ sep ++ p) a.toList
  | [], _ => rfl
  | t :: r, a => by
    rw [List.map_cons, List.foldl_cons, List.foldl_cons, join_fold sep r]
    simp [tx]
theorem join_tx (sep : Tx) (ts : List Tx) : cs (Txt.join (tx sep) (ts.map tx)) = joinL sep ts := by
  unfold Txt.join glued joinL
  cases ts with
  | nil => rfl
  | cons t r =>
    show ((r.map tx).foldl _ (tx t).cps).toList = _
    rw [join_fold]
    simp [tx]
theorem join_ok {sep : Tx} {ts : List Tx} {d : D} {E : Exc → Prop} {PD : D → Prop} (hd : items d = some (ts.map D.str)) (hl : (ts.map List.length).sum + ts.length * sep.length ≤ szT) (hj : (joinL sep ts).length ≤ szT) (q : PD (.str (joinL sep ts))) : (joinD (.str sep) d).wp PD E := by
  have h2 : (Txt.join (tx sep) (ts.map tx)).length ≤ szT := by rw [← cs_len, join_tx]; exact hj
  unfold joinD
  simp only [hd, strsOf_map]
  rw [if_pos ⟨hl, h2⟩, join_tx]
  exact q
/-! ### ranges and enumerations, step by step -/
theorem rng_nil {lo hi : Int} (h : hi ≤ lo) : rng lo hi = [] := by
  unfold rng
  rw [show (hi - lo).toNat = 0 by omega]
  rfl
theorem rng_cons {lo hi : Int} (h : lo < hi) : rng lo hi = .int lo :: rng (lo + 1) hi := by
  unfold rng
  rw [show (hi - lo).toNat = (hi - (lo + 1)).toNat + 1 by omega, List.range_succ_eq_map, List.map_cons, List.map_map]
  congr 1
  · simp
  · apply List.map_congr_left
    intro i _
    simp
    omega
/-- what is at the head of a range -/
theorem rng_head {lo hi : Int} {d : D} {rest : List D} (h : d :: rest = rng lo hi) : lo < hi ∧ d = .int lo ∧ rest = rng (lo + 1) hi := by
  by_cases z : lo < hi
  · rw [rng_cons z] at h
    cases h
    exact ⟨z, rfl, rfl⟩
  · rw [rng_nil (by omega)] at h
    cases h
theorem rng_done {lo hi : Int} (h : [] = rng lo hi) : hi ≤ lo := by
  by_cases z : lo < hi
  · rw [rng_cons z] at h
    cases h
  · omega
def enumF : Nat → List D → List D
  | _, [] => []
  | i, d :: ds => .tup [.int (i : Nat), d] :: enumF (i + 1) ds
theorem enumF_get : ∀ (ds : List D) (i j : Nat), (enumF i ds)[j]? = ds[j]?.map fun d => D.tup [.int ((i + j : Nat) : Nat), d]
  | [], i, j => by simp [enumF]
  | d :: ds, i, 0 => by simp [enumF]
  | d :: ds, i, j + 1 => by
    simp only [enumF, List.getElem?_cons_succ]
    rw [enumF_get ds (i + 1) j]
    congr 2
    funext x
    congr 4
    omega
theorem enumD_F (ds : List D) : enumD ds = enumF 0 ds := by
  apply List.ext_getElem?
  intro j
  rw [enumF_get]
  by_cases h : j < ds.length
  · rw [enumD_get (List.getElem?_eq_getElem h), List.getElem?_eq_getElem h]
    simp
  · rw [List.getElem?_eq_none (by rw [enumD_len]; omega), List.getElem?_eq_none (by omega)]
    rfl
theorem ws_imp {s : SR} {w w' : Ws} (h : s.wp w) (n : ∀ r, w.N r → w'.N r) (t : ∀ d, w.T d → w'.T d) (b : ∀ r, w.B r → w'.B r) (c : ∀ r, w.C r → w'.C r) (e : ∀ x r, w.E x r → w'.E x r) : s.wp w' := by
  cases s with
  | nx r => exact n r h
  | ret d => exact t d h
  | bk r => exact b r h
  | ct r => exact c r h
  | exc x r => exact e x r h
  | stuck => exact h
theorem sorted_ok {ns : List Int} {E : Exc → Prop} {PD : D → Prop} (h : ns.length < 64) (q : PD (.lst ((sortI ns).map D.int))) : (sortedD [.lst (ns.map D.int)]).wp PD E := by
  show (sortedI (.lst (ns.map D.int))).wp PD E
  unfold sortedI
  simp only [intsOf_map, if_pos h, wp_ok]
  exact q
/-! loops over lists that are told by others -/
/-- over the pictures of things -/
theorem ws_forM {α : Type} (f : α → D) {fi : Env → R (List D)} {g : D → Env → Option Env} {b : Env → SR} {r : Env} {w : Ws} (h : (fi r).wp (fun ds => ∃ xs : List α, ds = xs.map f ∧ ∃ S : List α → Env → Prop, S [] r ∧ (∀ r', S xs r' → w.N r') ∧
    ∀ dn x t r', xs = dn ++ x :: t → S dn r' → OpW (g (f x) r') fun r1 => (b r1).wp ⟨S (dn ++ [x]), w.T, w.N, S (dn ++ [x]), w.E⟩) (fun e => w.E e r)) : (sFor fi g b r).wp w := by
  refine ws_for (wp_imp h (fun ds q => ?_) fun _ z => z)
  obtain ⟨xs, rfl, S, h0, hN, hS⟩ := q
  refine ⟨fun rest r => ∃ dn t, xs = dn ++ t ∧ rest = t.map f ∧ S dn r, ⟨[], xs, rfl, rfl, h0⟩, ?_, ?_⟩
  · rintro r' ⟨dn, t, e, z, q⟩
    cases t with
    | cons _ _ => cases z
    | nil => rw [List.append_nil] at e; exact hN r' (e ▸ q)
  · rintro d rest r' ⟨dn, t, e, z, q⟩
    cases t with
    | nil => cases z
    | cons x t =>
      cases z
      have key := hS dn x t r' e q
      have wk : ∀ r1, S (dn ++ [x]) r1 → ∃ dn2 t2, xs = dn2 ++ t2 ∧ t.map f = t2.map f ∧ S dn2 r1 := fun r1 h1 => ⟨dn ++ [x], t, by rw [e]; simp, rfl, h1⟩
      unfold OpW at key ⊢
      cases zg : g (f x) r' with
      | none => rw [zg] at key; exact key
      | some r1 =>
        rw [zg] at key
        simp only at key ⊢
        unfold SR.wp at key ⊢
        cases zb : b r1 with
        | nx r2 => rw [zb] at key; exact wk r2 key
        | ct r2 => rw [zb] at key; exact wk r2 key
        | bk r2 => rw [zb] at key; exact key
        | ret d => rw [zb] at key; exact key
        | exc e r2 => rw [zb] at key; exact key
        | stuck => rw [zb] at key; exact key
/-- and with their numbers -/
theorem ws_forN {α : Type} (f : Nat → α → D) {fi : Env → R (List D)} {g : D → Env → Option Env} {b : Env → SR} {r : Env} {w : Ws} (h : (fi r).wp (fun ds => ∃ xs : List α, ds = xs.mapIdx f ∧ ∃ S : List α → Env → Prop, S [] r ∧ (∀ r', S xs r' → w.N r') ∧
    ∀ dn x t r', xs = dn ++ x :: t → S dn r' → OpW (g (f dn.length x) r') fun r1 => (b r1).wp ⟨S (dn ++ [x]), w.T, w.N, S (dn ++ [x]), w.E⟩) (fun e => w.E e r)) : (sFor fi g b r).wp w := by
  refine ws_forM (α := D) id (wp_imp h (fun ds q => ?_) fun _ z => z)
  obtain ⟨xs, rfl, S, h0, hN, hS⟩ := q
  refine ⟨xs.mapIdx f, by simp, fun dn r => ∃ d2 t, xs = d2 ++ t ∧ dn = d2.mapIdx f ∧ S d2 r, ⟨[], xs, rfl, rfl, h0⟩, ?_, ?_⟩
  · rintro r' ⟨d2, t, e, z, q⟩
    have hl := congrArg List.length z
    rw [List.length_mapIdx, List.length_mapIdx, e, List.length_append] at hl
    have : t = [] := List.eq_nil_of_length_eq_zero (by omega)
    subst this
    rw [List.append_nil] at e
    exact hN r' (e ▸ q)
  · rintro dn d t r' e ⟨d2, t2, e2, rfl, q⟩
    rw [e2, List.mapIdx_append] at e
    have e := List.append_cancel_left e
    cases t2 with
    | nil => cases e
    | cons x t2 =>
      rw [List.mapIdx_cons, Nat.zero_add] at e
      cases e
      have key := hS d2 x t2 r' e2 q
      have wk : ∀ r1, S (d2 ++ [x]) r1 → ∃ d3 t3, xs = d3 ++ t3 ∧ d2.mapIdx f ++ [f d2.length x] = d3.mapIdx f ∧ S d3 r1 := fun r1 h1 => ⟨d2 ++ [x], t2, by rw [e2]; simp, by simp [List.mapIdx_append], h1⟩
      unfold OpW at key ⊢
      show match g (f d2.length x) r' with | some r => _ | none => _
      cases zg : g (f d2.length x) r' with
      | none => rw [zg] at key; exact key
      | some r1 =>
        rw [zg] at key
        simp only at key ⊢
        unfold SR.wp at key ⊢
        cases zb : b r1 with
        | nx r2 => rw [zb] at key; exact wk r2 key
        | ct r2 => rw [zb] at key; exact wk r2 key
        | bk r2 => rw [zb] at key; exact key
        | ret d => rw [zb] at key; exact key
        | exc e r2 => rw [zb] at key; exact key
        | stuck => rw [zb] at key; exact key
theorem enumF_idx {α : Type} (f : α → D) : ∀ (xs : List α) (k : Nat), enumF k (xs.map f) = xs.mapIdx fun i x => .tup [.int ((k + i : Nat) : Nat), f x]
  | [], _ => rfl
  | x :: xs, k => by
    rw [List.map_cons, List.mapIdx_cons]
    simp only [enumF, enumF_idx f xs (k + 1), Nat.add_zero]
    congr 1
    congr 1
    funext i x
    rw [Nat.add_assoc, Nat.add_comm 1 i]
theorem enumD_idx {α : Type} (f : α → D) (xs : List α) : enumD (xs.map f) = xs.mapIdx fun i x => .tup [.int (i : Nat), f x] := by
  rw [enumD_F, enumF_idx]
  simp
/-- from a number on, in order -/
theorem ws_forR {fi : Env → R (List D)} {g : D → Env → Option Env} {b : Env → SR} {r : Env} {w : Ws} (h : (fi r).wp (fun ds => ∃ lo hi : Int, ds = rng lo hi ∧ ∃ S : Nat → Env → Prop, S 0 r ∧ (∀ r', S (hi - lo).toNat r' → w.N r') ∧
    ∀ (k : Nat) r', lo + (k : Int) < hi → S k r' → OpW (g (.int (lo + (k : Int))) r') fun r1 => (b r1).wp ⟨S (k + 1), w.T, w.N, S (k + 1), w.E⟩) (fun e => w.E e r)) : (sFor fi g b r).wp w := by
  refine ws_for (wp_imp h (fun ds q => ?_) fun _ z => z)
  obtain ⟨lo, hi, rfl, S, h0, hN, hS⟩ := q
  refine ⟨fun rest r => ∃ k : Nat, k ≤ (hi - lo).toNat ∧ rest = rng (lo + k) hi ∧ S k r, ⟨0, by omega, by simp, h0⟩, ?_, ?_⟩
  · rintro r' ⟨k, e, z, q⟩
    have := rng_done z
    have : k = (hi - lo).toNat := by omega
    exact hN r' (this ▸ q)
  · rintro d rest r' ⟨k, e, z, q⟩
    obtain ⟨z1, rfl, rfl⟩ := rng_head z
    have key := hS k r' z1 q
    have wk : ∀ r1, S (k + 1) r1 → ∃ k2 : Nat, k2 ≤ (hi - lo).toNat ∧ rng (lo + k + 1) hi = rng (lo + k2) hi ∧ S k2 r1 := fun r1 h1 => ⟨k + 1, by omega, by rw [show lo + (k : Int) + 1 = lo + ((k + 1 : Nat) : Int) by omega], h1⟩
    unfold OpW at key ⊢
    cases zg : g (.int (lo + k)) r' with
    | none => rw [zg] at key; exact key
    | some r1 =>
      rw [zg] at key
      simp only at key ⊢
      unfold SR.wp at key ⊢
      cases zb : b r1 with
      | nx r2 => rw [zb] at key; exact wk r2 key
      | ct r2 => rw [zb] at key; exact wk r2 key
      | bk r2 => rw [zb] at key; exact key
      | ret d => rw [zb] at key; exact key
      | exc e r2 => rw [zb] at key; exact key
      | stuck => rw [zb] at key; exact key
end Pu

namespace Pu
open PySem PySem.Spec PyProof.Rows L2

/-! ### own objects lent to a call -/
mutual
def flD : D → Bool
  | .non => true
  | .bl _ => true
  | .int _ => true
  | .str _ => true
  | .tup xs => flDs xs
  | .ins _ _ vs => flDs vs
  | _ => false
def flDs : List D → Bool
  | [] => true
  | d :: r => flD d && flDs r
end
def LD (o : HO) : Prop := (∃ xs, o = .lst xs) ∨ (∃ kvs, o = .dK kvs) ∨ ∃ kvs, o = .dT kvs
section
variable {k : KC} {F F' F2 F3 H H2 H' : Hp}
mutual
theorem Dv.cutF (c : ∀ a o, F a = some o → ¬ LD o → F' a = some o) : ∀ {v : V} {d : D}, Dv k F v d → flD d = true → Dv k F' v d
  | _, _, .non => fun _ => .non
  | _, _, .bl b => fun _ => .bl b
  | _, _, .int i => fun _ => .int i
  | _, _, .str x h => fun _ => .str x h
  | _, _, .lst h1 h2 => fun f => by cases f
  | _, _, .tup h1 h2 => fun f => .tup (c _ _ h1 (by rintro (⟨_, h⟩ | ⟨_, h⟩ | ⟨_, h⟩) <;> cases h)) (DvAll.cutF c h2 f)
  | _, _, .scr h => fun f => by cases f
  | _, _, .dct h1 h2 h3 => fun f => by cases f
  | _, _, .dtt h1 h2 h3 => fun f => by cases f
  | _, _, .ins h0 h1 h2 h3 => fun f => .ins h0 (c _ _ h1 (by rintro (⟨_, h⟩ | ⟨_, h⟩ | ⟨_, h⟩) <;> cases h)) h2 (DvAll.cutF c h3 f)
theorem DvAll.cutF (c : ∀ a o, F a = some o → ¬ LD o → F' a = some o) : ∀ {vs : List V} {ds : List D}, DvAll k F vs ds → flDs ds = true → DvAll k F' vs ds
  | _, _, .nil => fun _ => .nil
  | _, _, .cons h1 h2 => fun f => by
    have f : (flD _ && flDs _) = true := f
    rw [Bool.and_eq_true] at f
    exact .cons (Dv.cutF c h1 f.1) (DvAll.cutF c h2 f.2)
end
/-- what is lent -/
theorem ResA.lend (s : Same F2 H2) : ∀ {vs : List V} {ds : List D}, ResA k .vw H F2 H2 vs ds → ∃ F3, Same F2 F3 ∧ Same F3 H2 ∧ DvAll k F3 vs ds ∧ ∀ a o, F3 a = some o → F2 a = none → LD o
  | [], [], _ => ⟨F2, Same.refl F2, s, .nil, fun a o e n => by rw [n] at e; cases e⟩
  | v :: vs, d :: ds, h => by
    obtain ⟨F3, s1, s2, dv, ld⟩ := ResA.lend s h.2
    rcases (h.1 : Dv k F2 v d ∨ ∃ p, v = .ref p ∧ F2 p = none ∧ OwnAt k F2 H2 p d) with h1 | ⟨p, e, n, ow⟩
    · exact ⟨F3, s1, s2, .cons (h1.mono s1) dv, ld⟩
    · subst e
      cases e3 : F3 p with
      | some o =>
        have e4 := s2 _ _ e3
        refine ⟨F3, s1, s2, .cons ?_ dv, ld⟩
        cases ow with
        | lst a b => rw [a] at e4; cases e4; exact .lst e3 (b.mono s1)
        | dct a b c => rw [a] at e4; cases e4; exact .dct e3 b (c.mono s1)
        | dtt a b c => rw [a] at e4; cases e4; exact .dtt e3 b (c.mono s1)
      | none =>
        obtain ⟨o, eo⟩ := ow.there
        have su : Same F3 (upd F3 p o) := fun b z q => by rw [upd_ne (ne_of_none q e3)]; exact q
        refine ⟨upd F3 p o, s1.trans su, fun b z q => ?_, .cons ?_ (dv.mono su), fun a z q n' => ?_⟩
        · by_cases hb : b = p
          · subst hb; rw [upd_same] at q; cases q; exact eo
          · rw [upd_ne hb] at q; exact s2 _ _ q
        · cases ow with
          | lst a b => rw [a] at eo; cases eo; exact .lst upd_same (b.mono (s1.trans su))
          | dct a b c => rw [a] at eo; cases eo; exact .dct upd_same b (c.mono (s1.trans su))
          | dtt a b c => rw [a] at eo; cases eo; exact .dtt upd_same b (c.mono (s1.trans su))
        · by_cases hb : a = p
          · subst hb
            rw [upd_same] at q
            cases q
            cases ow with
            | lst a b => rw [a] at eo; cases eo; exact .inl ⟨_, rfl⟩
            | dct a b c => rw [a] at eo; cases eo; exact .inr (.inl ⟨_, rfl⟩)
            | dtt a b c => rw [a] at eo; cases eo; exact .inr (.inr ⟨_, rfl⟩)
          · rw [upd_ne hb] at q; exact ld a z q n'
  | [], _ :: _, h => h.elim
  | _ :: _, [], h => h.elim
open Classical in
/-- what is kept behind: without what was lent -/
noncomputable def backF (F2 F3 F' : Hp) : Hp := fun a => if F2 a = none ∧ F3 a ≠ none then none else F' a
theorem backF_cut (ld : ∀ a o, F3 a = some o → F2 a = none → LD o) (s : Same F3 F') : ∀ a o, F' a = some o → ¬ LD o → backF F2 F3 F' a = some o := fun a o e n => by
  unfold backF
  rw [if_neg]
  · exact e
  · rintro ⟨h1, h2⟩
    obtain ⟨z, ez⟩ := some_of_ne h2
    have := s _ _ ez
    rw [e] at this
    cases this
    exact n (ld a _ ez h1)
theorem backF_none {p : Addr} (h : F' p = none) : backF F2 F3 F' p = none := by
  unfold backF
  split
  · rfl
  · exact h
theorem backF_ext (s1 : Same F2 F3) (x : Ext F3 H2 F' H') : Ext F2 H2 (backF F2 F3 F') H' := by
  refine ⟨fun a o e => ?_, x.sh, fun a o e => ?_, fun a h1 h2 => ?_⟩
  · unfold backF
    rw [if_neg (by rintro ⟨h, _⟩; rw [e] at h; cases h)]
    exact x.sf _ _ (s1 _ _ e)
  · unfold backF at e
    split at e
    · cases e
    · exact x.sub _ _ e
  · unfold backF
    split
    · rfl
    · rename_i z
      by_cases h3 : F3 a = none
      · exact x.new a h3 h2
      · exact absurd ⟨h1, h3⟩ z
end
/-- what may be handed back where something was lent -/
def flR (ro : Bool) (d : D) : Bool := if ro then (match d with | .lst ds => flDs ds | .dct _ ds => flDs ds | .dtt _ ds => flDs ds | _ => false) else flD d
def lendR (ro : Bool) : R D → R D
  | .ok d => if flR ro d = true then .ok d else .stuck
  | .exc x => match x.pay with
    | none => .exc x
    | some (_, d) => if flD d = true then .exc x else .stuck
  | .stuck => .stuck
def callL (n : Nat) (M : List D → R D) (ro : Bool) (fs : Env → R (List D)) : Env → R D := fun r => fs r >>= fun ds => if ds.length = n then lendR ro (M ds) else .stuck
section
variable {X : Cx} {k : KC} {G : List Md} {W : WE} {lvl n : Nat} {f : Addr} {fd : FuncData} {ps : List Str} {M : List D → R D} {ro : Bool} {x : Str} {e : Expr} {es : List Expr} {fs : Env → R (List D)} {p pos : Pos}
theorem PostC.lend {F2 F3 H2 : Hp} {ro : Bool} {Q : VK} {E : XK} {z : R D} (s1 : Same F2 F3) (ld : ∀ a o, F3 a = some o → F2 a = none → LD o) (q : PostC k F2 H2 ro Q E (lendR ro z)) : PostC k F3 H2 ro Q E z := by
  cases z with
  | ok d =>
    unfold lendR at q
    simp only at q
    by_cases hf : flR ro d = true
    · rw [if_pos hf] at q
      intro v F' H' x3 r3
      have c := backF_cut ld x3.sf
      refine q v _ H' (backF_ext s1 x3) ?_
      cases ro with
      | false => exact Dv.cutF c r3 hf
      | true =>
        obtain ⟨p, e, h1, h2, h3⟩ := r3
        refine ⟨p, e, h1, backF_none h2, ?_⟩
        cases h3 with
        | lst a b => exact .lst a (b.cutF c hf)
        | dct a b d => exact .dct a b (d.cutF c hf)
        | dtt a b d => exact .dtt a b (d.cutF c hf)
    · rw [if_neg hf] at q
      exact q.elim
  | exc y =>
    intro cls dd F' H' x3 ea
    have c := backF_cut ld x3.sf
    have fin : lendR ro (.exc y) = .exc y → ExcAt k (backF F2 F3 F') y cls dd → E cls dd H' := fun h1 h2 => by
      rw [h1] at q
      exact q cls dd _ H' (backF_ext s1 x3) h2
    obtain ⟨C, c1, c2, c3⟩ := ea
    cases z : y.pay with
    | none =>
      refine fin (by simp only [lendR, z]) ⟨C, c1, c2, ?_⟩
      rw [z] at c3 ⊢
      exact c3
    | some w =>
      obtain ⟨f, d⟩ := w
      by_cases hf : flD d = true
      · refine fin (by simp only [lendR, z, if_pos hf]) ⟨C, c1, c2, ?_⟩
        rw [z] at c3 ⊢
        obtain ⟨a, v, e1, e2, e3⟩ := c3
        exact ⟨a, v, e1, c _ _ e2 (by rintro (⟨_, h⟩ | ⟨_, h⟩ | ⟨_, h⟩) <;> cases h), Dv.cutF c e3 hf⟩
      · simp only [lendR, z, if_neg hf] at q
        exact q.elim
  | stuck => exact q
theorem pu_callL (J : Jx X k G W) (F : FnOk X.prog X.w X.K X.mg X.base (CXb W.nn X.prog X.w) lvl f fd ps (spP k n M ro)) (hr : Room lvl X.A) (hm : X.mg x = some (.ref f)) (hk : PySem.W.keepIn X.K (.ref f) = true) (hb : Binds X.K fd ps [])
    (ha : PuA X k G W .vw (e :: es) fs) (hg : Gl X x := by rfl) (hdb : (x == ("__debug__" : Str)) = false := by decide) (he : starEach (e :: es) X.env = (false, eval e X.env) :: starEach es X.env := by rfl) (hpl : (backTo pos (starEach es X.env)).any (·.1) = false := by rfl) :
    PuE X k G W (if ro then .own else .frz) (.Call (.Name x p) (e :: es) [] pos) (callL n M ro fs) := .mk fun F0 H0 F1 ρ σ H Q S q => by
  refine canE_of (pe_callS F hr hg hm hk hb (passAtB J.tk) pa_can hdb he hpl) (ha.run F0 H0 F1 ρ σ H _ S ?_)
  refine (PostR.bind q).imp fun ds _ q1 vs F2 H2 x2 rv => ?_
  by_cases hl : ds.length = n
  · rw [if_pos hl] at q1
    obtain ⟨F3, s1, s2, dv, ld⟩ := rv.lend x2.sub
    refine ⟨F3, ds, s2, dv, hl, PostC.lend s1 ld ?_⟩
    cases z : lendR ro (M ds) with
    | ok d =>
      rw [z] at q1
      exact fun v F' H' x3 r3 => q1 v F' H' (x2.trans x3) (r3.back x2.sh)
    | exc y =>
      rw [z] at q1
      exact fun cls dd F' H' x3 ea => q1 cls dd F' H' (x2.trans x3) ea
    | stuck => rw [z] at q1; exact q1
  · rw [if_neg hl] at q1
    exact q1.elim
end
end Pu

namespace Pu
open PySem PySem.Spec PyProof.Rows L2

/-! ### raise -/
def sRaise (c : Nat) : Env → SR := fun r => .exc ⟨c, none⟩ r
def sRaiseP (c : Nat) (f : Str) (fs : Env → R (List D)) : Env → SR := fun r => match fs r with
  | .ok [d] => .exc ⟨c, some (f, d)⟩ r
  | .ok _ => .stuck
  | .exc x => .exc x r
  | .stuck => .stuck
theorem nx_raise {c : Nat} : ∀ r r', sRaise c r ≠ .nx r' := fun _ _ h => by cases h
theorem nx_raiseP {c : Nat} {f : Str} {fs : Env → R (List D)} : ∀ r r', sRaiseP c f fs r ≠ .nx r' := fun r r' h => by
  unfold sRaiseP at h
  split at h <;> cases h
abbrev bmVE : List Value := [.type "ValueError", .type "Exception", .type "BaseException", .type "object"]
section
variable {X : Cx} {k : KC} {G Gn Gl : List Md} {W : WE} {ro : RM} {c : Nat} {C : Addr} {x m : Str} {j : Nat} {p p2 pos pos2 : Pos} {e : Expr} {fs : Env → R (List D)}
/-- raise X('m') -/
theorem pus_raise (J : Jx X k G W) (Jc : Jc X) (ct : k.ct c = some C) (q : PySem.W.excIn X.K C bmVE "ValueError.__new__" = true) (g : X.mg x = some (.ref C)) (kC : PySem.W.keepIn X.K (.ref C) = true)
    (r1 : PySem.W.subIn X.K (.ref C) (.type "BaseException") = some true) (r2 : PySem.W.typeIn X.K (.ref C) = some (.type "type")) (hg : L2.Gl X x := by rfl) (hdb : (x == ("__debug__" : Str)) = false := by decide) :
    PuS X k G Gn Gl W ro (.Raise (some (.Call (.Name x p) [.Constant (.str m) j p2] [] pos)) none pos2) (sRaise c) := .mk fun F0 H0 F ρ σ H Dn S z => by
  have z1 := z (.ref C) none G F F σ H H J.oke (Same.refl F) S (Ext.refl S.sub) ⟨C, ct, rfl, rfl⟩
  have tk := J.tk
  cases hn : W.nn with
  | false =>
    rw [hn] at tk
    exact canS_of (L2.ps_raise Jc.calm tk (L2.pmk_own PySem.F.excBase_ValueError q g kC (raises_own r1 r2) hg hdb)) z1
  | true =>
    rw [hn] at tk
    exact canS_of (L2N.ps_raise Jc.calm tk (L2N.pmk_own PySem.F.excBase_ValueError q g kC (raises_own r1 r2) hg hdb)) z1
end

/-! ### a class whose __init__ keeps one thing -/
theorem exc_init_ok {P : Program} {w : World} {K : PySem.W.Frag} {mg : Str → Option Value} {base : Heap} {qual : Str} {st : Stmt} {f C : Addr} {fd : FuncData} {a b n : Str} {p1 p2 p3 p4 : Pos} (F : Fun K "__init__" qual st f fd) (S : FnScope [a, b] [a, b] (defScope st)) (T : OexC K C) (hno : PySem.W.findIn K (.ref C) n = some none)
    (hbody : defBody st = [.Assign [.Attribute (.Name a p1) n p2] (.Name b p3) p4])
    (ha : (a == ("__debug__" : Str)) = false := by decide) (ha2 : (a == ("__classdict__" : Str)) = false := by decide) (hb : (b == ("__debug__" : Str)) = false := by decide) (hb2 : (b == ("__classdict__" : Str)) = false := by decide)
    (va : ∀ X : Cx, X.env.scope = defScope st → Vis X.env.scope a) (vb : ∀ X : Cx, X.env.scope = defScope st → Vis X.env.scope b) :
    FnOk P w K mg base (L2.CX P w) 1 f fd [a, b] (fun vs H Q _ => ∃ (e : Addr) (v : V), vs = [.ref e, v] ∧ H e = some (exo e C none) ∧ ∀ dx, H dx = none → dx ≠ e → Q .non (upd (upd H dx (exd dx [(n, v)])) e (exo e C (some dx)))) := by
  refine F.okX S (fun vs H Q E h => ?_) (fun cdv A outer s H vs Q E hr h => ?_)
  · obtain ⟨e, v, rfl, _⟩ := h
    rfl
  · obtain ⟨e, v, rfl, he, q⟩ := h
    rw [hbody]
    refine ⟨_, pss_one (ps_ost (pe_var (i := 0) rfl (va _ rfl) ha ha2) (pe_var (i := 1) rfl (vb _ rfl) hb hb2)), v, rfl, .ref e, rfl, e, C, rfl, T, hno, .inl ⟨he, fun dx hn hne => q dx hn hne⟩⟩
section
variable {X : Cx} {k : KC} {G Gn Gl : List Md} {W : WE} {w0 : WX} {ge : List Md → Prop} {ro : RM} {c lvl : Nat} {C fI : Addr} {fd : FuncData} {x a b n : Str} {p pos pos2 : Pos} {e : Expr} {fs : Env → R (List D)}
/-- raise X(e), X keeping it -/
theorem pus_raiseP (J : Jx X k G ⟨w0, ge, false⟩) (Jc : Jc X) (ct : k.ct c = some C) (T : OexC X.K C) (iC : PySem.W.findIn X.K (.ref C) "__init__" = some (some (.ref fI))) (tI : PySem.W.typeIn X.K (.ref fI) = some (.type "function"))
    (F : FnOk X.prog X.w X.K X.mg X.base (L2.CX X.prog X.w) 1 fI fd [a, b] (fun vs H Q _ => ∃ (e : Addr) (v : V), vs = [.ref e, v] ∧ H e = some (exo e C none) ∧ ∀ dx, H dx = none → dx ≠ e → Q .non (upd (upd H dx (exd dx [(n, v)])) e (exo e C (some dx)))))
    (hr : Room lvl X.A) (hlv : 2 ≤ lvl) (hb : Binds X.K fd [a, b] []) (g : X.mg x = some (.ref C)) (ha : PuA X k G ⟨w0, ge, false⟩ .frz [e] fs) (hg : L2.Gl X x := by rfl) (hdb : (x == ("__debug__" : Str)) = false := by decide)
    (he : starEach [e] X.env = (false, eval e X.env) :: starEach [] X.env := by rfl) (hpl : (backTo pos (starEach [] X.env)).any (·.1) = false := by rfl) :
    PuS X k G Gn Gl ⟨w0, ge, false⟩ ro (.Raise (some (.Call (.Name x p) [e] [] pos)) none pos2) (sRaiseP c n fs) := .mk fun F0 H0 F1 ρ σ H Dn S z => by
  refine canS_of (ps_raise Jc.calm J.tk (pmk_oex T iC tI F (hr.mono hlv) hb .nil (fun pins σ H s e s' I h => by obtain ⟨_, _, _, _, _, _, _, _, _, _, _, _, y⟩ := h; exact y.elim) hg g pa_can hdb he hpl)) ?_
  refine ha.run F0 H0 F1 ρ σ H _ S ?_
  unfold sRaiseP at z
  cases zf : fs ρ with
  | stuck => rw [zf] at z; exact z.elim
  | exc y => rw [zf] at z; exact fun cls dd F' H' y1 z1 => z cls dd G F1 F' σ H H' J.oke (Same.refl F1) S y1 z1
  | ok ds =>
    rw [zf] at z
    match ds, z with
    | [d], z =>
      intro vs F2 H2 x2 rv
      obtain ⟨v, ev, dv⟩ := resA1 rv
      subst ev
      refine ⟨by show 1 ≤ 1000; omega, fun a ha0 => ⟨a, v, rfl, upd_same, fun dx h1 h2 => ?_⟩⟩
      rw [upd_ne h2] at h1
      refine ⟨rfl, dx, [(n, v)], upd_same, by rw [upd_ne h2, upd_same], h1, ?_⟩
      have eH : upd (del (upd (upd (upd H2 a (exo a C none)) dx (exd dx [(n, v)])) a (exo a C (some dx))) a) dx (.xd [(n, v)]) = upd H2 dx (.xd [(n, v)]) := by
        funext b
        by_cases hb : b = dx
        · rw [hb, upd_same, upd_same]
        · rw [upd_ne hb, upd_ne hb]
          by_cases ha : b = a
          · rw [ha, del_same, ha0]
          · rw [del_ne ha, upd_ne ha, upd_ne hb, upd_ne ha]
      rw [eH]
      have x := Ext.add (o := .xd [(n, v)]) x2.sub h1
      exact z (.ref C) (some dx) G F1 _ σ H _ J.oke (Same.refl F1) S (x2.trans x) ⟨C, ct, rfl, dx, v, rfl, upd_same, Dv.mono x.sf dv⟩
    | [], z => exact z.elim
    | _ :: _ :: _, z => exact z.elim
end

/-! ### try .. except -/
def SR.gone (i : Nat) : SR → SR
  | .nx r => .nx (r.set i none)
  | .bk r => .bk (r.set i none)
  | .ct r => .ct (r.set i none)
  | .ret d => .ret d
  | _ => .stuck
def SR.calm : SR → SR
  | .exc _ _ => .stuck
  | s => s
def sTryAs (mt : Nat → Bool) (i : Nat) (b : Env → SR) (s : Exc → Env → SR) : Env → SR := fun r => match b r with
  | .exc x r1 => if mt x.cls = true then (s x (r1.set i none)).gone i else .exc x r1
  | z => z
def sTryOnly (mt : Nat → Bool) (b : Env → SR) (s : Exc → Env → SR) : Env → SR := fun r => match b r with
  | .exc x r1 => if mt x.cls = true then (s x r1).calm else .exc x r1
  | z => z
section
variable {X : Cx} {k : KC} {G Gn Gl : List Md} {w0 : WX} {ge : List Md → Prop} {ro : RM} {C : Addr} {x n : Str} {p p2 np pos pos' pos2 : Pos} {body suite : List Stmt} {b₀ : Stmt} {b : Env → SR} {s : Exc → Env → SR} {mt : Nat → Bool}
theorem pus_try_as (i : Nat) (J : Jx X k G ⟨w0, ge, false⟩) (Jc : Jc X) (hc : ∀ j D, k.ct j = some D → PySem.W.exmOne X.K (.ref D) (.ref C) = some (mt j)) (g : X.mg x = some (.ref C))
    (hb : ∀ (pn : List (Addr × Obj)) (xe : Value → Shared → Prop) (w : WX), Jx (X.tr pn xe) k G ⟨w, (fun g => G = g), false⟩ → Pu.Jc (X.tr pn xe) → PuB (X.tr pn xe) k G Gn Gl ⟨w, (fun g => G = g), false⟩ ro body b)
    (hsu : ∀ (P : Pin) (oe : Obj) (pn : List (Addr × Obj)), mt P.x.cls = true → Zc P.cls P.dd oe → (∃ vs, oe.data = .fields vs) → (∀ {G' : List Md}, Jx (X.suite P.a ((P.a, oe) :: pn)) k G' (W0 false)) →
      PuB (X.suite P.a ((P.a, oe) :: pn)) k (G.set i (.pin P)) (Gn.set i (.pin P)) (Gl.set i (.pin P)) (W0 false) ro (b₀ :: suite) (s P.x))
    (hi : X.N[i]? = some n := by rfl) (hpn : pinAt Gn i = none := by rfl) (hpl : pinAt Gl i = none := by rfl)
    (hs : X.stack = X.env :: X.outer := by rfl) (hf : X.env.frame = some X.env.locals := by rfl) (hln : X.env.kindOf n = some .local := by rfl) (hg : L2.Gl X x := by rfl) (hdb : (x == ("__debug__" : Str)) = false := by decide) :
    PuS X k G Gn Gl ⟨w0, ge, false⟩ ro (.Try body [.ExceptHandler (some (.Name x np)) (some n) (b₀ :: suite) pos'] [] [] pos) (sTryAs mt i b s) := .mk fun F0 H0 F ρ σ H Dn S q => by
  refine canS_of (ps_try_as (i := i) (c := .ref C) (tb := fun w D σ H => ∀ pn xe, Takes (X.tr pn xe) w → PassesOwn (model X.prog X.w) X.A X.env xe → canB (X.tr pn xe) body D σ H)
    (ts := fun a cls d D σ H => ∀ oe pn, Zc cls d oe → (∃ vs, oe.data = .fields vs) → canB (X.suite a ((a, oe) :: pn)) (b₀ :: suite) D σ H) (Wout := w0) hs hf J.nd hi hln ⟨hg, hdb, .inl g⟩ J.tk
    (fun W pn xe tk po => ⟨fun pins s σ H D I h => h pn xe tk po pins s I⟩) (fun a oe cls d pn hz hfs => ⟨fun pins s σ H D I h => h oe pn hz hfs pins s I⟩)) ?_
  intro pn xe tk po
  refine (hb pn xe _ ⟨J.kk, J.nd, tk, okS⟩ ⟨Jc.calm, po⟩).run F0 H0 F ρ σ H Dn S ?_
  unfold sTryAs at q
  cases zb : b ρ with
  | nx r => rw [zb] at q; exact q
  | bk r => rw [zb] at q; exact q
  | ct r => rw [zb] at q; exact q
  | ret d => rw [zb] at q; exact q
  | stuck => rw [zb] at q; exact q
  | exc x r1 =>
    rw [zb] at q
    simp only at q
    intro cls dd G1 F1 F' σ' H1 H' ok sf S1 x1 ea
    have ok : G = G1 := ok
    cases ok
    obtain ⟨C', hC, hcls, hp⟩ := id ea
    refine ⟨mt x.cls, by rw [hcls]; exact hc _ _ hC, fun hm a ha oe pn' hz hfs pins s0 I0 => ?_, fun hm => ?_⟩
    · rw [if_pos hm] at q
      have hl : (σ'.set i (some (.ref a))).length = X.N.length := I0.len
      rw [List.length_set] at hl
      have hi' : i < σ'.length := by rw [hl]; exact (List.getElem?_eq_some_iff.mp hi).1
      have S' : St4 k (G.set i (.pin ⟨a, x, cls, dd⟩)) F0 H0 F' (r1.set i none) (σ'.set i (some (.ref a))) H' := (S1.step x1).setE _ Eqx.set fun p hp => by
        have := pinAt_pin hp
        subst this
        exact ⟨rfl, hi', ea⟩
      refine (hsu ⟨a, x, cls, dd⟩ oe pn' hm hz hfs ⟨J.kk, J.nd, takes0B, okN⟩).run F0 H0 F' _ _ H' _ S' ?_ pins s0 I0
      have gone : ∀ {Gm : List Md} {F2 : Hp} {r2 : Env} {σ2 : Sl} {H2 : Hp}, pinAt Gm i = none → St4 k (Gm.set i (.pin ⟨a, x, cls, dd⟩)) F0 H0 F2 r2 σ2 H2 → St4 k Gm F0 H0 F2 (r2.set i none) (σ2.set i none) H2 := fun hpm S2 =>
        S2.setE _ Eqx.set.symm fun p hp => by rw [hpm] at hp; cases hp
      cases zs : s x (r1.set i none) with
      | nx r => rw [zs] at q; exact fun F2 σ2 H2 sf2 S2 => q F2 _ H2 (sf.trans (x1.sf.trans sf2)) (gone hpn S2)
      | bk r => rw [zs] at q; exact fun F2 σ2 H2 sf2 S2 => q F2 _ H2 (sf.trans (x1.sf.trans sf2)) (gone hpl S2)
      | ct r => rw [zs] at q; exact fun F2 σ2 H2 sf2 S2 => q F2 _ H2 (sf.trans (x1.sf.trans sf2)) (gone hpl S2)
      | ret d => rw [zs] at q; exact q
      | exc y r => rw [zs] at q; exact q.elim
      | stuck => rw [zs] at q; exact q.elim
    · rw [if_neg (by rw [hm]; exact Bool.false_ne_true)] at q
      exact q cls dd G F1 F' σ' H1 H' J.oke sf S1 x1 ea
theorem pus_try_only (J : Jx X k G ⟨w0, ge, false⟩) (Jc : Jc X) (hc : ∀ j D, k.ct j = some D → PySem.W.exmOne X.K (.ref D) (.ref C) = some (mt j)) (g : X.mg x = some (.ref C))
    (hb : ∀ (pn : List (Addr × Obj)) (xe : Value → Shared → Prop) (w : WX), Jx (X.tr pn xe) k G ⟨w, (fun g => G = g), false⟩ → Pu.Jc (X.tr pn xe) → PuB (X.tr pn xe) k G Gn Gl ⟨w, (fun g => G = g), false⟩ ro body b)
    (hsu : ∀ (P : Pin) (oe : Obj) (pn : List (Addr × Obj)), mt P.x.cls = true → Zc P.cls P.dd oe → (∃ vs, oe.data = .fields vs) → (∀ {G' : List Md}, Jx (X.suite P.a ((P.a, oe) :: pn)) k G' (W0 false)) →
      PuB (X.suite P.a ((P.a, oe) :: pn)) k G Gn Gl (W0 false) ro (b₀ :: suite) (s P.x))
    (hs : X.stack = X.env :: X.outer := by rfl) (hf : X.env.frame = some X.env.locals := by rfl) (hg : L2.Gl X x := by rfl) (hdb : (x == ("__debug__" : Str)) = false := by decide) :
    PuS X k G Gn Gl ⟨w0, ge, false⟩ ro (.Try body [.ExceptHandler (some (.Name x np)) none (b₀ :: suite) pos'] [] [] pos) (sTryOnly mt b s) := .mk fun F0 H0 F ρ σ H Dn S q => by
  refine canS_of (ps_try_only (c := .ref C) (tb := fun w D σ H => ∀ pn xe, Takes (X.tr pn xe) w → PassesOwn (model X.prog X.w) X.A X.env xe → canB (X.tr pn xe) body D σ H)
    (ts := fun a cls d D σ H => ∀ oe pn, Zc cls d oe → (∃ vs, oe.data = .fields vs) → canB (X.suite a ((a, oe) :: pn)) (b₀ :: suite) D σ H) (Wout := w0) hs hf ⟨hg, hdb, .inl g⟩ J.tk
    (fun W pn xe tk po => ⟨fun pins s σ H D I h => h pn xe tk po pins s I⟩) (fun a oe cls d pn hz hfs => ⟨fun pins s σ H D I h => h oe pn hz hfs pins s I⟩)) ?_
  intro pn xe tk po
  refine (hb pn xe _ ⟨J.kk, J.nd, tk, okS⟩ ⟨Jc.calm, po⟩).run F0 H0 F ρ σ H Dn S ?_
  unfold sTryOnly at q
  cases zb : b ρ with
  | nx r => rw [zb] at q; exact q
  | bk r => rw [zb] at q; exact q
  | ct r => rw [zb] at q; exact q
  | ret d => rw [zb] at q; exact q
  | stuck => rw [zb] at q; exact q
  | exc x r1 =>
    rw [zb] at q
    simp only at q
    intro cls dd G1 F1 F' σ' H1 H' ok sf S1 x1 ea
    have ok : G = G1 := ok
    cases ok
    obtain ⟨C', hC, hcls, hp⟩ := id ea
    refine ⟨mt x.cls, by rw [hcls]; exact hc _ _ hC, fun hm a ha oe pn' hz hfs pins s0 I0 => ?_, fun hm => ?_⟩
    · rw [if_pos hm] at q
      refine (hsu ⟨a, x, cls, dd⟩ oe pn' hm hz hfs ⟨J.kk, J.nd, takes0B, okN⟩).run F0 H0 F' _ _ H' _ (S1.step x1) ?_ pins s0 I0
      cases zs : s x r1 with
      | nx r => rw [zs] at q; exact fun F2 σ2 H2 sf2 S2 => q F2 _ H2 (sf.trans (x1.sf.trans sf2)) S2
      | bk r => rw [zs] at q; exact fun F2 σ2 H2 sf2 S2 => q F2 _ H2 (sf.trans (x1.sf.trans sf2)) S2
      | ct r => rw [zs] at q; exact fun F2 σ2 H2 sf2 S2 => q F2 _ H2 (sf.trans (x1.sf.trans sf2)) S2
      | ret d => rw [zs] at q; exact q
      | exc y r => rw [zs] at q; exact q.elim
      | stuck => rw [zs] at q; exact q.elim
    · rw [if_neg (by rw [hm]; exact Bool.false_ne_true)] at q
      exact q cls dd G F1 F' σ' H1 H' J.oke sf S1 x1 ea
end

/-! ### the exception in hand -/
structure XIs (K : PySem.W.Frag) (D : Addr) : Prop where
  cl : PySem.W.isClsIn K D = true
  ga : PySem.W.findIn K (.ref D) "__getattribute__" = some (some (.builtin "BaseException.__getattribute__"))
  gg : PySem.W.findIn K (.ref D) "__getattr__" = some none
  sb : PySem.W.subIn K (.ref D) (.type "BaseException") = some true
  ha : PySem.W.findIn K (.ref D) "__class__" = some (some (.builtin "object.__class__"))
  hn : PySem.W.specialIn K (.builtin "object.__class__") "__get__" = some (some (.builtin "getset_descriptor.__get__"))
  ht : PySem.W.takesIn K (.builtin "object.__class__") = some true
  hm : PySem.W.mroIn K D (.type "object") = some true
def DdOk (H : Hp) (dd : Option Addr) : Prop := ∀ d, dd = some d → ∃ fs, H d = some (.xd fs)
def rIsE2 (K : PySem.W.Frag) (D a : Addr) (dd : Option Addr) : List V → Hp → VK → Prop := fun xs H Q => ∃ (c : V) (cv : Value) (b : Bool), xs = [.ref a, c] ∧ ClsV c cv ∧ PySem.W.kitOne K (.ref D) cv = some b ∧ DdOk H dd ∧ Q (.bl b) H
def rIsT2 (K : PySem.W.Frag) (D a : Addr) (dd : Option Addr) : List V → Hp → VK → Prop := fun xs H Q => ∃ (tp : Addr) (cs : List V) (us : List Value) (b : Bool), xs = [.ref a, .ref tp] ∧ H tp = some (.tup cs) ∧ Paired ClsV cs us ∧ PySem.W.kitAny K (.ref D) us = some b ∧ DdOk H dd ∧ Q (.bl b) H
section
variable {X : Cx} {a D : Addr} {dd : Option Addr} {oe : Obj} {pn : List (Addr × Obj)}
theorem inst_at {pins : List (Addr × Obj)} {s : Shared} {σ : Sl} {H : Hp} (hz : Zc (.ref D) dd oe) (hf : ∃ vs, oe.data = .fields vs) (I : Inv (X.suite a ((a, oe) :: pn)) pins σ H s) (hd : DdOk H dd) : ∃ od, PySem.W.InstAt s.heap a oe D od := by
  obtain ⟨hget, _⟩ := I.pin (a, oe) (List.mem_append.mpr (.inl List.mem_cons_self))
  obtain ⟨vs, hv⟩ := hf
  obtain ⟨oc, od, oda, osl⟩ := oe
  obtain ⟨h1, h2⟩ := hz
  dsimp only at h1 h2 hv
  subst h1 h2 hv
  cases od with
  | none => exact ⟨none, hget, rfl, rfl, trivial⟩
  | some d =>
    obtain ⟨fs, e⟩ := hd d rfl
    have hx : ObjOk X.prog X.w H s.heap d (.xd fs) := I.hok d _ e
    obtain ⟨mA, hns, hr⟩ := hx
    obtain ⟨o, ho, _⟩ := lookIn_ns hns
    exact ⟨some o, hget, rfl, rfl, ho⟩
theorem call_isE2 (C : XIs X.K D) (hz : Zc (.ref D) dd oe) (hf : ∃ vs, oe.data = .fields vs) : CallR (X.suite a ((a, oe) :: pn)) (.builtin "isinstance") (rIsE2 X.K D a dd) := by
  intro pins s σ H xs us Q I r h
  obtain ⟨c, cv, b, rfl, hcv, e, hd, q⟩ := h
  obtain ⟨u1, u2, rfl, r1, r2⟩ := vals2 r
  cases (show u1 = Value.ref a from r1)
  have ec := hcv.eq r2
  subst ec
  obtain ⟨od, J⟩ := inst_at hz hf I hd
  exact PySem.W.kia_one (PySem.W.kitx_exc (od := od) C.cl C.ga C.gg C.sb C.ha C.hn C.ht C.hm) I.kIn J e (fun z => nomatch z) fun tk => ⟨.bl b, H, I.tok tk, rfl, q⟩
theorem call_isT2 (C : XIs X.K D) (hz : Zc (.ref D) dd oe) (hf : ∃ vs, oe.data = .fields vs) : CallR (X.suite a ((a, oe) :: pn)) (.builtin "isinstance") (rIsT2 X.K D a dd) := by
  intro pins s σ H xs us Q I r h
  obtain ⟨tp, cs, ws, b, rfl, hT, k, e, hd, q⟩ := h
  obtain ⟨u1, u2, rfl, r1, r2⟩ := vals2 r
  cases (show u1 = Value.ref a from r1)
  cases (show u2 = Value.ref tp from r2)
  obtain ⟨od, J⟩ := inst_at hz hf I hd
  obtain ⟨_, its, rv, o, h1, h2, n, h3⟩ := (show ObjOk X.prog X.w H s.heap tp (.tup cs) from I.hok tp _ hT)
  have e3 := ClsV.all k rv
  subst e3
  obtain ⟨oc, od', dt, sl⟩ := o
  simp only at h2 h3
  subst h2 h3
  exact PySem.W.kia_tup (PySem.W.kitx_exc (od := od) C.cl C.ga C.gg C.sb C.ha C.hn C.ht C.hm) I.kIn J h1 e (fun z => nomatch z) fun tk => ⟨.bl b, H, I.tok tk, rfl, q⟩
end
theorem ddOk {k : KC} {F H : Hp} {P : Pin} (s : Same F H) (h : ExcAt k F P.x P.cls P.dd) : DdOk H P.dd := fun d e => by
  obtain ⟨C, _, _, h3⟩ := h
  cases z : P.x.pay with
  | none => rw [z] at h3; rw [h3] at e; cases e
  | some w =>
    obtain ⟨f, y⟩ := w
    rw [z] at h3
    obtain ⟨a, v, e1, e2, _⟩ := h3
    rw [e1] at e
    cases e
    exact ⟨_, s _ _ e2⟩
/-- e.f of the exception in hand -/
def xfE (x : Exc) (f : Str) : Env → R D := fun _ => match x.pay with
  | some (g, d) => if g = f then .ok d else .stuck
  | none => .stuck
section
variable {X : Cx} {k : KC} {G : List Md} {W : WE} {P : Pin} {oe : Obj} {pn : List (Addr × Obj)} {n cn f : Str} {p p1 p2 pos : Pos} {c : V} {cv : Value} {fb : Nat → Bool} {xt : Nat} {es : List Expr}
theorem pu_isE (i : Nat) (fb : Nat → Bool) (hz : Zc P.cls P.dd oe) (hf : ∃ vs, oe.data = .fields vs) (hm : X.mg "isinstance" = none) (hC : PE (X.suite P.a ((P.a, oe) :: pn)) (.Name cn p2) (tC c)) (hcl : ClsV c cv)
    (is : ∀ D, k.ct P.x.cls = some D → XIs X.K D) (kit : ∀ D, k.ct P.x.cls = some D → PySem.W.kitOne X.K (.ref D) cv = some (fb P.x.cls)) (hpin : pinAt G i = some P := by rfl) (hN : X.N[i]? = some n := by rfl)
    (hg : L2.Gl X "isinstance" := by rfl) (hv : Vis X.env.scope n := by first | exact Or.inl rfl | exact Or.inr (Or.inl rfl) | exact Or.inr (Or.inr rfl)) (hd : (n == ("__debug__" : Str)) = false := by decide) (hcd : (n == ("__classdict__" : Str)) = false := by decide)
    (hs : starEach [.Name n p1, .Name cn p2] X.env = (false, eval (.Name n p1) X.env) :: starEach [.Name cn p2] X.env := by rfl) (hs2 : starEach [.Name cn p2] X.env = [(false, eval (.Name cn p2) X.env)] := by rfl) (hpl : (backTo pos (starEach [.Name cn p2] X.env)).any (·.1) = false := by rfl) :
    PuE (X.suite P.a ((P.a, oe) :: pn)) k G W .frz (.Call (.Name "isinstance" p) [.Name n p1, .Name cn p2] [] pos) (eC (.bl (fb P.x.cls))) := .mk fun F0 H0 F ρ σ H Q S q => by
  obtain ⟨_, e1, ea⟩ := S.pin i P hpin
  obtain ⟨D, c1, c2, _⟩ := id ea
  refine canE_of (pe_callB (call_isE2 (is D c1) (c2 ▸ hz) hf) hg hm bt_isi (pa_cons (pe_var (i := i) hN hv hd hcd) (pa_cons hC pa_nil hs2) hs) (by decide) (by decide) hs hpl) ?_
  exact ⟨_, e1, c, cv, fb P.x.cls, rfl, hcl, kit D c1, ddOk S.sub ea, q _ F H (Ext.refl S.sub) (.bl _)⟩
theorem pu_isT (i : Nat) (fb : Nat → Bool) {cs : List V} {us : List Value} (hz : Zc P.cls P.dd oe) (hf : ∃ vs, oe.data = .fields vs) (hm : X.mg "isinstance" = none) {ta : TA} (hC : PA (X.suite P.a ((P.a, oe) :: pn)) es ta) (hta : ∀ σ H Q, Q cs H → ta σ H Q) (hcl : Paired ClsV cs us)
    (is : ∀ D, k.ct P.x.cls = some D → XIs X.K D) (kit : ∀ D, k.ct P.x.cls = some D → PySem.W.kitAny X.K (.ref D) us = some (fb P.x.cls)) (hl : cs.length ≤ 1000) (hpin : pinAt G i = some P := by rfl) (hN : X.N[i]? = some n := by rfl)
    (hg : L2.Gl X "isinstance" := by rfl) (hv : Vis X.env.scope n := by first | exact Or.inl rfl | exact Or.inr (Or.inl rfl) | exact Or.inr (Or.inr rfl)) (hd : (n == ("__debug__" : Str)) = false := by decide) (hcd : (n == ("__classdict__" : Str)) = false := by decide)
    (hs : starEach [.Name n p1, .Tuple es xt p2] X.env = (false, eval (.Name n p1) X.env) :: starEach [.Tuple es xt p2] X.env := by rfl) (hs2 : starEach [.Tuple es xt p2] X.env = [(false, eval (.Tuple es xt p2) X.env)] := by rfl) (hpl : (backTo pos (starEach [.Tuple es xt p2] X.env)).any (·.1) = false := by rfl) :
    PuE (X.suite P.a ((P.a, oe) :: pn)) k G W .frz (.Call (.Name "isinstance" p) [.Name n p1, .Tuple es xt p2] [] pos) (eC (.bl (fb P.x.cls))) := .mk fun F0 H0 F ρ σ H Q S q => by
  obtain ⟨_, e1, ea⟩ := S.pin i P hpin
  obtain ⟨D, c1, c2, _⟩ := id ea
  refine canE_of (pe_callB (call_isT2 (is D c1) (c2 ▸ hz) hf) hg hm bt_isi (pa_cons (pe_var (i := i) hN hv hd hcd) (pa_cons (pe_tup hC) pa_nil hs2) hs) (by decide) (by decide) hs hpl) ?_
  refine ⟨_, e1, hta σ H _ ⟨by rw [sizeLine_eq]; omega, fun tp hn => ?_⟩⟩
  have x := Ext.add (o := .tup cs) S.sub hn
  exact ⟨tp, cs, us, fb P.x.cls, rfl, upd_same, hcl, kit D c1, ddOk x.sub (ea.mono x.sf), q _ _ _ x (.bl _)⟩
theorem pu_xf (i : Nat) (hz : Zc P.cls P.dd oe) (hf : ∃ vs, oe.data = .fields vs) (xf : ∀ D, k.ct P.x.cls = some D → XfC X.K D ∧ PySem.W.findIn X.K (.ref D) f = some none) (hpin : pinAt G i = some P := by rfl) (hN : X.N[i]? = some n := by rfl)
    (hv : Vis X.env.scope n := by first | exact Or.inl rfl | exact Or.inr (Or.inl rfl) | exact Or.inr (Or.inr rfl)) (hd : (n == ("__debug__" : Str)) = false := by decide) (hcd : (n == ("__classdict__" : Str)) = false := by decide)
    (hb : attributeBase (.Name n p1) f X.env (eval (.Name n p1) X.env) = eval (.Name n p1) X.env := by rfl) :
    PuE (X.suite P.a ((P.a, oe) :: pn)) k G W .frz (.Attribute (.Name n p1) f pos) (xfE P.x f) := .mk fun F0 H0 F ρ σ H Q S q => by
  obtain ⟨_, e1, ea⟩ := S.pin i P hpin
  obtain ⟨D, c1, c2, c3⟩ := id ea
  obtain ⟨t1, t2⟩ := xf D c1
  refine canE_of (pe_xf t1 t2 hz hf (pe_var (i := i) hN hv hd hcd) hb) ?_
  unfold xfE at q
  cases z : P.x.pay with
  | none => rw [z] at q; exact q.elim
  | some w =>
    obtain ⟨g, d⟩ := w
    rw [z] at q c3
    obtain ⟨a, v, h1, h2, h3⟩ := c3
    by_cases hg : g = f
    · simp only [if_pos hg] at q
      subst hg
      exact ⟨_, e1, rfl, c2, a, [(g, v)], v, h1, S.sub _ _ h2, by simp [List.lookup], q v F H (Ext.refl S.sub) h3⟩
    · simp only [if_neg hg] at q
      exact q.elim
end
end Pu

namespace Pu
open PySem PySem.Spec PyProof.Rows L2

/-! ### tables -/
def isl : List Bool → Nat → Bool
  | [], _ => false
  | b :: _, 0 => b
  | _ :: r, n + 1 => isl r n
def ctl : List Addr → Nat → Option Addr
  | [], _ => none
  | a :: _, 0 => some a
  | _ :: r, n + 1 => ctl r n
def lowF (n : Nat) (G : List Md) : Bool := (List.range n).all fun i => !nf G i
theorem lowFrz {G : List Md} {n : Nat} (h : lowF n G = true) (i : Nat) (hi : i < n) : nf G i ≠ true := fun z => by
  have q := (List.all_eq_true.mp h) i (List.mem_range.mpr hi)
  rw [z] at q
  cases q
/-! ### the end of a law -/
def spX (K : PySem.W.Frag) (n : Nat) (m : List D → R D) (ro : Bool) : Sp := fun vs H Q E => ∀ ct ci : Nat → Option Addr, spP ⟨K, ct, ci⟩ n m ro vs H Q E
theorem law_endX {K : PySem.W.Frag} {H : Hp} {a : Addr} {ns : List Int} {M : List D → R D} (hS : SqL K H a (ns.map V.int)) (h : M [.scr ns] = .ok (.bl true)) :
    spX K 1 M false [.ref a] H (fun v _ => v = .bl true) fun _ _ _ => False := fun ct ci => law_end hS h
theorem lift_fn {P : Program} {w : World} {K : PySem.W.Frag} {mg : Str → Option Value} {lvl n : Nat} {fa : Addr} {ps : List Str} {M : List D → R D} {A : FuncData → Prop} {B : Heap → Prop} {C : Heap → Prop}
    (h : ∃ (fd : FuncData) (ct ci : Nat → Option Addr), A fd ∧ ∀ base : Heap, B base → C base → FnOk P w K mg base (L2.CX P w) lvl fa fd ps (spP ⟨K, ct, ci⟩ n M false)) :
    ∃ fd : FuncData, A fd ∧ ∀ base : Heap, B base → C base → FnOk P w K mg base (L2.CX P w) lvl fa fd ps (spX K n M false) := by
  obtain ⟨fd, ct, ci, h1, h2⟩ := h
  exact ⟨fd, h1, fun base b c => ⟨fun vs H Q E z => (h2 base b c).len vs H Q E (z ct ci), fun A outer s H args us vs Q E hr e0 bd r z => (h2 base b c).run A outer s H args us vs Q E hr e0 bd r (z ct ci)⟩⟩

/-! ### weakest preconditions -/
def flX (e : Exc) : Bool := match e.pay with
  | none => true
  | some (_, d) => flD d
section
variable {PD : D → Prop} {E : Exc → Prop} {r : Env} {fs : Env → R (List D)} {n : Nat} {M : List D → R D} {ro : Bool} {w : Ws} {x : R D}
theorem wp_callL : (callL n M ro fs r).wp PD E ↔ (fs r).wp (fun ds => ds.length = n ∧ (lendR ro (M ds)).wp PD E) E := by
  unfold callL
  simp only [wp_bind, wp_guard]
theorem wp_lend : (lendR ro x).wp PD E ↔ x.wp (fun d => flR ro d = true ∧ PD d) (fun e => flX e = true ∧ E e) := by
  cases x with
  | ok d => unfold lendR; simp only [wp_guard, wp_ok]
  | exc e =>
    obtain ⟨c, p⟩ := e
    cases p with
    | none => exact ⟨fun h => ⟨rfl, h⟩, fun h => h.2⟩
    | some q =>
      obtain ⟨f, d⟩ := q
      show (if flD d = true then R.exc ⟨c, some (f, d)⟩ else R.stuck : R D).wp PD E ↔ flD d = true ∧ E ⟨c, some (f, d)⟩
      simp only [wp_guard, wp_exc]
  | stuck => exact Iff.rfl
theorem wp_lend_of (h : x.wp (fun d => flR ro d = true ∧ PD d) (fun e => flX e = true ∧ E e)) : (lendR ro x).wp PD E := wp_lend.mpr h
theorem fl_int {i : Int} : flD (.int i) = true := rfl
theorem fl_bl {b : Bool} : flD (.bl b) = true := rfl
theorem fl_str {s : Tx} : flD (.str s) = true := rfl
theorem fl_non : flD .non = true := rfl
theorem fl_tup {xs : List D} : flD (.tup xs) = flDs xs := rfl
theorem fls_nil : flDs [] = true := rfl
theorem fls_cons {d : D} {r : List D} : flDs (d :: r) = (flD d && flDs r) := rfl
theorem flR_f {d : D} : flR false d = flD d := rfl
theorem flR_t {ds : List D} : flR true (.lst ds) = flDs ds := rfl
theorem fls_all : ∀ {ds : List D}, (∀ d ∈ ds, flD d = true) → flDs ds = true
  | [], _ => rfl
  | d :: r, h => by
    rw [fls_cons, h d (List.mem_cons_self ..), fls_all (ds := r) fun x hx => h x (List.mem_cons_of_mem _ hx)]
    rfl
theorem fls_map {α : Type} {f : α → D} {xs : List α} (h : ∀ x, flD (f x) = true) : flDs (xs.map f) = true := fls_all fun d hd => by
  obtain ⟨x, _, rfl⟩ := List.mem_map.mp hd
  exact h x
theorem ws_raise {c : Nat} : (sRaise c r).wp w ↔ w.E ⟨c, none⟩ r := Iff.rfl
theorem ws_raiseP {c : Nat} {f : Str} : (sRaiseP c f fs r).wp w ↔ (fs r).wp (fun ds => ∃ d, ds = [d] ∧ w.E ⟨c, some (f, d)⟩ r) (fun e => w.E e r) := by
  unfold sRaiseP
  cases fs r with
  | ok ds =>
    match ds with
    | [d] => exact ⟨fun h => ⟨d, rfl, h⟩, fun ⟨d', h1, h2⟩ => by cases h1; exact h2⟩
    | [] => exact ⟨fun h => h.elim, fun ⟨d', h1, h2⟩ => by cases h1⟩
    | _ :: _ :: _ => exact ⟨fun h => h.elim, fun ⟨d', h1, h2⟩ => by cases h1⟩
  | exc e => exact Iff.rfl
  | stuck => exact Iff.rfl
variable {mt : Nat → Bool} {b : Env → SR} {s : Exc → Env → SR}
theorem ws_tryAs {i : Nat} : (sTryAs mt i b s r).wp w ↔ (b r).wp ⟨w.N, w.T, w.B, w.C, fun x r1 => if mt x.cls = true then (s x (r1.set i none)).wp ⟨fun r => w.N (r.set i none), w.T, fun r => w.B (r.set i none), fun r => w.C (r.set i none), fun _ _ => False⟩ else w.E x r1⟩ := by
  unfold sTryAs
  cases b r with
  | exc x r1 =>
    simp only
    show SR.wp (if mt x.cls = true then (s x (r1.set i none)).gone i else .exc x r1) w ↔ if mt x.cls = true then _ else _
    by_cases h : mt x.cls = true
    · rw [if_pos h, if_pos h]
      cases s x (r1.set i none) <;> exact Iff.rfl
    · rw [if_neg h, if_neg h]
      exact Iff.rfl
  | _ => exact Iff.rfl
theorem ws_tryOnly : (sTryOnly mt b s r).wp w ↔ (b r).wp ⟨w.N, w.T, w.B, w.C, fun x r1 => if mt x.cls = true then (s x r1).wp ⟨w.N, w.T, w.B, w.C, fun _ _ => False⟩ else w.E x r1⟩ := by
  unfold sTryOnly
  cases b r with
  | exc x r1 =>
    simp only
    show SR.wp (if mt x.cls = true then (s x r1).calm else .exc x r1) w ↔ if mt x.cls = true then _ else _
    by_cases h : mt x.cls = true
    · rw [if_pos h, if_pos h]
      cases s x r1 <;> exact Iff.rfl
    · rw [if_neg h, if_neg h]
      exact Iff.rfl
  | _ => exact Iff.rfl
theorem wp_xf {x : Exc} {f : Str} {d : D} {c : Nat} : (xfE ⟨c, some (f, d)⟩ f r).wp PD E ↔ PD d := by
  unfold xfE
  simp only [if_true, wp_ok]
theorem isl_0 {b : Bool} {l : List Bool} : isl (b :: l) 0 = b := rfl
theorem isl_S {b : Bool} {l : List Bool} {n : Nat} : isl (b :: l) (n + 1) = isl l n := rfl
end
/-! ### what is left to be done, kept shut -/
@[irreducible] def Hold (b : Env → SR) (w : Ws) (r : Env) : Prop := (b r).wp w
theorem hold_iff {b : Env → SR} {w : Ws} {r : Env} : Hold b w r ↔ (b r).wp w := by unfold Hold; exact Iff.rfl
theorem hold_of {b : Env → SR} {w : Ws} {r : Env} (h : (b r).wp w) : Hold b w r := hold_iff.mpr h
theorem ws_seqH {a b : Env → SR} {w : Ws} {r : Env} : (sSeq a b r).wp w ↔ (a r).wp { w with N := Hold b w } := by
  have e : (Hold b w) = fun r' => (b r').wp w := by funext r'; exact propext hold_iff
  rw [ws_seq, e]
theorem tup_cons {x : D} {xs : List D} {i : Nat} {PD : D → Prop} {E : Exc → Prop} (h : ∃ d, (x :: xs)[i]? = some d ∧ PD d) : (ixD (.tup (x :: xs)) (.int (i : Int))).wp PD E := by
  obtain ⟨d, e, q⟩ := h
  rw [wp_ixT]
  exact ⟨d, atI_nat e, q⟩
/-! is, is not -/
section
variable {PB : Bool → Prop} {E : Exc → Prop} {a b : Bool} {i : Int} {s : Tx} {xs : List D}
theorem wp_isN_bb : (isN (.bl a) (.bl b)).wp PB E ↔ PB (decide (a = b)) := Iff.rfl
theorem wp_isN_nn : (isN .non .non).wp PB E ↔ PB true := Iff.rfl
theorem wp_isN_bn : (isN (.bl a) .non).wp PB E ↔ PB false := Iff.rfl
theorem wp_isN_in : (isN (.int i) .non).wp PB E ↔ PB false := Iff.rfl
theorem wp_isN_sn : (isN (.str s) .non).wp PB E ↔ PB false := Iff.rfl
theorem wp_isN_tn : (isN (.tup xs) .non).wp PB E ↔ PB false := Iff.rfl
theorem wp_isN_ln : (isN (.lst xs) .non).wp PB E ↔ PB false := Iff.rfl
theorem wp_notN_bb : (notN (.bl a) (.bl b)).wp PB E ↔ PB (!decide (a = b)) := Iff.rfl
theorem wp_notN_nn : (notN .non .non).wp PB E ↔ PB false := Iff.rfl
theorem wp_notN_bn : (notN (.bl a) .non).wp PB E ↔ PB true := Iff.rfl
theorem wp_notN_in : (notN (.int i) .non).wp PB E ↔ PB true := Iff.rfl
theorem wp_notN_sn : (notN (.str s) .non).wp PB E ↔ PB true := Iff.rfl
theorem wp_notN_tn : (notN (.tup xs) .non).wp PB E ↔ PB true := Iff.rfl
theorem wp_notN_ln : (notN (.lst xs) .non).wp PB E ↔ PB true := Iff.rfl
end
end Pu

/-! list(reversed(x)) -/
namespace RT
open PySem PySem.Spec PyProof.Rows
section
variable {prog : Program} {w : World} {A : Around} {E : Value → Shared → Prop} {s : Shared}
theorem list_init_rev {it l S : Addr} {items : Array Value} {R : Result → Shared → Prop} (hh : A.handled = none) (hit : s.heap.IsRevIter it l ((items.size : Int) - 1)) (hl : s.heap.IsList l items) (hne : l ≠ it) (hn : items.size ≤ sizeLine) (hSi : S ≠ it) (hSl : S ≠ l)
    (hS : s.heap.get? S = some { cls := .type "list", data := .seq #[] })
    (hR : ∀ (h' : Heap) (tk : Nat) (acc : Array Value) (c' : Nat), (∀ b o, b ≠ S → b ≠ it → s.heap.get? b = some o → h'.get? b = some o) → h'.get? S = some { cls := .type "list", dict := none, data := .seq acc c', slots := #[] } → ItemsOf (fun i v => items[items.size - 1 - i]? = some v) acc items.size → R (.ok (.ret .none)) { s with heap := h', toks := tk }) :
    wpAny (model prog w) A.in1 (Builtin.«list.__init__» ⟨[.ref S, .ref it], []⟩)
      (fun fin s' => match fin with | .done f => R (.ok f) s' | .again c' => c'.quiet = true ∧ codeAny (model prog w) A c' R s') (fun e s' => R (.error e) s') s := by
  have W := (Walks.listRev (prog := prog) (w := w) (A := A.in1) hh it l hne items).toS
  have hSf : S ∉ [it, l] := by simp only [List.mem_cons, List.not_mem_nil, or_false, not_or]; exact ⟨hSi, hSl⟩
  show wpAny _ A.in1 (do let old ← Builtin.List.listItems (.ref S); Builtin.List.listUpdate (.ref S) (fun _ => #[]); letGo old.toList.reverse; Builtin.List.listExtendWith (.ref S) (.ref it) .none) _ _ s
  refine wpAny_bind ?_
  unfold Builtin.List.listItems
  refine wpAny_bind (wpAny_seqItems hS rfl (wpAny_pure ?_))
  show wpAny _ A.in1 (updateSeq S (fun _ => #[]) >>= fun _ => letGo (#[] : Array Value).toList.reverse >>= fun _ => Builtin.List.listExtendWith (.ref S) (.ref it) .none) _ _ s
  refine wpAny_bind (wpAny_updateSeq hS rfl ?_)
  have hS₂ := Heap.get?_update_self (Obj.mapSeq (fun _ => (#[] : Array Value))) hS rfl
  have oth : ∀ b o, b ≠ S → s.heap.get? b = some o → (s.heap.update S (Obj.mapSeq (fun _ => (#[] : Array Value)))).get? b = some o :=
    fun b o hb e => (Heap.get?_update_other _ _ (Ne.symm hb)).trans e
  refine wpAny_bind (wpAny_letGo ?_)
  generalize hhp : s.heap.update S (Obj.mapSeq (fun _ => (#[] : Array Value))) = hp at hS₂ oth ⊢
  have hit1 : hp.IsRevIter it l ((items.size : Int) - 1) := hit.at fun o e => oth _ _ (Ne.symm hSi) e
  have hl1 : hp.IsList l items := by
    obtain ⟨o, ho, r⟩ := hl
    exact ⟨o, oth _ _ (Ne.symm hSl) ho, r⟩
  have hT : ({ s with heap := hp } : Shared).TypeIs (.ref it) "list_reverseiterator" := Heap.IsRevIter.typeIs (s := { s with heap := hp }) hit1
  have h1 : Builtin.List.listSameRef (.ref S) (.ref it) = false := by simp [Builtin.List.listSameRef, hSi]
  unfold Builtin.List.listExtendWith
  refine wpAny_bind (wpAny_typeOf hT ?_)
  rw [if_neg (by rw [h1]; decide)]
  refine wpAny_bind (wpAny_pyIter_revIter (s := { s with heap := hp }) hit1 ?_)
  refine wpAny_bind (wpAny_holding ?_)
  unfold Builtin.List.listLengthHint
  refine wpAny_bind (wpAny_specialOf hT nolen_lri ?_)
  show wpAny _ A.in1 (specialOf (Value.ref it) (Str.ofString "__length_hint__") >>= _) _ _ _
  refine wpAny_bind (wpAny_specialOf hT hint_lri ?_)
  generalize hid : ("list_reverseiterator.__length_hint__" : String) = id0
  wp_delta
  rw [show splitId id0 = some ("list_reverseiterator", "__length_hint__") from by subst hid; decide +kernel]
  subst hid
  refine wpAny_bind (wpAny_isInstance (b := true) hT (by rw [isSubtype_type]; kernel_rfl) ?_)
  refine wpAny_pure ?_
  rw [if_neg (by decide)]
  have e0 : ((items.size : Nat) : Int) - 1 - ((0 : Nat) : Int) = (items.size : Int) - 1 := by omega
  refine wpAny_pure ⟨plainId_quiet F.plain_extend_loop _, codeAny_extend_loopS W hn _ hSf _ items.size 0 _ _ _ rfl (Nat.zero_le _) ⟨Nat.zero_le _, by rw [e0]; exact hit1, hl1⟩ hS₂ (ItemsOf.nil _) fun s' acc' c' hm hS' hacc => ?_⟩
  rw [Moved.eq_with hm]
  refine hR s'.heap s'.toks acc' c' (fun b o hb1 hb2 e => hm.heap b o (fun hmem => ?_) (oth b o hb1 e)) hS' hacc
  rcases List.mem_cons.mp hmem with e' | hmem
  · exact hb1 e'
  · exact hb2 (List.mem_singleton.mp hmem)
theorem call_list_rev {it l : Addr} {items : Array Value} {Q : Value → Shared → Prop} (hh : A.handled = none) (hit : s.heap.IsRevIter it l ((items.size : Int) - 1)) (hl : s.heap.IsList l items) (hne : l ≠ it) (hn : items.size ≤ sizeLine)
    (hQ : ∀ (h' : Heap) (tk : Nat) (acc : Array Value) (c' : Nat), (∀ b o, b ≠ it → s.heap.get? b = some o → h'.get? b = some o) → h'.get? s.heap.objs.size = some { cls := .type "list", dict := none, data := .seq acc c', slots := #[] } →
      ItemsOf (fun i v => items[items.size - 1 - i]? = some v) acc items.size → Q (.ref s.heap.objs.size) { s with heap := h', toks := tk }) :
    wpAny (model prog w) A (call (.type "list") [.ref it]) Q E s := by
  obtain ⟨oi, hoi, _⟩ := id hit
  obtain ⟨ol, hol, _⟩ := id hl
  have hSi : s.heap.objs.size ≠ it := Nat.ne_of_gt (Heap.lt_size hoi)
  have hSl : s.heap.objs.size ≠ l := Nat.ne_of_gt (Heap.lt_size hol)
  refine callType_codes (Q₁ := fun obj s₁ => obj = .ref s.heap.objs.size ∧ s₁ = { s with heap := s.heap.push { cls := .type "list", data := .seq #[] } }) PySem.F.called_list (PySem.F.typeCall_list_1 _) PySem.F.entry_list_init
    (code_list_new _ ⟨rfl, rfl⟩) fun obj s₁ h₁ => ?_
  obtain ⟨rfl, rfl⟩ := h₁
  have hS : (s.heap.push { cls := .type "list", data := .seq #[] }).get? s.heap.objs.size = some { cls := .type "list", data := .seq #[] } := Heap.get?_push_size _ rfl
  refine ⟨⟨_, hS, rfl⟩, PySem.F.args_list_init_2 _ _, list_init_rev (A := A.in1) hh (hit.at fun o e => Heap.get?_push_of_some _ e) (hl.push _) hne hn hSi hSl hS fun h' tk acc c' hk hS' hacc => ?_⟩
  exact ⟨rfl, hQ h' tk acc c' (fun b o hb e => hk b o (Nat.ne_of_lt (Heap.lt_size e)) hb (Heap.get?_push_of_some _ e)) hS' hacc⟩
end
end RT
namespace Pu
open PySem PySem.Spec PyProof.Rows L2
def tLstRev (K : PySem.W.Frag) (te : TE) : TE := fun σ H Q => te σ H fun v H1 => ∃ (a : Addr) (xs : List V), v = .ref a ∧ SqL K H1 a xs ∧ ∀ q, H1 q = none → Q (.ref q) (upd H1 q (.lst xs.reverse))
section
variable {X : Cx}
theorem pe_lstRev {e : Expr} {te : TE} {p p2 pos pos2 : Pos} (hc : X.calm = true) (hg : L2.Gl X "list") (hm : X.mg "list" = none) (hg2 : L2.Gl X "reversed") (hm2 : X.mg "reversed" = none) (he : PE X e te)
    (hs : starEach [e] X.env = (false, eval e X.env) :: starEach [] X.env := by rfl)
    (hs2 : starEach [.Call (.Name "reversed" p2) [e] [] pos2] X.env = (false, eval (.Call (.Name "reversed" p2) [e] [] pos2) X.env) :: starEach [] X.env := by rfl) :
    PE X (.Call (.Name "list" p) [.Call (.Name "reversed" p2) [e] [] pos2] [] pos) (tLstRev X.K te) := by
  refine ⟨fun pins s σ H Q I h => ?_⟩
  refine Call_ (ld_blt I hg hm bt_list (PyProof.Rows.callWith_type1 (args_cons (Call_ (ld_blt I hg2 hm2 PyProof.Rows.boot_reversed (PyProof.Rows.callWith_type1 (args_cons (thn (he.run pins s σ H _ I h) fun u s1 ⟨v, H1, I1, r1, q1⟩ => args_nil ?_) hs) hs rfl))) hs2) hs2 rfl))
  obtain ⟨a, xs, ev, hq, q⟩ := q1
  subst ev
  obtain rfl : u = Value.ref a := r1
  obtain ⟨its, rv, p', hz⟩ := I1.list hq
  refine call_reversed_list p'.isList (args_nil ?_)
  have k0 : ∀ b o, s1.heap.get? b = some o → (s1.heap.push (revObj a ((its.toArray.size : Int) - 1))).get? b = some o := fun b o e => Heap.get?_push_of_some _ e
  have I2 : Inv X pins σ H1 { s1 with heap := s1.heap.push (revObj a ((its.toArray.size : Int) - 1)) } := I1.kept (t' := s1.toks) k0
  obtain ⟨f0, f1, f2, f3, f4, f5⟩ := I1.fpOk (H' := H1) (b := s1.heap.objs.size) (Nat.le_refl _) (I1.hok.fresh (Nat.le_refl _))
  have hl := p'.isList
  obtain ⟨ol, hol, _⟩ := id hl
  have hne : a ≠ s1.heap.objs.size := Nat.ne_of_lt (Heap.lt_size hol)
  have hn : its.toArray.size ≤ sizeLine := by rw [List.size_toArray, ← rv.length]; exact hz
  refine RT.call_list_rev (s := { s1 with heap := s1.heap.push (revObj a ((its.toArray.size : Int) - 1)) }) (I1.ok.hd hc) ⟨_, Heap.get?_push_size _ rfl, rfl, rfl⟩ (hl.push _) hne hn fun h' tk acc c' hk hS hi => ?_
  generalize hhp : s1.heap.push (revObj a ((its.toArray.size : Int) - 1)) = hp at *
  have notS : ∀ b o, hp.get? b = some o → b ≠ hp.objs.size := fun b o e => Nat.ne_of_lt (Heap.lt_size e)
  obtain ⟨G, g1, g2⟩ := restrict h' fun b => decide (b ≠ hp.objs.size)
  have gk : ∀ b o, G.get? b = some o → h'.get? b = some o := fun b o e => by
    by_cases hb : b = hp.objs.size
    · rw [g2 b (by simp [hb])] at e; cases e
    · rw [← g1 b (by simp [hb])]; exact e
  have gs : G.get? hp.objs.size = none := g2 _ (by simp)
  have I3 : Inv X pins σ H1 { s1 with heap := G, toks := tk } := I2.turned (t' := tk) (fun b o hb e => by rw [g1 b (by simp [notS b o e])]; exact hk b o hb e) f0 f1 f3 f4 f5
  have hn1 : H1 hp.objs.size = none := I2.hok.fresh (Nat.le_refl _)
  refine ⟨.ref hp.objs.size, upd H1 hp.objs.size (.lst xs.reverse), I3.laidN (t' := tk) gk gs hn1 (show ObjOk X.prog X.w _ _ _ (.lst xs.reverse) from ⟨by rw [List.length_reverse]; exact hz, acc.toList, c', RT.vals_rev rv hi, ?_⟩), rfl, q _ hn1⟩
  rw [Array.toArray_toList]
  exact hS
end
/-- list(reversed(x)) -/
def revI : D → R D
  | .lst ds => .ok (.lst ds.reverse)
  | .scr ns => .ok (.lst (ns.map D.int).reverse)
  | _ => .stuck
section
variable {X : Cx} {k : KC} {G : List Md} {W : WE} {m : Mo} {e : Expr} {f : Env → R D} {p p2 pos pos2 : Pos}
theorem pu_lstRev (J : Jx X k G W) (hc : X.calm = true) (he : PuE X k G W m e f) (hm : X.mg "list" = none) (hm2 : X.mg "reversed" = none) (hg : L2.Gl X "list" := by rfl) (hg2 : L2.Gl X "reversed" := by rfl)
    (hs : starEach [e] X.env = (false, eval e X.env) :: starEach [] X.env := by rfl)
    (hs2 : starEach [.Call (.Name "reversed" p2) [e] [] pos2] X.env = (false, eval (.Call (.Name "reversed" p2) [e] [] pos2) X.env) :: starEach [] X.env := by rfl) :
    PuE X k G W .own (.Call (.Name "list" p) [.Call (.Name "reversed" p2) [e] [] pos2] [] pos) (e1 revI f) := .mk fun F0 H0 F ρ σ H Q S q => by
  refine canE_of (pe_lstRev hc hg hm hg2 hm2 pe_can hs hs2) (he.run F0 H0 F ρ σ H _ S ?_)
  refine (PostR.bind q).imp fun d _ q1 v F1 H1 x1 rv => ?_
  have key : ∀ {a : Addr} {xs : List V} {ds : List D}, v = .ref a → SqL k.K H1 a xs → DvAll k F1 xs ds → revI d = .ok (.lst ds.reverse) → ∃ (a : Addr) (xs : List V), v = .ref a ∧ SqL X.K H1 a xs ∧ ∀ q, H1 q = none → Q (.ref q) (upd H1 q (.lst xs.reverse)) := fun {a xs ds} e h1 h2 h3 => by
    rw [h3] at q1
    exact ⟨a, xs, e, J.kk ▸ h1, fun q hq => q1 _ F1 _ (x1.trans (Ext.own x1.sub hq)) ⟨q, rfl, x1.sh.free hq, x1.sub.free hq, .lst upd_same h2.reverse⟩⟩
  cases d with
  | lst ds =>
    obtain ⟨a, xs, e1, h1, h2⟩ := vw_L x1.sub rv.vw rfl
    exact key e1 h1 h2 rfl
  | scr ns =>
    obtain ⟨a, xs, e1, h1, h2⟩ := vw_L x1.sub rv.vw rfl
    exact key e1 h1 h2 rfl
  | _ => exact q1.elim
end
end Pu

namespace Pu
open PySem PySem.Spec PyProof.Rows L2

/-! ### own lists walked -/
section
variable {k : KC} {G : List Md} {F0 H0 F : Hp} {ρ : Env} {σ : Sl} {H : Hp} {i : Nat} {p : Addr}
theorem lock_own {a : Addr} (hg : isOwn G i = true) (j : Nat) : isOwn (G.set i (.lock a)) j = true ↔ isOwn G j = true := by
  by_cases hj : j = i
  · subst hj; exact ⟨fun _ => hg, fun _ => isOwn_lock hg⟩
  · rw [isOwn_ne hj]
theorem lock_pin {a : Addr} (hg : isOwn G i = true) (j : Nat) : pinAt (G.set i (.lock a)) j = pinAt G j := by
  by_cases hj : j = i
  · subst hj; rw [pinAt_lock, isOwn_pinAt hg]
  · exact pinAt_ne hj
theorem lock_dp {a : Addr} (hg : isOwn G i = true) (j : Nat) : deepAt (G.set i (.lock a)) j = deepAt G j := by
  by_cases hj : j = i
  · subst hj; rw [own_deep (isOwn_lock hg), own_deep hg]
  · exact deepAt_ne hj
theorem lock_nf {a : Addr} (hg : isOwn G i = true) (j : Nat) : nf (G.set i (.lock a)) j = true ↔ nf G j = true := by rw [nf_of, nf_of, lock_own hg j, lock_dp hg j]
theorem St4.lock (S : St4 k G F0 H0 F ρ σ H) (hg : isOwn G i = true) (e : σ[i]? = some (some (.ref p))) : St4 k (G.set i (.lock p)) F0 H0 F ρ σ H where
  ext := S.ext
  len := S.len
  frz := fun j d q g => S.frz j d q fun z => g ((lock_nf hg j).mpr z)
  own := fun j d q g => S.own j d q ((lock_own hg j).mp g)
  sep := fun a b da db p2 qa qb ga gb sa sb => S.sep a b da db p2 qa qb ((lock_own hg a).mp ga) ((lock_own hg b).mp gb) sa sb
  pin := fun j a h => S.pin j a (by rw [← lock_pin hg j]; exact h)
  lk := fun j q d h hq => by
    by_cases hj : j = i
    · subst hj; rw [lockAt_lock h]; exact e
    · rw [lockAt_ne hj] at h; exact S.lk j q d h hq
  dp := by
    obtain ⟨fp, h⟩ := S.dp
    exact ⟨fp, h.mode (lock_dp hg) fun j d _ g => (lock_own hg j).mp g⟩
theorem St4.unlock (S : St4 k (G.set i (.lock p)) F0 H0 F ρ σ H) (hg : isOwn G i = true) (hl : lockAt G i = none) : St4 k G F0 H0 F ρ σ H where
  ext := S.ext
  len := S.len
  frz := fun j d q g => S.frz j d q fun z => g ((lock_nf hg j).mp z)
  own := fun j d q g => S.own j d q ((lock_own hg j).mpr g)
  sep := fun a b da db p2 qa qb ga gb sa sb => S.sep a b da db p2 qa qb ((lock_own hg a).mpr ga) ((lock_own hg b).mpr gb) sa sb
  pin := fun j a h => S.pin j a (by rw [lock_pin hg j]; exact h)
  lk := fun j q d h hq => by
    by_cases hj : j = i
    · subst hj; rw [hl] at h; cases h
    · exact S.lk j q d (by rw [lockAt_ne hj]; exact h) hq
  dp := by
    obtain ⟨fp, h⟩ := S.dp
    exact ⟨fp, h.mode (fun j => (lock_dp hg j).symm) fun j d _ g => (lock_own hg j).mpr g⟩
end
theorem lockAt_at {G : List Md} {i : Nat} {p : Addr} (hg : isOwn G i = true) : lockAt (G.set i (.lock p)) i = some p := by
  induction G generalizing i with
  | nil => cases hg
  | cons x r ih =>
    cases i with
    | zero => rfl
    | succ i =>
      have : isOwn r i = true := by cases x <;> exact hg
      have := ih this
      cases x <;> exact this
open Classical in
/-- a loop over the list that a name owns; the body leaves it as it is -/
noncomputable def forV (i : Nat) (all : List D) (g : D → Env → Option Env) (b : Env → SR) : List D → Env → SR
  | [], r => if r[i]? = some (some (.lst all)) then .nx r else .stuck
  | d :: ds, r => if r[i]? = some (some (.lst all)) then (match g d r with
    | none => .stuck
    | some r1 => match b r1 with
      | .nx r2 => forV i all g b ds r2
      | .ct r2 => forV i all g b ds r2
      | .bk r2 => .nx r2
      | s => s) else .stuck
noncomputable def sForV (i : Nat) (g : D → Env → Option Env) (b : Env → SR) : Env → SR := fun r => match r[i]? with
  | some (some (.lst ds)) => forV i ds g b ds r
  | _ => .stuck
section
variable {X : Cx} {k : KC} {G Gl : List Md} {W : WE} {ro : RM} {tg : Expr} {bs : List Stmt} {b : Env → SR} {pos p1 : Pos} {x : Str} {g : D → Env → Option Env} {ws : List Nat}
open Classical in
theorem pus_forV (i : Nat) (K : Jx X k G W) (J : Jc X) (hg : ∀ p : Addr, PuG X k (G.set i (.lock p)) tg ws g) (hb : ∀ p : Addr, PuB X k (G.set i (.lock p)) (G.set i (.lock p)) (G.set i (.lock p)) W ro bs b)
    (hN : X.N[i]? = some x := by rfl) (ho : isOwn G i = true := by rfl) (hl : lockAt G i = none := by rfl)
    (hv : Vis X.env.scope x := by first | exact Or.inl rfl | exact Or.inr (Or.inl rfl) | exact Or.inr (Or.inr rfl)) (hd : (x == ("__debug__" : Str)) = false := by decide) (hcd : (x == ("__classdict__" : Str)) = false := by decide)
    (hs : ∀ y, foldedSetIterable (.Name x p1) X.env y = pure y := by intro _; rfl) : PuS X k G G Gl W ro (.For tg (.Name x p1) bs [] pos) (sForV i g b) := .mk fun F0 H0 F ρ σ H Dn S q => by
  refine canS_of (ps_for J.po J.calm (pi_list (pe_var (i := i) hN hv hd hcd)) pg_can pb_can hs) ?_
  unfold sForV at q
  cases z : ρ[i]? with
  | none => rw [z] at q; exact q.elim
  | some o =>
    cases o with
    | none => rw [z] at q; exact q.elim
    | some d0 =>
      cases d0 with
      | lst ds =>
        rw [z] at q
        simp only at q
        obtain ⟨p, e1, fp, h0, ow⟩ := S.own i _ z ho
        obtain ⟨us, hp, dv⟩ := own_lst ow
        refine ⟨_, e1, p, rfl, ⟨us, SqL.of hp⟩, ?_⟩
        refine ⟨fun j n σ2 H2 => n + j = ds.length ∧ ∃ F2 r2, Same F F2 ∧ St4 k (G.set i (.lock p)) F0 H0 F2 r2 σ2 H2 ∧ PostS k G Gl W ro F0 H0 F2 Dn (forV i ds g b (ds.drop j) r2), ⟨ds.length, by omega, F, ρ, Same.refl F, S.lock ho e1, by rw [List.drop_zero]; exact q⟩, ?_⟩
        rintro j n σ2 H2 ⟨hn, F2, r2, sf, S2, q2⟩
        have here : ∀ (s : SR), PostS k G Gl W ro F0 H0 F2 Dn (if r2[i]? = some (some (D.lst ds)) then s else .stuck) → r2[i]? = some (some (D.lst ds)) ∧ PostS k G Gl W ro F0 H0 F2 Dn s := fun s h => by
          by_cases hc : r2[i]? = some (some (D.lst ds))
          · rw [if_pos hc] at h; exact ⟨hc, h⟩
          · rw [if_neg hc] at h; exact h.elim
        have list : r2[i]? = some (some (D.lst ds)) → ∃ us, H2 p = some (.lst us) ∧ DvAll k F2 us ds := fun hc => by
          have ep := S2.lk i p _ (lockAt_at ho) hc
          obtain ⟨p', e1', _, _, ow'⟩ := S2.own i _ hc (isOwn_lock ho)
          rw [ep] at e1'
          cases e1'
          exact own_lst ow'
        by_cases hlt : j < ds.length
        · have ed : ds.drop j = ds[j] :: ds.drop (j + 1) := List.drop_eq_getElem_cons hlt
          rw [ed, forV] at q2
          obtain ⟨hc, q2⟩ := here _ q2
          obtain ⟨us2, hp2, dv2⟩ := list hc
          obtain ⟨v, ev, dvv⟩ := dv2.get (List.getElem?_eq_getElem hlt)
          refine .inr ⟨⟨us2, v, SqL.of hp2, ev⟩, fun σ' H' => n - 1 + (j + 1) = ds.length ∧ ∃ F2 r2, Same F F2 ∧ St4 k (G.set i (.lock p)) F0 H0 F2 r2 σ' H' ∧ PostS k G Gl W ro F0 H0 F2 Dn (forV i ds g b (ds.drop (j + 1)) r2), fun σ' H' hN => ⟨n - 1, by omega, hN⟩, fun y H' hy => ?_⟩
          obtain ⟨rfl, hy⟩ := hy
          have e2 := hy us2 (SqL.of hp2)
          rw [ev] at e2
          cases e2
          cases zg : g ds[j] r2 with
          | none => simp only [zg] at q2; exact q2.elim
          | some r3 =>
            simp only [zg] at q2
            refine (hg p).run F0 H0 F2 r2 r3 σ2 _ v ds[j] _ S2 dvv zg fun σ3 S3 _ => ?_
            refine (hb p).run F0 H0 F2 r3 σ3 _ _ S3 ?_
            cases zb : b r3 with
            | nx r4 => simp only [zb] at q2; exact fun F' σ' H' y S' => ⟨by omega, F', r4, sf.trans y, S', PostS.grow y q2⟩
            | ct r4 => simp only [zb] at q2; exact fun F' σ' H' y S' => ⟨by omega, F', r4, sf.trans y, S', PostS.grow y q2⟩
            | bk r4 => simp only [zb] at q2; exact fun F' σ' H' y S' => q2 F' σ' H' y (S'.unlock ho hl)
            | ret d => simp only [zb] at q2; exact q2
            | exc e r => simp only [zb] at q2; exact q2
            | stuck => simp only [zb] at q2; exact q2
        · have hj : j = ds.length := by omega
          subst hj
          rw [List.drop_length, forV] at q2
          obtain ⟨hc, q2⟩ := here _ q2
          obtain ⟨us2, hp2, dv2⟩ := list hc
          exact .inl ⟨⟨us2, SqL.of hp2, Nat.le_of_eq dv2.length⟩, q2 F2 σ2 H2 (Same.refl F2) (S2.unlock ho hl)⟩
      | _ => rw [z] at q; exact q.elim
end
/-- the list that a name owns, walked by a comprehension -/
def ownE (i : Nat) : Env → R (List D) := fun r => match r[i]? with
  | some (some (.lst ds)) => .ok ds
  | _ => .stuck
section
variable {X : Cx} {k : KC} {G : List Md} {W : WE} {tg e : Expr} {p1 p pos : Pos} {x : Str}
theorem puis_own (i : Nat) (J : Jx X k G W) (hN : X.N[i]? = some x := by rfl) (ho : isOwn G i = true := by rfl)
    (hv : Vis X.env.scope x := by first | exact Or.inl rfl | exact Or.inr (Or.inl rfl) | exact Or.inr (Or.inr rfl)) (hd : (x == ("__debug__" : Str)) = false := by decide) (hcd : (x == ("__classdict__" : Str)) = false := by decide) :
    PuIS X k G W tg (.Name x p1) (ownE i) := ⟨_, pi_list (pe_var (i := i) hN hv hd hcd), fun F0 H0 F ρ σ H Q S q => by
  unfold ownE at q
  cases z : ρ[i]? with
  | none => rw [z] at q; exact q.elim
  | some o =>
    cases o with
    | none => rw [z] at q; exact q.elim
    | some d0 =>
      cases d0 with
      | lst ds =>
        rw [z] at q
        obtain ⟨p, e1, fp, h0, ow⟩ := S.own i _ z ho
        obtain ⟨us, hp, dv⟩ := own_lst ow
        refine ⟨_, e1, p, rfl, ⟨us, SqL.of hp⟩, q _ F H (Ext.refl S.sub) ⟨fun F' H' _ s2 _ => ⟨us, SqL.of (s2 _ _ hp), Nat.le_of_eq dv.length⟩, fun j F' H' _ s2 _ hj => ?_, fun j F' H' y H'' s1 s2 s3 hj hy => ?_⟩⟩
        · obtain ⟨v, ev, _⟩ := dv.get (List.getElem?_eq_getElem hj)
          exact ⟨us, v, SqL.of (s2 _ _ hp), ev⟩
        · obtain ⟨rfl, hy⟩ := hy
          obtain ⟨v, ev, d1⟩ := dv.get (List.getElem?_eq_getElem hj)
          have e2 := hy us (SqL.of (s2 _ _ hp))
          rw [ev] at e2
          cases e2
          exact ⟨_, F', List.getElem?_eq_getElem hj, Ext.refl s3, d1.mono s1⟩
      | _ => rw [z] at q; exact q.elim⟩
/-- enumerate of the list that a name owns -/
theorem puis_enumO {elts : List Expr} {kk : Nat} {tpos : Pos} (i : Nat) (J : Jx X k G W) (hm : X.mg "enumerate" = none) (hN : X.N[i]? = some x := by rfl) (ho : isOwn G i = true := by rfl)
    (hv : Vis X.env.scope x := by first | exact Or.inl rfl | exact Or.inr (Or.inl rfl) | exact Or.inr (Or.inr rfl)) (hd : (x == ("__debug__" : Str)) = false := by decide) (hcd : (x == ("__classdict__" : Str)) = false := by decide)
    (hg : L2.Gl X "enumerate" := by rfl) (hs : starEach [.Name x p1] X.env = [(false, eval (.Name x p1) X.env)] := by rfl) :
    PuIS X k G W (.Tuple elts kk tpos) (.Call (.Name "enumerate" p) [.Name x p1] [] pos) (fun r => ownE i r >>= fun ds => .ok (enumD ds)) := ⟨_, pi_enum hg hm (pa_cons (pe_var (i := i) hN hv hd hcd) pa_nil hs) hs, fun F0 H0 F ρ σ H Q S q => by
  unfold ownE at q
  dsimp only at q
  cases z : ρ[i]? with
  | none => rw [z] at q; exact q.elim
  | some o =>
    cases o with
    | none => rw [z] at q; exact q.elim
    | some d0 =>
      cases d0 with
      | lst ds =>
        rw [z] at q
        obtain ⟨p, e1, fp, h0, ow⟩ := S.own i _ z ho
        obtain ⟨us, hp, dv⟩ := own_lst ow
        refine ⟨_, e1, p, us, rfl, SqL.of hp, q _ F H (Ext.refl S.sub) ⟨fun F' H' _ s2 _ => ⟨us, SqL.of (s2 _ _ hp), by rw [enumD_len]; exact Nat.le_of_eq dv.length⟩, fun j F' H' _ s2 _ hj => ?_, fun j F' H' y H'' s1 s2 s3 hj hy => ?_⟩⟩
        · rw [enumD_len] at hj
          obtain ⟨v, ev, _⟩ := dv.get (List.getElem?_eq_getElem hj)
          exact ⟨us, v, SqL.of (s2 _ _ hp), ev⟩
        · rw [enumD_len] at hj
          obtain ⟨T, y2, rfl, hT, rfl, hy⟩ := hy
          obtain ⟨v, ev, d1⟩ := dv.get (List.getElem?_eq_getElem hj)
          have e2 := hy us (SqL.of (s2 _ _ hp))
          rw [ev] at e2
          cases e2
          have x := Ext.add (o := .tup [.int (j : Nat), y2]) s3 hT
          exact ⟨_, _, enumD_get (List.getElem?_eq_getElem hj), x, .tup upd_same (.cons (.int _) (.cons ((d1.mono s1).mono x.sf) .nil))⟩
      | _ => rw [z] at q; exact q.elim⟩
end
/-! ### further built-ins -/
def shrD : D → D → R D := intOp (fun _ b => decide (0 ≤ b)) (fun a b => a / 2 ^ b.toNat)
def allB : List D → Option (List Bool)
  | [] => some []
  | .bl b :: r => (allB r).map (b :: ·)
  | _ :: _ => none
theorem allB_eq : ∀ {ds : List D} {bs : List Bool}, allB ds = some bs → ds = bs.map D.bl
  | [], bs, h => by cases h; rfl
  | .bl b :: r, bs, h => by
    cases e : allB r with
    | none => simp [allB, e] at h
    | some l =>
      simp [allB, e] at h
      subst h
      rw [allB_eq e]
      rfl
  | .non :: _, _, h => by cases h
  | .int _ :: _, _, h => by cases h
  | .str _ :: _, _, h => by cases h
  | .tup _ :: _, _, h => by cases h
  | .lst _ :: _, _, h => by cases h
  | .scr _ :: _, _, h => by cases h
  | .dct _ _ :: _, _, h => by cases h
  | .dtt _ _ :: _, _, h => by cases h
  | .ins _ _ _ :: _, _, h => by cases h
theorem allB_map : ∀ bs : List Bool, allB (bs.map D.bl) = some bs
  | [] => rfl
  | b :: r => by simp [allB, allB_map r]
theorem DvAll.bls_inv {k : KC} {F : Hp} : ∀ {bs : List Bool} {xs : List V}, DvAll k F xs (bs.map D.bl) → xs = bs.map V.bl
  | [], xs, h => by cases h; rfl
  | b :: r, xs, h => by
    cases h with
    | cons h1 h2 =>
      cases h1
      rw [DvAll.bls_inv h2]
      rfl
def allI : D → R D
  | .lst ds => match allB ds with
    | some bs => .ok (.bl (bs.all id))
    | none => .stuck
  | _ => .stuck
def allD : List D → R D := un1 allI
theorem bt_all : bootBuiltins "all" = some (.builtin "all") := by decide +kernel
section
variable {X : Cx} {k : KC} {G : List Md} {W : WE} {m m1 m2 : Mo} {a b c d e : Expr} {f g : Env → R D} {fs : Env → R (List D)} {p p2 pos apos cpos : Pos} {x : Str} {ro : RM} {Gl : List Md}
theorem pu_shr (ha : PuE X k G W m1 a f) (hb : PuE X k G W m2 b g) : PuE X k G W .frz (.BinOp a .RShift b pos) (e2 shrD f g) :=
  pu_op op_shr (opp_int fun i j h => of_decide_eq_true h) noexc_int ha hb
theorem pu_all (J : Jx X k G W) (hc : X.calm = true) (ha : PuA X k G W m1 [e] fs) (hm : X.mg "all" = none) (hg : L2.Gl X "all" := by rfl) (he : starEach [e] X.env = [(false, eval e X.env)] := by rfl) : PuE X k G W .frz (.Call (.Name "all" p) [e] [] pos) (eA allD fs) :=
  pu_callB (J.kk ▸ cr_all hc) (callp_un fun F H v d Q s h q => by
    cases d with
    | lst ds =>
      obtain ⟨a, xs, e, h1, h2⟩ := vw_lst s h
      simp only [allI] at q
      cases z : allB ds with
      | none => simp only [z] at q
      | some bs =>
        simp only [z] at q
        rw [allB_eq z] at h2
        have i1 := h2.bls_inv
        subst i1
        exact ⟨a, bs, by rw [e], SqL.of h1, q _ F H (Ext.refl s) (.bl _)⟩
    | _ => exact q.elim) (un1_exc fun d x h => by
      cases d with
      | lst ds => simp only [allI] at h; split at h <;> cases h
      | _ => cases h) ha hm bt_all hg (by decide) (by decide) he rfl
/-- x.pop(i), its answer dropped -/
def popO : List D → List D → R (List D)
  | xs, [.int i] => if 0 ≤ i ∧ i < xs.length ∧ i < 2 ^ 62 then .ok (xs.eraseIdx i.toNat) else .stuck
  | _, _ => .stuck
theorem popO_exc : ∀ xs ds x, popO xs ds ≠ .exc x := fun xs ds x h => by
  unfold popO at h
  split at h
  · split at h <;> cases h
  · cases h
theorem mo_pop : MtO k .vw rPopAt popO := fun F H H1 p vs xs ys ds Q s fp ow rv z q => by
  obtain ⟨us, h1, h2⟩ := own_lst ow
  unfold popO at z
  split at z
  · rename_i i
    split at z
    · rename_i hi
      cases z
      obtain ⟨v, e, r1⟩ := resA1 rv
      subst e
      have e1 := vw_int r1
      subst e1
      have hl : i.toNat < us.length := by rw [h2.length]; omega
      refine ⟨p, us, i, i.toNat, us[i.toNat], rfl, rfl, h1, by omega, by omega, ?_, List.getElem?_eq_getElem hl, q _ _ (.lst upd_same (h2.eraseIdx _))⟩
      unfold seqIndex?
      have := h2.length
      simp only [if_neg (show ¬ i < 0 by omega)]
      rw [if_pos (by simp; omega)]
    · cases z
  · cases z
def sPop (i : Nat) (fs : Env → R (List D)) : Env → SR := sMt i popO fs
theorem pus_pop (i : Nat) (J : Jx X k G W) (ha : PuA X k G W .vw [e] fs) (hN : X.N[i]? = some x := by rfl) (hg : isOwn G i = true := by rfl)
    (hv : Vis X.env.scope x := by first | exact Or.inl rfl | exact Or.inr (Or.inl rfl) | exact Or.inr (Or.inr rfl)) (hd : (x == ("__debug__" : Str)) = false := by decide) (hcd : (x == ("__classdict__" : Str)) = false := by decide)
    (hbase : attributeBase (.Name x p) "pop" X.env (eval (.Name x p) X.env) = eval (.Name x p) X.env := by rfl)
    (hfew : ((backTo cpos (starEach [e] X.env)).all (fun x => !x.1) && (backToKw cpos (keywordEach [] X.env)).all (fun x => x.1.isSome)
      && decide ([e].length + ([] : List Keyword).length + (if ([] : List Keyword).isEmpty then 0 else 1) < 30)) = true := by rfl)
    (hline : (apos.endLine == cpos.line) = true := by rfl) (hs : starEach [e] X.env = (false, eval e X.env) :: starEach [] X.env := by rfl) (hplain : (backTo cpos (starEach [] X.env)).any (·.1) = false := by rfl)
    (hsw : swapsWith (.Call (.Attribute (.Name x p) "pop" apos) [e] [] cpos) none pos.line X.env = pure false := by rfl) :
    PuS X k G G Gl W ro (.Expr (.Call (.Attribute (.Name x p) "pop" apos) [e] [] cpos) pos) (sPop i fs) :=
  pus_mt J PySem.F.plainAttrs_list PySem.F.slot_list_pop PySem.F.type_list_pop mt_popAt mo_pop i ha hN hg hv hd hcd hbase hfew hline hs hplain hsw
/-- a.find(b) -/
def findD : D → D → R D
  | .str a, .str b => .ok (.int (Txt.find (tx a) (tx b)))
  | _, _ => .stuck
end
/-! weakest preconditions -/
section
variable {PD : D → Prop} {PL : List D → Prop} {E : Exc → Prop} {r : Env} {fs : Env → R (List D)} {g : D → Env → Option Env} {b : Env → SR} {w : Ws} {i j : Int} {n : Nat} {ds : List D}
theorem wp_shr : (shrD (.int i) (.int j)).wp PD E ↔ 0 ≤ j ∧ PD (.int (i / 2 ^ j.toNat)) := by
  unfold shrD
  simp only [Pu.intOp, wp_guard, wp_ok, decide_eq_true_eq]
theorem wp_allD {bs : List Bool} : (allD [.lst (bs.map D.bl)]).wp PD E ↔ PD (.bl (bs.all id)) := by
  show (allI (.lst (bs.map D.bl))).wp PD E ↔ _
  unfold allI
  simp only [allB_map, wp_ok]
theorem wp_revI : (revI (.lst ds)).wp PD E ↔ PD (.lst ds.reverse) := Iff.rfl
theorem ws_pop {k : Nat} : (sPop k fs r).wp w ↔ (lsAt k r).wp (fun xs => (fs r).wp (fun ds => (popO xs ds).wp (fun ys => w.N (r.set k (some (.lst ys)))) noE) (fun e => w.E e r)) noE := ws_mt popO_exc
theorem wp_popO : (popO ds [.int i]).wp PL E ↔ (0 ≤ i ∧ i < ds.length ∧ i < 2 ^ 62) ∧ PL (ds.eraseIdx i.toNat) := by unfold popO; simp only [wp_guard, wp_ok]
theorem ownE_eq : ownE n r = lsAt n r := by
  rw [lsAt_get]
  rfl
theorem wp_ownE : (ownE n r).wp PL E ↔ (lsAt n r).wp PL E := by rw [ownE_eq]
/-- a loop over a list that a name owns -/
theorem ws_forV {k : Nat} (h : (lsAt k r).wp (fun ds => ∃ I : List D → Env → Prop, I ds r ∧ (∀ r', I [] r' → r'[k]? = some (some (.lst ds)) ∧ w.N r') ∧
    ∀ d rest r', I (d :: rest) r' → r'[k]? = some (some (.lst ds)) ∧ OpW (g d r') fun r1 => (b r1).wp ⟨I rest, w.T, w.N, I rest, w.E⟩) noE) : (sForV k g b r).wp w := by
  rw [lsAt_get] at h
  unfold sForV
  cases z : r[k]? with
  | none => rw [z] at h; exact h.elim
  | some y =>
    cases y with
    | none => rw [z] at h; exact h.elim
    | some d =>
      cases d with
      | lst ds =>
        rw [z] at h
        obtain ⟨I, h0, hN, hS⟩ := h
        clear z
        have key : ∀ (rest : List D) (r : Env), I rest r → (forV k ds g b rest r).wp w := by
          intro rest
          induction rest with
          | nil =>
            intro r h
            obtain ⟨h1, h2⟩ := hN r h
            simp only [forV]
            rw [if_pos h1]
            exact h2
          | cons d rest ih =>
            intro r h
            obtain ⟨h1, q⟩ := hS d rest r h
            simp only [forV]
            rw [if_pos h1]
            cases zg : g d r with
            | none => rw [zg] at q; exact q
            | some r1 =>
              rw [zg] at q
              have q : (b r1).wp _ := q
              simp only
              cases zb : b r1 with
              | nx r2 => rw [zb] at q; exact ih r2 q
              | ct r2 => rw [zb] at q; exact ih r2 q
              | bk r2 => rw [zb] at q; exact q
              | ret d => rw [zb] at q; exact q
              | exc e r2 => rw [zb] at q; exact q
              | stuck => rw [zb] at q; exact q
        exact key ds r h0
      | _ => rw [z] at h; exact h.elim
end
end Pu

namespace Pu
open PySem PySem.Spec PyProof.Rows L2

/-! ### dicts: keys ints and texts -/
def keyD : D → Option KD
  | .int i => some (.inl i)
  | .str s => some (.inr s)
  | _ => none
def lookD : List KD → List D → KD → Option D
  | k' :: ks, v :: vs, k => if k' = k then some v else lookD ks vs k
  | _, _, _ => none
def replD : List KD → List D → KD → D → List D
  | k' :: ks, v :: vs, k, d => (if k' = k then d else v) :: replD ks vs k d
  | _, vs, _, _ => vs
section
variable {k : KC} {F : Hp}
theorem kd_iff {a b : KD} : kd a = kd b ↔ a = b := ⟨kd_inj, fun h => by rw [h]⟩
theorem lookD_val : ∀ {kvs : List (L2.Key × V)} {ks : List KD} {ds : List D} (x : KD), kvs.map (·.1) = ks.map kd → DvAll k F (kvs.map (·.2)) ds →
    (lookD ks ds x = none ∧ valV kvs (kd x) = none) ∨ ∃ d v, lookD ks ds x = some d ∧ valV kvs (kd x) = some v ∧ Dv k F v d
  | [], [], _, x, _, h2 => by cases h2; exact .inl ⟨rfl, rfl⟩
  | [], _ :: _, _, x, h, _ => by cases h
  | _ :: _, [], _, x, h, _ => by cases h
  | (kk, v) :: kvs, y :: ks, ds, x, h1, h2 => by
    simp only [List.map_cons, List.cons.injEq] at h1
    cases h2 with
    | cons a b =>
      obtain ⟨e1, e2⟩ := h1
      subst e1
      by_cases hk : y = x
      · subst hk
        exact .inr ⟨_, v, by simp [lookD], by simp [valV], a⟩
      · rcases lookD_val x e2 b with ⟨h3, h4⟩ | ⟨d, u, h3, h4, h5⟩
        · refine .inl ⟨by simp [lookD, hk, h3], ?_⟩
          unfold valV at h4 ⊢
          rw [List.find?_cons_of_neg (by simp [kd_iff, hk])]
          exact h4
        · refine .inr ⟨d, u, by simp [lookD, hk, h3], ?_, h5⟩
          unfold valV at h4 ⊢
          rw [List.find?_cons_of_neg (by simp [kd_iff, hk])]
          exact h4
theorem putK_in {kvs : List (L2.Key × V)} {ks : List KD} {ds : List D} {x : KD} {v : V} {d : D} (h1 : kvs.map (·.1) = ks.map kd) (h2 : DvAll k F (kvs.map (·.2)) ds) (dv : Dv k F v d) (hx : x ∈ ks) :
    (putK kvs (kd x) v).map (·.1) = ks.map kd ∧ DvAll k F ((putK kvs (kd x) v).map (·.2)) (replD ks ds x d) := by
  have hany : (kvs.any fun kv => decide (kv.1 = kd x)) = true := by
    rw [List.any_eq_true]
    have : kd x ∈ kvs.map (·.1) := by rw [h1]; exact List.mem_map_of_mem hx
    obtain ⟨p, hp, e⟩ := List.mem_map.mp this
    exact ⟨p, hp, decide_eq_true e⟩
  unfold putK
  rw [if_pos hany]
  clear hany hx
  refine ⟨?_, ?_⟩
  · rw [← h1, List.map_map]
    apply List.map_congr_left
    intro p _
    show (if p.1 = kd x then (p.1, v) else p).1 = p.1
    split <;> rfl
  · induction kvs generalizing ks ds with
    | nil =>
      cases ks with
      | nil => exact h2
      | cons _ _ => cases h1
    | cons p kvs ih =>
      cases ks with
      | nil => cases h1
      | cons y ks =>
        simp only [List.map_cons, List.cons.injEq] at h1
        simp only [List.map_cons] at h2
        cases h2 with
        | cons a b =>
          simp only [List.map_cons, replD]
          refine .cons ?_ (ih h1.2 b)
          by_cases hk : y = x
          · subst hk
            rw [if_pos h1.1, if_pos rfl]
            exact dv
          · rw [if_neg (by rw [h1.1, kd_iff]; exact hk), if_neg hk]
            exact a
theorem putK_out {kvs : List (L2.Key × V)} {ks : List KD} {ds : List D} {x : KD} {v : V} {d : D} (h1 : kvs.map (·.1) = ks.map kd) (h2 : DvAll k F (kvs.map (·.2)) ds) (dv : Dv k F v d) (hx : x ∉ ks) :
    (putK kvs (kd x) v).map (·.1) = (ks ++ [x]).map kd ∧ DvAll k F ((putK kvs (kd x) v).map (·.2)) (ds ++ [d]) := by
  have hany : ¬ (kvs.any fun kv => decide (kv.1 = kd x)) = true := by
    rw [List.any_eq_true]
    rintro ⟨p, hp, e⟩
    have : kd x ∈ ks.map kd := by rw [← h1]; exact List.mem_map.mpr ⟨p, hp, of_decide_eq_true e⟩
    obtain ⟨y, hy, e2⟩ := List.mem_map.mp this
    rw [kd_inj e2] at hy
    exact hx hy
  unfold putK
  rw [if_neg hany]
  refine ⟨by rw [List.map_append, h1, List.map_append]; rfl, ?_⟩
  rw [List.map_append]
  exact h2.append (.cons dv .nil)
end
theorem key_of {k : KC} {F H : Hp} {v : V} {d : D} {x : KD} (h : Res k .vw H F H v d) (e : keyD d = some x) : v = kV (kd x) := by
  cases d with
  | int i => cases e; exact vw_int h
  | str s => cases e; exact (vw_str h).1
  | _ => cases e
/-- d[k] -/
def dgetD : D → D → R D
  | .dct ks vs, y => match keyD y with
    | some x => match lookD ks vs x with
      | some d => .ok d
      | none => .stuck
    | none => .stuck
  | _, _ => .stuck
theorem dgetD_exc : NoExc2 dgetD := fun d e x h => by
  cases d with
  | dct ks vs =>
    simp only [dgetD] at h
    split at h
    · split at h <;> cases h
    · cases h
  | _ => cases h
/-- k in d -/
def dinD (neg : Bool) : D → D → R Bool
  | y, .dct ks vs => match keyD y with
    | some x => .ok (if neg then !(lookD ks vs x).isSome else (lookD ks vs x).isSome)
    | none => .stuck
  | _, _ => .stuck
section
variable {X : Cx} {k : KC} {G Gl : List Md} {W : WE} {m m1 m2 : Mo} {n : Nat} {a b e : Expr} {f g h : Env → R D} {fs : Env → R (List D)} {pos p p1 apos : Pos} {x : Str} {ro : RM}
theorem units1 (hr : Room n X.A) : X.A.units + 1 < cLine := by have := hr.units; omega
theorem pu_dget (hr : Room n X.A) (ha : PuE X k G W m1 a f) (hb : PuE X k G W m2 b g) (hs : NoSl b := by exact fun _ _ => rfl) : PuE X k G W .frz (.Subscript a b pos) (e2 dgetD f g) :=
  two (r := fun x y H Q => ∃ a v, x = .ref a ∧ DGet H a y (some v) ∧ Q v H) (pe_dget (units1 hr) pe_can pe_can hs) (fun _ _ _ q => q) (fun F H v w d e Q s h1 h2 q => by
    cases d with
    | dct ks vs =>
      simp only [dgetD] at q
      cases zk : keyD e with
      | none => simp only [zk] at q
      | some x =>
        simp only [zk] at q
        obtain ⟨a, kvs, e1, t1, hk, dv⟩ := vw_dct s h1
        rcases lookD_val x hk dv with ⟨h3, h4⟩ | ⟨d, u, h3, h4, h5⟩
        · simp only [h3] at q
        · simp only [h3] at q
          refine ⟨a, u, e1, ?_, q u F H (Ext.refl s) h5⟩
          rw [key_of h2 zk, ← h4]
          exact DGet.k t1
    | _ => exact q.elim) dgetD_exc ha hb
theorem din_post {neg : Bool} {F0 H0 F H : Hp} {ρ : Env} {σ : Sl} {Q : VK} (S : St4 k G F0 H0 F ρ σ H) (ha : PuE X k G W m1 a f) (hb : PuE X k G W m2 b g)
    (q : PostR k F H W σ (fun b => ∀ F' H', Ext F H F' H' → Q (.bl b) H') (c2 (dinD neg) f g ρ)) :
    canE X a σ H fun y H1 => canE X b σ H1 fun x H2 => ∃ a o, x = .ref a ∧ DGet H2 a y o ∧ Q (.bl (if neg then !o.isSome else o.isSome)) H2 := by
  refine ha.run F0 H0 F ρ σ H _ S ?_
  refine (PostR.bind q).imp fun y _ q1 v F1 H1 x1 rv => ?_
  refine hb.run F0 H0 F1 ρ σ H1 _ (S.step x1) ?_
  refine ((PostR.bind q1).grow x1).imp fun d _ q2 w F2 H2 x2 rw_ => ?_
  cases d with
  | dct ks vs =>
    simp only [dinD] at q2
    cases zk : keyD y with
    | none => simp only [zk] at q2; exact q2.elim
    | some x =>
      simp only [zk] at q2
      obtain ⟨a, kvs, e1, t1, hk, dv⟩ := vw_dct x2.sub rw_.vw
      refine ⟨a, valV kvs (kd x), e1, by rw [key_of (rv.ext x2).vw zk]; exact DGet.k t1, ?_⟩
      have q3 := q2 F2 H2 (x1.trans x2)
      rcases lookD_val x hk dv with ⟨h3, h4⟩ | ⟨d, u, h3, h4, h5⟩
      · rw [h3] at q3; rw [h4]; exact q3
      · rw [h3] at q3; rw [h4]; exact q3
  | _ => cases y <;> exact q2.elim
theorem pu_din (hr : Room n X.A) (ha : PuE X k G W m1 a f) (hb : PuE X k G W m2 b g) (hm : behindInMarks .In b = false := by with_unfolding_all rfl) : PuC X k G W (.Compare a [.In] [b] pos) (c2 (dinD false) f g) where
  T := .mk fun F0 H0 F ρ σ H Q S q => canT_of (pt_cmp (pc_din (units1 hr) pe_can pe_can) hm) (din_post (Q := fun x H' => ∃ d, x = .bl d ∧ Q d H') S ha hb (q.imp fun b _ i F' H' x => ⟨b, rfl, i F' H' x⟩))
  E := .mk fun F0 H0 F ρ σ H Q S q => canE_of (pe_cmp (pc_din (units1 hr) pe_can pe_can) hm) (din_post S ha hb ((PostR.bind q).imp fun b _ i F' H' x => i _ F' H' x (.bl b)))
theorem pu_dnotin (hr : Room n X.A) (ha : PuE X k G W m1 a f) (hb : PuE X k G W m2 b g) (hm : behindInMarks .NotIn b = false := by with_unfolding_all rfl) : PuC X k G W (.Compare a [.NotIn] [b] pos) (c2 (dinD true) f g) where
  T := .mk fun F0 H0 F ρ σ H Q S q => canT_of (pt_cmp (pc_dnotin (units1 hr) pe_can pe_can) hm) (din_post (Q := fun x H' => ∃ d, x = .bl d ∧ Q d H') S ha hb (q.imp fun b _ i F' H' x => ⟨b, rfl, i F' H' x⟩))
  E := .mk fun F0 H0 F ρ σ H Q S q => canE_of (pe_cmp (pc_dnotin (units1 hr) pe_can pe_can) hm) (din_post S ha hb ((PostR.bind q).imp fun b _ i F' H' x => i _ F' H' x (.bl b)))
/-- {} -/
theorem pu_dnew : PuE X k G W .own (.Dict [] [] pos) (eC (.dct [] [])) := .mk fun F0 H0 F ρ σ H Q S q =>
  canE_of pe_dnewK fun p hp => q _ F _ (Ext.own S.sub hp) ⟨p, rfl, hp, S.sub.free hp, .dct upd_same rfl .nil⟩
/-- dict(d) -/
def dictI : D → R D
  | .dct ks vs => .ok (.dct ks vs)
  | _ => .stuck
def dictD : List D → R D := un1 dictI
theorem pu_dict (ha : PuA X k G W m1 [e] fs) (hm : X.mg "dict" = none) (hg : L2.Gl X "dict" := by rfl) (he : starEach [e] X.env = [(false, eval e X.env)] := by rfl) : PuE X k G W .own (.Call (.Name "dict" p) [e] [] pos) (eA dictD fs) :=
  pu_callTy call_dictD (callp_un fun F H v d Q s h q => by
    cases d with
    | dct ks vs =>
      obtain ⟨a, kvs, e1, t1, hk, dv⟩ := vw_dct s h
      exact ⟨a, kvs, by rw [e1], .inl t1, fun p hp => q _ F _ (Ext.own s hp) ⟨p, rfl, hp, s.free hp, .dct upd_same hk dv⟩⟩
    | _ => exact q.elim) (un1_exc fun d x h => by cases d <;> cases h) ha hm bt_dict hg (by decide) (by decide) he rfl
/-- {k: v, ..}, the keys written, no two alike -/
def dispE (ks : List KD) (fs : Env → R (List D)) : Env → R D := fun r => fs r >>= fun ds => if ds.length = ks.length then .ok (.dct ks ds) else .stuck
structure PuP (X : Cx) (k : KC) (G : List Md) (W : WE) (pos : Pos) (keys : List (Option Expr)) (vals : List Expr) (ks : List KD) (fs : Env → R (List D)) : Prop where
  run : ∃ trs, PPs X pos keys vals trs ∧ ∀ (F0 H0 F : Hp) (r : Env) (σ : Sl) (H : Hp) (Q : List (V × V) → Hp → Prop), St4 k G F0 H0 F r σ H →
    PostR k F H W σ (fun ds => ∀ vs F' H', Ext F H F' H' → DvAll k F' vs ds → vs.length = ks.length → Q (((ks.map kd).zip vs).map fun p => (kV p.1, p.2)) H') (fs r) → tPairs trs σ H Q
theorem pup_nil : PuP X k G W pos [] [] [] aNil := ⟨_, pps_nil, fun F0 H0 F r σ H Q S q => q [] F H (Ext.refl S.sub) .nil rfl⟩
theorem pup_cons {ky vl : Expr} {keys : List (Option Expr)} {vals : List Expr} {x0 : KD} {ks : List KD} (hk : PE X ky (tC (kV (kd x0)))) (hv : PuE X k G W .frz vl f) (h : PuP X k G W pos keys vals ks fs) : PuP X k G W pos (some ky :: keys) (vl :: vals) (x0 :: ks) (aCons f fs) := by
  obtain ⟨trs, h1, h2⟩ := h
  refine ⟨(tC (kV (kd x0)), canE X vl) :: trs, pps_cons hk pe_can h1, fun F0 H0 F r σ H Q S q => ?_⟩
  refine hv.run F0 H0 F r σ H _ S ?_
  refine (PostR.bind q).imp fun x _ q1 v F1 H1 x1 rv => ?_
  refine h2 F0 H0 F1 r σ H1 _ (S.step x1) ?_
  refine ((PostR.bind q1).grow x1).imp fun xs _ q2 vs F2 H2 x2 rvs hl => ?_
  exact q2 (v :: vs) F2 H2 (x1.trans x2) (.cons (Dv.mono x2.sf rv) rvs) (by simp [hl])
theorem merge_nodup : ∀ (kvs acc : List (L2.Key × V)), ((acc ++ kvs).map (·.1)).Nodup → mergeK acc kvs = acc ++ kvs
  | [], acc, _ => by simp [mergeK]
  | p :: r, acc, h => by
    have hn : ¬ (acc.any fun kv => decide (kv.1 = p.1)) = true := by
      rw [List.any_eq_true]
      rintro ⟨q, hq, e⟩
      rw [List.map_append, List.nodup_append] at h
      exact h.2.2 q.1 (List.mem_map_of_mem hq) p.1 (by simp) (of_decide_eq_true e)
    show mergeK (putK acc p.1 p.2) r = _
    unfold putK
    rw [if_neg hn, merge_nodup r (acc ++ [p]) (by simpa using h)]
    simp
theorem pu_disp {keys : List (Option Expr)} {vals : List Expr} {ks : List KD} (h : PuP X k G W pos keys vals ks fs) (hn : (ks.map kd).Nodup) (hall : keys.all (·.isSome) = true := by rfl) (hl : keys.length = vals.length := by rfl) (h0 : keys ≠ [] := by exact List.cons_ne_nil _ _)
    (h15 : keys.length ≤ 15 := by exact Nat.le_of_ble_eq_true rfl) (hkl : ks.length ≤ 15 := by exact Nat.le_of_ble_eq_true rfl) : PuE X k G W .own (.Dict keys vals pos) (dispE ks fs) := .mk fun F0 H0 F ρ σ H Q S q => by
  obtain ⟨trs, h1, h2⟩ := h
  refine canE_of (pe_disp h1 hall hl h0 h15) fun p hp => ?_
  have x0 := Ext.own (o := .dK []) S.sub hp
  refine h2 F0 H0 F ρ σ _ _ (S.step x0) ?_
  refine ((PostR.bind q).grow x0).imp fun ds _ q1 vs F1 H1 x1 dv hvl => ?_
  have hp1 : H1 p = some (.dK []) := x1.sh _ _ upd_same
  have fp : F1 p = none := x1.new p (S.sub.free hp) (by rw [upd_same]; exact fun z => by cases z)
  refine ⟨hp1, (ks.map kd).zip vs, rfl, by rw [List.length_zip, List.length_map]; omega, ?_⟩
  have hz : ((ks.map kd).zip vs).map (·.1) = ks.map kd := by
    rw [List.map_fst_zip]
    rw [List.length_map, hvl]
    exact Nat.le_refl _
  have hz2 : ((ks.map kd).zip vs).map (·.2) = vs := by
    rw [List.map_snd_zip]
    rw [List.length_map, hvl]
    exact Nat.le_refl _
  rw [merge_nodup _ [] (by rw [List.nil_append, hz]; exact hn), List.nil_append]
  rw [if_pos (by rw [← dv.length]; exact hvl)] at q1
  have hid : ∀ o : HO, (∀ b u, H b = some u → (upd H1 p o) b = some u) := fun o b u e => by
    have nb : b ≠ p := fun z => by rw [z, hp] at e; cases e
    rw [upd_ne nb]
    exact x1.sh _ _ (by rw [upd_ne nb]; exact e)
  refine q1 _ F1 _ ⟨x1.sf, hid _, fun b u e => ?_, fun b e1 e2 => ?_⟩ ⟨p, rfl, hp, fp, .dct upd_same hz (by rw [hz2]; exact dv)⟩
  · have nb : b ≠ p := fun z => by rw [z, fp] at e; cases e
    rw [upd_ne nb]
    exact x1.sub _ _ e
  · have nb : b ≠ p := fun z => e2 (by rw [z]; exact hp)
    exact x1.new b e1 (by rw [upd_ne nb]; exact e2)
/-- x[k] = v, x an own dict -/
def memD (ks : List KD) (x : KD) : Bool := ks.any fun y => decide (y = x)
theorem memD_iff {ks : List KD} {x : KD} : memD ks x = true ↔ x ∈ ks := by
  unfold memD
  rw [List.any_eq_true]
  exact ⟨fun ⟨y, h1, h2⟩ => of_decide_eq_true h2 ▸ h1, fun h => ⟨x, h, decide_eq_true rfl⟩⟩
def dputO (ks : List KD) (vs : List D) (x : KD) (d : D) : D := if memD ks x = true then .dct ks (replD ks vs x d) else .dct (ks ++ [x]) (vs ++ [d])
def dctAt (i : Nat) (r : Env) : R (List KD × List D) := match r[i]? with
  | some (some (.dct ks vs)) => .ok (ks, vs)
  | _ => .stuck
def sDput (i : Nat) (f g : Env → R D) : Env → SR := fun r => match g r with
  | .ok d => match dctAt i r with
    | .ok (ks, vs) => match f r with
      | .ok y => match keyD y with
        | some x => if ks.length < szT then .nx (r.set i (some (dputO ks vs x d))) else .stuck
        | none => .stuck
      | .exc x => .exc x r
      | .stuck => .stuck
    | _ => .stuck
  | .exc x => .exc x r
  | .stuck => .stuck
theorem own_dct {F H : Hp} {p : Addr} {ks : List KD} {vs : List D} (h : OwnAt k F H p (.dct ks vs)) : ∃ kvs, H p = some (.dK kvs) ∧ kvs.map (·.1) = ks.map kd ∧ DvAll k F (kvs.map (·.2)) vs := by
  cases h with
  | dct h1 h2 h3 => exact ⟨_, h1, h2, h3⟩
theorem pus_dput (i : Nat) (hr : Room n X.A) (J : Jx X k G W) (ha : PuE X k G W m1 a f) (he : PuE X k G W .frz e g) (hN : X.N[i]? = some x := by rfl) (hg : isOwn G i = true := by rfl)
    (hv : Vis X.env.scope x := by first | exact Or.inl rfl | exact Or.inr (Or.inl rfl) | exact Or.inr (Or.inr rfl)) (hd : (x == ("__debug__" : Str)) = false := by decide) (hcd : (x == ("__classdict__" : Str)) = false := by decide)
    (hs : swapsWith e (some (.Subscript (.Name x p1) a apos)) pos.line X.env = pure false := by rfl) :
    PuS X k G G Gl W ro (.Assign [.Subscript (.Name x p1) a apos] e pos) (sDput i f g) := .mk fun F0 H0 F ρ σ H Dn S q => by
  refine canS_of (ps_dput (units1 hr) (pe_var (i := i) hN hv hd hcd) pe_can pe_can hs) ?_
  unfold sDput at q
  refine he.run F0 H0 F ρ σ H _ S ?_
  cases z : g ρ with
  | stuck => rw [z] at q; exact q.elim
  | exc y => rw [z] at q; exact fun cls dd F' H' y z => q cls dd G F F' σ H H' J.oke (Same.refl F) S y z
  | ok d =>
    rw [z] at q
    simp only at q
    intro v F1 H1 x1 rv
    have S1 := S.step x1
    unfold dctAt at q
    cases y : ρ[i]? with
    | none => rw [y] at q; exact q.elim
    | some z =>
      cases z with
      | none => rw [y] at q; exact q.elim
      | some d0 =>
        cases d0 with
        | dct ks vs =>
          rw [y] at q
          simp only at q
          obtain ⟨p, e1, fp, h0, ow⟩ := S1.own i _ y hg
          refine ⟨_, e1, ha.run F0 H0 F1 ρ σ H1 _ S1 ?_⟩
          cases zf : f ρ with
          | stuck => rw [zf] at q; exact q.elim
          | exc y => rw [zf] at q; exact fun cls dd F' H' y z => q cls dd G F1 F' σ H1 H' J.oke x1.sf S1 y z
          | ok j =>
            rw [zf] at q
            simp only at q
            intro w F2 H2 x2 rw_
            have S2 := S1.step x2
            obtain ⟨p', e1', fp', h0', ow'⟩ := S2.own i _ y hg
            rw [e1] at e1'
            cases e1'
            obtain ⟨kvs, t1, t2, t3⟩ := own_dct ow'
            cases zk : keyD j with
            | none => simp only [zk] at q; exact q.elim
            | some kx =>
              simp only [zk] at q
              have ew := key_of rw_.vw zk
              subst ew
              split at q
              · rename_i hlen
                have hl2 : kvs.length = ks.length := by simpa using congrArg List.length t2
                refine ⟨p, _, rfl, DPut.k t1 (by rw [hl2]; exact Nat.lt_of_lt_of_le hlen (szT_le (Nat.le_refl _))), q F2 σ _ (x1.sf.trans x2.sf) (S2.wr hg y e1 fp' h0' ?_)⟩
                unfold dputO
                by_cases hx : memD ks kx = true
                · rw [if_pos hx]
                  obtain ⟨u1, u2⟩ := putK_in (x := kx) t2 t3 (Dv.mono x2.sf rv) (memD_iff.mp hx)
                  exact .dct upd_same u1 u2
                · rw [if_neg hx]
                  obtain ⟨u1, u2⟩ := putK_out (x := kx) t2 t3 (Dv.mono x2.sf rv) (fun z => hx (memD_iff.mpr z))
                  exact .dct upd_same u1 u2
              · exact q.elim
        | _ => rw [y] at q; exact q.elim
/-- xs.index(y) -/
def indexD : D → D → R D
  | .lst ds, y => if (flatD y && ds.all flatD) = true then (match ds.findIdx? (fun d => eqV (fv d) (fv y)) with
    | some j => .ok (.int (j : Nat))
    | none => .stuck) else .stuck
  | _, _ => .stuck
theorem indexD_exc : NoExc2 indexD := fun d e x h => by
  cases d with
  | lst ds =>
    simp only [indexD] at h
    split at h
    · split at h <;> cases h
    · cases h
  | _ => cases h
def idxE (f g : Env → R D) : Env → R D := fun r => f r >>= fun x => (match x with | .lst _ => R.ok () | _ => .stuck) >>= fun _ => g r >>= fun y => indexD x y
theorem pu_index {cpos : Pos} (J : Jx X k G W) (ha : PuE X k G W m1 a f) (hb : PuE X k G W m2 b g) (hbase : attributeBase a "index" X.env (eval a X.env) = eval a X.env := by rfl)
    (hfew : ((backTo cpos (starEach [b] X.env)).all (fun x => !x.1) && (backToKw cpos (keywordEach [] X.env)).all (fun x => x.1.isSome)
      && decide ([b].length + ([] : List Keyword).length + (if ([] : List Keyword).isEmpty then 0 else 1) < 30)) = true := by rfl)
    (hline : (apos.endLine == cpos.line) = true := by rfl) (hs : starEach [b] X.env = (false, eval b X.env) :: starEach [] X.env := by rfl) (hplain : (backTo cpos (starEach [] X.env)).any (·.1) = false := by rfl) :
    PuE X k G W .frz (.Call (.Attribute a "index" apos) [b] [] cpos) (idxE f g) := .mk fun F0 H0 F ρ σ H Q S q => by
  refine canE_of (pe_bm PySem.F.plainAttrs_list PySem.F.slot_list_index PySem.F.type_list_index mt_index pe_can (pa_cons pe_can pa_nil hs) hbase hfew hline hs hplain) (ha.run F0 H0 F ρ σ H _ S ?_)
  refine (PostR.bind q).imp fun d _ q1 v F1 H1 x1 rv => ?_
  cases d with
  | lst ds =>
    obtain ⟨p, us, e1, t1, dv⟩ := vw_lst x1.sub rv.vw
    subst e1
    refine ⟨.inl ⟨rfl, us, SqL.of t1⟩, hb.run F0 H0 F1 ρ σ H1 _ (S.step x1) ?_⟩
    have q1 : PostR k F H W σ _ (g ρ >>= fun y => indexD (.lst ds) y) := q1
    refine ((PostR.bind q1).grow x1).imp fun y _ q2 w F2 H2 x2 rw_ => ?_
    simp only [indexD] at q2
    split at q2
    · rename_i hf
      rw [Bool.and_eq_true] at hf
      cases zj : ds.findIdx? (fun d => eqV (fv d) (fv y)) with
      | none => simp only [zj] at q2; exact q2.elim
      | some j =>
        simp only [zj] at q2
        obtain ⟨ey, fy⟩ := vw_flat rw_.vw hf.1
        obtain ⟨p2, us2, e2, t2, dv2⟩ := vw_lst x2.sub (rv.ext x2).vw
        cases e2
        obtain ⟨e3, f3⟩ := dvs_flat dv2 hf.2
        subst e3 ey
        obtain ⟨hj, h4, h5⟩ := List.findIdx?_eq_some_iff_getElem.mp zj
        refine ⟨p, ds.map fv, fv y, j, fv ds[j], rfl, rfl, SqL.of t2, fy, f3, by rw [List.getElem?_map, List.getElem?_eq_getElem hj]; rfl, h4, fun i z' hi hz => ?_, q2 _ F2 H2 (x1.trans x2) (.int _)⟩
        rw [List.getElem?_map, List.getElem?_eq_getElem (by omega)] at hz
        cases hz
        have := h5 i hi
        simpa using this
    · exact q2.elim
  | _ => exact q1.elim
end
/-! ### x.append(y.pop(i)) -/
def takeO : List D → List D → R (D × List D)
  | xs, [.int i] => if 0 ≤ i ∧ i < xs.length ∧ i < 2 ^ 62 then (match xs[i.toNat]? with
    | some d => .ok (d, xs.eraseIdx i.toNat)
    | none => .stuck) else .stuck
  | _, _ => .stuck
def sAppPop (i j : Nat) (fs : Env → R (List D)) : Env → SR := fun r => match lsAt i r with
  | .ok xs => match lsAt j r with
    | .ok ys => match fs r with
      | .ok ds => match takeO ys ds with
        | .ok (d, zs) => if xs.length < szT then .nx ((r.set j (some (.lst zs))).set i (some (.lst (xs ++ [d])))) else .stuck
        | _ => .stuck
      | .exc x => .exc x r
      | .stuck => .stuck
    | _ => .stuck
  | _ => .stuck
theorem lsAt_some {i : Nat} {r : Env} {xs : List D} (h : lsAt i r = .ok xs) : r[i]? = some (some (.lst xs)) := by
  rw [lsAt_get] at h
  split at h
  · cases h; assumption
  · cases h
section
variable {X : Cx} {k : KC} {G Gl : List Md} {W : WE} {ro : RM} {m : Mo} {e : Expr} {fs : Env → R (List D)} {x y : Str} {p1 p2 pos apos cpos apos2 cpos2 : Pos}
theorem pus_appPop (i j : Nat) (hij : i ≠ j) (J : Jx X k G W) (ha : PuA X k G W m [e] fs) (hN : X.N[i]? = some x := by rfl) (hg : isOwn G i = true := by rfl) (hN2 : X.N[j]? = some y := by rfl) (hg2 : isOwn G j = true := by rfl)
    (hv : Vis X.env.scope x := by first | exact Or.inl rfl | exact Or.inr (Or.inl rfl) | exact Or.inr (Or.inr rfl)) (hd : (x == ("__debug__" : Str)) = false := by decide) (hcd : (x == ("__classdict__" : Str)) = false := by decide)
    (hv2 : Vis X.env.scope y := by first | exact Or.inl rfl | exact Or.inr (Or.inl rfl) | exact Or.inr (Or.inr rfl)) (hd2 : (y == ("__debug__" : Str)) = false := by decide) (hcd2 : (y == ("__classdict__" : Str)) = false := by decide)
    (hbase : attributeBase (.Name x p1) "append" X.env (eval (.Name x p1) X.env) = eval (.Name x p1) X.env := by rfl)
    (hfew : ((backTo cpos (starEach [.Call (.Attribute (.Name y p2) "pop" apos2) [e] [] cpos2] X.env)).all (fun x => !x.1) && (backToKw cpos (keywordEach [] X.env)).all (fun x => x.1.isSome)
      && decide ([(.Call (.Attribute (.Name y p2) "pop" apos2) [e] [] cpos2 : Expr)].length + ([] : List Keyword).length + (if ([] : List Keyword).isEmpty then 0 else 1) < 30)) = true := by rfl)
    (hline : (apos.endLine == cpos.line) = true := by rfl) (hs : starEach [.Call (.Attribute (.Name y p2) "pop" apos2) [e] [] cpos2] X.env = (false, eval (.Call (.Attribute (.Name y p2) "pop" apos2) [e] [] cpos2) X.env) :: starEach [] X.env := by rfl) (hplain : (backTo cpos (starEach [] X.env)).any (·.1) = false := by rfl)
    (hbase2 : attributeBase (.Name y p2) "pop" X.env (eval (.Name y p2) X.env) = eval (.Name y p2) X.env := by rfl)
    (hfew2 : ((backTo cpos2 (starEach [e] X.env)).all (fun x => !x.1) && (backToKw cpos2 (keywordEach [] X.env)).all (fun x => x.1.isSome)
      && decide ([e].length + ([] : List Keyword).length + (if ([] : List Keyword).isEmpty then 0 else 1) < 30)) = true := by rfl)
    (hline2 : (apos2.endLine == cpos2.line) = true := by rfl) (hs2 : starEach [e] X.env = (false, eval e X.env) :: starEach [] X.env := by rfl) (hplain2 : (backTo cpos2 (starEach [] X.env)).any (·.1) = false := by rfl)
    (hsw : swapsWith (.Call (.Attribute (.Name x p1) "append" apos) [.Call (.Attribute (.Name y p2) "pop" apos2) [e] [] cpos2] [] cpos) none pos.line X.env = pure false := by rfl) :
    PuS X k G G Gl W ro (.Expr (.Call (.Attribute (.Name x p1) "append" apos) [.Call (.Attribute (.Name y p2) "pop" apos2) [e] [] cpos2] [] cpos) pos) (sAppPop i j fs) := .mk fun F0 H0 F ρ σ H Dn S q => by
  refine canS_of (ps_expr (pe_bm PySem.F.plainAttrs_list PySem.F.slot_list_append PySem.type_list_append mt_append (pe_var (i := i) hN hv hd hcd)
    (pa_cons (pe_bm PySem.F.plainAttrs_list PySem.F.slot_list_pop PySem.F.type_list_pop mt_popAt (pe_var (i := j) hN2 hv2 hd2 hcd2) pa_can hbase2 hfew2 hline2 hs2 hplain2) pa_nil hs) hbase hfew hline hs hplain) hsw) ?_
  unfold sAppPop at q
  cases z1 : lsAt i ρ with
  | exc _ => rw [z1] at q; exact q.elim
  | stuck => rw [z1] at q; exact q.elim
  | ok xs =>
    rw [z1] at q
    simp only at q
    cases z2 : lsAt j ρ with
    | exc _ => rw [z2] at q; exact q.elim
    | stuck => rw [z2] at q; exact q.elim
    | ok ys =>
      rw [z2] at q
      simp only at q
      have yi := lsAt_some z1
      have yj := lsAt_some z2
      obtain ⟨p, e1, fp, h0, ow⟩ := S.own i _ yi hg
      obtain ⟨p', e2, fp', h0', ow'⟩ := S.own j _ yj hg2
      refine ⟨_, e1, own_ty ow, _, e2, own_ty ow', ha.run F0 H0 F ρ σ H _ S ?_⟩
      cases z : fs ρ with
      | stuck => rw [z] at q; exact q.elim
      | exc y => rw [z] at q; exact fun cls dd F' H' y z => q cls dd G F F' σ H H' J.oke (Same.refl F) S y z
      | ok ds =>
        rw [z] at q
        simp only at q
        intro vs F1 H1 x1 rv
        match ds, q, rv with
        | [.int n], q, rv =>
          by_cases hn : 0 ≤ n ∧ n < ys.length ∧ n < 2 ^ 62
          · have ht : takeO ys [.int n] = (match ys[n.toNat]? with | some d => .ok (d, ys.eraseIdx n.toNat) | none => .stuck) := by
              exact if_pos hn
            rw [ht] at q
            cases zd : ys[n.toNat]? with
            | none => rw [zd] at q; exact q.elim
            | some d =>
              rw [zd] at q
              simp only at q
              split at q
              · rename_i hsz
                obtain ⟨v, ev, r1⟩ := resA1 rv
                subst ev
                have e3 := vw_int r1.vw
                subst e3
                have S1 := S.step x1
                obtain ⟨q2, f1, f2, f3, f4⟩ := S1.own j _ yj hg2
                rw [e2] at f1
                cases f1
                obtain ⟨us, hu, du⟩ := own_lst f4
                obtain ⟨u, hud, dd⟩ := du.get zd
                have hl : n.toNat < us.length := (List.getElem?_eq_some_iff.mp hud).1
                refine ⟨p', us, n, n.toNat, u, rfl, rfl, hu, by omega, by omega, ?_, hud, ?_⟩
                · unfold seqIndex?
                  simp only [if_neg (show ¬ n < 0 by omega)]
                  rw [if_pos (by simp; omega)]
                have S2 := S1.wr (o := .lst (us.eraseIdx n.toNat)) hg2 yj e2 f2 f3 (.lst upd_same (du.eraseIdx n.toNat))
                have yi2 : (ρ.set j (some (.lst (ys.eraseIdx n.toNat))))[i]? = some (some (.lst xs)) := by rw [List.getElem?_set_ne (Ne.symm hij)]; exact yi
                obtain ⟨q3, g1, g2, g3, g4⟩ := S2.own i _ yi2 hg
                rw [e1] at g1
                cases g1
                obtain ⟨ws, hw, dw⟩ := own_lst g4
                refine ⟨p, ws, u, rfl, rfl, hw, by rw [dw.length]; exact Nat.lt_of_lt_of_le hsz (szT_le (Nat.le_refl _)), ?_⟩
                exact q F1 σ _ x1.sf (S2.wr hg yi2 e1 g2 g3 (.lst upd_same (dw.append (.cons dd .nil))))
              · exact q.elim
          · have ht : takeO ys [.int n] = .stuck := by
              exact if_neg hn
            rw [ht] at q
            exact q.elim
        | [], q, _ => exact q.elim
        | [.non], q, _ => exact q.elim
        | [.bl _], q, _ => exact q.elim
        | [.str _], q, _ => exact q.elim
        | [.tup _], q, _ => exact q.elim
        | [.lst _], q, _ => exact q.elim
        | [.scr _], q, _ => exact q.elim
        | [.dct _ _], q, _ => exact q.elim
        | [.ins _ _ _], q, _ => exact q.elim
        | a :: _ :: _, q, _ => cases a <;> exact q.elim
end
/-! ### weakest preconditions -/
section
variable {PD : D → Prop} {PB : Bool → Prop} {E : Exc → Prop} {r : Env} {f g : Env → R D} {fs : Env → R (List D)} {w : Ws} {i : Int} {s : Tx} {ks : List KD} {vs ds : List D} {x : KD} {d : D} {k : Nat}
theorem wp_dgetS : (dgetD (.dct ks vs) (.str s)).wp PD E ↔ ∃ d, lookD ks vs (.inr s) = some d ∧ PD d := by
  simp only [dgetD, keyD]
  cases h : lookD ks vs (.inr s) with
  | none => exact ⟨fun z => z.elim, fun ⟨d, e, _⟩ => by cases e⟩
  | some d => exact ⟨fun z => ⟨d, rfl, z⟩, fun ⟨e, h, z⟩ => by cases h; exact z⟩
theorem wp_dgetI : (dgetD (.dct ks vs) (.int i)).wp PD E ↔ ∃ d, lookD ks vs (.inl i) = some d ∧ PD d := by
  simp only [dgetD, keyD]
  cases h : lookD ks vs (.inl i) with
  | none => exact ⟨fun z => z.elim, fun ⟨d, e, _⟩ => by cases e⟩
  | some d => exact ⟨fun z => ⟨d, rfl, z⟩, fun ⟨e, h, z⟩ => by cases h; exact z⟩
theorem wp_dinS {n : Bool} : (dinD n (.str s) (.dct ks vs)).wp PB E ↔ PB (if n then !(lookD ks vs (.inr s)).isSome else (lookD ks vs (.inr s)).isSome) := Iff.rfl
theorem wp_dinI {n : Bool} : (dinD n (.int i) (.dct ks vs)).wp PB E ↔ PB (if n then !(lookD ks vs (.inl i)).isSome else (lookD ks vs (.inl i)).isSome) := Iff.rfl
theorem wp_disp : (dispE ks fs r).wp PD E ↔ (fs r).wp (fun ds => ds.length = ks.length ∧ PD (.dct ks ds)) E := by
  unfold dispE
  simp only [wp_bind, wp_guard, wp_ok]
theorem wp_dictD : (dictD [.dct ks vs]).wp PD E ↔ PD (.dct ks vs) := Iff.rfl
def dcAt : Nat → Env → R (List KD × List D)
  | 0, some (.dct ks vs) :: _ => .ok (ks, vs)
  | k + 1, _ :: r => dcAt k r
  | _, _ => .stuck
theorem dcAt_eq : ∀ (k : Nat) (r : Env), dctAt k r = dcAt k r
  | 0, [] => rfl
  | 0, none :: _ => rfl
  | 0, some d :: _ => by cases d <;> rfl
  | k + 1, [] => by simp [dcAt, dctAt]
  | k + 1, a :: r => by
    have := dcAt_eq k r
    unfold dctAt at this ⊢
    simp only [dcAt, List.getElem?_cons_succ]
    exact this
theorem dc_0 {r : Env} {P : List KD × List D → Prop} : (dcAt 0 (some (.dct ks vs) :: r)).wp P E ↔ P (ks, vs) := Iff.rfl
theorem dc_S {o : Option D} {r : Env} {P : List KD × List D → Prop} : (dcAt (k + 1) (o :: r)).wp P E ↔ (dcAt k r).wp P E := Iff.rfl
def keyW (y : D) : R KD := match keyD y with
  | some x => .ok x
  | none => .stuck
theorem kw_s {P : KD → Prop} : (keyW (.str s)).wp P E ↔ P (.inr s) := Iff.rfl
theorem kw_i {P : KD → Prop} : (keyW (.int i)).wp P E ↔ P (.inl i) := Iff.rfl
theorem ws_dput : (sDput k f g r).wp w ↔ (g r).wp (fun d => (dcAt k r).wp (fun kv => (f r).wp (fun y => (keyW y).wp (fun x => kv.1.length < szT ∧ w.N (r.set k (some (dputO kv.1 kv.2 x d)))) noE) (fun e => w.E e r)) noE) (fun e => w.E e r) := by
  rw [← dcAt_eq]
  unfold sDput
  cases g r with
  | exc e => exact Iff.rfl
  | stuck => exact Iff.rfl
  | ok d =>
    simp only [wp_ok]
    unfold dctAt
    cases z : r[k]? with
    | none => exact Iff.rfl
    | some y =>
      cases y with
      | none => exact Iff.rfl
      | some c =>
        cases c with
        | dct ks vs =>
          simp only [wp_ok]
          cases f r with
          | exc e => exact Iff.rfl
          | stuck => exact Iff.rfl
          | ok a =>
            simp only [wp_ok]
            unfold keyW
            cases keyD a with
            | none => exact Iff.rfl
            | some x =>
              simp only [wp_ok]
              show SR.wp (if ks.length < szT then _ else SR.stuck) w ↔ _
              by_cases h : ks.length < szT
              · rw [if_pos h]; exact ⟨fun q => ⟨h, q⟩, fun q => q.2⟩
              · rw [if_neg h]; exact ⟨fun q => q.elim, fun q => absurd q.1 h⟩
        | _ => exact Iff.rfl
theorem wp_takeO {P : D × List D → Prop} : (takeO ds [.int i]).wp P E ↔ (0 ≤ i ∧ i < ds.length ∧ i < 2 ^ 62) ∧ ∃ d, ds[i.toNat]? = some d ∧ P (d, ds.eraseIdx i.toNat) := by
  unfold takeO
  simp only [wp_guard]
  cases h : ds[i.toNat]? with
  | none => simp only [wp_stuck]; exact ⟨fun z => z.2.elim, fun ⟨_, d, e, _⟩ => by cases e⟩
  | some d => simp only [wp_ok]; exact ⟨fun z => ⟨z.1, d, rfl, z.2⟩, fun ⟨h1, e, h, z⟩ => by cases h; exact ⟨h1, z⟩⟩
theorem takeO_exc : ∀ xs ds x, takeO xs ds ≠ .exc x := fun xs ds x h => by
  unfold takeO at h
  split at h
  · split at h
    · split at h <;> cases h
    · cases h
  · cases h
theorem ws_appPop {j : Nat} : (sAppPop k j fs r).wp w ↔ (lsAt k r).wp (fun xs => (lsAt j r).wp (fun ys => (fs r).wp (fun ds => (takeO ys ds).wp (fun p => xs.length < szT ∧ w.N ((r.set j (some (.lst p.2))).set k (some (.lst (xs ++ [p.1]))))) noE) (fun e => w.E e r)) noE) noE := by
  have ne : ∀ k, ∀ x, lsAt k r ≠ .exc x := fun k x h => by
    rw [lsAt_get] at h
    split at h <;> cases h
  unfold sAppPop
  cases z1 : lsAt k r with
  | exc x => exact absurd z1 (ne k x)
  | stuck => exact Iff.rfl
  | ok xs =>
    simp only [wp_ok]
    cases z2 : lsAt j r with
    | exc x => exact absurd z2 (ne j x)
    | stuck => exact Iff.rfl
    | ok ys =>
      simp only [wp_ok]
      cases fs r with
      | exc e => exact Iff.rfl
      | stuck => exact Iff.rfl
      | ok ds =>
        simp only [wp_ok]
        cases z : takeO ys ds with
        | exc x => exact absurd z (takeO_exc ys ds x)
        | stuck => exact Iff.rfl
        | ok p =>
          obtain ⟨d, zs⟩ := p
          simp only [wp_ok]
          show SR.wp (if xs.length < szT then _ else SR.stuck) w ↔ _
          by_cases h : xs.length < szT
          · rw [if_pos h]; exact ⟨fun q => ⟨h, q⟩, fun q => q.2⟩
          · rw [if_neg h]; exact ⟨fun q => q.elim, fun q => absurd q.1 h⟩
theorem wp_idx : (idxE f g r).wp PD E ↔ (f r).wp (fun x => ((match x with | .lst _ => R.ok () | _ => .stuck) : R Unit).wp (fun _ => (g r).wp (fun y => (indexD x y).wp PD E) E) E) E := by
  unfold idxE
  simp only [wp_bind]
end
/-! ### * of two ints of the greatest size a script bears -/
@[irreducible] def bitI (i : Int) : Bool := decide (Builtin.Int.intBits i ≤ 2 ^ 20)
theorem bitI_iff {i : Int} : bitI i = true ↔ Builtin.Int.intBits i ≤ 2 ^ 20 := by unfold bitI; exact decide_eq_true_iff
theorem bits_eq (i : Int) : Builtin.Int.intBits i = if i = 0 then 0 else i.natAbs.log2 + 1 := by
  unfold Builtin.Int.intBits
  by_cases h : i = 0
  · subst h; rfl
  · have h2 : i.natAbs ≠ 0 := by omega
    simp [h, h2]
theorem bitI_le {i j : Int} (h : i.natAbs ≤ j.natAbs) (hj : bitI j = true) : bitI i = true := by
  rw [bitI_iff, bits_eq] at *
  by_cases h0 : i = 0
  · rw [if_pos h0]; omega
  · rw [if_neg h0]
    rw [if_neg (by omega)] at hj
    have := (Nat.le_log2 (n := j.natAbs) (k := i.natAbs.log2) (by omega)).mpr (Nat.le_trans (Nat.log2_self_le (by omega)) h)
    omega
def mulW : D → D → R D := intOp (fun a b => bitI a && bitI b) (· * ·)
theorem op_mulB {X : Cx} : OpR X (binaryOp .Mult) (rI IntMulOk fun i j => .int (i * j)) := opI fun _ _ _ _ _ _ _ hc q => mul_int q hc
section
variable {X : Cx} {k : KC} {G : List Md} {W : WE} {m1 m2 : Mo} {a b : Expr} {f g : Env → R D} {pos : Pos}
theorem pu_mulW (ha : PuE X k G W m1 a f) (hb : PuE X k G W m2 b g) : PuE X k G W .frz (.BinOp a .Mult b pos) (e2 mulW f g) :=
  pu_op op_mulB (opp_int fun i j h => by rw [Bool.and_eq_true] at h; exact IntMulOk.of_bits (bitI_iff.mp h.1) (bitI_iff.mp h.2)) noexc_int ha hb
end
theorem wp_mulW {i j : Int} {PD : D → Prop} {E : Exc → Prop} : (mulW (.int i) (.int j)).wp PD E ↔ (bitI i = true ∧ bitI j = true) ∧ PD (.int (i * j)) := by
  unfold mulW
  simp only [Pu.intOp, wp_guard, wp_ok, Bool.and_eq_true]
theorem bitI_small {i : Int} (h : -(2 ^ 100) < i ∧ i < 2 ^ 100) : bitI i = true := bitI_le (j := 2 ^ 100) (by omega) (by rw [bitI_iff, bits_eq]; decide +kernel)
theorem bitI_div {i : Int} (h : bitI i = true) {d : Int} (hd : 0 < d) : bitI (i / d) = true := by
  refine bitI_le ?_ h
  exact Int.natAbs_ediv_le_natAbs i d
end Pu

/-! Classes whose instances are made once and then only read: C(..), o.f, o.m(..). -/
namespace Pu
open PySem PySem.Spec PyProof.Rows L2

/-! ### C() of a class without an __init__ -/
structure Mk0 (K : PySem.W.Frag) (C : Addr) : Prop where
  makes : PySem.W.makesIn K C = true
  init : PySem.W.findIn K (.ref C) "__init__" = some (some (.builtin "object.__init__"))
  kp : PySem.W.keepIn K (.ref C) = true
def tMk0 (C : Addr) : TE := fun σ H Q => ∀ x dx, H x = none → H dx = none → dx ≠ x → Q (.ref x) (upd (upd H dx (.own x)) x (.ins C dx []))
section
variable {X : Cx} {C : Addr} {x : Str} {p pos : Pos}
theorem run_mk0 {pins : List (Addr × Obj)} {σ : L2.St} {H : Hp} {s : Shared} {Q : VK} (M : Mk0 X.K C) (I : Inv X pins σ H s)
    (h : ∀ x dx, H x = none → H dx = none → dx ≠ x → Q (.ref x) (upd (upd H dx (.own x)) x (.ins C dx []))) :
    wpAny (model X.prog X.w) X.A (call (.ref C) []) (EP X pins σ Q) X.xe s := by
  have hq := h (s.heap.objs.size + 1) s.heap.objs.size (I.hok.fresh (Nat.le_succ _)) (I.hok.fresh (Nat.le_refl _)) (Nat.ne_of_lt (Nat.lt_succ_self _))
  have I2 := Inv.made (C := C) I
  have Y := PySem.W.makes_of (M := model X.prog X.w) I.kIn M.makes
  have e2 : ((s.heap.push PySem.W.emptyDict).push (PySem.W.instObj C s.heap.objs.size)).get? (s.heap.objs.size + 1) = some (PySem.W.instObj C s.heap.objs.size) := by
    have z := Heap.get?_push_size (s.heap.push PySem.W.emptyDict) (o := PySem.W.instObj C s.heap.objs.size) rfl
    rwa [Heap.size_push] at z
  refine wpAny_call (make_map0 I.kIn M.makes M.init (fun self => PySem.W.Looks.of_pure (PySem.W.oi_bind self)) ?_)
  have t1 : PySem.W.Looks (model X.prog X.w) ((s.heap.push PySem.W.emptyDict).push (PySem.W.instObj C s.heap.objs.size)) (typeOf (.ref (s.heap.objs.size + 1))) (.ref C) := (PySem.W.Looks.ld e2).andThen .now
  have t2 : PySem.W.Looks (model X.prog X.w) ((s.heap.push PySem.W.emptyDict).push (PySem.W.instObj C s.heap.objs.size)) (isInstance (.ref (s.heap.objs.size + 1)) (.type "object")) true := t1.andThen (Y.top.keeps fun b o e => Heap.get?_push_of_some _ (Heap.get?_push_of_some _ e))
  refine codeAny_call_builtin PySem.W.oi_plain PySem.W.entry_oi (@PySem.W.check_slot (model X.prog X.w) _ _ _ "object.__init__" "object" "__init__" (.ref (s.heap.objs.size + 1)) [] [] _ PySem.W.oi_kind PySem.W.oi_split t2 (PySem.W.oi_args (.ref (s.heap.objs.size + 1))) ?_)
  rw [PySem.W.oi_run]
  exact wpAny_pure (And.intro rfl ⟨V.ref (s.heap.objs.size + 1), _, I2, rfl, hq⟩)
theorem pe_mk0 (M : Mk0 X.K C) (hg : L2.Gl X x) (hm : X.mg x = some (.ref C)) (hdb : (x == ("__debug__" : Str)) = false := by decide) : PE X (.Call (.Name x p) [] [] pos) (tMk0 C) := by
  refine ⟨fun pins s σ H Q I h => ?_⟩
  refine wpAny_Call_Name_kw (ld_glob I hg hm ?_ hdb)
  exact PySem.W.callWith_K0 I.kIn M.kp (run_mk0 M I h)
variable {k : KC} {G : List Md} {W : WE} {c : Nat}
theorem pu_mk0 (ct : k.ci c = some C) (M : Mk0 X.K C) (hm : X.mg x = some (.ref C)) (hg : L2.Gl X x := by rfl) (hdb : (x == ("__debug__" : Str)) = false := by decide) : PuE X k G W .frz (.Call (.Name x p) [] [] pos) (eC (.ins c [] [])) := .mk fun F0 H0 F ρ σ H Q S q => by
  refine canE_of (pe_mk0 M hg hm hdb) fun a dx ha hdx hne => ?_
  have q : ∀ v F' H', Ext F H F' H' → Res k .frz H F' H' v (.ins c [] []) → Q v H' := q
  have x1 := Ext.own (o := .own a) S.sub hdx
  have ha1 : upd H dx (.own a) a = none := by rw [upd_ne hne.symm]; exact ha
  have x2 := Ext.add (o := .ins C dx []) x1.sub ha1
  exact q _ _ _ (x1.trans x2) (.ins ct upd_same rfl .nil)
end

/-! ### o.f -/
def lkD (nm : Str) : List Str → List D → Option D
  | n :: ns, v :: vs => if n = nm then some v else lkD nm ns vs
  | _, _ => none
theorem lkD_lookup {k : KC} {F : Hp} {nm : Str} : ∀ {fs : List (Str × V)} {ds : List D} {d : D}, DvAll k F (fs.map (·.2)) ds → lkD nm (fs.map (·.1)) ds = some d → ∃ v, fs.lookup nm = some v ∧ Dv k F v d
  | [], _, _, .nil, e => by cases e
  | (n, v) :: fs, x :: ds, d, .cons h t, e => by
    simp only [List.map_cons, lkD] at e
    by_cases z : n = nm
    · rw [if_pos z] at e
      cases e
      exact ⟨v, by rw [List.lookup_cons]; simp [z], h⟩
    · rw [if_neg z] at e
      obtain ⟨w, h1, h2⟩ := lkD_lookup (fs := fs) t e
      exact ⟨w, by rw [List.lookup_cons]; have : (nm == n) = false := beq_eq_false_iff_ne.mpr fun q => z q.symm; simp only [this]; exact h1, h2⟩
theorem lkD_none {k : KC} {F : Hp} {nm : Str} : ∀ {fs : List (Str × V)} {ds : List D}, DvAll k F (fs.map (·.2)) ds → lkD nm (fs.map (·.1)) ds = none → fs.lookup nm = none
  | [], _, .nil, _ => rfl
  | (n, v) :: fs, x :: ds, .cons h t, e => by
    simp only [List.map_cons, lkD] at e
    by_cases z : n = nm
    · rw [if_pos z] at e
      cases e
    · rw [if_neg z] at e
      rw [List.lookup_cons]
      have : (nm == n) = false := beq_eq_false_iff_ne.mpr fun q => z q.symm
      simp only [this]
      exact lkD_none (fs := fs) t e
def fldD (cs : List Nat) (nm : Str) : D → R D
  | .ins c ns vs => if cs.contains c = true then (match lkD nm ns vs with | some d => .ok d | none => .stuck) else .stuck
  | _ => .stuck
theorem vw_ins {k : KC} {F H : Hp} {v : V} {c : Nat} {ns : List Str} {ds : List D} (h : Res k .vw H F H v (.ins c ns ds)) : ∃ a C dx fs, v = .ref a ∧ k.ci c = some C ∧ F a = some (.ins C dx fs) ∧ fs.map (·.1) = ns ∧ DvAll k F (fs.map (·.2)) ds := by
  rcases h with h | ⟨p, e, _, h⟩
  · cases h with
    | ins h0 h1 h2 h3 => exact ⟨_, _, _, _, rfl, h0, h1, h2, h3⟩
  · cases h
section
variable {X : Cx} {k : KC} {G : List Md} {W : WE} {m1 : Mo} {e : Expr} {f : Env → R D} {nm : Str} {pos : Pos}
theorem pu_fld (cs : List Nat) (hC : ∀ c C, cs.contains c = true → k.ci c = some C → Cls X.K C ∧ NoAttr X.K C nm) (ha : PuE X k G W m1 e f) (hb : attributeBase e nm X.env (eval e X.env) = eval e X.env := by rfl) :
    PuE X k G W .frz (.Attribute e nm pos) (e1 (fldD cs nm) f) := .mk fun F0 H0 F ρ σ H Q S q => by
  refine canE_of (pe_fld pe_can hb) ?_
  refine ha.run F0 H0 F ρ σ H _ S ((PostR.bind q).imp fun d _ q1 v F1 H1 x1 r1 => ?_)
  match d, r1, q1 with
  | .ins c ns vs, r1, q1 =>
    simp only [fldD] at q1
    by_cases hc : cs.contains c = true
    · rw [if_pos hc] at q1
      obtain ⟨a, C, dx, fs, rfl, h0, h1, rfl, h3⟩ := vw_ins (H := H1) r1.vw
      cases z : lkD nm (fs.map (·.1)) vs with
      | none => rw [z] at q1; exact q1.elim
      | some d =>
        rw [z] at q1
        obtain ⟨w, l1, l2⟩ := lkD_lookup h3 z
        obtain ⟨c1, c2⟩ := hC c C hc h0
        exact ⟨a, C, dx, fs, w, rfl, x1.sub _ _ h1, c1, c2, l1, q1 w F1 H1 x1 l2⟩
    · rw [if_neg hc] at q1
      exact q1.elim
  | .non, _, q1 | .bl _, _, q1 | .int _, _, q1 | .str _, _, q1 | .tup _, _, q1 | .lst _, _, q1 | .scr _, _, q1 | .dct _ _, _, q1 | .dtt _ _, _, q1 => exact q1.elim
end
/-! ### o.m(..) -/
/-- by the class of o: dp tells each class's def -/
def recv (nm : Str) (dp : Nat → Option (List D → R D)) : D → Option (List D → R D)
  | .ins c ns vs => match lkD nm ns vs with
    | none => dp c
    | some _ => none
  | _ => none
def mtdE (nm : Str) (n : Nat) (dp : Nat → Option (List D → R D)) (f : Env → R D) (fs : Env → R (List D)) : Env → R D := fun r => match f r with
  | .ok x => match recv nm dp x with
    | some M => fs r >>= fun ds => if ds.length + 1 = n then M (x :: ds) else .stuck
    | none => .stuck
  | _ => .stuck
theorem recv_inv {nm : Str} {dp : Nat → Option (List D → R D)} {d : D} {M : List D → R D} (h : recv nm dp d = some M) : ∃ c ns vs, d = .ins c ns vs ∧ lkD nm ns vs = none ∧ dp c = some M := by
  cases d with
  | ins c ns vs =>
    simp only [recv] at h
    cases z : lkD nm ns vs with
    | none => rw [z] at h; exact ⟨c, ns, vs, rfl, z, h⟩
    | some _ => rw [z] at h; cases h
  | _ => cases h
/-- what each class of dp must have -/
structure MtC (nn : Bool) (X : Cx) (k : KC) (nm : Str) (n lvl : Nat) (ro : Bool) (C : Addr) (M : List D → R D) : Prop where
  cl : Cls X.K C
  ex : ∃ (l : Nat) (f : Addr) (fd : FuncData) (ps : List Str), l ≤ lvl ∧ Meth X.K C nm f ∧ FnOk X.prog X.w X.K X.mg X.base (CXb nn X.prog X.w) l f fd ps (spP k n M ro) ∧ Binds X.K fd ps []
section
variable {X : Cx} {CX : CXT} {k : Nat} {f C : Addr} {fd : FuncData} {ps : List Str} {sp : Sp} {E : L2.St → XK} {m : Str} {pos apos : Pos} {e o : Expr} {es : List Expr} {ta : TE} {t : TA} {pl : Sem Bool}
def tMethS (C : Addr) (m : Str) (sp : Sp) (E : L2.St → XK) (ta : TE) (t : TA) : TE := fun σ H Q => ta σ H fun x H1 => ∃ a dx fs, x = .ref a ∧ H1 a = some (.ins C dx fs) ∧ fs.lookup m = none ∧ t σ H1 fun vs H2 => sp (x :: vs) H2 Q (E σ)
theorem pe_methS (he : PE X o ta) (c : Cls X.K C) (hm : Meth X.K C m f) (F : FnOk X.prog X.w X.K X.mg X.base CX k f fd ps sp) (hr : Room k X.A) (hb : Binds X.K fd ps []) (hx : ∀ σ, PassesAt CX X σ (E σ)) (ha : PA X (e :: es) t)
    (hst : starEach (e :: es) X.env = (false, eval e X.env) :: starEach es X.env := by rfl) (hpl : (backTo pos (starEach es X.env)).any (·.1) = false := by rfl)
    (ht : eval (.Call (.Attribute o m apos) (e :: es) [] pos) X.env = (do
      let ov ← eval o X.env
      standAt apos.atName
      let (f, first) ← holding [ov] (getMethod ov m pl)
      callWith pos f first (backTo pos (starEach (e :: es) X.env)) (backToKw pos (keywordEach [] X.env))) := by rfl) :
    PE X (.Call (.Attribute o m apos) (e :: es) [] pos) (tMethS C m sp E ta t) := by
  refine ⟨fun pins s σ H Q I h => ?_⟩
  refine PySem.W.methodCall_KW (pl := pl) (thn (he.run pins s σ H _ I h) fun u s1 ⟨x, H1, I1, rx, a, dx, fs, ex, ea, l, q⟩ => ?_) ht
  subst ex
  obtain rfl : u = Value.ref a := rx
  refine getmeth_ok I1 ea c hm l ?_
  refine PySem.W.callWith_K (first := [.ref a]) (h₀ := X.base) I.ok.mod.kin hm.kp (thn (ha.run pos pins s1 σ H1 _ I1 q) fun us s2 ⟨vs, H2, I2, r, q2⟩ => ⟨I2.kIn, ?_⟩) hst hpl
  exact run_fnS (us := .ref a :: us) (vs := .ref a :: vs) F hr hb (hx σ) I2 (.cons rfl r) q2
theorem pe_methS0 (he : PE X o ta) (c : Cls X.K C) (hm : Meth X.K C m f) (F : FnOk X.prog X.w X.K X.mg X.base CX k f fd ps sp) (hr : Room k X.A) (hb : Binds X.K fd ps []) (hx : ∀ σ, PassesAt CX X σ (E σ))
    (ht : eval (.Call (.Attribute o m apos) [] [] pos) X.env = (do
      let ov ← eval o X.env
      standAt apos.atName
      let (f, first) ← holding [ov] (getMethod ov m pl)
      callWith pos f first (backTo pos (starEach [] X.env)) (backToKw pos (keywordEach [] X.env))) := by rfl) :
    PE X (.Call (.Attribute o m apos) [] [] pos) (tMethS C m sp E ta tNil) := by
  refine ⟨fun pins s σ H Q I h => ?_⟩
  refine PySem.W.methodCall_KW (pl := pl) (thn (he.run pins s σ H _ I h) fun u s1 ⟨x, H1, I1, rx, a, dx, fs, ex, ea, l, q⟩ => ?_) ht
  subst ex
  obtain rfl : u = Value.ref a := rx
  refine getmeth_ok I1 ea c hm l ?_
  exact PySem.W.callWith_K0 (first := [.ref a]) I1.kIn hm.kp (run_fnS (us := [.ref a]) (vs := [.ref a]) F hr hb (hx σ) I1 (.cons rfl .nil) q)
end
section
variable {X : Cx} {k : KC} {G : List Md} {W : WE} {lvl n : Nat} {m1 : Mo} {nm : Str} {dp : Nat → Option (List D → R D)} {o e : Expr} {es : List Expr} {f : Env → R D} {fs : Env → R (List D)} {ro : Bool} {pos apos : Pos} {pl : Sem Bool}
theorem mtd_post {F H F1 H1 F2 H2 : Hp} {σ : Sl} {Q : VK} {x : D} {ds : List D} {M : List D → R D} {v : V} {us : List V} (x1 : Ext F H F1 H1) (x2 : Ext F1 H1 F2 H2) (dv : Dv k F1 v x) (ra : DvAll k F2 us ds) (hl : ds.length + 1 = n)
    (q : PostR k F H W σ (fun d => ∀ v F' H', Ext F H F' H' → Res k (if ro then .own else .frz) H F' H' v d → Q v H') (M (x :: ds))) : spP k n M ro (v :: us) H2 Q (fun cls dd H => W.w cls dd σ H) := by
  refine ⟨F2, x :: ds, x2.sub, .cons (dv.mono x2.sf) ra, hl, ?_⟩
  cases z : M (x :: ds) with
  | ok d =>
    rw [z] at q
    exact fun v F' H' x3 r3 => q v F' H' (x1.trans (x2.trans x3)) (r3.back (x1.trans x2).sh)
  | exc y =>
    rw [z] at q
    exact fun cls dd F' H' x3 ea => q cls dd F' H' (x1.trans (x2.trans x3)) ea
  | stuck => rw [z] at q; exact q
theorem pu_meth (J : Jx X k G W) (hD : ∀ c M, dp c = some M → ∃ C, k.ci c = some C ∧ MtC W.nn X k nm n lvl ro C M) (hr : Room lvl X.A) (ho : PuE X k G W m1 o f) (ha : PuA X k G W .frz (e :: es) fs)
    (hst : starEach (e :: es) X.env = (false, eval e X.env) :: starEach es X.env := by rfl) (hpl : (backTo pos (starEach es X.env)).any (·.1) = false := by rfl)
    (ht : eval (.Call (.Attribute o nm apos) (e :: es) [] pos) X.env = (do
      let ov ← eval o X.env
      standAt apos.atName
      let (f, first) ← holding [ov] (getMethod ov nm pl)
      callWith pos f first (backTo pos (starEach (e :: es) X.env)) (backToKw pos (keywordEach [] X.env))) := by rfl) :
    PuE X k G W (if ro then .own else .frz) (.Call (.Attribute o nm apos) (e :: es) [] pos) (mtdE nm n dp f fs) := .mk fun F0 H0 F ρ σ H Q S q => by
  unfold mtdE at q
  cases z : f ρ with
  | exc y => rw [z] at q; exact q.elim
  | stuck => rw [z] at q; exact q.elim
  | ok d =>
    rw [z] at q
    simp only at q
    cases zr : recv nm dp d with
    | none => rw [zr] at q; exact q.elim
    | some M =>
      rw [zr] at q
      obtain ⟨c, ns, vs, rfl, z2, zd⟩ := recv_inv zr
      obtain ⟨C, c1, c2, l, g, fd, ps, hl, hm, FO, hb⟩ := hD c M zd
      refine canE_of (pe_methS pe_can c2 hm FO (hr.mono hl) hb (passAtB J.tk) pa_can hst hpl ht) (ho.run F0 H0 F ρ σ H _ S ?_)
      rw [z]
      intro v F1 H1 x1 r1
      obtain ⟨a, C', dx, fs', rfl, h0, h1, h2, h3⟩ := vw_ins (H := H1) r1.vw
      rw [c1] at h0
      cases h0
      subst h2
      refine ⟨a, dx, fs', rfl, x1.sub _ _ h1, lkD_none h3 z2, ha.run F0 H0 F1 ρ σ H1 _ (S.step x1) ?_⟩
      refine ((PostR.bind q).grow x1).imp fun ds _ q1 us F2 H2 x2 ra => ?_
      by_cases hn : ds.length + 1 = n
      · rw [if_pos hn] at q1
        exact mtd_post x1 x2 (.ins c1 h1 rfl h3) ra.frz_iff hn q1
      · rw [if_neg hn] at q1
        exact q1.elim
theorem pu_meth0 (J : Jx X k G W) (hD : ∀ c M, dp c = some M → ∃ C, k.ci c = some C ∧ MtC W.nn X k nm n lvl ro C M) (hr : Room lvl X.A) (ho : PuE X k G W m1 o f)
    (ht : eval (.Call (.Attribute o nm apos) [] [] pos) X.env = (do
      let ov ← eval o X.env
      standAt apos.atName
      let (f, first) ← holding [ov] (getMethod ov nm pl)
      callWith pos f first (backTo pos (starEach [] X.env)) (backToKw pos (keywordEach [] X.env))) := by rfl) :
    PuE X k G W (if ro then .own else .frz) (.Call (.Attribute o nm apos) [] [] pos) (mtdE nm n dp f aNil) := .mk fun F0 H0 F ρ σ H Q S q => by
  unfold mtdE at q
  cases z : f ρ with
  | exc y => rw [z] at q; exact q.elim
  | stuck => rw [z] at q; exact q.elim
  | ok d =>
    rw [z] at q
    simp only at q
    cases zr : recv nm dp d with
    | none => rw [zr] at q; exact q.elim
    | some M =>
      rw [zr] at q
      obtain ⟨c, ns, vs, rfl, z2, zd⟩ := recv_inv zr
      obtain ⟨C, c1, c2, l, g, fd, ps, hl, hm, FO, hb⟩ := hD c M zd
      refine canE_of (pe_methS0 pe_can c2 hm FO (hr.mono hl) hb (passAtB J.tk) ht) (ho.run F0 H0 F ρ σ H _ S ?_)
      rw [z]
      intro v F1 H1 x1 r1
      obtain ⟨a, C', dx, fs', rfl, h0, h1, h2, h3⟩ := vw_ins (H := H1) r1.vw
      rw [c1] at h0
      cases h0
      subst h2
      refine ⟨a, dx, fs', rfl, x1.sub _ _ h1, lkD_none h3 z2, ?_⟩
      have q1 := PostR.bind q
      have q1 : PostR k F H W σ _ (if ([] : List D).length + 1 = n then M [.ins c (fs'.map (·.1)) vs] else .stuck) := q1
      by_cases hn : ([] : List D).length + 1 = n
      · rw [if_pos hn] at q1
        exact mtd_post x1 (Ext.refl x1.sub) (.ins c1 h1 rfl h3) .nil hn q1
      · rw [if_neg hn] at q1
        exact q1.elim
end

/-! ### __init__, and C(..) -/
def IniC (K : PySem.W.Frag) (C : Addr) (ns : List Str) : Prop := Cls K C ∧ ∀ f ∈ ns, NoAttr K C f
/-- the promise of an __init__: n parameters behind self; the fields ns get what M tells -/
def spI (k : KC) (n : Nat) (ns : List Str) (M : List D → R (List D)) : Sp := fun vs H Q _ => ∃ (F : Hp) (x C dx : Addr) (us : List V) (ds es : List D), vs = .ref x :: us ∧ us.length = n ∧ IniC k.K C ns ∧ H x = some (.ins C dx []) ∧ F x = none ∧ Same F H ∧ DvAll k F us ds ∧ M ds = .ok es ∧
  ∀ F' H' ws, Ext F (del H x) F' (del H' x) → ws.length = ns.length → H' x = some (.ins C dx (ns.zip ws)) → DvAll k F' ws es → Q .non H'
structure PuN (X : Cx) (k : KC) (W : WE) (sts : List Stmt) (ns : List Str) (g : Env → R (List D)) : Prop where
  run : ∀ (F0 H0 F : Hp) (r : Env) (σ : Sl) (H : Hp) (x C dx : Addr) (acc : List (Str × V)) (es : List D) (Dn : Ends), St4 k [] F0 H0 F r σ H → σ[0]? = some (some (.ref x)) → H x = some (.ins C dx acc) → F x = none → H0 x = none → IniC X.K C ns →
    acc.length + ns.length ≤ 100 → (∀ f ∈ ns, f ∉ acc.map (·.1)) → g r = .ok es →
    (∀ F' H' ws, Ext F (del H x) F' (del H' x) → ws.length = ns.length → H' x = some (.ins C dx (acc ++ ns.zip ws)) → DvAll k F' ws es → Dn.nx σ H') → canB X sts Dn σ H
theorem putF_new {f : Str} {v : V} : ∀ {fs : List (Str × V)}, f ∉ fs.map (·.1) → putF f v fs = fs ++ [(f, v)]
  | [], _ => rfl
  | (g, x) :: r, h => by
    have h1 : ¬ g = f := fun z => h (by simp [z])
    have h2 : f ∉ r.map (·.1) := fun z => h (by simp only [List.map_cons, List.mem_cons]; exact .inr z)
    rw [show putF f v ((g, x) :: r) = (if g = f then (g, v) :: r else (g, x) :: putF f v r) from rfl, if_neg h1, putF_new h2]
    rfl
theorem del_upd {H : Hp} {x : Addr} {o : HO} : del (upd H x o) x = del H x := by
  funext b
  by_cases hb : b = x
  · rw [hb, del_same, del_same]
  · rw [del_ne hb, del_ne hb, upd_ne hb]
theorem Ext.delx {F H F' H' : Hp} {x : Addr} {o : HO} (e : Ext F H F' H') (h : H x = some o) (hf : F x = none) : Ext F (del H x) F' (del H' x) ∧ F' x = none := by
  have fx : F' x = none := e.new x hf (by rw [h]; exact fun z => by cases z)
  refine ⟨⟨e.sf, fun b u z => ?_, fun b u z => ?_, fun b h1 h2 => ?_⟩, fx⟩
  · by_cases hb : b = x
    · rw [hb, del_same] at z; cases z
    · rw [del_ne hb] at z ⊢; exact e.sh _ _ z
  · by_cases hb : b = x
    · rw [hb, fx] at z; cases z
    · rw [del_ne hb]; exact e.sub _ _ z
  · by_cases hb : b = x
    · rw [hb]; exact fx
    · rw [del_ne hb] at h2; exact e.new b h1 h2
theorem St4.at0 {k : KC} {F0 H0 F : Hp} {r : Env} {σ : Sl} {H H2 : Hp} {x : Addr} (S : St4 k [] F0 H0 F r σ H) (h0 : H0 x = none) (hf : F x = none) (e : ∀ b, b ≠ x → H2 b = H b) : St4 k [] F0 H0 F r σ H2 where
  ext := ⟨S.ext.sf, fun b u z => by
      have hb : b ≠ x := fun q => by rw [q, h0] at z; cases z
      rw [e b hb]; exact S.ext.sh _ _ z, fun b u z => by
      have hb : b ≠ x := fun q => by rw [q, hf] at z; cases z
      rw [e b hb]; exact S.ext.sub _ _ z, S.ext.new⟩
  len := S.len
  frz := S.frz
  own := fun i d e g => by cases i <;> cases g
  sep := fun i j d e p _ _ g => by cases i <;> cases g
  pin := fun i a h => by cases i <;> cases h
  lk := fun i p d h => by cases i <;> cases h
  dp := ⟨fun _ => [], fun i _ _ _ h => (by cases i <;> cases h), fun _ _ => rfl, fun _ => List.nodup_nil, fun _ _ h => (nomatch h), fun _ _ _ h => (nomatch h), fun _ _ _ _ _ _ _ => List.not_mem_nil⟩
section
variable {X : Cx} {k : KC} {W : WE} {sts : List Stmt} {ns : List Str} {g : Env → R (List D)} {e : Expr} {f : Env → R D} {nm self : Str} {p1 p2 pos pos2 : Pos} {m1 : Mo}
theorem pun_nil : PuN X k W [] [] aNil := .mk fun F0 H0 F r σ H x C dx acc es Dn S e hx hf h0 ic hl hn hg q => by
  cases hg
  refine canB_of pss_nil ?_
  have : Ext F (del H x) F (del H x) := Ext.refl fun b u z => by
    have hb : b ≠ x := fun q => by rw [q, hf] at z; cases z
    rw [del_ne hb]; exact S.sub _ _ z
  exact q F H [] this rfl (by simpa using hx) .nil
theorem pun_set (ha : PuE X k [] W .frz e f) (hr : PuN X k W sts ns g) (hN : X.N[0]? = some self) (hv : Vis X.env.scope self) (hnd : nm ∉ ns) (hd : (self == ("__debug__" : Str)) = false := by decide) (hcd : (self == ("__classdict__" : Str)) = false := by decide)
    (hs : swapsWith e (some (.Attribute (.Name self p1) nm p2)) pos.line X.env = pure false := by rfl) :
    PuN X k W (.Assign [.Attribute (.Name self p1) nm p2] e pos :: sts) (nm :: ns) (aCons f g) := .mk fun F0 H0 F r σ H x C dx acc es Dn S e1 hx hf h0 ic hl hn hg q => by
  have hg : (f r >>= fun v => g r >>= fun vs => .ok (v :: vs)) = .ok es := hg
  cases zf : f r with
  | exc y => rw [zf] at hg; cases hg
  | stuck => rw [zf] at hg; cases hg
  | ok d =>
    cases zg : g r with
    | exc y => rw [zf, zg] at hg; cases hg
    | stuck => rw [zf, zg] at hg; cases hg
    | ok rest =>
      rw [zf, zg] at hg
      cases hg
      refine canB_of (pss_cons (ps_fld (pe_var (i := 0) hN hv hd hcd) pe_can hs) pb_can) (ha.run F0 H0 F r σ H _ S ?_)
      rw [zf]
      intro v F1 H1 x1 dv
      have dv : Dv k F1 v d := dv
      have hx1 := x1.sh _ _ hx
      obtain ⟨y1, f1⟩ := x1.delx hx hf
      simp only [List.length_cons] at hl
      refine ⟨_, e1, x, C, dx, acc, rfl, hx1, ic.1, ic.2 nm (by simp), by omega, ?_⟩
      have hput : putF nm v acc = acc ++ [(nm, v)] := putF_new (hn nm (by simp))
      rw [hput]
      refine hr.run F0 H0 F1 r σ _ x C dx (acc ++ [(nm, v)]) rest _ ((S.step x1).at0 h0 f1 fun b hb => upd_ne hb) e1 upd_same f1 h0 ⟨ic.1, fun z hz => ic.2 z (List.mem_cons_of_mem _ hz)⟩ (by simp; omega) (fun z hz => ?_) zg fun F' H' ws x2 hw hx' dvs => ?_
      · rw [List.map_append, List.mem_append]
        rintro (h1 | h1)
        · exact hn z (List.mem_cons_of_mem _ hz) h1
        · simp only [List.map_cons, List.map_nil, List.mem_singleton] at h1
          exact hnd (h1 ▸ hz)
      · rw [del_upd] at x2
        exact q F' H' (v :: ws) (y1.trans x2) (by simp [hw]) (by rw [hx']; simp) (.cons (dv.mono x2.sf) dvs)
/-- .. where nothing is kept yet -/
structure PuZ (X : Cx) (k : KC) (W : WE) (sts : List Stmt) (ns : List Str) (g : Env → R (List D)) : Prop where
  run : ∀ (F0 H0 F : Hp) (r : Env) (σ : Sl) (H : Hp) (x C dx : Addr) (es : List D) (Dn : Ends), St4 k [] F0 H0 F r σ H → σ[0]? = some (some (.ref x)) → H x = some (.ins C dx []) → F x = none → H0 x = none → IniC X.K C ns →
    ns.length ≤ 100 → g r = .ok es →
    (∀ F' H' ws, Ext F (del H x) F' (del H' x) → ws.length = ns.length → H' x = some (.ins C dx (ns.zip ws)) → DvAll k F' ws es → Dn.nx σ H') → canB X sts Dn σ H
theorem puz_of (h : PuN X k W sts ns g) : PuZ X k W sts ns g := .mk fun F0 H0 F r σ H x C dx es Dn S e hx hf h0 ic hl hg q =>
  h.run F0 H0 F r σ H x C dx [] es Dn S e hx hf h0 ic (by simpa using hl) (fun _ _ z => by cases z) hg fun F' H' ws x1 hw hx' => q F' H' ws x1 hw (by rw [hx']; rfl)
/-- B.__init__(self, ..) -/
structure SupI (K : PySem.W.Frag) (B fI : Addr) : Prop where
  rd : PySem.W.readsIn K B (.type "type") = true
  ga : PySem.W.specialIn K (.ref B) "__getattribute__" = some (some (.builtin "type.__getattribute__"))
  at_ : PySem.W.findCls K (.ref B) (.type "type") "__init__" = some (.val (.ref fI))
  kp : PySem.W.keepIn K (.ref fI) = true
theorem pe_supi {CX : CXT} {lvl : Nat} {B fI : Addr} {fd : FuncData} {ps : List Str} {sp : Sp} {E : XK} {o : Expr} {es : List Expr} {apos : Pos} {t : TA} {pl : Sem Bool} (he : PE X o (tC (.ref B))) (r : SupI X.K B fI) (F : FnOk X.prog X.w X.K X.mg X.base CX lvl fI fd ps sp) (hr : Room lvl X.A) (hb : Binds X.K fd ps []) (hx : Passes CX X E) (ha : PA X (e :: es) t)
    (hst : starEach (e :: es) X.env = (false, eval e X.env) :: starEach es X.env) (hpl : (backTo pos (starEach es X.env)).any (·.1) = false)
    (ht : eval (.Call (.Attribute o "__init__" apos) (e :: es) [] pos) X.env = (do
      let ov ← eval o X.env
      standAt apos.atName
      let (f, first) ← holding [ov] (getMethod ov "__init__" pl)
      callWith pos f first (backTo pos (starEach (e :: es) X.env)) (backToKw pos (keywordEach [] X.env)))) :
    PE X (.Call (.Attribute o "__init__" apos) (e :: es) [] pos) (fun σ H Q => t σ H fun vs H1 => sp vs H1 Q E) := by
  refine ⟨fun pins s σ H Q I h => ?_⟩
  refine PySem.W.methodCall_KW (pl := pl) (thn (he.run pins s σ H (fun v H1 => v = .ref B ∧ H1 = H) I ⟨rfl, rfl⟩) fun u s1 ⟨x, H1, I1, rx, ex, eH⟩ => ?_) ht
  subst ex
  subst eH
  obtain rfl : u = Value.ref B := rx
  refine PySem.W.method_cls I1.kIn r.ga (PySem.W.cls_value I1.kIn r.rd r.at_ rfl ?_)
  have I2 := I1.tok (s1.toks + 1)
  refine PySem.W.callWith_K (first := []) (h₀ := X.base) I.ok.mod.kin r.kp (thn (ha.run pos pins _ σ H1 _ I2 h) fun us s2 ⟨vs, H2, I3, rr, q2⟩ => ⟨I3.kIn, ?_⟩) hst hpl
  exact run_fn F hr hb .nil hx I3 rr (by simpa using q2)
def supG (n : Nat) (M : List D → R (List D)) (fs g : Env → R (List D)) : Env → R (List D) := fun r => fs r >>= fun ds => if ds.length = n then M ds >>= fun a => g r >>= fun b => .ok (a ++ b) else .stuck
theorem passF {nn : Bool} : Passes (CXb nn X.prog X.w) X fun _ _ _ => False := fun pins σ H s e s' I h => by
  cases nn with
  | false =>
    obtain ⟨_, _, _, _, _, _, _, _, _, _, _, _, z⟩ := h
    exact z.elim
  | true =>
    obtain ⟨_, _, _, _, _, _, _, _, _, _, _, _, z⟩ := h
    exact z.elim
theorem zip_app {α β : Type} : ∀ {a c : List α} {b d : List β}, b.length = a.length → (a ++ c).zip (b ++ d) = a.zip b ++ c.zip d
  | [], c, [], d, _ => rfl
  | [], c, _ :: _, d, h => by cases h
  | _ :: _, c, [], d, h => by cases h
  | x :: a, c, y :: b, d, h => by
    simp only [List.length_cons, Nat.add_right_cancel_iff] at h
    simp only [List.cons_append, List.zip_cons_cons, zip_app (a := a) (b := b) h]
theorem zip_fst {α β : Type} : ∀ {a : List α} {b : List β}, b.length = a.length → (a.zip b).map (·.1) = a
  | [], [], _ => rfl
  | [], _ :: _, h => by cases h
  | _ :: _, [], h => by cases h
  | x :: a, y :: b, h => by
    simp only [List.length_cons, Nat.add_right_cancel_iff] at h
    simp only [List.zip_cons_cons, List.map_cons, zip_fst h]
theorem zip_snd {α β : Type} : ∀ {a : List α} {b : List β}, b.length = a.length → (a.zip b).map (·.2) = b
  | [], [], _ => rfl
  | [], _ :: _, h => by cases h
  | _ :: _, [], h => by cases h
  | x :: a, y :: b, h => by
    simp only [List.length_cons, Nat.add_right_cancel_iff] at h
    simp only [List.zip_cons_cons, List.map_cons, zip_snd h]
theorem puz_super {lvl n : Nat} {B fI : Addr} {fd : FuncData} {ps : List Str} {cn : Str} {es : List Expr} {fs : Env → R (List D)} {nsB : List Str} {MB : List D → R (List D)} {apos pos3 : Pos} {pl : Sem Bool} (hk : k.K = X.K) (r : SupI X.K B fI) (FO : FnOk X.prog X.w X.K X.mg X.base (CXb W.nn X.prog X.w) lvl fI fd ps (spI k n nsB MB)) (hr : Room lvl X.A) (hb : Binds X.K fd ps [])
    (hm : X.mg cn = some (.ref B)) (ha : PuA X k [] W .frz es fs) (hrest : PuN X k W sts ns g) (hN : X.N[0]? = some self) (hv : Vis X.env.scope self) (hdis : ∀ f ∈ ns, f ∉ nsB) (hgB : L2.Gl X cn := by rfl) (hdB : (cn == ("__debug__" : Str)) = false := by decide) (hd : (self == ("__debug__" : Str)) = false := by decide) (hcd : (self == ("__classdict__" : Str)) = false := by decide)
    (hst : starEach (.Name self p1 :: es) X.env = (false, eval (.Name self p1) X.env) :: starEach es X.env := by rfl) (hpl : (backTo pos (starEach es X.env)).any (·.1) = false := by rfl)
    (ht : eval (.Call (.Attribute (.Name cn p2) "__init__" apos) (.Name self p1 :: es) [] pos) X.env = (do
      let ov ← eval (.Name cn p2) X.env
      standAt apos.atName
      let (f, first) ← holding [ov] (getMethod ov "__init__" pl)
      callWith pos f first (backTo pos (starEach (.Name self p1 :: es) X.env)) (backToKw pos (keywordEach [] X.env))) := by rfl) :
    PuZ X k W (.Expr (.Call (.Attribute (.Name cn p2) "__init__" apos) (.Name self p1 :: es) [] pos) pos3 :: sts) (nsB ++ ns) (supG n MB fs g) := .mk fun F0 H0 F r0 σ H x C dx es0 Dn S e1 hx hf h0 ic hl hg q => by
  have hg : (fs r0 >>= fun ds => if ds.length = n then MB ds >>= fun a => g r0 >>= fun b => .ok (a ++ b) else .stuck) = .ok es0 := hg
  cases zf : fs r0 with
  | exc y => rw [zf] at hg; cases hg
  | stuck => rw [zf] at hg; cases hg
  | ok ds =>
    by_cases hn : ds.length = n
    case neg => rw [zf] at hg; simp only [R.ok_bind, if_neg hn] at hg; cases hg
    cases zm : MB ds with
    | exc y => rw [zf] at hg; simp only [R.ok_bind, if_pos hn, zm] at hg; cases hg
    | stuck => rw [zf] at hg; simp only [R.ok_bind, if_pos hn, zm] at hg; cases hg
    | ok a =>
      cases zg : g r0 with
      | exc y => rw [zf] at hg; simp only [R.ok_bind, if_pos hn, zm, zg] at hg; cases hg
      | stuck => rw [zf] at hg; simp only [R.ok_bind, if_pos hn, zm, zg] at hg; cases hg
      | ok b =>
        rw [zf] at hg
        simp only [R.ok_bind, if_pos hn, zm, zg] at hg
        cases hg
        refine canB_of (pss_cons (ps_expr (pe_supi (pe_glob (v := .ref B) hgB hm rfl hdB) r FO hr hb passF (pa_cons (pe_var (i := 0) hN hv hd hcd) pa_can hst) hst hpl ht)) pb_can) ?_
        refine ⟨_, e1, ha.run F0 H0 F r0 σ H _ S ?_⟩
        rw [zf]
        intro us F1 H1 x1 ra
        have dv := ra.frz_iff
        obtain ⟨y1, f1⟩ := x1.delx hx hf
        have hx1 := x1.sh _ _ hx
        refine ⟨F1, x, C, dx, us, ds, a, rfl, by rw [dv.length, hn], ⟨hk ▸ ic.1, fun z hz => hk ▸ ic.2 z (List.mem_append_left _ hz)⟩, hx1, f1, x1.sub, dv, zm, fun F2 H2 ws x2 hw hx2 dvs => ?_⟩
        have f2 : F2 x = none := by
          cases z : F2 x with
          | none => rfl
          | some o =>
            have := x2.sub _ _ z
            rw [del_same] at this
            cases this
        have S2 : St4 k [] F0 H0 F2 r0 σ H2 := by
          have S1 := (S.step x1).at0 (H2 := del H1 x) h0 f1 fun b hb => del_ne hb
          refine ((S1.step x2).at0 (H2 := H2) h0 f2 fun b hb => (del_ne hb).symm)
        refine hrest.run F0 H0 F2 r0 σ H2 x C dx (nsB.zip ws) b Dn S2 e1 hx2 f2 h0 ⟨ic.1, fun z hz => ic.2 z (List.mem_append_right _ hz)⟩ ?_ (fun z hz hz2 => ?_) zg fun F3 H3 vs x3 hv3 hx3 dv3 => ?_
        · rw [List.length_zip, hw, Nat.min_self]
          rw [List.length_append] at hl
          exact hl
        · rw [zip_fst hw] at hz2
          exact hdis z hz hz2
        · refine q F3 H3 (ws ++ vs) (y1.trans (x2.trans x3)) (by rw [List.length_append, List.length_append, hw, hv3]) (by rw [hx3, zip_app hw]) ((dvs.mono x3.sf).append dv3)
variable {P : Program} {w : World} {K : PySem.W.Frag} {mg : Str → Option Value} {base : Heap}
theorem pu_init {nn : Bool} {qual : Str} {st : Stmt} {fI : Addr} {fd : FuncData} {N : List Str} {lvl n : Nat} {ns : List Str} (hNl : N.length = n + 1) (F : Fun K "__init__" qual st fI fd) (S : FnScope N N (defScope st)) (hk : k.K = K) (hns : ns.length ≤ 100)
    (hbody : ∀ (cdv : Value) (A : Around) (outer : List PySem.Env) (s : Shared) (H : Hp) (E : XK), Room lvl (cxOf (CXb nn P w) P w K mg base N qual (defScope st) fI cdv A outer s H E).A → Jc (cxOf (CXb nn P w) P w K mg base N qual (defScope st) fI cdv A outer s H E) →
      ∀ wv ge, (∀ {G : List Md}, Jx (cxOf (CXb nn P w) P w K mg base N qual (defScope st) fI cdv A outer s H E) k G ⟨wv, ge, nn⟩) → PuZ (cxOf (CXb nn P w) P w K mg base N qual (defScope st) fI cdv A outer s H E) k ⟨wv, ge, nn⟩ (defBody st) ns g) :
    FnOk P w K mg base (CXb nn P w) (lvl + 1) fI fd N (spI k n ns fun ds => g (none :: ds.map some)) := by
  refine okXb F S (fun vs H Q E h => ?_) (fun cdv A outer s H vs Q E hr h => ?_)
  · obtain ⟨F0, x, C, dx, us, ds, es, rfl, hl, _⟩ := h
    rw [List.length_cons, hl, hNl]
  · obtain ⟨F0, x, C, dx, us, ds, es, rfl, hl, ic, hx, hf, sm, dv, hg, q⟩ := h
    have body := hbody cdv A outer s H E hr ⟨rfl, passes_of rfl⟩ (fun cls d _ H => E cls d H) gAny ⟨hk, S.nd, takesB, okN⟩
    have sd : Same F0 (del H x) := fun b u z => by
      have hb : b ≠ x := fun q => by rw [q, hf] at z; cases z
      rw [del_ne hb]; exact sm _ _ z
    have est : start N (V.ref x :: us) = (V.ref x :: us).map some := by
      unfold L2.start
      rw [List.length_cons, hl, hNl, Nat.sub_self]
      simp
    have S0 : St4 k [] F0 (del H x) F0 (none :: ds.map some) (start N (V.ref x :: us)) H := by
      rw [est]
      refine ⟨⟨Same.refl F0, fun b u z => ?_, sm, fun b h1 _ => h1⟩, by simp [dv.length], fun i d e g => ?_, fun i d e g => (by cases i <;> cases g), fun i j d e p _ _ g => (by cases i <;> cases g), fun i a h => (by cases i <;> cases h), fun i p d h => (by cases i <;> cases h), fun _ => [], fun i _ _ _ h => (by cases i <;> cases h), fun _ _ => rfl, fun _ => List.nodup_nil, fun _ _ h => (nomatch h), fun _ _ _ h => (nomatch h), fun _ _ _ _ _ _ _ => List.not_mem_nil⟩
      · by_cases hb : b = x
        · rw [hb, del_same] at z; cases z
        · rw [del_ne hb] at z; exact z
      · cases i with
        | zero => cases e
        | succ i =>
          rw [List.getElem?_cons_succ, List.getElem?_map] at e
          cases z : ds[i]? with
          | none => rw [z] at e; cases e
          | some y =>
            rw [z] at e
            cases e
            obtain ⟨v, h1, h2⟩ := dv.get z
            exact ⟨v, by rw [List.map_cons, List.getElem?_cons_succ, List.getElem?_map, h1]; rfl, h2⟩
    refine ⟨_, pb_can, body.run F0 (del H x) F0 _ _ H x C dx es _ S0 (by rw [est]; rfl) hx hf del_same (hk ▸ ic) hns hg fun F' H' ws x1 hw hx' dvs => ?_⟩
    exact q F' H' ws x1 hw hx' dvs
end
/-- C(e, ..) -/
def mkE (c : Nat) (ns : List Str) (n : Nat) (M : List D → R (List D)) (fs : Env → R (List D)) : Env → R D := fun r => fs r >>= fun ds => if ds.length = n then (match M ds with | .ok vs => .ok (.ins c ns vs) | _ => .stuck) else .stuck
section
variable {X : Cx} {k : KC} {G : List Md} {W : WE} {lvl n c : Nat} {C fI : Addr} {fd : FuncData} {ps ns : List Str} {M : List D → R (List D)} {x : Str} {e : Expr} {es : List Expr} {fs : Env → R (List D)} {p pos : Pos}
theorem pu_make (J : Jx X k G W) (ct : k.ci c = some C) (ic : IniC X.K C ns) (Mk' : Mk X.K C fI) (F : FnOk X.prog X.w X.K X.mg X.base (CXb W.nn X.prog X.w) lvl fI fd ps (spI k n ns M)) (hr : Room (lvl + 1) X.A) (hm : X.mg x = some (.ref C)) (hb : Binds X.K fd ps [])
    (ha : PuA X k G W .frz (e :: es) fs) (hg : L2.Gl X x := by rfl) (hdb : (x == ("__debug__" : Str)) = false := by decide) (he : starEach (e :: es) X.env = (false, eval e X.env) :: starEach es X.env := by rfl) (hpl : (backTo pos (starEach es X.env)).any (·.1) = false := by rfl) :
    PuE X k G W .frz (.Call (.Name x p) (e :: es) [] pos) (mkE c ns n M fs) := .mk fun F0 H0 F1 ρ σ H Q S q => by
  refine canE_of (pe_make Mk' F hr hg hm hb .nil passF pa_can hdb he hpl) (ha.run F0 H0 F1 ρ σ H _ S ?_)
  refine (PostR.bind q).imp fun ds _ q1 us F2 H2 x2 rv a dx na ndx hne => ?_
  by_cases hl : ds.length = n
  · rw [if_pos hl] at q1
    cases z : M ds with
    | exc y => rw [z] at q1; exact q1.elim
    | stuck => rw [z] at q1; exact q1.elim
    | ok vs =>
      rw [z] at q1
      have q1 : ∀ v F' H', Ext F1 H F' H' → Res k .frz H F' H' v (.ins c ns vs) → Q v H' := q1
      have dv := rv.frz_iff
      have fa : F2 a = none := x2.sub.free na
      have s2 : Same F2 (upd (upd H2 dx (.own a)) a (.ins C dx [])) := fun b u e => by
        have e' := x2.sub _ _ e
        rw [upd_ne (ne_of_none e' na), upd_ne (ne_of_none e' ndx)]
        exact e'
      refine ⟨F2, a, C, dx, us, ds, vs, by simp, by rw [dv.length, hl], J.kk ▸ ic, upd_same, fa, s2, dv, z, fun F' H' ws x3 hw hx' dvs => ⟨rfl, ?_⟩⟩
      rw [del_upd] at x3
      have hd : ∀ b o, H2 b = some o → del (upd H2 dx (.own a)) a b = some o := fun b o e => by
        rw [del_ne (ne_of_none e na), upd_ne (ne_of_none e ndx)]
        exact e
      have f3 : F' a = none := by
        cases z : F' a with
        | none => rfl
        | some o =>
          have := x3.sub _ _ z
          rw [del_same] at this
          cases this
      have sfu : Same F' (upd F' a (.ins C dx (ns.zip ws))) := fun b u e => by rw [upd_ne (ne_of_none e f3)]; exact e
      refine q1 (.ref a) (upd F' a (.ins C dx (ns.zip ws))) H' (x2.trans ⟨x3.sf.trans sfu, fun b u e => ?_, fun b u e => ?_, fun b h1 h2 => ?_⟩) (.ins ct upd_same (zip_fst hw) (by rw [zip_snd hw]; exact dvs.mono sfu))
      · have y := x3.sh _ _ (hd _ _ e)
        rw [del_ne (ne_of_none e na)] at y
        exact y
      · by_cases hb : b = a
        · rw [hb, upd_same] at e
          cases e
          rw [hb]
          exact hx'
        · rw [upd_ne hb] at e
          have y := x3.sub _ _ e
          rw [del_ne hb] at y
          exact y
      · obtain ⟨o, e⟩ := some_of_ne h2
        have hb := ne_of_none e na
        rw [upd_ne hb]
        refine x3.new b h1 ?_
        rw [hd _ _ e]
        exact fun z => by cases z
  · rw [if_neg hl] at q1
    exact q1.elim
end

/-! ### which def a class's instances answer with -/
def dpL : List (Option (List D → R D)) → Nat → Option (List D → R D)
  | [], _ => none
  | o :: _, 0 => o
  | _ :: r, n + 1 => dpL r n
def DpOk (nn : Bool) (X : Cx) (k : KC) (nm : Str) (n lvl : Nat) (ro : Bool) : Nat → List (Option (List D → R D)) → Prop
  | _, [] => True
  | i, o :: r => (∀ M, o = some M → ∃ C, k.ci i = some C ∧ MtC nn X k nm n lvl ro C M) ∧ DpOk nn X k nm n lvl ro (i + 1) r
theorem DpOk.at {nn : Bool} {X : Cx} {k : KC} {nm : Str} {n lvl : Nat} {ro : Bool} : ∀ {l : List (Option (List D → R D))} {i : Nat}, DpOk nn X k nm n lvl ro i l → ∀ c M, dpL l c = some M → ∃ C, k.ci (i + c) = some C ∧ MtC nn X k nm n lvl ro C M
  | [], _, _, _, _, h => by cases h
  | o :: r, i, h, 0, M, e => h.1 M e
  | o :: r, i, h, c + 1, M, e => by
    have := DpOk.at h.2 c M e
    rwa [show i + 1 + c = i + (c + 1) by omega] at this
theorem dp_all {nn : Bool} {X : Cx} {k : KC} {nm : Str} {n lvl : Nat} {ro : Bool} {l : List (Option (List D → R D))} (h : DpOk nn X k nm n lvl ro 0 l) : ∀ c M, dpL l c = some M → ∃ C, k.ci c = some C ∧ MtC nn X k nm n lvl ro C M := fun c M e => by
  have := h.at c M e
  rwa [Nat.zero_add] at this
theorem dp_none {nn : Bool} {X : Cx} {k : KC} {nm : Str} {n lvl : Nat} {ro : Bool} {i : Nat} : ∀ M, (none : Option (List D → R D)) = some M → ∃ C, k.ci i = some C ∧ MtC nn X k nm n lvl ro C M := fun M h => by cases h
theorem dp_some {nn : Bool} {X : Cx} {k : KC} {nm : Str} {n lvl l : Nat} {ro : Bool} {i : Nat} {C f : Addr} {fd : FuncData} {ps : List Str} {M0 : List D → R D} (ct : k.ci i = some C) (cl : Cls X.K C) (hl : l ≤ lvl) (hm : Meth X.K C nm f) (F : FnOk X.prog X.w X.K X.mg X.base (CXb nn X.prog X.w) l f fd ps (spP k n M0 ro)) (hb : Binds X.K fd ps []) :
    ∀ M, (some M0 : Option (List D → R D)) = some M → ∃ C, k.ci i = some C ∧ MtC nn X k nm n lvl ro C M := fun M h => by
  cases h
  exact ⟨C, ct, cl, l, f, fd, ps, hl, hm, F, hb⟩
def NoAll (K : PySem.W.Frag) (C : Addr) : List Str → Prop
  | [] => True
  | f :: r => NoAttr K C f ∧ NoAll K C r
theorem NoAll.mem {K : PySem.W.Frag} {C : Addr} : ∀ {l : List Str}, NoAll K C l → ∀ f ∈ l, NoAttr K C f
  | [], _, f, h => by cases h
  | g :: r, h, f, hf => by
    rcases List.mem_cons.mp hf with rfl | hf
    · exact h.1
    · exact NoAll.mem h.2 f hf
theorem ini_of {K : PySem.W.Frag} {C : Addr} {ns : List Str} (c : Cls K C) (n : NoAll K C ns) : IniC K C ns := ⟨c, n.mem⟩
/-! ### defs with defaults -/
section
variable {P : Program} {w : World} {K : PySem.W.Frag} {mg : Str → Option Value} {base : Heap}
theorem pu_defD {nn : Bool} {x qual : Str} {st : Stmt} {dvs : List V} {f : Addr} {fd : FuncData} {N ps : List Str} {lvl : Nat} {k : KC} {ro : Bool} {m : List D → R D} (nN n : Nat) (G Gn : List Md) (b : Env → SR) (hm : m = runD nN b) (hNl : N.length = nN) (hnl : ps.length = n) (F : FunD K x qual (defArgs st) (defBody st) (defScope st) dvs [] f fd) (S : FnScope N ps (defScope st)) (hk : k.K = K)
    (np : noPin G = true) (hG : ∀ i, i < ps.length → nf G i ≠ true) (hnx : ro = true → ∀ r r', b r ≠ .nx r')
    (hbody : ∀ (cdv : Value) (A : Around) (outer : List PySem.Env) (s : Shared) (H : Hp) (E : XK), Room lvl (cxOf (CXb nn P w) P w K mg base N qual (defScope st) f cdv A outer s H E).A → Jc (cxOf (CXb nn P w) P w K mg base N qual (defScope st) f cdv A outer s H E) →
      ∀ wv ge, (∀ {G : List Md}, Jx (cxOf (CXb nn P w) P w K mg base N qual (defScope st) f cdv A outer s H E) k G ⟨wv, ge, nn⟩) → PuB (cxOf (CXb nn P w) P w K mg base N qual (defScope st) f cdv A outer s H E) k G Gn Gn ⟨wv, ge, nn⟩ (rmB ro) (defBody st) b) :
    FnOk P w K mg base (CXb nn P w) (lvl + 1) f fd ps (spP k n m ro) := by
  subst hm hNl hnl
  refine F.ok S (fun vs H Q E h => ?_) (fun cdv A outer s H vs Q E hr h => ?_)
  · obtain ⟨F, ds, _, dv, hl, _⟩ := h
    rw [dv.length, hl]
  · obtain ⟨F, ds, sm, dv, hl, q⟩ := h
    have body := hbody cdv A outer s H E hr ⟨rfl, passes_of rfl⟩ (fun cls d _ H => E cls d H) gAny ⟨hk, S.nd, takesB, okN⟩
    refine ⟨_, pb_can, body.run F H F _ _ H _ (St4.start sm dv hl np hG) ?_⟩
    unfold runD at q
    cases z : b (ds.map some ++ List.replicate (N.length - ds.length) none) with
    | nx r =>
      rw [z] at q
      intro F' σ' H' _ S'
      cases ro with
      | false => exact q .non F' H' S'.ext .non
      | true => exact absurd z (hnx rfl _ _)
    | ret d => rw [z] at q; exact fun v F' H' x r => q v F' H' x (by cases ro <;> exact r)
    | bk r => rw [z] at q; exact q.elim
    | ct r => rw [z] at q; exact q.elim
    | exc e r => rw [z] at q; exact fun cls dd G' F1 F' σ' H1 H' _ _ S1 x1 ea => q cls dd F' H' (S1.ext.trans x1) ea
    | stuck => rw [z] at q; exact q.elim
theorem fund_mk {x qual : Str} {st : Stmt} {f T : Addr} {dvs : List V} {its : List Value} {n : Nat} {oc : Value} {od : Option Addr} {kV doc pm : Value} {an : Option Addr} {cdv ct : Value} {osl : Array (Option Value)} {tc : Value} {td : Option Addr} {tsl : Array (Option Value)} (hd : dvs ≠ []) (hv : Vals dvs its)
    (lk : K.lookup f = some ⟨oc, od, .func (PySem.W.fnOf x qual (defArgs st) (defBody st) (defScope st) (.ref T) kV doc pm an cdv ct), osl⟩) (hcd : PySem.W.codeIn K cdv qual = true) (kp : PySem.W.keepIn K (.ref f) = true) (lT : K.lookup T = some ⟨tc, td, .seq its.toArray n, tsl⟩) :
    FunD K x qual (defArgs st) (defBody st) (defScope st) dvs [] f (PySem.W.fnOf x qual (defArgs st) (defBody st) (defScope st) (.ref T) kV doc pm an cdv ct) :=
  ⟨⟨oc, od, .ref T, kV, doc, pm, an, cdv, ct, osl, rfl, lk, hcd, .inr ⟨hd, T, _, its, n, rfl, lT, rfl, hv⟩, .inl rfl⟩, kp⟩
end
/-- f(e, ..), the last parameters by their defaults -/
def callD (n : Nat) (M : List D → R D) (ext : List D) (fs : Env → R (List D)) : Env → R D := fun r => fs r >>= fun ds => if (ds ++ ext).length = n then M (ds ++ ext) else .stuck
section
variable {X : Cx} {k : KC} {G : List Md} {W : WE} {lvl n : Nat} {f : Addr} {fd : FuncData} {ps : List Str} {M : List D → R D} {ro : Bool} {x : Str} {e : Expr} {es : List Expr} {fs : Env → R (List D)} {p pos : Pos} {dvs : List V} {ext : List D}
theorem pu_callD (J : Jx X k G W) (F : FnOk X.prog X.w X.K X.mg X.base (CXb W.nn X.prog X.w) lvl f fd ps (spP k n M ro)) (hr : Room lvl X.A) (hm : X.mg x = some (.ref f)) (hk : PySem.W.keepIn X.K (.ref f) = true) (hb : ∃ ds, Vals dvs ds ∧ Binds X.K fd ps ds) (hx : ∀ F, DvAll k F dvs ext)
    (ha : PuA X k G W .frz (e :: es) fs) (hg : L2.Gl X x := by rfl) (hdb : (x == ("__debug__" : Str)) = false := by decide) (he : starEach (e :: es) X.env = (false, eval e X.env) :: starEach es X.env := by rfl) (hpl : (backTo pos (starEach es X.env)).any (·.1) = false := by rfl) :
    PuE X k G W (if ro then .own else .frz) (.Call (.Name x p) (e :: es) [] pos) (callD n M ext fs) := .mk fun F0 H0 F1 ρ σ H Q S q => by
  obtain ⟨dsv, hv, hb⟩ := hb
  refine canE_of (pe_callSD F hr hg hm hk hb hv (passAtB J.tk) pa_can hdb he hpl) (ha.run F0 H0 F1 ρ σ H _ S ?_)
  refine (PostR.bind q).imp fun ds _ q1 vs F2 H2 x2 rv => ?_
  by_cases hl : (ds ++ ext).length = n
  · rw [if_pos hl] at q1
    refine ⟨F2, ds ++ ext, x2.sub, rv.frz_iff.append (hx F2), hl, ?_⟩
    cases z : M (ds ++ ext) with
    | ok d =>
      rw [z] at q1
      exact fun v F' H' x3 r3 => q1 v F' H' (x2.trans x3) (r3.back x2.sh)
    | exc y =>
      rw [z] at q1
      exact fun cls dd F' H' x3 ea => q1 cls dd F' H' (x2.trans x3) ea
    | stuck => rw [z] at q1; exact q1
  · rw [if_neg hl] at q1
    exact q1.elim
end
/-! ### weakest preconditions -/
section
variable {E : Exc → Prop} {PD : D → Prop} {r : Env} {f : Env → R D} {fs : Env → R (List D)} {n c : Nat} {ns : List Str} {vs : List D} {M : List D → R D} {nm : Str}
def RcW (o : Option (List D → R D)) (N : (List D → R D) → Prop) : Prop := match o with
  | some M => N M
  | none => False
theorem rc_some {M : List D → R D} {N : (List D → R D) → Prop} : RcW (some M) N ↔ N M := Iff.rfl
theorem wp_mtd {dp : Nat → Option (List D → R D)} : (mtdE nm n dp f fs r).wp PD E ↔ (f r).wp (fun x => RcW (recv nm dp x) fun M => (fs r).wp (fun ds => ds.length + 1 = n ∧ (M (x :: ds)).wp PD E) E) noE := by
  unfold mtdE
  cases f r with
  | exc e => exact Iff.rfl
  | stuck => exact Iff.rfl
  | ok x =>
    simp only [wp_ok]
    cases recv nm dp x with
    | none => exact Iff.rfl
    | some M => simp only [RcW, wp_bind, wp_guard]
theorem wp_mkE {Mi : List D → R (List D)} : (mkE c ns n Mi fs r).wp PD E ↔ (fs r).wp (fun ds => ds.length = n ∧ (Mi ds).wp (fun vs => PD (.ins c ns vs)) noE) E := by
  unfold mkE
  simp only [wp_bind, wp_guard]
  have : ∀ ds, (match Mi ds with | .ok vs => R.ok (D.ins c ns vs) | _ => .stuck).wp PD E ↔ (Mi ds).wp (fun vs => PD (.ins c ns vs)) noE := fun ds => by cases Mi ds <;> exact Iff.rfl
  simp only [this]
theorem wp_supG {PL : List D → Prop} {Mi : List D → R (List D)} {g : Env → R (List D)} : (supG n Mi fs g r).wp PL E ↔ (fs r).wp (fun ds => ds.length = n ∧ (Mi ds).wp (fun a => (g r).wp (fun b => PL (a ++ b)) E) E) E := by
  unfold supG
  simp only [wp_bind, wp_guard, wp_ok]
theorem wp_callD {ext : List D} : (callD n M ext fs r).wp PD E ↔ (fs r).wp (fun ds => (ds ++ ext).length = n ∧ (M (ds ++ ext)).wp PD E) E := by
  unfold callD
  simp only [wp_bind, wp_guard]
theorem fld_ok {cs : List Nat} {d : D} (hc : cs.contains c = true) (hl : lkD nm ns vs = some d) : (fldD cs nm (.ins c ns vs)).wp PD E ↔ PD d := by
  simp only [fldD, hc, if_true, hl, wp_ok]
theorem lk_yes {v : D} {l : List Str} {us : List D} : lkD nm (nm :: l) (v :: us) = some v := if_pos rfl
theorem lk_no {m : Str} {v : D} {l : List Str} {us : List D} (h : ¬ m = nm) : lkD nm (m :: l) (v :: us) = lkD nm l us := if_neg h
theorem recv_ok {dp : Nat → Option (List D → R D)} (hl : lkD nm ns vs = none) (hd : dp c = some M) : recv nm dp (.ins c ns vs) = some M := by
  simp only [recv, hl]
  exact hd
end

/-! ### two dicts that hold the same -/
def eqK : D → D → R Bool
  | .dct ks vs, .dct ks' vs' => if ks = ks' ∧ ks.Nodup ∧ (vs.all flatD && vs'.all flatD) = true ∧ vs.map fv = vs'.map fv then .ok true else .stuck
  | _, _ => .stuck
theorem eqK_exc : NoExcC eqK := fun d e x h => by
  cases d with
  | dct ks vs =>
    cases e with
    | dct ks' vs' =>
      simp only [eqK] at h
      split at h
      · exact nomatch h
      · exact nomatch h
    | _ => exact nomatch h
  | _ => exact nomatch h
theorem flat_B {v : D} (h : flatD v = true) : flatB (fv v) = true := by cases v <;> first | rfl | cases h
theorem kd_nodup {ks : List KD} (h : ks.Nodup) : (ks.map kd).Nodup := by
  induction ks with
  | nil => exact List.nodup_nil
  | cons a r ih =>
    rw [List.nodup_cons] at h
    rw [List.map_cons, List.nodup_cons]
    refine ⟨fun z => ?_, ih h.2⟩
    obtain ⟨b, hb, e⟩ := List.mem_map.mp z
    exact h.1 (kd_inj e ▸ hb)
theorem pair_ext {α β : Type} : ∀ {a b : List (α × β)}, a.map (·.1) = b.map (·.1) → a.map (·.2) = b.map (·.2) → a = b
  | [], [], _, _ => rfl
  | [], _ :: _, h, _ => by cases h
  | _ :: _, [], h, _ => by cases h
  | (x, y) :: a, (x', y') :: b, h1, h2 => by
    simp only [List.map_cons, List.cons.injEq] at h1 h2
    rw [h1.1, h2.1, pair_ext h1.2 h2.2]
theorem cmp_eqK {k : KC} : CmpP k (fun x y H Q => ∃ a b kvs, x = .ref a ∧ y = .ref b ∧ H a = some (.dK kvs) ∧ H b = some (.dK kvs) ∧ (kvs.map (·.1)).Nodup ∧ (∀ p ∈ kvs, flatB p.2 = true) ∧ Q (.bl true) H) eqK := fun F H v w d e Q s h1 h2 q => by
  cases d with
  | dct ks vs =>
    cases e with
    | dct ks' vs' =>
      simp only [eqK] at q
      by_cases z : ks = ks' ∧ ks.Nodup ∧ (vs.all flatD && vs'.all flatD) = true ∧ vs.map fv = vs'.map fv
      · rw [if_pos z] at q
        obtain ⟨rfl, nd, fl, ev⟩ := z
        rw [Bool.and_eq_true] at fl
        obtain ⟨a, kvs, rfl, ha, k1, d1⟩ := vw_dct s h1
        obtain ⟨b, kvs', rfl, hb, k2, d2⟩ := vw_dct s h2
        have e1 := (dvs_flat d1 fl.1).1
        have e2 := (dvs_flat d2 fl.2).1
        have ee : kvs' = kvs := pair_ext (k2.trans k1.symm) (by rw [e1, e2, ev])
        subst ee
        refine ⟨a, b, kvs', rfl, rfl, ha, hb, by rw [k1]; exact kd_nodup nd, fun p hp => ?_, q⟩
        have hm : p.2 ∈ kvs'.map (·.2) := List.mem_map_of_mem hp
        rw [e1] at hm
        obtain ⟨x, hx, ex⟩ := List.mem_map.mp hm
        rw [← ex]
        exact flat_B (List.all_eq_true.mp fl.1 x hx)
      · rw [if_neg z] at q
        exact q.elim
    | _ => exact q.elim
  | _ => exact q.elim
section
variable {X : Cx} {k : KC} {G : List Md} {W : WE} {m1 m2 : Mo} {a b : Expr} {f g : Env → R D} {n : Nat} {pos : Pos} {P : Bool → Prop} {E : Exc → Prop}
theorem pu_eqK (hr : Room n X.A) (ha : PuE X k G W m1 a f) (hb : PuE X k G W m2 b g) : PuC X k G W (.Compare a [.Eq] [b] pos) (c2 eqK f g) := pc_of (op_eq_dict (by have := hr.units; omega)) cmp_eqK eqK_exc ha hb (nomark _)
theorem wp_eqK {ks : List KD} {vs : List D} (h1 : ks.Nodup) (h2 : vs.all flatD = true) (p : P true) : (eqK (.dct ks vs) (.dct ks vs)).wp P E := by
  simp only [eqK]
  rw [if_pos ⟨trivial, h1, by rw [h2]; rfl, trivial⟩]
  exact p
end
end Pu
namespace Pu
open PySem PySem.Spec PyProof.Rows L2
/-! ### comprehensions, further -/
/-- with a test: F tells what comes of each item, or none -/
theorem comp_filt {vs : List Nat} {g : D → Env → Option Env} {t : Env → R Bool} {f : Env → R D} {F : D → Option D} {r : Env} : ∀ {ds : List D}, (∀ d ∈ ds, OpW (g d (wipeR r vs)) (fun r1 => (t r1).wp (fun b => if b = true then (f r1).wp (fun y => F d = some y) noE else F d = none) noE)) → compD vs g t f ds r = .ok (ds.filterMap F)
  | [], _ => rfl
  | d :: ds, h => by
    have h0 := h d (List.mem_cons_self ..)
    have ih := comp_filt (ds := ds) fun x hx => h x (List.mem_cons_of_mem _ hx)
    rw [compD]
    cases z : g d (wipeR r vs) with
    | none => rw [z] at h0; exact h0.elim
    | some r1 =>
      rw [z] at h0
      obtain ⟨b, h1, h2⟩ := ok_of_wp h0
      cases b with
      | false =>
        simp only [h1, ih]
        rw [List.filterMap_cons, show F d = none from h2]
      | true =>
        obtain ⟨y, h3, h4⟩ := ok_of_wp (show (f r1).wp (fun y => F d = some y) noE from h2)
        simp only [h1, h3, ih]
        rw [List.filterMap_cons, h4]
        rfl
theorem wp_lcF {fi : Env → R (List D)} {vs : List Nat} {g : D → Env → Option Env} {t : Env → R Bool} {f : Env → R D} {r : Env} {PD : D → Prop} {E : Exc → Prop} (F : D → Option D)
    (h : (fi r).wp (fun ds => ds.length ≤ szT ∧ (∀ d ∈ ds, OpW (g d (wipeR r vs)) (fun r1 => (t r1).wp (fun b => if b = true then (f r1).wp (fun y => F d = some y) noE else F d = none) noE)) ∧ PD (.lst (ds.filterMap F))) E) : (lcE fi vs g t f r).wp PD E := by
  unfold lcE
  rw [wp_bind]
  refine wp_imp h (fun ds ⟨h1, h2, h3⟩ => ?_) fun _ z => z
  rw [if_pos h1, comp_filt h2]
  exact h3
/-- where only something of each item's picture is told -/
theorem comp_some {vs : List Nat} {g : D → Env → Option Env} {t : Env → R Bool} {f : Env → R D} {Q : D → D → Prop} {r : Env} : ∀ {ds : List D}, (∀ d ∈ ds, OpW (g d (wipeR r vs)) (fun r1 => t r1 = .ok true ∧ (f r1).wp (Q d) noE)) → ∃ F : D → D, compD vs g t f ds r = .ok (ds.map F) ∧ ∀ d ∈ ds, Q d (F d) := by
  intro ds h
  have key : ∀ d, d ∈ ds → ∃ y, OpW (g d (wipeR r vs)) (fun r1 => t r1 = .ok true ∧ (f r1).wp (· = y) noE) ∧ Q d y := fun d hd => by
    have h0 := h d hd
    unfold OpW at h0 ⊢
    cases z : g d (wipeR r vs) with
    | none => rw [z] at h0; exact h0.elim
    | some r1 =>
      rw [z] at h0
      obtain ⟨h1, h2⟩ := h0
      obtain ⟨y, h3, h4⟩ := ok_of_wp h2
      exact ⟨y, ⟨h1, by rw [h3]; exact rfl⟩, h4⟩
  classical
  refine ⟨fun d => if hd : d ∈ ds then (key d hd).choose else .non, comp_map fun d hd => ?_, fun d hd => ?_⟩
  · simp only [dif_pos hd]
    exact (key d hd).choose_spec.1
  · simp only [dif_pos hd]
    exact (key d hd).choose_spec.2
theorem wp_lcQ {fi : Env → R (List D)} {vs : List Nat} {g : D → Env → Option Env} {t : Env → R Bool} {f : Env → R D} {r : Env} {PD : D → Prop} {E : Exc → Prop} (Q : D → D → Prop)
    (h : (fi r).wp (fun ds => ds.length ≤ szT ∧ (∀ d ∈ ds, OpW (g d (wipeR r vs)) (fun r1 => t r1 = .ok true ∧ (f r1).wp (Q d) noE)) ∧ ∀ F : D → D, (∀ d ∈ ds, Q d (F d)) → PD (.lst (ds.map F))) E) : (lcE fi vs g t f r).wp PD E := by
  unfold lcE
  rw [wp_bind]
  refine wp_imp h (fun ds ⟨h1, h2, h3⟩ => ?_) fun _ z => z
  obtain ⟨F, h4, h5⟩ := comp_some h2
  rw [if_pos h1, h4]
  exact h3 F h5
end Pu

/-! Texts parted by one sign, from the left and from the right. -/
namespace L2
open PySem PySem.Spec PyProof.Rows
variable {X : Cx}
theorem mt_rpartition : MtR X "str.rpartition" (fun x xs H Q => ∃ a b, x = .str a ∧ xs = [.str b] ∧ (b.length == 0) = false ∧ a.length ≤ sizeLine ∧
    ∀ p, H p = none → Q (.ref p) (upd H p (.tup [.str (Txt.rpartition a b).1, .str (Txt.rpartition a b).2.1, .str (Txt.rpartition a b).2.2]))) := by
  intro pins s σ H x xs v us Q I rx rs h
  obtain ⟨a, b, rfl, rfl, hb, hz, h⟩ := h
  obtain ⟨t, rfl⟩ := rx
  cases rs with
  | cons r1 rs =>
    cases rs
    obtain ⟨u, rfl⟩ := r1
    refine call_meets F.slot_str_rpartition (typeIs_str _ _ _) F.entry_str_rpartition (F.args_str_rpartition_2 _ _) (meets_str_rpartition a b t u hb hz) ?_
    unfold Txt.rpartition at h
    revert h
    cases Builtin.Str.lastOccurrence a b 0 a.length with
    | none => intro h; exact laid_parts I h
    | some i => intro h; exact laid_parts I h
end L2
namespace Pu
open PySem PySem.Spec PyProof.Rows L2
section
variable {X : Cx} {k : KC} {G : List Md} {W : WE} {pos apos : Pos} {a b : Expr} {f g : Env → R D} {m1 m2 : Mo}
/-- s.rpartition(sep) -/
def rpartD : D → D → R D
  | .str s, .str b => if (!b.isEmpty && decide ((Txt.rpartition (tx s) (tx b)).1.length ≤ szT) && decide ((Txt.rpartition (tx s) (tx b)).2.1.length ≤ szT) && decide ((Txt.rpartition (tx s) (tx b)).2.2.length ≤ szT)) = true then
      .ok (.tup [.str (cs (Txt.rpartition (tx s) (tx b)).1), .str (cs (Txt.rpartition (tx s) (tx b)).2.1), .str (cs (Txt.rpartition (tx s) (tx b)).2.2)]) else .stuck
  | _, _ => .stuck
theorem pu_rpartition (ha : PuE X k G W m1 a f) (hb : PuE X k G W m2 b g)
    (hs : starEach [b] X.env = [(false, eval b X.env)] := by rfl) (hbase : attributeBase a "rpartition" X.env (eval a X.env) = eval a X.env := by rfl) (hline : (apos.endLine == pos.line) = true := by rfl) :
    PuE X k G W .frz (.Call (.Attribute a "rpartition" apos) [b] [] pos) (m1E rpartD f g) :=
  pu_m1 PySem.F.slot_str_rpartition PySem.F.type_str_rpartition mt_rpartition (fun F H v w d e Q s h1 h2 q => by
    cases d with
    | str z =>
      cases e with
      | str b =>
        simp only [rpartD] at q
        split at q
        · rename_i y
          split at y
          · rename_i hc
            cases y
            rw [Bool.and_eq_true, Bool.and_eq_true, Bool.and_eq_true] at hc
            obtain ⟨⟨⟨hb, h3⟩, h4⟩, h5⟩ := hc
            obtain ⟨e1, l1⟩ := vw_str h1
            obtain ⟨e2, l2⟩ := vw_str h2
            subst e1
            subst e2
            refine ⟨⟨_, rfl⟩, _, _, rfl, rfl, ?_, by rw [tx_len]; exact l1, fun p hp => ?_⟩
            · rw [tx_len]
              cases b with
              | nil => cases hb
              | cons _ _ => rfl
            · exact q _ _ _ (Ext.add s hp) (.tup upd_same (.cons (dv_str _ (szT_le (of_decide_eq_true h3))) (.cons (dv_str _ (szT_le (of_decide_eq_true h4))) (.cons (dv_str _ (szT_le (of_decide_eq_true h5))) .nil))))
          · cases y
        · exact q.elim
      | _ => exact q.elim
    | _ => cases e <;> exact q.elim) (fun d e x h => by
      cases d <;> cases e <;> simp only [rpartD] at h
      all_goals first | cases h | (split at h <;> cases h)) ha hb hs hbase hline
end
/-! ### zip of two lists -/
def zipD (xs ys : List D) : List D := xs.zipWith (fun a b => D.tup [a, b]) ys
def zip2D : List D → R (List D)
  | [d, e] => match itemsL d, itemsL e with
    | some xs, some ys => .ok (zipD xs ys)
    | _, _ => .stuck
  | _ => .stuck
theorem zip2D_exc : ∀ ds x, zip2D ds ≠ .exc x := fun ds x h => by
  unfold zip2D at h
  split at h
  · split at h <;> cases h
  · cases h
theorem zipD_len (xs ys : List D) : (zipD xs ys).length = min xs.length ys.length := by unfold zipD; simp
theorem zipD_get {xs ys : List D} {i : Nat} {d e : D} (h : xs[i]? = some d) (h2 : ys[i]? = some e) : (zipD xs ys)[i]? = some (.tup [d, e]) := by
  unfold zipD
  rw [List.getElem?_zipWith, h, h2]
section
variable {X : Cx} {k : KC} {G : List Md} {W : WE} {p pos : Pos}
theorem wk_zip {F : Hp} {a b : Addr} {us vs : List V} {xs ys : List D} (h : SqL k.K F a us) (dv : DvAll k F us xs) (h2 : SqL k.K F b vs) (dv2 : DvAll k F vs ys) : Wk k F (Itz k.K a b) (zipD xs ys) where
  stop := fun F' H s1 s2 => ⟨us, vs, sq_mono (s1.trans s2) h, sq_mono (s1.trans s2) h2, by
    have l1 := dv.length
    have l2 := dv2.length
    rw [zipD_len]
    omega⟩
  go := fun i F' H s1 s2 hi => by
    rw [zipD_len] at hi
    obtain ⟨v, e, _⟩ := dv.get (List.getElem?_eq_getElem (show i < xs.length by omega))
    obtain ⟨w, e2, _⟩ := dv2.get (List.getElem?_eq_getElem (show i < ys.length by omega))
    exact ⟨us, vs, v, w, sq_mono (s1.trans s2) h, sq_mono (s1.trans s2) h2, e, e2⟩
  yld := fun i F' H x H' s1 s2 hi hy => by
    rw [zipD_len] at hi
    obtain ⟨T, y, z, rfl, hT, rfl, hy, hz⟩ := hy
    have i1 := List.getElem?_eq_getElem (show i < xs.length by omega)
    have i2 := List.getElem?_eq_getElem (show i < ys.length by omega)
    obtain ⟨v, e, d1⟩ := dv.get i1
    obtain ⟨w, e2, d2⟩ := dv2.get i2
    have f1 := hy us (sq_mono (s1.trans s2) h)
    have f2 := hz vs (sq_mono (s1.trans s2) h2)
    rw [e] at f1
    rw [e2] at f2
    cases f1
    cases f2
    have x := Ext.add (o := .tup [y, z]) s2 hT
    exact ⟨_, _, zipD_get i1 i2, x, .tup upd_same (.cons ((d1.mono s1).mono x.sf) (.cons ((d2.mono s1).mono x.sf) .nil))⟩
theorem pui_zip {e e2 : Expr} {fs : Env → R (List D)} {elts : List Expr} {kk : Nat} {tpos : Pos} (J : Jx X k G W) (ha : PuA X k G W .frz [e, e2] fs) (hm : X.mg "zip" = none) (hg : Gl X "zip" := by rfl)
    (hs : starEach [e, e2] X.env = (false, eval e X.env) :: starEach [e2] X.env := by rfl) (hpl : (backTo pos (starEach [e2] X.env)).any (·.1) = false := by rfl) :
    PuI X k G W (.Tuple elts kk tpos) (.Call (.Name "zip" p) [e, e2] [] pos) (iA zip2D fs) :=
  pui_ofF (pi_zip hg hm pa_can hs hpl) (fun _ _ _ q => q) zip2D_exc (fun F H vs ds zs R s rv z q => by
    unfold zip2D at z
    split at z
    · rename_i d d2
      obtain ⟨v, w, e, r1, r2⟩ := dvA2 rv
      subst e
      split at z
      · rename_i es es2 y y2
        cases z
        obtain ⟨a, xs, e1, h1, h2⟩ := dv_L r1 y
        obtain ⟨b, ys, e3, h3, h4⟩ := dv_L r2 y2
        subst e1
        subst e3
        exact ⟨a, b, xs, ys, rfl, J.kk ▸ sq_mono s h1, J.kk ▸ sq_mono s h3, q _ F H (Ext.refl s) (J.kk ▸ wk_zip h1 h2 h3 h4)⟩
      · cases z
    · cases z) ha
theorem wp_zip {xs ys : List D} {PL : List D → Prop} {E : Exc → Prop} : (zip2D [.lst xs, .lst ys]).wp PL E ↔ PL (zipD xs ys) := Iff.rfl
end
/-! ### one sign -/
open PySem.StrLaws PySem.Builtin PySem.Builtin.Str
theorem at_one {s : Tx} {c i : Nat} : At (tx s) (tx [c]) (tx s).length i ↔ s[i]? = some c := by
  have h := subAt_one (tx s) c i
  rw [cs_len', tx_len] at h
  unfold At
  rw [tx_len]
  exact h
theorem part_one {a b : Tx} {c : Nat} (h : c ∉ a) : Txt.partition (tx (a ++ c :: b)) (tx [c]) = (tx a, tx [c], tx b) := by
  have hc : (a ++ c :: b)[a.length]? = some c := by simp
  unfold Txt.partition
  rcases occ_head (tx (a ++ c :: b)) (tx [c]) 1 (by omega) with ⟨_, hn⟩ | ⟨i, r, e, hi, hk⟩
  · exact absurd (at_one.mpr hc) (hn a.length)
  · rw [at_one] at hi
    have e1 : i = a.length := by
      rcases Nat.lt_trichotomy i a.length with z | z | z
      · rw [List.getElem?_append_left z] at hi
        exact absurd (List.mem_of_getElem? hi) h
      · exact z
      · exact absurd (at_one.mpr hc) (hk _ z)
    subst e1
    rw [e]
    show (strSub _ _ _, tx [c], strSub _ _ _) = _
    rw [strSub_tx, strSub_tx, tx_len, tx_len]
    have e3 : (b.take (a.length + (b.length + 1) - (a.length + 1))) = b := List.take_of_length_le (by omega)
    simp [e3]
theorem part_none {a : Tx} {c : Nat} (h : c ∉ a) : Txt.partition (tx a) (tx [c]) = (tx a, Str.empty, Str.empty) := by
  unfold Txt.partition
  rcases occ_head (tx a) (tx [c]) 1 (by omega) with ⟨e, _⟩ | ⟨i, r, e, hi, hk⟩
  · rw [e]
  · rw [at_one] at hi
    exact absurd (List.mem_of_getElem? hi) h
theorem rpart_one {a b : Tx} {c : Nat} (h : c ∉ b) : Txt.rpartition (tx (a ++ c :: b)) (tx [c]) = (tx a, tx [c], tx b) := by
  have hc : (a ++ c :: b)[a.length]? = some c := by simp
  unfold Txt.rpartition
  rcases last_spec (tx (a ++ c :: b)) (tx [c]) with ⟨_, hn⟩ | ⟨i, e, hi, hk⟩
  · exact absurd (at_one.mpr hc) (hn a.length)
  · rw [at_one] at hi
    have e1 : i = a.length := by
      rcases Nat.lt_trichotomy i a.length with z | z | z
      · exact absurd (at_one.mpr hc) (hk _ z)
      · exact z
      · rw [List.getElem?_append_right (by omega)] at hi
        have : (i - a.length) = (i - a.length - 1) + 1 := by omega
        rw [this, List.getElem?_cons_succ] at hi
        exact absurd (List.mem_of_getElem? hi) h
    subst e1
    rw [e]
    show (strSub _ _ _, tx [c], strSub _ _ _) = _
    rw [strSub_tx, strSub_tx, tx_len, tx_len]
    have e3 : (b.take (a.length + (b.length + 1) - (a.length + 1))) = b := List.take_of_length_le (by omega)
    simp [e3]
theorem rpart_none {a : Tx} {c : Nat} (h : c ∉ a) : Txt.rpartition (tx a) (tx [c]) = (Str.empty, Str.empty, tx a) := by
  unfold Txt.rpartition
  rcases last_spec (tx a) (tx [c]) with ⟨e, _⟩ | ⟨i, e, hi, hk⟩
  · rw [e]
  · rw [at_one] at hi
    exact absurd (List.mem_of_getElem? hi) h
section
variable {PD : D → Prop} {E : Exc → Prop}
theorem part_okD {a b : Tx} {c : Nat} (h : c ∉ a) (hl : a.length + b.length ≤ 900000) (q : PD (.tup [.str a, .str [c], .str b])) : (partD (.str (a ++ c :: b)) (.str [c])).wp PD E := by
  simp only [partD]
  rw [part_one h, if_pos]
  · simp only [cs_tx]
    exact q
  · rw [tx_len, tx_len, tx_len, show szT = 1000000 from rfl]
    simp
    omega
theorem rpart_okD {a b : Tx} {c : Nat} (h : c ∉ b) (hl : a.length + b.length ≤ 900000) (q : PD (.tup [.str a, .str [c], .str b])) : (rpartD (.str (a ++ c :: b)) (.str [c])).wp PD E := by
  simp only [rpartD]
  rw [rpart_one h, if_pos]
  · simp only [cs_tx]
    exact q
  · rw [tx_len, tx_len, tx_len, show szT = 1000000 from rfl]
    simp
    omega
theorem part_noD {a : Tx} {c : Nat} (h : c ∉ a) (hl : a.length ≤ 900000) (q : PD (.tup [.str a, .str [], .str []])) : (partD (.str a) (.str [c])).wp PD E := by
  simp only [partD]
  rw [part_none h, if_pos]
  · simp only [cs_tx]
    exact q
  · rw [tx_len, show szT = 1000000 from rfl, show Str.empty.length = 0 from rfl]
    simp
    omega
theorem rpart_noD {a : Tx} {c : Nat} (h : c ∉ a) (hl : a.length ≤ 900000) (q : PD (.tup [.str [], .str [], .str a])) : (rpartD (.str a) (.str [c])).wp PD E := by
  simp only [rpartD]
  rw [rpart_none h, if_pos]
  · simp only [cs_tx]
    exact q
  · rw [tx_len, show szT = 1000000 from rfl, show Str.empty.length = 0 from rfl]
    simp
    omega
end
end Pu

/-! The least of a list of pairs of ints. -/
namespace Pu
open PySem PySem.Spec PyProof.Rows L2
def pairL (p q : Int × Int) : Bool := decide (p.1 < q.1) || (!decide (q.1 < p.1) && decide (p.2 < q.2))
def pairP (p : Int × Int) : PyData := .tuple [.int p.1, .int p.2]
theorem pairP_lt (p q : Int × Int) : PySem.W.dataLt (pairP p) (pairP q) = pairL p q := by
  unfold PySem.W.dataLt pairP pairL
  simp [PySem.W.keyToks, PySem.W.keyToksAll, PyProof.Rows.lexLt, itemLt]
def minQ (p : Int × Int) (ps : List (Int × Int)) : Int × Int := ps.foldl (fun a y => if pairL y a = true then y else a) p
theorem minQ_pd : ∀ (ps : List (Int × Int)) (p : Int × Int), PySem.W.minD (pairP p) (ps.map pairP) = pairP (minQ p ps)
  | [], p => rfl
  | q :: ps, p => by
    show PySem.W.minD (if PySem.W.dataLt (pairP q) (pairP p) = true then pairP q else pairP p) (ps.map pairP) = pairP (minQ (if pairL q p = true then q else p) ps)
    rw [pairP_lt, ← minQ_pd ps]
    split <;> rfl
theorem pairP_inj {p q : Int × Int} (h : pairP p = pairP q) : p = q := by
  unfold pairP at h
  injection h with h
  injection h with h1 h2
  injection h1 with h1
  injection h2 with h2
  injection h2 with h2
  exact Prod.ext h1 h2
def rMinP (K : PySem.W.Frag) : List V → Hp → VK → Prop := fun vs H Q => ∃ (a : Addr) (xs : List V) (p : Int × Int) (ps : List (Int × Int)), vs = [V.ref a] ∧ SqL K H a xs ∧ DpAll K H xs ((p :: ps).map pairP) ∧ ∀ (i : Nat) (x : V), xs[i]? = some x → (p :: ps)[i]? = some (minQ p ps) → Q x H
theorem cr_minP {X : Cx} (hc : X.calm = true) (hu : X.A.units + 64 < cLine) : CallR X (.builtin "min") (rMinP X.K) := by
  intro pins s σ H vs us Q I r h
  obtain ⟨a, xs, p, ps, rfl, hs, hd, q⟩ := h
  obtain ⟨its, rv, hl, _⟩ := I.list hs
  rw [Vals.ref1 r]
  obtain ⟨as, hr⟩ := Dp.readsAll I _ xs its hd rv
  have dep : ∀ ps : List (Int × Int), PyData.depthAll (ps.map pairP) ≤ 2 := fun ps => by
    induction ps with
    | nil => simp [PyData.depthAll]
    | cons p ps ih =>
      rw [List.map_cons]
      simp only [PyData.depthAll, pairP, PyData.depth] at ih ⊢
      omega
  have al : PySem.W.AlikeAll ((p :: ps).map pairP) := by
    refine ⟨fun x hx y hy => ?_, fun x hx => ?_⟩
    · obtain ⟨u, _, rfl⟩ := List.mem_map.mp hx
      obtain ⟨v, _, rfl⟩ := List.mem_map.mp hy
      simp [pairP, PySem.W.alike, PySem.W.alikeAll]
    · obtain ⟨u, _, rfl⟩ := List.mem_map.mp hx
      intro z
      cases z
  have hu2 : X.A.units + 1 + PyData.depthAll ((p :: ps).map pairP) < cLine := by
    have := dep (p :: ps)
    omega
  refine PySem.W.min_list_data (A := X.A) (vs := its.toArray) (I.ok.hd hc) hl.isList (by simpa using hr) al hu2 fun i v h' tk bs hi rd hk => ?_
  have hi' : its[i]? = some v := by simpa using hi
  have il := (List.getElem?_eq_some_iff.mp hi').1
  have xl : i < xs.length := by rw [rv.length]; exact il
  have hx := List.getElem?_eq_getElem xl
  obtain ⟨u, hu1, rx⟩ := rv.get hx
  rw [hi'] at hu1
  cases hu1
  obtain ⟨bs', r1, r2, _, _⟩ := PySem.W.readsAll_at hr i v hi'
  have r3 := PySem.W.reads_keeps hk r1
  have e1 := (Reads.unique r3 _ _ rd).1
  rw [List.length_map] at r2
  have hp := List.getElem?_eq_getElem r2
  have e2 : ((p :: ps).map pairP).getD i .none = pairP (p :: ps)[i] := by
    have : ((p :: ps).map pairP)[i]? = some (pairP (p :: ps)[i]) := by rw [List.getElem?_map, hp]; rfl
    rw [List.getD, this]
    rfl
  have e3 : PySem.W.minD (pairP p) (ps.map pairP) = pairP (minQ p ps) := minQ_pd ps p
  rw [e2, e3] at e1
  refine ⟨_, H, I.kept hk, rx, q i _ hx ?_⟩
  rw [hp, pairP_inj e1]
def pairsOf : List D → Option (List (Int × Int))
  | [] => some []
  | .tup [.int a, .int b] :: r => (pairsOf r).map ((a, b) :: ·)
  | _ => none
def pairQ (p : Int × Int) : D := .tup [.int p.1, .int p.2]
theorem pairsOf_eq : ∀ (ds : List D) {ps : List (Int × Int)}, pairsOf ds = some ps → ds = ps.map pairQ
  | [], ps, h => by cases h; rfl
  | .tup [.int a, .int b] :: r, ps, h => by
    obtain ⟨l, h1, rfl⟩ := Option.map_eq_some_iff.mp (show (pairsOf r).map ((a, b) :: ·) = some ps from h)
    rw [pairsOf_eq r h1]
    rfl
  | .tup [] :: r, ps, h => by cases h
  | .tup [a] :: r, ps, h => by cases a <;> cases h
  | .tup (a :: b :: c :: t) :: r, ps, h => by cases a <;> cases b <;> cases h
  | .tup [.non, _] :: r, ps, h => by cases h
  | .tup [.bl _, _] :: r, ps, h => by cases h
  | .tup [.str _, _] :: r, ps, h => by cases h
  | .tup [.tup _, _] :: r, ps, h => by cases h
  | .tup [.lst _, _] :: r, ps, h => by cases h
  | .tup [.scr _, _] :: r, ps, h => by cases h
  | .tup [.dct _ _, _] :: r, ps, h => by cases h
  | .tup [.dtt _ _, _] :: r, ps, h => by cases h
  | .tup [.ins _ _ _, _] :: r, ps, h => by cases h
  | .tup [.int _, .non] :: r, ps, h => by cases h
  | .tup [.int _, .bl _] :: r, ps, h => by cases h
  | .tup [.int _, .str _] :: r, ps, h => by cases h
  | .tup [.int _, .tup _] :: r, ps, h => by cases h
  | .tup [.int _, .lst _] :: r, ps, h => by cases h
  | .tup [.int _, .scr _] :: r, ps, h => by cases h
  | .tup [.int _, .dct _ _] :: r, ps, h => by cases h
  | .tup [.int _, .dtt _ _] :: r, ps, h => by cases h
  | .tup [.int _, .ins _ _ _] :: r, ps, h => by cases h
  | .non :: r, ps, h => by cases h
  | .bl _ :: r, ps, h => by cases h
  | .int _ :: r, ps, h => by cases h
  | .str _ :: r, ps, h => by cases h
  | .lst _ :: r, ps, h => by cases h
  | .scr _ :: r, ps, h => by cases h
  | .dct _ _ :: r, ps, h => by cases h
  | .dtt _ _ :: r, ps, h => by cases h
  | .ins _ _ _ :: r, ps, h => by cases h
theorem pairsOf_map : ∀ ps : List (Int × Int), pairsOf (ps.map pairQ) = some ps
  | [] => rfl
  | p :: ps => by
    show (pairsOf (ps.map pairQ)).map ((p.1, p.2) :: ·) = _
    rw [pairsOf_map ps]
    rfl
def minPI : D → R D
  | .lst ds => match pairsOf ds with
    | some (p :: ps) => .ok (pairQ (minQ p ps))
    | _ => .stuck
  | _ => .stuck
def minPD : List D → R D := un1 minPI
theorem pds_pairs : ∀ ps : List (Int × Int), pds (ps.map pairQ) = ps.map pairP
  | [] => rfl
  | p :: ps => by
    show _ :: pds (ps.map pairQ) = _
    rw [pds_pairs ps]
    rfl
section
variable {X : Cx} {k : KC} {G : List Md} {W : WE} {p pos : Pos} {m1 : Mo} {e : Expr} {fs : Env → R (List D)} {n : Nat}
theorem pu_minP (J : Jx X k G W) (hr : Room n X.A) (hc : X.calm = true) (ha : PuA X k G W m1 [e] fs) (hm : X.mg "min" = none) (hg : Gl X "min" := by rfl) (he : starEach [e] X.env = [(false, eval e X.env)] := by rfl) : PuE X k G W .frz (.Call (.Name "min" p) [e] [] pos) (eA minPD fs) :=
  pu_callB (J.kk ▸ cr_minP hc hr.units) (callp_un fun F H v d Q s h q => by
    cases d with
    | lst ds =>
      simp only [minPI] at q
      cases z : pairsOf ds with
      | none => simp only [z] at q
      | some l =>
        cases l with
        | nil => simp only [z] at q
        | cons p0 ps =>
          simp only [z] at q
          obtain ⟨a, xs, e1, h1, h2⟩ := vw_lst s h
          have e2 := pairsOf_eq ds z
          subst e2
          have sh : ((p0 :: ps).map pairQ).all (shal 3) = true := by
            rw [List.all_eq_true]
            intro d hd
            obtain ⟨u, _, rfl⟩ := List.mem_map.mp hd
            rfl
          have dp := h2.dp s 3 sh
          rw [pds_pairs] at dp
          refine ⟨a, xs, p0, ps, by rw [e1], SqL.of h1, dp, fun i x hx hp => ?_⟩
          obtain ⟨u, hu, du⟩ := h2.get (i := i) (d := pairQ (minQ p0 ps)) (by rw [List.getElem?_map, hp]; rfl)
          rw [hx] at hu
          cases hu
          exact q x F H (Ext.refl s) du
    | _ => exact q.elim) (un1_exc fun d x h => by
      cases d <;> simp only [minPI] at h
      all_goals first | cases h | (split at h <;> cases h)) ha hm bt_min hg (by decide) (by decide) he rfl
end
theorem wp_minP {p : Int × Int} {ps : List (Int × Int)} {PD : D → Prop} {E : Exc → Prop} (q : PD (pairQ (minQ p ps))) : (minPD [.lst ((p :: ps).map pairQ)]).wp PD E := by
  show (minPI (.lst ((p :: ps).map pairQ))).wp PD E
  simp only [minPI, pairsOf_map]
  exact q
end Pu

/-! `!=` of two lists that are alike, of plain things and of dicts of flat values -/
namespace Pu
open PySem PySem.Spec PyProof.Rows L2
/-- the loop of !=, all items alike -/
theorem ne_loop {prog : Program} {w : World} (l b : Addr) (items items2 : Array Value) (n n2 : Nat) (dd dd2 : Option Addr) (sl sl2 : Array (Option Value)) (hs : items.size = items2.size) : ∀ (k i : Nat), items.size - i = k →
    MeetsIn prog w (Builtin.«list.__eq__.loop» { pos := [Value.ref l, Value.ref b, rawInt (i : Int), rawInt 3] }) fun A R s =>
      s.heap.get? l = some { cls := Value.type "list", dict := dd, data := Data.seq items n, slots := sl } ∧
        s.heap.get? b = some { cls := Value.type "list", dict := dd2, data := Data.seq items2 n2, slots := sl2 } ∧
          (∀ (j : Nat) (h1 : j < items.size) (h2 : j < items2.size), SeqAt.EqP prog w A.in1 s items[j] items2[j] true) ∧
            R (Except.ok (Flow.ret (Value.bool false))) s := by
  intro k
  induction k with
  | zero =>
    intro i hi A R s h
    obtain ⟨h1, h2, h3, h4⟩ := h
    have e1 : items[((i : Nat) : Int).toNat]? = none := by rw [show ((i : Nat) : Int).toNat = i by omega]; simp; omega
    refine wpAny_bind (wpAny_listItems h1 rfl ?_)
    refine wpAny_bind (wpAny_listItems h2 rfl ?_)
    rw [e1]
    refine wpAny_bind (wpAny_listItems h1 rfl ?_)
    refine wpAny_bind (wpAny_listItems h2 rfl ?_)
    refine wpAny_pure ?_
    show R (Except.ok (Flow.ret (Value.bool (items.size != items2.size)))) s
    rw [hs, bne_self_eq_false]
    exact h4
  | succ k ih =>
    intro i hi A R s h
    obtain ⟨h1, h2, h3, h4⟩ := h
    have i1 : i < items.size := by omega
    have i2 : i < items2.size := by omega
    have e1 : items[((i : Nat) : Int).toNat]? = some items[i] := by rw [show ((i : Nat) : Int).toNat = i by omega]; simp [i1]
    have e2 : items2[((i : Nat) : Int).toNat]? = some items2[i] := by rw [show ((i : Nat) : Int).toNat = i by omega]; simp [i2]
    refine wpAny_bind (wpAny_listItems h1 rfl ?_)
    refine wpAny_bind (wpAny_listItems h2 rfl ?_)
    rw [e1, e2]
    refine wpAny_bind (h3 i i1 i2 _ _ ?_)
    refine wpAny_ite_true rfl (wpAny_pure ?_)
    refine ⟨plainId_quiet MeetsSeq3.plain_eq_loop _, codeAny_builtin MeetsSeq3.entry_eq_loop ?_⟩
    rw [Around.under_plainId MeetsSeq3.plain_eq_loop]
    exact ih (i + 1) (by omega) A R s ⟨h1, h2, h3, h4⟩
theorem ne_list {prog : Program} {w : World} (l b : Addr) (items items2 : Array Value) (n n2 : Nat) (dd dd2 : Option Addr) (sl sl2 : Array (Option Value)) (hs : items.size = items2.size) :
    MeetsIn prog w (Builtin.«list.__ne__» { pos := [Value.ref l, Value.ref b] }) fun A R s =>
      s.heap.get? l = some { cls := Value.type "list", dict := dd, data := Data.seq items n, slots := sl } ∧
        s.heap.get? b = some { cls := Value.type "list", dict := dd2, data := Data.seq items2 n2, slots := sl2 } ∧
          (∀ (j : Nat) (h1 : j < items.size) (h2 : j < items2.size), SeqAt.EqP prog w A.in1 s items[j] items2[j] true) ∧
            R (Except.ok (Flow.ret (Value.bool false))) s := by
  intro A R s h
  obtain ⟨h1, h2, h3, h4⟩ := h
  refine wpAny_bind (wpAny_pure ?_)
  have hinst : ∀ (Q : Bool → Shared → Prop) (E : Value → Shared → Prop), Q true s → wpAny (model prog w) A.in1 (isInstance (Value.ref b) (Value.type "list")) Q E s := fun Q E q => by
    refine wpAny_bind (wpAny_bind ?_)
    cases s with
    | mk h g d t os =>
      refine wpAny_loadPart' h2 ?_
      refine wpAny_pure ?_
      show wpAny _ _ (isSubtype (Value.type "list") (Value.type "list")) Q E _
      rw [AutoSeq1.sub_list_list]
      exact wpAny_pure q
  refine wpAny_bind (hinst _ _ ?_)
  refine wpAny_ite_false rfl ?_
  refine wpAny_ite_true rfl ?_
  refine wpAny_bind (wpAny_listItems h1 rfl ?_)
  refine wpAny_bind (wpAny_listItems h2 rfl ?_)
  refine wpAny_ite_false (by rw [hs, bne_self_eq_false]; rfl) ?_
  refine wpAny_pure ?_
  refine ⟨plainId_quiet MeetsSeq3.plain_eq_loop _, codeAny_builtin MeetsSeq3.entry_eq_loop ?_⟩
  rw [Around.under_plainId MeetsSeq3.plain_eq_loop]
  exact ne_loop l b items items2 n n2 dd dd2 sl sl2 hs _ 0 rfl A R s ⟨h1, h2, h3, h4⟩
theorem rcNe_lists {prog : Program} {w : World} {A : Around} {s : Shared} {l b : Addr} {items items2 : Array Value} (hl : s.heap.IsList l items) (hb : s.heap.IsList b items2) (hs : items.size = items2.size) (hu : A.units < cLine)
    (he : ∀ (j : Nat) (h1 : j < items.size) (h2 : j < items2.size), SeqAt.EqP prog w A.in1 s items[j] items2[j] true) (E Q : Value → Shared → Prop) (q : Q (Value.bool false) s) : wpAny (model prog w) A (richCompare CmpOp.NotEq (Value.ref l) (Value.ref b)) Q E s := by
  obtain ⟨o, h1, h2, n, h3⟩ := hl
  obtain ⟨o2, g1, g2, n2, g3⟩ := hb
  obtain ⟨c, dd, dat, sl⟩ := o
  obtain ⟨c2, dd2, dat2, sl2⟩ := o2
  simp only at h2 h3 g2 g3
  subst h2 h3 g2 g3
  refine wpAny_richCompare_same_room (T := "list") ⟨_, h1, rfl⟩ ⟨_, g1, rfl⟩ F.slot_list_ne ?_ hu
  refine call_meetsIn F.slot_list_ne ⟨_, h1, rfl⟩ F.entry_list_ne (F.args_list_ne_2 _ _) (ne_list l b items items2 n n2 dd dd2 sl sl2 hs) ?_
  exact ⟨h1, g1, he, ⟨fun e => (by cases e), q⟩⟩
/-- items alike: plain data, or dicts of flat values -/
def ItM (K : PySem.W.Frag) (H : Hp) (x y : V) : Prop := (∃ d e, Dp K H x d ∧ Dp K H y e ∧ d.plain = true ∧ e.plain = true ∧ d.depth ≤ lv ∧ PyData.eqv d e = true) ∨ L2.EqV K H 2 x y
def rNeM (K : PySem.W.Frag) : R2 := fun x y H Q => ∃ a b xs ys, x = .ref a ∧ y = .ref b ∧ SqL K H a xs ∧ SqL K H b ys ∧ Paired (ItM K H) xs ys ∧ Q (.bl false) H
theorem op_neM {X : Cx} (hu : X.A.units + 64 < cLine) : OpR X (compareOp .NotEq) (rNeM X.K) := by
  intro pins s σ H x y v u Q I rx ry h
  obtain ⟨a, b, xs, ys, rfl, rfl, sa, sb, pr, q⟩ := h
  have ev : v = .ref a := rx
  have eu : u = .ref b := ry
  subst ev eu
  obtain ⟨i1, v1, p1, l1⟩ := I.list sa
  obtain ⟨i2, v2, p2, l2⟩ := I.list sb
  have hsz : i1.toArray.size = i2.toArray.size := by
    rw [List.size_toArray, List.size_toArray, ← v1.length, ← v2.length]
    exact pr.length
  have hA : X.A.in1.units + 60 < cLine := by show X.A.units + 1 + 60 < cLine; omega
  refine rcNe_lists p1.isList p2.isList hsz (by omega) (fun j h1 h2 => ?_) _ _ ⟨.bl false, H, I, rfl, q⟩
  refine L2.items_run (F := ItM X.K H) (fun x y v u f rx ry => ?_) pr v1 v2 j (by simpa using h1) (by simpa using h2)
  rcases f with ⟨d, e, hd, he, pd, pe, dp, eq⟩ | f
  · obtain ⟨as, r1⟩ := Dp.reads I d x v hd rx
    obtain ⟨bs, r2⟩ := Dp.reads I e y u he ry
    have hl : d.depth ≤ 12 := dp
    have := SeqAt.eqAt_plain d e X.A.in1 s v u as bs r1 r2 pd pe (by omega)
    rw [eq] at this
    exact this.eqP
  · exact L2.eqV_run I 2 X.A.in1 (by omega) x y v u f rx ry
/-- one thing alike another -/
def itM : D → D → Bool
  | .dct ks vs, .dct ks' vs' => decide (ks = ks') && decide ks.Nodup && (vs.all flatD && vs'.all flatD) && decide (vs.map fv = vs'.map fv)
  | d, e => shal lv d && shal lv e && eqD d e
def alikeM : List D → List D → Bool
  | [], [] => true
  | d :: ds, e :: es => itM d e && alikeM ds es
  | _, _ => false
def neM : D → D → R Bool
  | .lst ds, .lst es => if alikeM ds es = true then .ok false else .stuck
  | _, _ => .stuck
theorem neM_exc : NoExcC neM := fun d e x h => by
  cases d with
  | lst ds =>
    cases e with
    | lst es =>
      simp only [neM] at h
      split at h <;> cases h
    | _ => cases h
  | _ => cases h
theorem val_in : ∀ {kvs : List (L2.Key × V)}, (kvs.map (·.1)).Nodup → ∀ p ∈ kvs, L2.valV kvs p.1 = some p.2
  | [], _, p, hp => by cases hp
  | q :: kvs, hn, p, hp => by
    rw [List.map_cons, List.nodup_cons] at hn
    rcases List.mem_cons.mp hp with rfl | hp
    · simp [L2.valV]
    · have ih := val_in hn.2 p hp
      have hne : ¬ q.1 = p.1 := fun e => hn.1 (e ▸ List.mem_map.mpr ⟨p, hp, rfl⟩)
      unfold L2.valV at ih ⊢
      rw [List.find?_cons_of_neg (by simpa using hne)]
      exact ih
theorem it_M {k : KC} {F H : Hp} (s : Same F H) {x y : V} {d e : D} (hx : Dv k F x d) (hy : Dv k F y e) (h : itM d e = true) : ItM k.K H x y := by
  have plain : (shal lv d && shal lv e && eqD d e) = true → ItM k.K H x y := fun h => by
    rw [Bool.and_eq_true, Bool.and_eq_true] at h
    obtain ⟨⟨h1, h2⟩, h3⟩ := h
    obtain ⟨p1, p2⟩ := shal_ok lv d h1
    obtain ⟨p3, _⟩ := shal_ok lv e h2
    exact .inl ⟨d.pd, e.pd, hx.dp s _ h1, hy.dp s _ h2, p1, p3, p2, h3⟩
  cases hx with
  | dct a1 a2 a3 =>
    cases hy with
    | dct b1 b2 b3 =>
      simp only [itM, Bool.and_eq_true, decide_eq_true_eq] at h
      obtain ⟨⟨⟨rfl, nd⟩, f1, f2⟩, ev⟩ := h
      have e1 := (dvs_flat a3 f1).1
      have e2 := (dvs_flat b3 f2).1
      have ee := pair_ext (b2.trans a2.symm) (by rw [e1, e2, ev])
      subst ee
      refine .inr ?_
      rw [L2.EqV.eq_2]
      refine .inr (.inr (.inr ⟨_, _, _, _, rfl, rfl, s _ _ a1, s _ _ b1, rfl, fun p hp => ⟨p.2, val_in (by rw [a2]; exact kd_nodup nd) p hp, ?_⟩⟩))
      rw [L2.EqV.eq_2]
      refine .inl ⟨rfl, ?_⟩
      have hm := List.mem_map_of_mem (f := (·.2)) hp
      rw [e1] at hm
      obtain ⟨z, hz, ez⟩ := List.mem_map.mp hm
      rw [← ez]
      exact flat_B (List.all_eq_true.mp f1 z hz)
    | _ => exact plain (by simpa [itM] using h)
  | _ => exact plain (by first | exact h | (cases hy <;> first | exact h | simpa [itM] using h))
theorem items_M {k : KC} {F H : Hp} (s : Same F H) : ∀ {xs ys : List V} {ds es : List D}, DvAll k F xs ds → DvAll k F ys es → alikeM ds es = true → Paired (ItM k.K H) xs ys
  | _, _, _, _, .nil, .nil, _ => .nil
  | _, _, _, _, .nil, .cons _ _, h => by cases h
  | _, _, _, _, .cons _ _, .nil, h => by cases h
  | _, _, _, _, .cons a1 a2, .cons b1 b2, h => by
    simp only [alikeM, Bool.and_eq_true] at h
    exact .cons (it_M s a1 b1 h.1) (items_M s a2 b2 h.2)
theorem cmp_neM {k : KC} : CmpP k (rNeM k.K) neM := fun F H v w d e Q s h1 h2 q => by
  cases d with
  | lst ds =>
    cases e with
    | lst es =>
      simp only [neM] at q
      by_cases z : alikeM ds es = true
      · rw [if_pos z] at q
        obtain ⟨a, xs, rfl, ha, d1⟩ := vw_lst s h1
        obtain ⟨b, ys, rfl, hb, d2⟩ := vw_lst s h2
        exact ⟨a, b, xs, ys, rfl, rfl, SqL.of ha, SqL.of hb, items_M s d1 d2 z, q⟩
      · rw [if_neg z] at q
        exact q.elim
    | _ => exact q.elim
  | _ => exact q.elim
section
variable {X : Cx} {k : KC} {G : List Md} {W : WE} {m1 m2 : Mo} {a b : Expr} {f g : Env → R D} {n : Nat} {pos : Pos} {P : Bool → Prop} {E : Exc → Prop}
theorem pu_neM (J : Jx X k G W) (hr : Room n X.A) (ha : PuE X k G W m1 a f) (hb : PuE X k G W m2 b g) : PuC X k G W (.Compare a [.NotEq] [b] pos) (c2 neM f g) := pc_of (J.kk ▸ op_neM hr.units) cmp_neM neM_exc ha hb (nomark _)
theorem wp_neM {ds es : List D} (h : alikeM ds es = true) (p : P false) : (neM (.lst ds) (.lst es)).wp P E := by
  simp only [neM]
  rw [if_pos h]
  exact p
theorem itM_refl {d : D} (h : shal lv d = true) : itM d d = true := by
  have e : (shal lv d && shal lv d && eqD d d) = true := by rw [h, eqD_refl h]; rfl
  cases d with
  | dct _ _ => cases h
  | dtt _ _ => cases h
  | _ => exact e
theorem itM_dct {ks : List KD} {vs : List D} (h1 : ks.Nodup) (h2 : vs.all flatD = true) : itM (.dct ks vs) (.dct ks vs) = true := by
  simp only [itM, h2, decide_eq_true h1, decide_true, Bool.and_self]
end
end Pu

/-! slices with a step written as a number above 0 -/
namespace Pu
open PySem PySem.Spec PyProof.Rows L2
def atsS (c : Int) (n : Nat) (lo hi : Option Int) : List Nat := sliceRange (sliceBounds lo hi (some c) n).1 (sliceBounds lo hi (some c) n).2.1 (sliceBounds lo hi (some c) n).2.2
def pickS {α : Type} (c : Int) (xs : List α) (lo hi : Option Int) : List α := (atsS c xs.length lo hi).filterMap fun i => xs[i]?
theorem pickS_map {α β : Type} (f : α → β) (c : Int) (xs : List α) (lo hi : Option Int) : pickS c (xs.map f) lo hi = (pickS c xs lo hi).map f := by
  unfold pickS
  rw [List.length_map, List.map_filterMap]
  congr 1
  funext i
  rw [List.getElem?_map]
theorem pickS_len {α : Type} (c : Int) (xs : List α) (lo hi : Option Int) : (pickS c xs lo hi).length ≤ (atsS c xs.length lo hi).length := List.length_filterMap_le _ _
theorem atsS_len {c : Int} (hc : 0 < c) (n : Nat) (lo hi : Option Int) : (atsS c n lo hi).length ≤ n := by
  refine sliceRange_length_le _ _ _ _ (fun _ => ?_) fun h => absurd hc h
  have hp : (c > 0) = True := by simp; omega
  unfold sliceBounds
  simp only [Option.getD_some, hp, if_true]
  refine ⟨?_, ?_⟩
  · cases lo with
    | none => exact Int.le_refl _
    | some v => show 0 ≤ max 0 (min (if v < 0 then v + (n : Int) else v) (n : Int)); omega
  · cases hi with
    | none => exact Int.le_refl _
    | some v => show max 0 (min (if v < 0 then v + (n : Int) else v) (n : Int)) ≤ (n : Int); omega
theorem vals_pick {xs : List V} {us : List Value} (r : Vals xs us) : ∀ is : List Nat, Vals (is.filterMap fun i => xs[i]?) (is.filterMap fun i => us[i]?)
  | [] => .nil
  | i :: is => by
    have ih := vals_pick r is
    cases h : xs[i]? with
    | none =>
      rw [List.filterMap_cons_none h, List.filterMap_cons_none (r.none_of h)]
      exact ih
    | some x =>
      obtain ⟨u, hu, ru⟩ := r.get h
      rw [List.filterMap_cons_some h, List.filterMap_cons_some hu]
      exact .cons ru ih
theorem dv_pick {k : KC} {F : Hp} {vs : List V} {ds : List D} (r : DvAll k F vs ds) : ∀ is : List Nat, DvAll k F (is.filterMap fun i => vs[i]?) (is.filterMap fun i => ds[i]?)
  | [] => .nil
  | i :: is => by
    have ih := dv_pick r is
    cases h : ds[i]? with
    | none =>
      have hv : vs[i]? = none := by
        have := r.length
        rw [List.getElem?_eq_none_iff] at h ⊢
        omega
      rw [List.filterMap_cons_none h, List.filterMap_cons_none hv]
      exact ih
    | some x =>
      obtain ⟨u, hu, ru⟩ := r.get h
      rw [List.filterMap_cons_some h, List.filterMap_cons_some hu]
      exact .cons ru ih
theorem DvAll.pickS {k : KC} {F : Hp} {vs : List V} {ds : List D} (r : DvAll k F vs ds) (c : Int) (lo hi : Option Int) : DvAll k F (Pu.pickS c vs lo hi) (Pu.pickS c ds lo hi) := by
  unfold Pu.pickS
  rw [r.length]
  exact dv_pick r _
def tSlS (K : PySem.W.Frag) (c : Int) (te : TE) (tl th : TO) : TE := fun σ H Q => te σ H fun x H1 => tl σ H1 fun l H2 => th σ H2 fun u H3 => ∃ a xs, x = .ref a ∧ SqL K H3 a xs ∧ ∀ p, H3 p = none → Q (.ref p) (upd H3 p (.lst (pickS c xs l u)))
section
variable {X : Cx}
theorem pe_sliceS {e : Expr} {te : TE} {lo hi : Option Expr} {tl th : TO} {c : Int} (hc : 0 < c) {kk : Nat} {p1 p2 pos : Pos} (he : PE X e te) (hl : PO X lo tl) (hu : PO X hi th) : PE X (.Subscript e (.Slice lo hi (some (.Constant (.int c) kk p1)) p2) pos) (tSlS X.K c te tl th) := by
  refine ⟨fun pins s σ H Q I h => ?_⟩
  refine Subscript_ (thn (he.run pins s σ H _ I h) fun v s1 ⟨x, H1, I1, r1, q1⟩ => ?_)
  have hst : PO X (some (.Constant (.int c) kk p1)) (tPart (tC (.int c))) := po_some pe_int
  refine wpAny_Slice (thn (hl.run pins s1 σ H1 _ I1 q1) fun vl s2 ⟨l, H2, I2, pl, q2⟩ => thn (hu.run pins s2 σ H2 _ I2 q2) fun vu s3 ⟨u, H3, I3, pu, q3⟩ => ?_)
  obtain ⟨a, xs, ex, hx, q⟩ := q3
  subst ex
  cases r1
  refine thn (hst.run pins s3 σ H3 (fun o H4 => o = some c ∧ H4 = H3) I3 ⟨c, rfl, rfl, rfl⟩) fun vs s4 ⟨o, H4, I4, ps, eo, e4⟩ => ?_
  subst eo e4
  have I5 : Inv X pins σ H4 { s4 with heap := s4.heap.push { cls := .type "slice", data := .fields #[vl, vu, vs] } } := I4.kept (t' := s4.toks) fun b ob q => Heap.get?_push_of_some _ q
  obtain ⟨its, r, ht, hz⟩ := I5.list hx
  have hlen := r.length
  show wpAny (model X.prog X.w) X.A (subscriptTail e (.Slice lo hi (some (.Constant (.int c) kk p1)) p2) (.ref a) (.ref s4.heap.objs.size)) (EP X pins σ Q) X.xe { s4 with heap := s4.heap.push { cls := .type "slice", data := .fields #[vl, vu, vs] } }
  refine tail_any (ops := [.ref a, .ref s4.heap.objs.size]) ht.isList.typeIs (PySem.slot_list_getitem.lookup) ?_ (by with_unfolding_all rfl)
  refine wpAny_getItem_list_slice ht.isList (Heap.IsSliceOf.new _ vl vu vs) pl pu ps (fun z => by cases z; omega) ?_ (by rw [List.size_toArray]; omega)
  have epk : slicePick its.toArray l u (some c) = ((atsS c its.length l u).filterMap fun i => its[i]?).toArray := by
    unfold slicePick atsS
    rw [List.size_toArray]
    simp
  rw [epk]
  refine ⟨.ref _, _, I5.laid (t' := s4.toks) (o := .lst (pickS c xs l u)) (fun b ob q => Heap.get?_push_of_some _ q) (Nat.le_refl _) ?_, rfl, q _ (I5.hok.fresh (Nat.le_refl _))⟩
  refine ⟨Nat.le_trans (Nat.le_trans (pickS_len c xs l u) (atsS_len hc _ _ _)) hz, _, 0, ?_, Heap.get?_push_size _ rfl⟩
  unfold pickS
  rw [hlen]
  exact vals_pick r _
end
def sliceS (c : Int) (d : D) (lo hi : Option Int) : R D :=
  match d with
  | .lst ds => .ok (.lst (pickS c ds lo hi))
  | .scr ns => .ok (.lst ((pickS c ns lo hi).map D.int))
  | _ => .stuck
theorem sliceS_exc {c : Int} : ∀ d a b x, sliceS c d a b ≠ .exc x := fun d a b x h => by cases d <;> simp [sliceS] at h
section
variable {X : Cx} {k : KC} {G : List Md} {W : WE} {a : Expr} {f : Env → R D} {pos : Pos}
theorem pu_cutS {m0 : Mo} {c : Int} {lo hi : Option Expr} {fl fu : Env → R (Option Int)} {kk : Nat} {p1 p2 : Pos} (J : Jx X k G W) (ha : PuE X k G W m0 a f) (hl : PuO X k G W lo fl) (hu : PuO X k G W hi fu) (hc : 0 < c := by decide) : PuE X k G W .own (.Subscript a (.Slice lo hi (some (.Constant (.int c) kk p1)) p2) pos) (slE (sliceS c) f fl fu) := .mk fun F0 H0 F ρ σ H Q S q => by
  obtain ⟨tl, pl, ql⟩ := hl
  obtain ⟨tu, pu, qu⟩ := hu
  refine canE_of (pe_sliceS hc pe_can pl pu) (ha.run F0 H0 F ρ σ H _ S ?_)
  refine (PostR.bind q).imp fun x _ q1 v F1 H1 x1 rv => ?_
  refine ql F0 H0 F1 ρ σ H1 _ (S.step x1) ?_
  refine ((PostR.bind q1).grow x1).imp fun a _ q2 F2 H2 x2 => ?_
  refine qu F0 H0 F2 ρ σ H2 _ ((S.step x1).step x2) ?_
  refine ((PostR.bind q2).grow (x1.trans x2)).imp fun b _ q3 F3 H3 x3 => ?_
  have h := (rv.ext (x2.trans x3)).vw
  have s := x3.sub
  cases x with
  | lst ds =>
    obtain ⟨a', xs, e1, t1, a1⟩ := vw_lst s h
    refine ⟨a', xs, e1, J.kk ▸ SqL.of t1, fun p hp => ?_⟩
    exact q3 _ _ _ (x1.trans (x2.trans (x3.trans (Ext.own s hp)))) ((show Res k .own H3 F3 (upd H3 p (.lst (pickS c xs a b))) (.ref p) (.lst (pickS c ds a b)) from ⟨p, rfl, hp, s.free hp, .lst upd_same (a1.pickS c a b)⟩).back (x1.sh.trans (x2.sh.trans x3.sh)))
  | scr ns =>
    obtain ⟨a', e1, t1⟩ := vw_scr h
    refine ⟨a', _, e1, J.kk ▸ sq_mono s t1, fun p hp => ?_⟩
    refine q3 _ _ _ (x1.trans (x2.trans (x3.trans (Ext.own s hp)))) ((show Res k .own H3 F3 (upd H3 p (.lst (pickS c (ns.map V.int) a b))) (.ref p) (.lst ((pickS c ns a b).map D.int)) from ⟨p, rfl, hp, s.free hp, .lst upd_same ?_⟩).back (x1.sh.trans (x2.sh.trans x3.sh)))
    have z := (DvAll.ints (k := k) (F := F3) ns).pickS c a b
    rw [pickS_map D.int] at z
    exact z
  | _ => exact q3.elim
end
theorem wp_slS {c : Int} {ns : List Int} {lo hi : Option Int} {PD : D → Prop} {E : Exc → Prop} : (sliceS c (.scr ns) lo hi).wp PD E ↔ PD (.lst ((pickS c ns lo hi).map D.int)) := Iff.rfl
end Pu

namespace Pu
open PySem PySem.Spec PyProof.Rows L2

/-! ### find, strip(signs), min of four -/
section
variable {X : Cx} {k : KC} {G : List Md} {W : WE} {m m1 m2 : Mo} {a b c d : Expr} {f g : Env → R D} {fs : Env → R (List D)} {pos p apos : Pos}
theorem pu_find (ha : PuE X k G W m1 a f) (hb : PuE X k G W m2 b g)
    (hs : starEach [b] X.env = [(false, eval b X.env)] := by rfl) (hbase : attributeBase a "find" X.env (eval a X.env) = eval a X.env := by rfl) (hline : (apos.endLine == pos.line) = true := by rfl) :
    PuE X k G W .frz (.Call (.Attribute a "find" apos) [b] [] pos) (m1E findD f g) :=
  pu_m1 PySem.F.slot_str_find PySem.F.type_str_find mt_find (fun F H v w d e Q s h1 h2 q => by
    cases d with
    | str z =>
      cases e with
      | str b =>
        obtain ⟨e1, l1⟩ := vw_str h1
        obtain ⟨e2, l2⟩ := vw_str h2
        subst e1
        subst e2
        exact ⟨⟨_, rfl⟩, _, _, rfl, rfl, q _ F H (Ext.refl s) (.int _)⟩
      | _ => exact q.elim
    | _ => cases e <;> exact q.elim) (fun d e x h => by
      cases d <;> cases e <;> cases h) ha hb hs hbase hline
/-- s.strip(signs) -/
def stripD : D → D → R D
  | .str s, .str b => if (Txt.stripChars (tx s) (tx b)).length ≤ szT then .ok (.str (cs (Txt.stripChars (tx s) (tx b)))) else .stuck
  | _, _ => .stuck
theorem pu_strip (ha : PuE X k G W m1 a f) (hb : PuE X k G W m2 b g)
    (hs : starEach [b] X.env = [(false, eval b X.env)] := by rfl) (hbase : attributeBase a "strip" X.env (eval a X.env) = eval a X.env := by rfl) (hline : (apos.endLine == pos.line) = true := by rfl) :
    PuE X k G W .frz (.Call (.Attribute a "strip" apos) [b] [] pos) (m1E stripD f g) :=
  pu_m1 PySem.F.slot_str_strip PySem.F.type_str_strip mt_stripChars (fun F H v w d e Q s h1 h2 q => by
    cases d with
    | str z =>
      cases e with
      | str b =>
        simp only [stripD] at q
        obtain ⟨e1, l1⟩ := vw_str h1
        obtain ⟨e2, l2⟩ := vw_str h2
        subst e1
        subst e2
        split at q
        · rename_i y
          split at y
          · rename_i hc
            cases y
            exact ⟨⟨_, rfl⟩, _, _, rfl, rfl, by rw [tx_len]; exact l1, q _ F H (Ext.refl s) (dv_str _ (szT_le hc))⟩
          · cases y
        · exact q.elim
      | _ => exact q.elim
    | _ => cases e <;> exact q.elim) (fun d e x h => by
      cases d <;> cases e <;> simp only [stripD] at h
      all_goals first | cases h | (split at h <;> cases h)) ha hb hs hbase hline
end

/-! min(a, b, c, d) -/
section
variable {prog : Program} {w : World} {A : Around} {E : Value → Shared → Prop} {s : Shared}
theorem args_min4 (v1 v2 v3 v4 : Value) : argsOk "min" ⟨[v1, v2, v3, v4], []⟩ := by unfold argsOk; kernel_rfl
theorem least4 {v1 v2 v3 v4 : Value} {Q : Value → Shared → Prop}
    (hi : wpAny (model prog w) A.in1 (pyIter (.ref s.heap.objs.size)) (fun it sh => ∃ I fp wr n P St bt, it = .ref I ∧ Walks prog w A.in1 I fp wr n P St ∧ St 0 sh.heap ∧ (∀ z ∈ fp, z < sh.heap.objs.size) ∧ 0 < n ∧
      CmpOf prog w A.in1 .Lt P bt ∧ ∀ u h' tk, P (argBest bt (n - 1)) u → (∀ z o, z ∉ wr → sh.heap.get? z = some o → h'.get? z = some o) → Q u { sh with heap := h', toks := tk }) E
      { s with heap := s.heap.push { cls := .type "tuple", data := .seq #[v1, v2, v3, v4] } }) :
    wpAny (model prog w) A (call (.builtin "min") [v1, v2, v3, v4]) Q E s := by
  have nm : (toString "min" ++ toString ".loop" : String) = "min.loop" := by decide
  apply call_function_tree F.kind_min F.plain_min F.entry_min (args_min4 _ _ _ _)
  show wpAny _ A.in1 (Builtin.Builtins.bindParams "min" ["key", "default"] 0 ⟨[], []⟩ >>= fun _ => _) _ _ s
  apply wpAny_bind
  refine wpAny_of_eq (show Builtin.Builtins.bindParams "min" ["key", "default"] 0 ⟨[], []⟩ = pure [none, none] from rfl) ?_
  show wpAny _ A.in1 (newTuple [v1, v2, v3, v4] >>= fun _ => _) _ _ s
  apply wpAny_bind
  refine wpAny_newObj_type ?_
  apply wpAny_bind
  refine wpAny_mono hi (fun it sh hh => ?_) fun _ _ z => z
  obtain ⟨I, fp, wr, n, P, St, bt, e0, W, hst, hfp, hn, hcmp, hQ⟩ := hh
  subst e0
  apply wpAny_bind
  refine wpAny_newObj_type ?_
  have apart : sh.heap.objs.size ∉ fp := fun z => Nat.lt_irrefl _ (hfp _ z)
  rw [nm]
  apply wpAny_pure
  refine ⟨plainId_quiet F.plain_min_loop _, ?_⟩
  refine codeAny_min_loop_first W bt hcmp sh.heap.objs.size apart hn (W.frame _ _ _ hst fun z _ o e => Heap.get?_push_of_some _ e) (Heap.get?_push_size _ rfl) fun u h' tk hP hk => ?_
  exact hQ u h' tk hP fun z o hz e => hk z o hz (Nat.ne_of_lt (Heap.lt_size e)) (Heap.get?_push_of_some _ e)
theorem least4_ints {l : List (Int × Tok)} {v1 v2 v3 v4 : Value} (hl : l.map (fun p => Value.int p.1 p.2) = [v1, v2, v3, v4]) {Q : Value → Shared → Prop} (hh : A.handled = none)
    (h : ∀ h' tk M t', (∀ z o, s.heap.get? z = some o → h'.get? z = some o) → M ∈ l.map (·.1) → (∀ y, y ∈ l.map (·.1) → M ≤ y) → Q (.int M t') { s with heap := h', toks := tk }) :
    wpAny (model prog w) A (call (.builtin "min") [v1, v2, v3, v4]) Q E s := by
  have hits : intItems l.toArray = #[v1, v2, v3, v4] := by
    apply Array.ext'
    unfold intItems
    rw [Array.toList_map]
    exact hl
  have hlen : l.length = 4 := by simpa using congrArg List.length hl
  have tup : (s.heap.push { cls := .type "tuple", data := .seq #[v1, v2, v3, v4] }).IsTuple s.heap.objs.size (intItems l.toArray) := ⟨_, Heap.get?_push_size _ rfl, rfl, 0, by rw [hits]⟩
  have big : (s.heap.push { cls := .type "tuple", data := .seq #[v1, v2, v3, v4] }).objs.size = s.heap.objs.size + 1 := Heap.size_push ..
  have n4 : (intItems l.toArray).size = 4 := by rw [hits]; rfl
  apply least4
  apply wpAny_pyIter_tuple tup
  refine ⟨_, [_, s.heap.objs.size], [_], _, _, _, _, rfl, Walks.tuple (A := A.in1) hh _ s.heap.objs.size (by rw [big]; exact Nat.ne_of_lt (Nat.lt_succ_self _)) (intItems l.toArray), ⟨⟨_, Heap.get?_push_size _ rfl, rfl, rfl⟩, tup.push _⟩, ?_, by rw [n4]; decide,
    CmpOf.ints_lt (numAt l.toArray) (fun _ _ => intItems_at), ?_⟩
  · intro z hz
    show z < ((s.heap.push _).push _).objs.size
    rw [Heap.size_push, big]
    simp only [List.mem_cons, List.not_mem_nil, or_false] at hz
    rcases hz with hz | hz
    · rw [big] at hz
      rw [hz]
      exact Nat.lt_succ_self _
    · rw [hz]
      exact Nat.lt_succ_of_lt (Nat.lt_succ_self _)
  · intro u h' tk hP hk
    rw [n4] at hP
    obtain ⟨t, e⟩ := intItems_at hP
    subst e
    obtain ⟨h1, h2⟩ := argBest_lt (numAt l.toArray) 3
    refine h h' tk _ t (fun z o e => ?_) ?_ fun y hy => ?_
    · refine hk z o (fun hm => ?_) (Heap.get?_push_of_some _ (Heap.get?_push_of_some _ e))
      have lt := Heap.lt_size e
      simp only [List.mem_cons, List.not_mem_nil, or_false] at hm
      rw [big] at hm
      rcases hm with hm
      rw [hm] at lt
      exact Nat.lt_irrefl _ (Nat.lt_of_succ_lt lt)
    · rw [numAt_eq]
      exact PySem.getD_mem (by rw [List.length_map, hlen]; exact Nat.lt_succ_of_le h1)
    · obtain ⟨j, hj, rfl⟩ := mem_getD hy
      rw [List.length_map, hlen] at hj
      have := h2 j (by omega)
      rw [numAt_eq _ j] at this
      exact this
end
section
variable {X : Cx} {k : KC} {G : List Md} {W : WE} {m1 : Mo} {a b c d : Expr} {fs : Env → R (List D)} {pos p : Pos}
theorem call_min4 (hc : X.calm = true) : CallR X (.builtin "min") (fun xs H Q => ∃ ns : List Int, ns.length = 4 ∧ xs = ns.map V.int ∧ ∀ m, m ∈ ns → (∀ y, y ∈ ns → m ≤ y) → Q (.int m) H) := by
  intro pins s σ H xs us Q I r h
  obtain ⟨ns, hl, e, q⟩ := h
  match ns, hl with
  | [n1, n2, n3, n4], _ =>
    subst e
    cases r with
    | cons r1 r =>
      cases r with
      | cons r2 r =>
        cases r with
        | cons r3 r =>
          cases r with
          | cons r4 r =>
            cases r
            obtain ⟨t1, rfl⟩ := r1
            obtain ⟨t2, rfl⟩ := r2
            obtain ⟨t3, rfl⟩ := r3
            obtain ⟨t4, rfl⟩ := r4
            exact least4_ints (l := [(n1, t1), (n2, t2), (n3, t3), (n4, t4)]) rfl (I.ok.hd hc) fun h' tk m t' keep hm hle => ⟨.int m, H, I.kept keep, ⟨_, rfl⟩, q m hm hle⟩
def min4D (ds : List D) : R D := match intsOf ds with
  | some ns => if ns.length = 4 then (match minOf ns with
    | some n => .ok (.int n)
    | none => .stuck) else .stuck
  | none => .stuck
theorem min4_exc : ∀ ds x, min4D ds ≠ .exc x := fun ds x h => by
  unfold min4D at h
  split at h
  · split at h
    · split at h <;> cases h
    · cases h
  · cases h
theorem resA_ints {H F' H' : Hp} : ∀ {ns : List Int} {vs : List V}, ResA k .vw H' F' H' vs (ns.map D.int) → vs = ns.map V.int
  | [], [], _ => rfl
  | [], _ :: _, h => h.elim
  | _ :: _, [], h => h.elim
  | n :: ns, v :: vs, h => by
    rw [vw_int h.1, resA_ints (H := H) h.2]
    rfl
theorem pu_min4 (hc : X.calm = true) (ha : PuA X k G W m1 [a, b, c, d] fs) (hm : X.mg "min" = none) (hg : L2.Gl X "min" := by rfl)
    (he : starEach [a, b, c, d] X.env = (false, eval a X.env) :: starEach [b, c, d] X.env := by rfl) (hpl : (backTo pos (starEach [b, c, d] X.env)).any (·.1) = false := by rfl) : PuE X k G W .frz (.Call (.Name "min" p) [a, b, c, d] [] pos) (eA min4D fs) :=
  pu_callB (call_min4 hc) (fun F H vs ds Q s h q => by
    unfold min4D at q
    cases z : intsOf ds with
    | none => simp only [z] at q
    | some ns =>
      simp only [z] at q
      by_cases hl : ns.length = 4
      · simp only [if_pos hl] at q
        cases y : minOf ns with
        | none => simp only [y] at q
        | some n =>
          simp only [y] at q
          rw [intsOf_eq z] at h
          refine ⟨ns, hl, resA_ints (H := H) h, fun m hm hle => ?_⟩
          rw [minOf_is y hm hle]
          exact q _ F H (Ext.refl s) (.int n)
      · simp only [if_neg hl] at q) min4_exc ha hm bt_min hg (by decide) (by decide) he hpl
end
/-! 'x' * n -/
def repX (a : Str) (n : Nat) : Str := ⟨(List.replicate n a.cps).foldl (· ++ ·) #[]⟩
theorem rep_zero {a : Str} (h : a.length = 0) : ∀ n, repX a n = a := by
  have e : a.cps = #[] := by
    have : a.cps.size = 0 := h
    exact Array.eq_empty_of_size_eq_zero this
  intro n
  have f : ∀ n : Nat, (List.replicate n a.cps).foldl (· ++ ·) #[] = #[] := fun n => by
    induction n with
    | zero => rfl
    | succ n ih =>
      rw [List.replicate_succ, List.foldl_cons, e]
      rw [e] at ih
      exact ih
  show Str.mk _ = a
  rw [f n, ← e]
theorem rep_list (a : Str) (n : Nat) : (repX a n).cps.toList = (List.replicate n a.cps.toList).flatten := by
  have key : ∀ (n : Nat) (b : Array Nat), ((List.replicate n a.cps).foldl (· ++ ·) b).toList = b.toList ++ (List.replicate n a.cps.toList).flatten := by
    intro n
    induction n with
    | zero => intro b; simp
    | succ n ih =>
      intro b
      rw [List.replicate_succ, List.foldl_cons, ih]
      simp [List.replicate_succ]
  have := key n #[]
  simpa [repX] using this
theorem flat_rep {α : Type} (z : List α) : ∀ n : Nat, (List.replicate n z).flatten.length = n * z.length
  | 0 => by simp
  | n + 1 => by rw [List.replicate_succ, List.flatten_cons, List.length_append, flat_rep z n, Nat.succ_mul, Nat.add_comm]
theorem rep_len (a : Str) (n : Nat) : (repX a n).length = n * a.length := by
  have := congrArg List.length (rep_list a n)
  rw [flat_rep] at this
  simpa [Str.length] using this
def rRepS : R2 := fun x y H Q => ∃ (a : Str) (n : Int), x = .str a ∧ y = .int n ∧ 1 ≤ n ∧ n ≤ 1000 ∧ a.length ≤ 1000 ∧ Q (.str (repX a n.toNat)) H
theorem op_repS {X : Cx} : OpR X (binaryOp .Mult) rRepS := by
  intro pins s σ H x y v u Q I rx ry h
  obtain ⟨a, n, rfl, rfl, h1, h2, hz, q⟩ := h
  obtain ⟨t, rfl⟩ := rx
  obtain ⟨t', rfl⟩ := ry
  have hm : a.length * n.toNat ≤ 1000 * 1000 := Nat.mul_le_mul hz (by omega)
  refine PySem.P.mul_str (by rw [decide_eq_false (by omega), decide_eq_false (by omega)]; rfl) (fun _ _ => ?_) (fun _ _ => ?_) ?_
  · have h3 : (a.length : Int) ≤ (2 ^ 63 - 1) / n := Int.le_ediv_of_mul_le (by omega) (by
      have : ((a.length * n.toNat : Nat) : Int) ≤ 1000000 := by omega
      rw [Int.natCast_mul, Int.toNat_of_nonneg (by omega)] at this
      omega)
    omega
  · show decide _ = false
    exact decide_eq_false (by rw [sizeLine_eq]; omega)
  · rw [if_neg (by omega)]
    split
    · rename_i hc
      have e : repX a n.toNat = a := by
        rcases Bool.or_eq_true _ _ |>.mp hc with hc | hc
        · have hn : n = 1 := by simpa using hc
          subst hn
          show Str.mk _ = a
          simp
        · exact rep_zero (by simpa using hc) _
      rw [e] at q
      exact ⟨.str a, H, I, ⟨_, rfl⟩, q⟩
    · exact ⟨by show (repX a n.toNat).length ≤ _; rw [rep_len, Nat.mul_comm, sizeLine_eq]; omega, .str (repX a n.toNat), H, I.tok _, ⟨_, rfl⟩, q⟩
section
variable {X : Cx} {k : KC} {G : List Md} {W : WE} {m1 m2 : Mo} {a b : Expr} {f g : Env → R D} {pos : Pos}
/-- 'x' * n -/
def repS : D → D → R D
  | .str s, .int n => if (decide (1 ≤ n) && decide (n ≤ 1000) && decide (s.length ≤ 1000)) = true then .ok (.str (List.replicate n.toNat s).flatten) else .stuck
  | _, _ => .stuck
theorem noexc_repS : NoExc2 repS := fun d e x h => by
  cases d <;> cases e <;> simp [repS] at h
  all_goals (split at h <;> cases h)
theorem opp_repS : OpP k .frz rRepS repS := fun F H v w d e Q s h1 h2 q => by
  cases d with
  | str z =>
    cases e with
    | int n =>
      obtain ⟨e1, _⟩ := vw_str h1
      have e2 := vw_int h2
      subst e1
      subst e2
      by_cases hl : (decide (1 ≤ n) && decide (n ≤ 1000) && decide (z.length ≤ 1000)) = true
      · simp only [repS, if_pos hl] at q
        rw [Bool.and_eq_true, Bool.and_eq_true] at hl
        obtain ⟨⟨l1, l2⟩, l3⟩ := hl
        have l1 := of_decide_eq_true l1
        have l2 := of_decide_eq_true l2
        have l3 := of_decide_eq_true l3
        refine ⟨tx z, n, rfl, rfl, l1, l2, by rw [tx_len]; exact l3, ?_⟩
        have hr : repX (tx z) n.toNat = tx (List.replicate n.toNat z).flatten := by
          rw [← tx_surj (repX (tx z) n.toNat), rep_list]
          rfl
        rw [hr]
        have hm : n.toNat * z.length ≤ 1000 * 1000 := Nat.mul_le_mul (by omega) l3
        refine q _ F H (Ext.refl s) (.str _ (szT_le ?_))
        rw [flat_rep]
        exact hm
      · simp only [repS, if_neg hl] at q
    | _ => exact q.elim
  | _ => exact q.elim
theorem pu_repS (ha : PuE X k G W m1 a f) (hb : PuE X k G W m2 b g) : PuE X k G W .frz (.BinOp a .Mult b pos) (e2 repS f g) := pu_op op_repS opp_repS noexc_repS ha hb
theorem wp_repS {s : Tx} {n : Int} {PD : D → Prop} {E : Exc → Prop} : (repS (.str s) (.int n)).wp PD E ↔ (1 ≤ n ∧ n ≤ 1000 ∧ s.length ≤ 1000) ∧ PD (.str (List.replicate n.toNat s).flatten) := by
  unfold repS
  simp only [wp_guard, wp_ok, Bool.and_eq_true, decide_eq_true_eq, and_assoc]
end
end Pu

/-! dicts whose keys are tuples of ints and texts -/
namespace Pu
open PySem PySem.Spec PyProof.Rows L2

abbrev KL := List KD
def kl : KL → List L2.Key := List.map kd
theorem kl_inj {a b : KL} (h : kl a = kl b) : a = b := by
  induction a generalizing b with
  | nil => cases b with
    | nil => rfl
    | cons _ _ => cases h
  | cons x a ih =>
    cases b with
    | nil => cases h
    | cons y b =>
      injection h with h1 h2
      rw [kd_inj h1, ih h2]
theorem kl_iff {a b : KL} : kl a = kl b ↔ a = b := ⟨kl_inj, fun h => by rw [h]⟩
def keysD : List D → Option KL
  | [] => some []
  | d :: r => match keyD d with
    | some x => (keysD r).map (x :: ·)
    | none => none
def keyT : D → Option KL
  | .tup ds => keysD ds
  | _ => none
def lookT : List KL → List D → KL → Option D
  | k' :: ks, v :: vs, k => if k' = k then some v else lookT ks vs k
  | _, _, _ => none
def replT : List KL → List D → KL → D → List D
  | k' :: ks, v :: vs, k, d => (if k' = k then d else v) :: replT ks vs k d
  | _, vs, _, _ => vs
def memT (ks : List KL) (x : KL) : Bool := ks.any fun y => decide (y = x)
theorem memT_iff {ks : List KL} {x : KL} : memT ks x = true ↔ x ∈ ks := by
  unfold memT
  rw [List.any_eq_true]
  exact ⟨fun ⟨y, h1, h2⟩ => of_decide_eq_true h2 ▸ h1, fun h => ⟨x, h, decide_eq_true rfl⟩⟩
def dputT (ks : List KL) (vs : List D) (x : KL) (d : D) : D := if memT ks x = true then .dtt ks (replT ks vs x d) else .dtt (ks ++ [x]) (vs ++ [d])
section
variable {k : KC} {F : Hp}
theorem keys_is : ∀ {ds : List D} {x : KL} {vs : List V}, DvAll k F vs ds → keysD ds = some x → vs = (kl x).map kV
  | [], x, vs, h, e => by cases h; cases e; rfl
  | d :: ds, x, vs, h, e => by
    cases h with
    | cons h1 h2 =>
      simp only [keysD] at e
      cases z : keyD d with
      | none => rw [z] at e; cases e
      | some y =>
        rw [z] at e
        simp only [Option.map_eq_some_iff] at e
        obtain ⟨r, e1, rfl⟩ := e
        have i1 : Res k .vw F F F _ d := .inl h1
        rw [key_of i1 z, keys_is h2 e1]
        rfl
theorem keyT_of {H : Hp} {v : V} {d : D} {x : KL} (h : Res k .vw H F H v d) (e : keyT d = some x) : ∃ b, v = .ref b ∧ F b = some (.tup ((kl x).map kV)) := by
  cases d with
  | tup ds =>
    obtain ⟨a, xs, e1, t1, dv⟩ := vw_tup h
    exact ⟨a, e1, by rw [t1, keys_is dv e]⟩
  | _ => cases e
theorem lookT_val : ∀ {kvs : List (List L2.Key × V)} {ks : List KL} {ds : List D} (x : KL), kvs.map (·.1) = ks.map kl → DvAll k F (kvs.map (·.2)) ds →
    (lookT ks ds x = none ∧ valV kvs (kl x) = none) ∨ ∃ d v, lookT ks ds x = some d ∧ valV kvs (kl x) = some v ∧ Dv k F v d
  | [], [], _, x, _, h2 => by cases h2; exact .inl ⟨rfl, rfl⟩
  | [], _ :: _, _, x, h, _ => by cases h
  | _ :: _, [], _, x, h, _ => by cases h
  | (kk, v) :: kvs, y :: ks, ds, x, h1, h2 => by
    simp only [List.map_cons, List.cons.injEq] at h1
    cases h2 with
    | cons a b =>
      obtain ⟨e1, e2⟩ := h1
      subst e1
      by_cases hk : y = x
      · subst hk
        exact .inr ⟨_, v, by simp [lookT], by simp [valV], a⟩
      · rcases lookT_val x e2 b with ⟨h3, h4⟩ | ⟨d, u, h3, h4, h5⟩
        · refine .inl ⟨by simp [lookT, hk, h3], ?_⟩
          unfold valV at h4 ⊢
          rw [List.find?_cons_of_neg (by simp [kl_iff, hk])]
          exact h4
        · refine .inr ⟨d, u, by simp [lookT, hk, h3], ?_, h5⟩
          unfold valV at h4 ⊢
          rw [List.find?_cons_of_neg (by simp [kl_iff, hk])]
          exact h4
theorem putT_in {kvs : List (List L2.Key × V)} {ks : List KL} {ds : List D} {x : KL} {v : V} {d : D} (h1 : kvs.map (·.1) = ks.map kl) (h2 : DvAll k F (kvs.map (·.2)) ds) (dv : Dv k F v d) (hx : x ∈ ks) :
    (putK kvs (kl x) v).map (·.1) = ks.map kl ∧ DvAll k F ((putK kvs (kl x) v).map (·.2)) (replT ks ds x d) := by
  have hany : (kvs.any fun kv => decide (kv.1 = kl x)) = true := by
    rw [List.any_eq_true]
    have : kl x ∈ kvs.map (·.1) := by rw [h1]; exact List.mem_map_of_mem hx
    obtain ⟨p, hp, e⟩ := List.mem_map.mp this
    exact ⟨p, hp, decide_eq_true e⟩
  unfold putK
  rw [if_pos hany]
  clear hany hx
  refine ⟨?_, ?_⟩
  · rw [← h1, List.map_map]
    apply List.map_congr_left
    intro p _
    show (if p.1 = kl x then (p.1, v) else p).1 = p.1
    split <;> rfl
  · induction kvs generalizing ks ds with
    | nil =>
      cases ks with
      | nil => exact h2
      | cons _ _ => cases h1
    | cons p kvs ih =>
      cases ks with
      | nil => cases h1
      | cons y ks =>
        simp only [List.map_cons, List.cons.injEq] at h1
        simp only [List.map_cons] at h2
        cases h2 with
        | cons a b =>
          simp only [List.map_cons, replT]
          refine .cons ?_ (ih h1.2 b)
          by_cases hk : y = x
          · subst hk
            rw [if_pos h1.1, if_pos rfl]
            exact dv
          · rw [if_neg (by rw [h1.1, kl_iff]; exact hk), if_neg hk]
            exact a
theorem putT_out {kvs : List (List L2.Key × V)} {ks : List KL} {ds : List D} {x : KL} {v : V} {d : D} (h1 : kvs.map (·.1) = ks.map kl) (h2 : DvAll k F (kvs.map (·.2)) ds) (dv : Dv k F v d) (hx : x ∉ ks) :
    (putK kvs (kl x) v).map (·.1) = (ks ++ [x]).map kl ∧ DvAll k F ((putK kvs (kl x) v).map (·.2)) (ds ++ [d]) := by
  have hany : ¬ (kvs.any fun kv => decide (kv.1 = kl x)) = true := by
    rw [List.any_eq_true]
    rintro ⟨p, hp, e⟩
    have : kl x ∈ ks.map kl := by rw [← h1]; exact List.mem_map.mpr ⟨p, hp, of_decide_eq_true e⟩
    obtain ⟨y, hy, e2⟩ := List.mem_map.mp this
    rw [kl_inj e2] at hy
    exact hx hy
  unfold putK
  rw [if_neg hany]
  refine ⟨by rw [List.map_append, h1, List.map_append]; rfl, ?_⟩
  rw [List.map_append]
  exact h2.append (.cons dv .nil)
end
/-- d[k] -/
def dgetT : D → D → R D
  | .dtt ks vs, y => match keyT y with
    | some x => match lookT ks vs x with
      | some d => .ok d
      | none => .stuck
    | none => .stuck
  | _, _ => .stuck
theorem dgetT_exc : NoExc2 dgetT := fun d e x h => by
  cases d with
  | dtt ks vs =>
    simp only [dgetT] at h
    split at h
    · split at h <;> cases h
    · cases h
  | _ => cases h
/-- k in d -/
def dinT (neg : Bool) : D → D → R Bool
  | y, .dtt ks vs => match keyT y with
    | some x => .ok (if neg then !(lookT ks vs x).isSome else (lookT ks vs x).isSome)
    | none => .stuck
  | _, _ => .stuck
section
variable {X : Cx} {k : KC} {G Gl : List Md} {W : WE} {m m1 m2 : Mo} {n : Nat} {a b e : Expr} {f g h : Env → R D} {fs : Env → R (List D)} {pos p p1 apos : Pos} {x : Str} {ro : RM}
theorem pu_dgetT (hr : Room n X.A) (ha : PuE X k G W m1 a f) (hb : PuE X k G W m2 b g) (hs : NoSl b := by exact fun _ _ => rfl) : PuE X k G W .frz (.Subscript a b pos) (e2 dgetT f g) :=
  two (r := fun x y H Q => ∃ a v, x = .ref a ∧ DGet H a y (some v) ∧ Q v H) (pe_dget (units1 hr) pe_can pe_can hs) (fun _ _ _ q => q) (fun F H v w d e Q s h1 h2 q => by
    cases d with
    | dtt ks vs =>
      simp only [dgetT] at q
      cases zk : keyT e with
      | none => simp only [zk] at q
      | some x =>
        simp only [zk] at q
        obtain ⟨a, kvs, e1, t1, hk, dv⟩ := vw_dtt s h1
        obtain ⟨b, e2, t2⟩ := keyT_of h2 zk
        rcases lookT_val x hk dv with ⟨h3, h4⟩ | ⟨d, u, h3, h4, h5⟩
        · simp only [h3] at q
        · simp only [h3] at q
          refine ⟨a, u, e1, ?_, q u F H (Ext.refl s) h5⟩
          rw [e2, ← h4]
          exact DGet.t t1 (s _ _ t2)
    | _ => exact q.elim) dgetT_exc ha hb
theorem dinT_post {neg : Bool} {F0 H0 F H : Hp} {ρ : Env} {σ : Sl} {Q : VK} (S : St4 k G F0 H0 F ρ σ H) (ha : PuE X k G W m1 a f) (hb : PuE X k G W m2 b g)
    (q : PostR k F H W σ (fun b => ∀ F' H', Ext F H F' H' → Q (.bl b) H') (c2 (dinT neg) f g ρ)) :
    canE X a σ H fun y H1 => canE X b σ H1 fun x H2 => ∃ a o, x = .ref a ∧ DGet H2 a y o ∧ Q (.bl (if neg then !o.isSome else o.isSome)) H2 := by
  refine ha.run F0 H0 F ρ σ H _ S ?_
  refine (PostR.bind q).imp fun y _ q1 v F1 H1 x1 rv => ?_
  refine hb.run F0 H0 F1 ρ σ H1 _ (S.step x1) ?_
  refine ((PostR.bind q1).grow x1).imp fun d _ q2 w F2 H2 x2 rw_ => ?_
  cases d with
  | dtt ks vs =>
    simp only [dinT] at q2
    cases zk : keyT y with
    | none => simp only [zk] at q2; exact q2.elim
    | some x =>
      simp only [zk] at q2
      obtain ⟨a, kvs, e1, t1, hk, dv⟩ := vw_dtt x2.sub rw_.vw
      obtain ⟨b, e2, t2⟩ := keyT_of (rv.ext x2).vw zk
      refine ⟨a, valV kvs (kl x), e1, by rw [e2]; exact DGet.t t1 (x2.sub _ _ t2), ?_⟩
      have q3 := q2 F2 H2 (x1.trans x2)
      rcases lookT_val x hk dv with ⟨h3, h4⟩ | ⟨d, u, h3, h4, h5⟩
      · rw [h3] at q3; rw [h4]; exact q3
      · rw [h3] at q3; rw [h4]; exact q3
  | _ => cases y <;> exact q2.elim
theorem pu_dinT (hr : Room n X.A) (ha : PuE X k G W m1 a f) (hb : PuE X k G W m2 b g) (hm : behindInMarks .In b = false := by with_unfolding_all rfl) : PuC X k G W (.Compare a [.In] [b] pos) (c2 (dinT false) f g) where
  T := .mk fun F0 H0 F ρ σ H Q S q => canT_of (pt_cmp (pc_din (units1 hr) pe_can pe_can) hm) (dinT_post (Q := fun x H' => ∃ d, x = .bl d ∧ Q d H') S ha hb (q.imp fun b _ i F' H' x => ⟨b, rfl, i F' H' x⟩))
  E := .mk fun F0 H0 F ρ σ H Q S q => canE_of (pe_cmp (pc_din (units1 hr) pe_can pe_can) hm) (dinT_post S ha hb ((PostR.bind q).imp fun b _ i F' H' x => i _ F' H' x (.bl b)))
theorem pu_dnotinT (hr : Room n X.A) (ha : PuE X k G W m1 a f) (hb : PuE X k G W m2 b g) (hm : behindInMarks .NotIn b = false := by with_unfolding_all rfl) : PuC X k G W (.Compare a [.NotIn] [b] pos) (c2 (dinT true) f g) where
  T := .mk fun F0 H0 F ρ σ H Q S q => canT_of (pt_cmp (pc_dnotin (units1 hr) pe_can pe_can) hm) (dinT_post (Q := fun x H' => ∃ d, x = .bl d ∧ Q d H') S ha hb (q.imp fun b _ i F' H' x => ⟨b, rfl, i F' H' x⟩))
  E := .mk fun F0 H0 F ρ σ H Q S q => canE_of (pe_cmp (pc_dnotin (units1 hr) pe_can pe_can) hm) (dinT_post S ha hb ((PostR.bind q).imp fun b _ i F' H' x => i _ F' H' x (.bl b)))
/-- {}, to be filled so -/
theorem pu_dnewT : PuE X k G W .own (.Dict [] [] pos) (eC (.dtt [] [])) := .mk fun F0 H0 F ρ σ H Q S q =>
  canE_of pe_dnewT fun p hp => q _ F _ (Ext.own S.sub hp) ⟨p, rfl, hp, S.sub.free hp, .dtt upd_same rfl .nil⟩
def dttAt : Nat → Env → R (List KL × List D)
  | 0, some (.dtt ks vs) :: _ => .ok (ks, vs)
  | i + 1, _ :: r => dttAt i r
  | _, _ => .stuck
theorem dttAt_some : ∀ {i : Nat} {r : Env} {ks : List KL} {vs : List D}, dttAt i r = .ok (ks, vs) → r[i]? = some (some (.dtt ks vs))
  | 0, [], _, _, h => by cases h
  | 0, none :: _, _, _, h => by cases h
  | 0, some d :: _, _, _, h => by cases d <;> cases h; rfl
  | i + 1, [], _, _, h => by cases h
  | i + 1, _ :: r, _, _, h => by
    have := dttAt_some (i := i) (r := r) h
    simpa using this
theorem dttAt_exc : ∀ {i : Nat} {r : Env} {x : Exc}, dttAt i r ≠ .exc x
  | 0, [], _, h => by cases h
  | 0, none :: _, _, h => by cases h
  | 0, some d :: _, _, h => by cases d <;> cases h
  | i + 1, [], _, h => by cases h
  | i + 1, _ :: r, _, h => dttAt_exc (i := i) (r := r) h
def keyTW (y : D) : R KL := match keyT y with
  | some x => .ok x
  | none => .stuck
def sDputT (i : Nat) (f g : Env → R D) : Env → SR := fun r => match g r with
  | .ok d => match dttAt i r with
    | .ok (ks, vs) => match f r with
      | .ok y => match keyT y with
        | some x => if ks.length < szT then .nx (r.set i (some (dputT ks vs x d))) else .stuck
        | none => .stuck
      | .exc x => .exc x r
      | .stuck => .stuck
    | _ => .stuck
  | .exc x => .exc x r
  | .stuck => .stuck
theorem own_dtt {F H : Hp} {p : Addr} {ks : List KL} {vs : List D} (h : OwnAt k F H p (.dtt ks vs)) : ∃ kvs, H p = some (.dT kvs) ∧ kvs.map (·.1) = ks.map kl ∧ DvAll k F (kvs.map (·.2)) vs := by
  cases h with
  | dtt h1 h2 h3 => exact ⟨_, h1, h2, h3⟩
theorem pus_dputT (i : Nat) (hr : Room n X.A) (J : Jx X k G W) (ha : PuE X k G W m1 a f) (he : PuE X k G W .frz e g) (hN : X.N[i]? = some x := by rfl) (hg : isOwn G i = true := by rfl)
    (hv : Vis X.env.scope x := by first | exact Or.inl rfl | exact Or.inr (Or.inl rfl) | exact Or.inr (Or.inr rfl)) (hd : (x == ("__debug__" : Str)) = false := by decide) (hcd : (x == ("__classdict__" : Str)) = false := by decide)
    (hs : swapsWith e (some (.Subscript (.Name x p1) a apos)) pos.line X.env = pure false := by rfl) :
    PuS X k G G Gl W ro (.Assign [.Subscript (.Name x p1) a apos] e pos) (sDputT i f g) := .mk fun F0 H0 F ρ σ H Dn S q => by
  refine canS_of (ps_dput (units1 hr) (pe_var (i := i) hN hv hd hcd) pe_can pe_can hs) ?_
  unfold sDputT at q
  refine he.run F0 H0 F ρ σ H _ S ?_
  cases z : g ρ with
  | stuck => rw [z] at q; exact q.elim
  | exc y => rw [z] at q; exact fun cls dd F' H' y z => q cls dd G F F' σ H H' J.oke (Same.refl F) S y z
  | ok d =>
    rw [z] at q
    simp only at q
    intro v F1 H1 x1 rv
    have S1 := S.step x1
    cases zd : dttAt i ρ with
    | exc y => exact absurd zd dttAt_exc
    | stuck => rw [zd] at q; exact q.elim
    | ok kv =>
      obtain ⟨ks, vs⟩ := kv
      have y := dttAt_some zd
      rw [zd] at q
      simp only at q
      obtain ⟨p, e1, fp, h0, ow⟩ := S1.own i _ y hg
      refine ⟨_, e1, ha.run F0 H0 F1 ρ σ H1 _ S1 ?_⟩
      cases zf : f ρ with
      | stuck => rw [zf] at q; exact q.elim
      | exc y => rw [zf] at q; exact fun cls dd F' H' y z => q cls dd G F1 F' σ H1 H' J.oke x1.sf S1 y z
      | ok j =>
        rw [zf] at q
        simp only at q
        intro w F2 H2 x2 rw_
        have S2 := S1.step x2
        obtain ⟨p', e1', fp', h0', ow'⟩ := S2.own i _ y hg
        rw [e1] at e1'
        cases e1'
        obtain ⟨kvs, t1, t2, t3⟩ := own_dtt ow'
        cases zk : keyT j with
        | none => simp only [zk] at q; exact q.elim
        | some kx =>
          simp only [zk] at q
          obtain ⟨b, ew, tb⟩ := keyT_of rw_.vw zk
          subst ew
          split at q
          · rename_i hlen
            have hl2 : kvs.length = ks.length := by simpa using congrArg List.length t2
            refine ⟨p, _, rfl, DPut.t t1 (x2.sub _ _ tb) (by rw [hl2]; exact Nat.lt_of_lt_of_le hlen (szT_le (Nat.le_refl _))), q F2 σ _ (x1.sf.trans x2.sf) (S2.wr hg y e1 fp' h0' ?_)⟩
            unfold dputT
            by_cases hx : memT ks kx = true
            · rw [if_pos hx]
              obtain ⟨u1, u2⟩ := putT_in (x := kx) t2 t3 (Dv.mono x2.sf rv) (memT_iff.mp hx)
              exact .dtt upd_same u1 u2
            · rw [if_neg hx]
              obtain ⟨u1, u2⟩ := putT_out (x := kx) t2 t3 (Dv.mono x2.sf rv) (fun z => hx (memT_iff.mpr z))
              exact .dtt upd_same u1 u2
          · exact q.elim
end
section
variable {PD : D → Prop} {PB : Bool → Prop} {E : Exc → Prop} {ks : List KL} {vs : List D} {ds : List D} {r : Env} {w : Ws} {k : Nat} {f g : Env → R D}
theorem wp_dgetT : (dgetT (.dtt ks vs) (.tup ds)).wp PD E ↔ ∃ x, keysD ds = some x ∧ ∃ d, lookT ks vs x = some d ∧ PD d := by
  simp only [dgetT, keyT]
  cases keysD ds with
  | none => exact ⟨fun h => h.elim, fun ⟨_, h, _⟩ => nomatch h⟩
  | some x =>
    simp only
    cases h : lookT ks vs x with
    | none => exact ⟨fun h => h.elim, fun ⟨_, e, _, e2, _⟩ => by cases e; rw [h] at e2; cases e2⟩
    | some d => exact ⟨fun q => ⟨x, rfl, d, h, q⟩, fun ⟨_, e, _, e2, q⟩ => by cases e; rw [h] at e2; cases e2; exact q⟩
theorem wp_dinT {n : Bool} : (dinT n (.tup ds) (.dtt ks vs)).wp PB E ↔ ∃ x, keysD ds = some x ∧ PB (if n then !(lookT ks vs x).isSome else (lookT ks vs x).isSome) := by
  simp only [dinT, keyT]
  cases keysD ds with
  | none => exact ⟨fun h => h.elim, fun ⟨_, h, _⟩ => nomatch h⟩
  | some x => exact ⟨fun q => ⟨x, rfl, q⟩, fun ⟨_, e, q⟩ => by cases e; exact q⟩
theorem dt_0 {P : List KL × List D → Prop} : (dttAt 0 (some (.dtt ks vs) :: r)).wp P E ↔ P (ks, vs) := Iff.rfl
theorem dt_S {o : Option D} {P : List KL × List D → Prop} : (dttAt (k + 1) (o :: r)).wp P E ↔ (dttAt k r).wp P E := Iff.rfl
theorem kw_t {P : KL → Prop} : (keyTW (.tup ds)).wp P E ↔ ∃ x, keysD ds = some x ∧ P x := by
  simp only [keyTW, keyT]
  cases keysD ds with
  | none => exact ⟨fun h => h.elim, fun ⟨_, h, _⟩ => nomatch h⟩
  | some x => exact ⟨fun q => ⟨x, rfl, q⟩, fun ⟨_, e, q⟩ => by cases e; exact q⟩
theorem ws_dputT : (sDputT k f g r).wp w ↔ (g r).wp (fun d => (dttAt k r).wp (fun kv => (f r).wp (fun y => (keyTW y).wp (fun x => kv.1.length < szT ∧ w.N (r.set k (some (dputT kv.1 kv.2 x d)))) noE) (fun e => w.E e r)) noE) (fun e => w.E e r) := by
  unfold sDputT
  cases g r with
  | exc e => exact Iff.rfl
  | stuck => exact Iff.rfl
  | ok d =>
    simp only [wp_ok]
    cases z : dttAt k r with
    | exc e => exact absurd z dttAt_exc
    | stuck => exact Iff.rfl
    | ok kv =>
      obtain ⟨ks, vs⟩ := kv
      simp only [wp_ok]
      cases f r with
      | exc e => exact Iff.rfl
      | stuck => exact Iff.rfl
      | ok a =>
        simp only [wp_ok]
        unfold keyTW
        cases keyT a with
        | none => exact Iff.rfl
        | some x =>
          simp only [wp_ok]
          show SR.wp (if ks.length < szT then _ else SR.stuck) w ↔ _
          by_cases h : ks.length < szT
          · rw [if_pos h]; exact ⟨fun q => ⟨h, q⟩, fun q => q.2⟩
          · rw [if_neg h]; exact ⟨fun q => q.elim, fun q => absurd q.1 h⟩
end

/-! ### calls that are lent own dicts alone: what they hand back may bear lists -/
def DDo (o : HO) : Prop := (∃ kvs, o = .dK kvs) ∨ ∃ kvs, o = .dT kvs
mutual
def ndD : D → Bool
  | .non => true
  | .bl _ => true
  | .int _ => true
  | .str _ => true
  | .scr _ => true
  | .tup xs => ndDs xs
  | .lst xs => ndDs xs
  | .ins _ _ vs => ndDs vs
  | .dct _ _ => false
  | .dtt _ _ => false
def ndDs : List D → Bool
  | [] => true
  | d :: r => ndD d && ndDs r
end
theorem not_dd {o : HO} (h : (∃ xs, o = .lst xs) ∨ (∃ xs, o = .tup xs) ∨ (∃ C dx fs, o = .ins C dx fs) ∨ (∃ x u, o = .frz x u) ∨ ∃ fs, o = .xd fs) : ¬ DDo o := by
  rintro (⟨_, e⟩ | ⟨_, e⟩) <;> (subst e; rcases h with ⟨_, h⟩ | ⟨_, h⟩ | ⟨_, _, _, h⟩ | ⟨_, _, h⟩ | ⟨_, h⟩ <;> cases h)
theorem sql_cut {K : PySem.W.Frag} {F F' : Hp} {a : Addr} {xs : List V} (c : ∀ a o, F a = some o → ¬ DDo o → F' a = some o) (h : SqL K F a xs) : SqL K F' a xs := by
  rcases h with (h | ⟨o, h⟩) | h
  · exact .inl (.inl (c _ _ h (not_dd (.inl ⟨_, rfl⟩))))
  · exact .inl (.inr ⟨o, c _ _ h (not_dd (.inr (.inr (.inr (.inl ⟨_, _, rfl⟩)))))⟩)
  · exact .inr h
section
variable {k : KC} {F F' F2 F3 H H2 H' : Hp}
mutual
theorem Dv.cutN (c : ∀ a o, F a = some o → ¬ DDo o → F' a = some o) : ∀ {v : V} {d : D}, Dv k F v d → ndD d = true → Dv k F' v d
  | _, _, .non => fun _ => .non
  | _, _, .bl b => fun _ => .bl b
  | _, _, .int i => fun _ => .int i
  | _, _, .str x h => fun _ => .str x h
  | _, _, .lst h1 h2 => fun f => .lst (c _ _ h1 (not_dd (.inl ⟨_, rfl⟩))) (DvAll.cutN c h2 f)
  | _, _, .tup h1 h2 => fun f => .tup (c _ _ h1 (not_dd (.inr (.inl ⟨_, rfl⟩)))) (DvAll.cutN c h2 f)
  | _, _, .scr h => fun f => .scr (sql_cut c h)
  | _, _, .dct h1 h2 h3 => fun f => by cases f
  | _, _, .dtt h1 h2 h3 => fun f => by cases f
  | _, _, .ins h0 h1 h2 h3 => fun f => .ins h0 (c _ _ h1 (not_dd (.inr (.inr (.inl ⟨_, _, _, rfl⟩))))) h2 (DvAll.cutN c h3 f)
theorem DvAll.cutN (c : ∀ a o, F a = some o → ¬ DDo o → F' a = some o) : ∀ {vs : List V} {ds : List D}, DvAll k F vs ds → ndDs ds = true → DvAll k F' vs ds
  | _, _, .nil => fun _ => .nil
  | _, _, .cons h1 h2 => fun f => by
    have f : (ndD _ && ndDs _) = true := f
    rw [Bool.and_eq_true] at f
    exact .cons (Dv.cutN c h1 f.1) (DvAll.cutN c h2 f.2)
end
/-- modes one by one: true: an own dict may be lent -/
def ResM (k : KC) (H F' H' : Hp) : List Bool → List V → List D → Prop
  | [], [], [] => True
  | b :: bs, v :: vs, d :: ds => Res k (if b then .vw else .frz) H F' H' v d ∧ ResM k H F' H' bs vs ds
  | _, _, _ => False
def isDctB : D → Bool
  | .dct _ _ => true
  | .dtt _ _ => true
  | _ => false
def okM : List Bool → List D → Bool
  | b :: bs, d :: ds => (!b || isDctB d) && okM bs ds
  | _, _ => true
theorem ResM.back {H1 : Hp} (s : Same H H1) : ∀ {bs : List Bool} {vs : List V} {ds : List D}, ResM k H1 F' H' bs vs ds → ResM k H F' H' bs vs ds
  | [], [], [], _ => trivial
  | _ :: _, _ :: _, _ :: _, h => ⟨h.1.back s, ResM.back s h.2⟩
  | [], [], _ :: _, h => h.elim
  | [], _ :: _, _, h => h.elim
  | _ :: _, [], _, h => h.elim
  | _ :: _, _ :: _, [], h => h.elim
theorem ResM.lend (s : Same F2 H2) : ∀ {bs : List Bool} {vs : List V} {ds : List D}, ResM k H F2 H2 bs vs ds → okM bs ds = true → ∃ F3, Same F2 F3 ∧ Same F3 H2 ∧ DvAll k F3 vs ds ∧ ∀ a o, F3 a = some o → F2 a = none → DDo o
  | [], [], [], _, _ => ⟨F2, Same.refl F2, s, .nil, fun a o e n => by rw [n] at e; cases e⟩
  | b :: bs, v :: vs, d :: ds, h, ok => by
    have ok : ((!b || isDctB d) && okM bs ds) = true := ok
    rw [Bool.and_eq_true] at ok
    obtain ⟨F3, s1, s2, dv, ld⟩ := ResM.lend s h.2 ok.2
    have frz : Dv k F2 v d → ∃ F3, Same F2 F3 ∧ Same F3 H2 ∧ DvAll k F3 (v :: vs) (d :: ds) ∧ ∀ a o, F3 a = some o → F2 a = none → DDo o := fun h1 => ⟨F3, s1, s2, .cons (h1.mono s1) dv, ld⟩
    cases b with
    | false => exact frz h.1
    | true =>
      have hd : isDctB d = true := ok.1
      rcases (h.1 : Dv k F2 v d ∨ ∃ p, v = .ref p ∧ F2 p = none ∧ OwnAt k F2 H2 p d) with h1 | ⟨p, e, n, ow⟩
      · exact frz h1
      · subst e
        cases e3 : F3 p with
        | some o =>
          have e4 := s2 _ _ e3
          refine ⟨F3, s1, s2, .cons ?_ dv, ld⟩
          cases ow with
          | lst a b => cases hd
          | dct a b c => rw [a] at e4; cases e4; exact .dct e3 b (c.mono s1)
          | dtt a b c => rw [a] at e4; cases e4; exact .dtt e3 b (c.mono s1)
        | none =>
          obtain ⟨o, eo⟩ := ow.there
          have su : Same F3 (upd F3 p o) := fun b z q => by rw [upd_ne (ne_of_none q e3)]; exact q
          refine ⟨upd F3 p o, s1.trans su, fun b z q => ?_, .cons ?_ (dv.mono su), fun a z q n' => ?_⟩
          · by_cases hb : b = p
            · subst hb; rw [upd_same] at q; cases q; exact eo
            · rw [upd_ne hb] at q; exact s2 _ _ q
          · cases ow with
            | lst a b => cases hd
            | dct a b c => rw [a] at eo; cases eo; exact .dct upd_same b (c.mono (s1.trans su))
            | dtt a b c => rw [a] at eo; cases eo; exact .dtt upd_same b (c.mono (s1.trans su))
          · by_cases hb : a = p
            · subst hb
              rw [upd_same] at q
              cases q
              cases ow with
              | lst a b => cases hd
              | dct a b c => rw [a] at eo; cases eo; exact .inl ⟨_, rfl⟩
              | dtt a b c => rw [a] at eo; cases eo; exact .inr ⟨_, rfl⟩
            · rw [upd_ne hb] at q; exact ld a z q n'
  | [], [], _ :: _, h, _ => h.elim
  | [], _ :: _, _, h, _ => h.elim
  | _ :: _, [], _, h, _ => h.elim
  | _ :: _, _ :: _, [], h, _ => h.elim
theorem backF_cutN (ld : ∀ a o, F3 a = some o → F2 a = none → DDo o) (s : Same F3 F') : ∀ a o, F' a = some o → ¬ DDo o → backF F2 F3 F' a = some o := fun a o e n => by
  unfold backF
  rw [if_neg]
  · exact e
  · rintro ⟨h1, h2⟩
    obtain ⟨z, ez⟩ := some_of_ne h2
    have := s _ _ ez
    rw [e] at this
    cases this
    exact n (ld a _ ez h1)
end
def ndR (ro : Bool) (d : D) : Bool := if ro then (match d with | .lst ds => ndDs ds | .dct _ ds => ndDs ds | .dtt _ ds => ndDs ds | _ => false) else ndD d
def lendN (ro : Bool) : R D → R D
  | .ok d => if ndR ro d = true then .ok d else .stuck
  | .exc x => match x.pay with
    | none => .exc x
    | some (_, d) => if ndD d = true then .exc x else .stuck
  | .stuck => .stuck
structure PuAm (X : Cx) (k : KC) (G : List Md) (W : WE) (bs : List Bool) (es : List Expr) (f : Env → R (List D)) : Prop where
  run : ∀ (F0 H0 F : Hp) (r : Env) (σ : Sl) (H : Hp) (Q : List V → Hp → Prop), St4 k G F0 H0 F r σ H →
    PostR k F H W σ (fun ds => ∀ vs F' H', Ext F H F' H' → ResM k H F' H' bs vs ds → Q vs H') (f r) → canA X es σ H Q
def callK (n : Nat) (M : List D → R D) (ro : Bool) (bs : List Bool) (fs : Env → R (List D)) : Env → R D := fun r => fs r >>= fun ds => if (decide (ds.length = n) && okM bs ds) = true then lendN ro (M ds) else .stuck
section
variable {X : Cx} {k : KC} {G : List Md} {W : WE} {lvl n : Nat} {f : Addr} {fd : FuncData} {ps : List Str} {M : List D → R D} {ro : Bool} {x : Str} {e : Expr} {es : List Expr} {bs : List Bool} {fs : Env → R (List D)} {ff : Env → R D} {p pos : Pos}
theorem puam_nil : PuAm X k G W [] [] aNil := .mk fun F0 H0 F ρ σ H Q S q => canA_of pa_nil (q [] F H (Ext.refl S.sub) trivial)
theorem puam_cons (b : Bool) (ha : PuE X k G W (if b then .vw else .frz) e ff) (hr : PuAm X k G W bs es fs) (hs : starEach (e :: es) X.env = (false, eval e X.env) :: starEach es X.env := by rfl) : PuAm X k G W (b :: bs) (e :: es) (aCons ff fs) := .mk fun F0 H0 F ρ σ H Q S q => by
  refine canA_of (pa_cons pe_can pa_can hs) (ha.run F0 H0 F ρ σ H _ S ?_)
  refine (PostR.bind q).imp fun x _ q1 v F1 H1 x1 rv => ?_
  refine hr.run F0 H0 F1 ρ σ H1 _ (S.step x1) ?_
  refine ((PostR.bind q1).grow x1).imp fun xs _ q2 vs F2 H2 x2 rvs => ?_
  exact q2 (v :: vs) F2 H2 (x1.trans x2) ⟨rv.ext x2, rvs.back x1.sh⟩
theorem PostC.lendN {F2 F3 H2 : Hp} {ro : Bool} {Q : VK} {E : XK} {z : R D} (s1 : Same F2 F3) (ld : ∀ a o, F3 a = some o → F2 a = none → DDo o) (q : PostC k F2 H2 ro Q E (lendN ro z)) : PostC k F3 H2 ro Q E z := by
  cases z with
  | ok d =>
    unfold Pu.lendN at q
    simp only at q
    by_cases hf : ndR ro d = true
    · rw [if_pos hf] at q
      intro v F' H' x3 r3
      have c := backF_cutN ld x3.sf
      refine q v _ H' (backF_ext s1 x3) ?_
      cases ro with
      | false => exact Dv.cutN c r3 hf
      | true =>
        obtain ⟨p, e, h1, h2, h3⟩ := r3
        refine ⟨p, e, h1, backF_none h2, ?_⟩
        cases h3 with
        | lst a b => exact .lst a (b.cutN c hf)
        | dct a b d => exact .dct a b (d.cutN c hf)
        | dtt a b d => exact .dtt a b (d.cutN c hf)
    · rw [if_neg hf] at q
      exact q.elim
  | exc y =>
    intro cls dd F' H' x3 ea
    have c := backF_cutN ld x3.sf
    have fin : Pu.lendN ro (.exc y) = .exc y → ExcAt k (backF F2 F3 F') y cls dd → E cls dd H' := fun h1 h2 => by
      rw [h1] at q
      exact q cls dd _ H' (backF_ext s1 x3) h2
    obtain ⟨C, c1, c2, c3⟩ := ea
    cases z : y.pay with
    | none =>
      refine fin (by simp only [Pu.lendN, z]) ⟨C, c1, c2, ?_⟩
      rw [z] at c3 ⊢
      exact c3
    | some w =>
      obtain ⟨f, d⟩ := w
      by_cases hf : ndD d = true
      · refine fin (by simp only [Pu.lendN, z, if_pos hf]) ⟨C, c1, c2, ?_⟩
        rw [z] at c3 ⊢
        obtain ⟨a, v, e1, e2, e3⟩ := c3
        exact ⟨a, v, e1, c _ _ e2 (not_dd (.inr (.inr (.inr (.inr ⟨_, rfl⟩))))), Dv.cutN c e3 hf⟩
      · simp only [Pu.lendN, z, if_neg hf] at q
        exact q.elim
  | stuck => exact q
theorem pu_callK (J : Jx X k G W) (F : FnOk X.prog X.w X.K X.mg X.base (CXb W.nn X.prog X.w) lvl f fd ps (spP k n M ro)) (hr : Room lvl X.A) (hm : X.mg x = some (.ref f)) (hk : PySem.W.keepIn X.K (.ref f) = true) (hb : Binds X.K fd ps [])
    (ha : PuAm X k G W bs (e :: es) fs) (hg : Gl X x := by rfl) (hdb : (x == ("__debug__" : Str)) = false := by decide) (he : starEach (e :: es) X.env = (false, eval e X.env) :: starEach es X.env := by rfl) (hpl : (backTo pos (starEach es X.env)).any (·.1) = false := by rfl) :
    PuE X k G W (if ro then .own else .frz) (.Call (.Name x p) (e :: es) [] pos) (callK n M ro bs fs) := .mk fun F0 H0 F1 ρ σ H Q S q => by
  refine canE_of (pe_callS F hr hg hm hk hb (passAtB J.tk) pa_can hdb he hpl) (ha.run F0 H0 F1 ρ σ H _ S ?_)
  refine (PostR.bind q).imp fun ds _ q1 vs F2 H2 x2 rv => ?_
  by_cases hl : (decide (ds.length = n) && okM bs ds) = true
  · rw [if_pos hl] at q1
    rw [Bool.and_eq_true] at hl
    obtain ⟨F3, s1, s2, dv, ld⟩ := rv.lend x2.sub hl.2
    refine ⟨F3, ds, s2, dv, of_decide_eq_true hl.1, PostC.lendN s1 ld ?_⟩
    cases z : Pu.lendN ro (M ds) with
    | ok d =>
      rw [z] at q1
      exact fun v F' H' x3 r3 => q1 v F' H' (x2.trans x3) (r3.back x2.sh)
    | exc y =>
      rw [z] at q1
      exact fun cls dd F' H' x3 ea => q1 cls dd F' H' (x2.trans x3) ea
    | stuck => rw [z] at q1; exact q1
  · rw [if_neg hl] at q1
    exact q1.elim
end
section
variable {PD : D → Prop} {E : Exc → Prop} {r : Env} {n : Nat} {M : List D → R D} {ro : Bool} {bs : List Bool} {fs : Env → R (List D)} {x : R D}
def ndX (e : Exc) : Bool := match e.pay with
  | none => true
  | some (_, d) => ndD d
theorem wp_lendN : (lendN ro x).wp PD E ↔ x.wp (fun d => ndR ro d = true ∧ PD d) (fun e => ndX e = true ∧ E e) := by
  cases x with
  | ok d =>
    simp only [lendN, wp_ok]
    by_cases h : ndR ro d = true
    · rw [if_pos h]; exact ⟨fun q => ⟨h, q⟩, fun q => q.2⟩
    · rw [if_neg h]; exact ⟨fun q => q.elim, fun q => absurd q.1 h⟩
  | exc e =>
    simp only [lendN, wp_exc, ndX]
    cases e.pay with
    | none => exact ⟨fun q => ⟨rfl, q⟩, fun q => q.2⟩
    | some w =>
      simp only
      by_cases h : ndD w.2 = true
      · rw [if_pos h]; exact ⟨fun q => ⟨h, q⟩, fun q => q.2⟩
      · rw [if_neg h]; exact ⟨fun q => q.elim, fun q => absurd q.1 h⟩
  | stuck => exact Iff.rfl
theorem wp_callK : (callK n M ro bs fs r).wp PD E ↔ (fs r).wp (fun ds => (ds.length = n ∧ okM bs ds = true) ∧ (M ds).wp (fun d => ndR ro d = true ∧ PD d) (fun e => ndX e = true ∧ E e)) E := by
  unfold callK
  rw [wp_bind]
  simp only [wp_guard, wp_lendN, Bool.and_eq_true, decide_eq_true_eq]
theorem nd_all : ∀ {ds : List D}, (∀ d ∈ ds, ndD d = true) → ndDs ds = true
  | [], _ => rfl
  | d :: r, h => by
    show (ndD d && ndDs r) = true
    rw [h d (List.mem_cons_self ..), nd_all fun x hx => h x (List.mem_cons_of_mem _ hx)]
    rfl
end
end Pu

/-! an except suite that raises an exception of its own -/
namespace Pu
open PySem PySem.Spec PyProof.Rows L2 HotX L2H
theorem exc_init_okH {P : Program} {w : World} {K : PySem.W.Frag} {mg : Str → Option Value} {base : Heap} {qual : Str} {st : Stmt} {f C : Addr} {fd : FuncData} {a b n : Str} {p1 p2 p3 p4 : Pos} (F : Fun K "__init__" qual st f fd) (S : FnScope [a, b] [a, b] (defScope st)) (T : OexC K C) (hno : PySem.W.findIn K (.ref C) n = some none)
    (hbody : defBody st = [.Assign [.Attribute (.Name a p1) n p2] (.Name b p3) p4])
    (ha : (a == ("__debug__" : Str)) = false := by decide) (ha2 : (a == ("__classdict__" : Str)) = false := by decide) (hb : (b == ("__debug__" : Str)) = false := by decide) (hb2 : (b == ("__classdict__" : Str)) = false := by decide)
    (va : ∀ X : Cx, X.env.scope = defScope st → Vis X.env.scope a) (vb : ∀ X : Cx, X.env.scope = defScope st → Vis X.env.scope b) :
    FnH P w K mg base (L2.CX P w) 1 f fd [a, b] (fun vs H Q _ => ∃ (e : Addr) (v : V), vs = [.ref e, v] ∧ H e = some (exo e C none) ∧ ∀ dx, H dx = none → dx ≠ e → Q .non (upd (upd H dx (exd dx [(n, v)])) e (exo e C (some dx)))) := by
  obtain ⟨oc, od, kV, doc, pm, an, cdv, ct, osl, rfl, lk, hcd⟩ := F.ex
  refine fn_ofH lk hcd S (fun vs H Q E h => ?_) (fun A outer s H vs Q E p hot hr h => ?_)
  · obtain ⟨e, v, rfl, _⟩ := h
    rfl
  · obtain ⟨e, v, rfl, he, q⟩ := h
    rw [hbody]
    refine ⟨_, pss_one (ps_ost (pe_var (i := 0) rfl (va _ rfl) ha ha2) (pe_var (i := 1) rfl (vb _ rfl) hb hb2)), v, rfl, .ref e, rfl, e, C, rfl, T, hno, .inl ⟨he, fun dx hn hne => q dx hn hne⟩⟩
def sTryRaise (mt : Nat → Bool) (b s : Env → SR) : Env → SR := fun r => match b r with
  | .exc x r1 => if mt x.cls = true then s r1 else .exc x r1
  | z => z
section
variable {X : Cx} {k : KC} {G Gn Gl : List Md} {w0 : WX} {ge : List Md → Prop} {ro : RM} {C C2 fI : Addr} {x x2 n a2 b2 : Str} {c lvl : Nat} {fd : FuncData} {p p2 np pos pos' pos2 pos3 : Pos} {body : List Stmt} {e : Expr} {b : Env → SR} {fs : Env → R (List D)} {mt : Nat → Bool}
theorem pus_try_raise (J : Jx X k G ⟨w0, ge, false⟩) (Jc : Jc X) (hpa : ∀ hd : Option Value, PassesOwnAt (model X.prog X.w) (X.A.mark hd) X.A X.env X.xe) (hc : ∀ j D, k.ct j = some D → PySem.W.exmOne X.K (.ref D) (.ref C) = some (mt j)) (g : X.mg x = some (.ref C))
    (hb : ∀ (pn : List (Addr × Obj)) (xe : Value → Shared → Prop) (w : WX), Jx (X.tr pn xe) k G ⟨w, (fun g => G = g), true⟩ → Pu.Jc (X.tr pn xe) → PuB (X.tr pn xe) k G Gn Gl ⟨w, (fun g => G = g), true⟩ ro body b)
    (ct : k.ct c = some C2) (T : OexC X.K C2) (iC : PySem.W.findIn X.K (.ref C2) "__init__" = some (some (.ref fI))) (tI : PySem.W.typeIn X.K (.ref fI) = some (.type "function"))
    (F : FnH X.prog X.w X.K X.mg X.base (L2.CX X.prog X.w) 1 fI fd [a2, b2] (fun vs H Q _ => ∃ (e : Addr) (v : V), vs = [.ref e, v] ∧ H e = some (exo e C2 none) ∧ ∀ dx, H dx = none → dx ≠ e → Q .non (upd (upd H dx (exd dx [(n, v)])) e (exo e C2 (some dx)))))
    (hr : Room lvl X.A) (hlv : 2 ≤ lvl) (hbd : Binds X.K fd [a2, b2] []) (g2 : X.mg x2 = some (.ref C2))
    (ha : ∀ (a : Addr) (oe : Obj) (pn : List (Addr × Obj)), PuA (suiteX X a ((a, oe) :: pn)) k G ⟨w0, ge, false⟩ .frz [e] fs)
    (hs : X.stack = X.env :: X.outer := by rfl) (hf : X.env.frame = some X.env.locals := by rfl) (hg : L2.Gl X x := by rfl) (hdb : (x == ("__debug__" : Str)) = false := by decide) (hg2 : L2.Gl X x2 := by rfl) (hdb2 : (x2 == ("__debug__" : Str)) = false := by decide)
    (he : starEach [e] X.env = (false, eval e X.env) :: starEach [] X.env := by rfl) (hpl : (backTo pos2 (starEach [] X.env)).any (·.1) = false := by rfl) :
    PuS X k G Gn Gl ⟨w0, ge, false⟩ ro (.Try body [.ExceptHandler (some (.Name x np)) none [.Raise (some (.Call (.Name x2 p2) [e] [] pos2)) none pos3] pos'] [] [] pos) (sTryRaise mt b (sRaiseP c n fs)) := .mk fun F0 H0 F1 ρ σ H Dn S q => by
  refine canS_of (ps_try_onlyX (c := .ref C) (tb := fun w D σ H => ∀ pn xe, L2N.Takes (X.tr pn xe) w → PassesOwn (model X.prog X.w) X.A X.env xe → canB (X.tr pn xe) body D σ H)
    (ts := fun a cls d D σ H => ∀ oe pn, L2N.Zn cls d oe → (∃ vs, oe.data = .fields vs) → L2.Takes (suiteX X a ((a, oe) :: pn)) w0 → HotC (suiteX X a ((a, oe) :: pn)) → canB (suiteX X a ((a, oe) :: pn)) [.Raise (some (.Call (.Name x2 p2) [e] [] pos2)) none pos3] D σ H) (Wout := w0) hs hf ⟨hg, hdb, .inl g⟩ hpa J.tk
    (fun W pn xe tk _ po => ⟨fun pins s σ H D I h => h pn xe tk po pins s I⟩) (fun a oe cls d pn hz hfs tk hot => ⟨fun pins s σ H D I h => h oe pn hz hfs tk hot pins s I⟩)) ?_
  intro pn xe tk po
  refine (hb pn xe _ ⟨J.kk, J.nd, tk, okS⟩ ⟨Jc.calm, po⟩).run F0 H0 F1 ρ σ H Dn S ?_
  unfold sTryRaise at q
  cases zb : b ρ with
  | nx r => rw [zb] at q; exact q
  | bk r => rw [zb] at q; exact q
  | ct r => rw [zb] at q; exact q
  | ret d => rw [zb] at q; exact q
  | stuck => rw [zb] at q; exact q
  | exc y r1 =>
    rw [zb] at q
    simp only at q
    intro cls dd G1 Fa F' σ' H1 H' ok sf S1 x1 ea
    have ok : G = G1 := ok
    cases ok
    obtain ⟨C', hC, hcls, hp⟩ := id ea
    refine ⟨mt y.cls, by rw [hcls]; exact hc _ _ hC, fun hm a ha0 oe pn' hz hfs tkS hot pins s0 I0 => ?_, fun hm => ?_⟩
    · rw [if_pos hm] at q
      refine canB_of (pss_one (ps_raiseH hot tkS (PMk5.pmk (pmk5_oexH T iC tI F (roomH_mark (hr.mono hlv) _) hot hbd (fun pins σ H s e s' I h => by obtain ⟨_, _, _, _, _, _, _, _, _, _, _, _, y⟩ := h; exact y.elim) hg2 g2 pa_can hdb2 he hpl)))) ?_ pins s0 I0
      refine (ha a oe pn').run F0 H0 F' r1 σ' H' _ (S1.step x1) ?_
      unfold sRaiseP at q
      cases zf : fs r1 with
      | stuck => rw [zf] at q; exact q.elim
      | exc y => rw [zf] at q; exact fun cls dd F2 H2 y1 z1 => q cls dd G F' F2 σ' H' H2 J.oke (sf.trans x1.sf) (S1.step x1) y1 z1
      | ok ds =>
        rw [zf] at q
        match ds, q with
        | [d], z =>
          intro vs F2 H2 x2 rv
          obtain ⟨v, ev, dv⟩ := resA1 rv
          subst ev
          refine ⟨by show 1 ≤ 1000; omega, fun a ha0 => ⟨a, v, rfl, upd_same, fun dx h1 h2 => ?_⟩⟩
          rw [upd_ne h2] at h1
          refine ⟨rfl, dx, [(n, v)], upd_same, by rw [upd_ne h2, upd_same], h1, ?_⟩
          have eH : upd (del (upd (upd (upd H2 a (exo a C2 none)) dx (exd dx [(n, v)])) a (exo a C2 (some dx))) a) dx (.xd [(n, v)]) = upd H2 dx (.xd [(n, v)]) := by
            funext b
            by_cases hb : b = dx
            · rw [hb, upd_same, upd_same]
            · rw [upd_ne hb, upd_ne hb]
              by_cases ha : b = a
              · rw [ha, del_same, ha0]
              · rw [del_ne ha, upd_ne ha, upd_ne hb, upd_ne ha]
          rw [eH]
          have xx := Ext.add (o := .xd [(n, v)]) x2.sub h1
          exact z (.ref C2) (some dx) G F' _ σ' H' _ J.oke (sf.trans x1.sf) (S1.step x1) (x2.trans xx) ⟨C2, ct, rfl, dx, v, rfl, upd_same, Dv.mono xx.sf dv⟩
        | [], z => exact z.elim
        | _ :: _ :: _, z => exact z.elim
    · rw [if_neg (by rw [hm]; exact Bool.false_ne_true)] at q
      exact q cls dd G Fa F' σ' H1 H' J.oke sf S1 x1 ea
end
section
variable {mt : Nat → Bool} {b s : Env → SR} {r : Env} {w : Ws}
theorem ws_tryRaise : (sTryRaise mt b s r).wp w ↔ (b r).wp ⟨w.N, w.T, w.B, w.C, fun x r1 => if mt x.cls = true then (s r1).wp w else w.E x r1⟩ := by
  unfold sTryRaise
  cases b r with
  | exc x r1 =>
    simp only
    show SR.wp (if mt x.cls = true then s r1 else .exc x r1) w ↔ if mt x.cls = true then _ else _
    by_cases h : mt x.cls = true
    · rw [if_pos h, if_pos h]
    · rw [if_neg h, if_neg h]
      exact Iff.rfl
  | _ => exact Iff.rfl
end
end Pu

namespace Pu
open PySem PySem.Spec PyProof.Rows L2
/-! PuDp: slots whose objects have objects of one's own in them. -/
/-- the deep slots as if kept -/
def frzG : List Md → List Md
  | [] => []
  | .deep _ _ :: r => .frz :: frzG r
  | x :: r => x :: frzG r
theorem frzG_own : ∀ (G : List Md) (i : Nat), isOwn (frzG G) i = isOwn G i
  | [], _ => rfl
  | x :: r, 0 => by cases x <;> rfl
  | x :: r, i + 1 => by
    have ih := frzG_own r i
    cases x <;> exact ih
theorem frzG_pin : ∀ (G : List Md) (i : Nat), pinAt (frzG G) i = pinAt G i
  | [], _ => rfl
  | x :: r, 0 => by cases x <;> rfl
  | x :: r, i + 1 => by
    have ih := frzG_pin r i
    cases x <;> exact ih
theorem frzG_lock : ∀ (G : List Md) (i : Nat), lockAt (frzG G) i = lockAt G i
  | [], _ => rfl
  | x :: r, 0 => by cases x <;> rfl
  | x :: r, i + 1 => by
    have ih := frzG_lock r i
    cases x <;> exact ih
theorem frzG_deep : ∀ (G : List Md) (i : Nat), deepAt (frzG G) i = none
  | [], _ => rfl
  | x :: r, 0 => by cases x <;> rfl
  | x :: r, i + 1 => by
    have ih := frzG_deep r i
    cases x <;> exact ih
mutual
theorem ODv.noxd {k : KC} {F H : Hp} : ∀ {sh : Sh} {A : List Addr} {v : V} {d : D}, ODv k F H sh A v d → ∀ a ∈ A, ∀ l, H a ≠ some (.xd l)
  | _, _, _, _, .leaf _, _, g, _ => by cases g
  | _, _, _, _, .imm _ _, _, g, _ => by cases g
  | _, _, _, _, .lst h1 h2, a, g, l => by
    rcases List.mem_cons.mp g with rfl | g
    · rw [h1]; exact fun z => by cases z
    · exact ODvL.noxd h2 a g l
  | _, _, _, _, .tup h1 h2, a, g, l => by
    rcases List.mem_cons.mp g with rfl | g
    · rw [h1]; exact fun z => by cases z
    · exact ODvL.noxd h2 a g l
  | _, _, _, _, .dct h1 _ h2, a, g, l => by
    rcases List.mem_cons.mp g with rfl | g
    · rw [h1]; exact fun z => by cases z
    · exact ODvL.noxd h2 a g l
  | _, _, _, _, .ins _ h1 _ h2, a, g, l => by
    rcases List.mem_cons.mp g with rfl | g
    · rw [h1]; exact fun z => by cases z
    · exact ODvL.noxd h2 a g l
theorem ODvL.noxd {k : KC} {F H : Hp} : ∀ {c : Nat → Sh} {i : Nat} {A : List Addr} {vs : List V} {ds : List D}, ODvL k F H c i A vs ds → ∀ a ∈ A, ∀ l, H a ≠ some (.xd l)
  | _, _, _, _, _, .nil, _, g, _ => by cases g
  | _, _, _, _, _, .cons h1 h2, a, g, l => by
    rcases List.mem_append.mp g with g | g
    · exact ODv.noxd h1 a g l
    · exact ODvL.noxd h2 a g l
end
open Classical in
noncomputable def addH (F H : Hp) (fp : Nat → List Addr) : Hp := fun a => if ∃ i, a ∈ fp i then H a else F a
theorem addH_in {F H : Hp} {fp : Nat → List Addr} {i : Nat} {a : Addr} (h : a ∈ fp i) : addH F H fp a = H a := if_pos ⟨i, h⟩
theorem addH_out {F H : Hp} {fp : Nat → List Addr} {a : Addr} (h : ∀ i, a ∉ fp i) : addH F H fp a = F a := if_neg fun ⟨i, z⟩ => h i z
/-- scalars: they reach nothing -/
def scalD : D → Bool
  | .non => true
  | .bl _ => true
  | .int _ => true
  | .str _ => true
  | _ => false
theorem scal_dv {k : KC} {F F' : Hp} {v : V} {d : D} (h : Dv k F v d) (s : scalD d = true) : Dv k F' v d := by
  cases h with
  | non => exact .non
  | bl b => exact .bl b
  | int i => exact .int i
  | str x hx => exact .str x hx
  | _ => cases s
def scalX (x : Exc) : Bool := match x.pay with
  | none => true
  | some (_, d) => scalD d
section
variable {k : KC} {G : List Md} {F0 H0 F : Hp} {ρ : Env} {σ : Sl} {H : Hp}
theorem St4.peek (S : St4 k G F0 H0 F ρ σ H) {fp : Nat → List Addr} (h : Dps k G F H0 H ρ σ fp) : Same F (addH F H fp) ∧ St4 k (frzG G) F0 H0 (addH F H fp) ρ σ H := by
  have sf : Same F (addH F H fp) := fun a z e => by
    rw [addH_out fun i hi => by rw [(h.fr i a hi).1] at e; cases e]
    exact e
  have sub : Same (addH F H fp) H := fun a z e => by
    by_cases q : ∃ i, a ∈ fp i
    · obtain ⟨i, hi⟩ := q
      rw [addH_in hi] at e
      exact e
    · rw [addH_out fun i hi => q ⟨i, hi⟩] at e
      exact S.sub _ _ e
  refine ⟨sf, ⟨⟨S.ext.sf.trans sf, S.ext.sh, sub, fun a h1 h2 => ?_⟩, S.len, fun i d e g => ?_, fun i d e g => ?_, fun i j d e p e1 e2 g1 g2 => ?_, fun i a e => ?_, fun i p d e => ?_, fun _ => [], ?_⟩⟩
  · rw [addH_out fun i hi => h2 (h.fr i a hi).2]
    exact S.ext.new a h1 h2
  · by_cases hn : nf G i = true
    · rcases nf_of.mp hn with z | ⟨s, z⟩
      · exact absurd (nf_own (by rw [frzG_own]; exact z)) g
      · obtain ⟨v, h1, _, h3⟩ := h.at_ i d s.1 s.2 z e
        exact ⟨v, h1, h3.dv sf fun a ha => addH_in ha⟩
    · obtain ⟨v, h1, h2⟩ := S.frz i d e hn
      exact ⟨v, h1, h2.mono sf⟩
  · rw [frzG_own] at g
    obtain ⟨p, e1, e2, e3, e4⟩ := S.own i d e g
    have np : addH F H fp p = none := by
      rw [addH_out fun j hj => h.ow i j d p g e e1 hj]
      exact e2
    refine ⟨p, e1, np, e3, ?_⟩
    cases e4 with
    | lst a b => exact .lst a (b.mono sf)
    | dct a b c => exact .dct a b (c.mono sf)
    | dtt a b c => exact .dtt a b (c.mono sf)
  · rw [frzG_own] at g1 g2
    exact S.sep i j d e p e1 e2 g1 g2
  · rw [frzG_pin] at e
    obtain ⟨h1, h2, h3⟩ := S.pin i a e
    exact ⟨h1, h2, h3.mono sf⟩
  · rw [frzG_lock] at e
    exact S.lk i p d e
  · exact ⟨fun i _ _ _ h => (by rw [frzG_deep] at h; cases h), fun _ _ => rfl, fun _ => List.nodup_nil, fun _ _ h => (nomatch h), fun _ _ _ h => (nomatch h), fun _ _ _ _ _ _ _ => List.not_mem_nil⟩
/-- back: without the deep slots' objects -/
theorem unpeek {fp : Nat → List Addr} (h : Dps k G F H0 H ρ σ fp) (sub : Same F H) {F' H' : Hp} (x : Ext (addH F H fp) H F' H') : ∃ F2, Ext F H F2 H' ∧ Same F2 F' ∧ ∀ a z, F' a = some z → (∀ i, a ∉ fp i) → F2 a = some z := by
  classical
  refine ⟨fun a => if ∃ i, a ∈ fp i then none else F' a, ⟨fun a z e => ?_, x.sh, fun a z e => ?_, fun a h1 h2 => ?_⟩, fun a z e => ?_, fun a z e n => ?_⟩
  · have : ¬∃ i, a ∈ fp i := fun ⟨i, hi⟩ => by rw [(h.fr i a hi).1] at e; cases e
    simp only [if_neg this]
    refine x.sf _ _ ?_
    rw [addH_out fun i hi => this ⟨i, hi⟩]
    exact e
  · by_cases q : ∃ i, a ∈ fp i
    · simp only [if_pos q] at e; cases e
    · simp only [if_neg q] at e; exact x.sub _ _ e
  · by_cases q : ∃ i, a ∈ fp i
    · simp only [if_pos q]
    · simp only [if_neg q]
      refine x.new a ?_ h2
      rw [addH_out fun i hi => q ⟨i, hi⟩]
      exact h1
  · by_cases q : ∃ i, a ∈ fp i
    · simp only [if_pos q] at e; cases e
    · simp only [if_neg q] at e; exact e
  · simp only [if_neg (fun q : ∃ i, a ∈ fp i => q.elim fun i hi => n i hi)]
    exact e
end
/-- an expression that reads deep slots: its answer is a scalar -/
def peekE (f : Env → R D) : Env → R D := fun r => match f r with
  | .ok d => if scalD d = true then .ok d else .stuck
  | .exc x => if scalX x = true then .exc x else .stuck
  | .stuck => .stuck
def peekT (t : Env → R Bool) : Env → R Bool := fun r => match t r with
  | .ok d => .ok d
  | .exc x => if scalX x = true then .exc x else .stuck
  | .stuck => .stuck
theorem exc_back {k : KC} {F F' : Hp} {x : Exc} {cls : Value} {dd : Option Addr} (s : Same F' F) (hx : scalX x = true) (e : ExcAt k F' x cls dd) : ExcAt k F x cls dd := e.mono s
section
variable {X : Cx} {k : KC} {G G1 Gl : List Md} {W : WE} {ro : RM} {m : Mo} {e c : Expr} {es : List Expr} {f : Env → R D} {t : Env → R Bool} {fs : Env → R (List D)} {pos : Pos}
theorem Jx.peek (J : Jx X k G W) : Jx X k (frzG G) ⟨W.w, gAny, W.nn⟩ := ⟨J.kk, J.nd, J.tk, okN⟩
theorem peek_exc {fp : Nat → List Addr} {F0 H0 F : Hp} {ρ : Env} {σ : Sl} {H : Hp} (h : Dps k G F H0 H ρ σ fp) (sub : Same F H) {x : Exc}
    (q : ∀ cls dd F' H', Ext F H F' H' → ExcAt k F' x cls dd → W.w cls dd σ H') (hx : scalX x = true) : ∀ cls dd F' H', Ext (addH F H fp) H F' H' → ExcAt k F' x cls dd → W.w cls dd σ H' := fun cls dd F' H' y ea => by
  obtain ⟨F2, x2, s2, n2⟩ := unpeek h sub y
  obtain ⟨C, h1, h2, h3⟩ := ea
  cases hp : x.pay with
  | none =>
    rw [hp] at h3
    exact q cls dd F2 H' x2 ⟨C, h1, h2, by rw [hp]; exact h3⟩
  | some pd =>
    obtain ⟨f, d⟩ := pd
    rw [hp] at h3
    obtain ⟨a, v, e1, e2, e3⟩ := h3
    unfold scalX at hx
    rw [hp] at hx
    refine q cls dd F2 H' x2 ⟨C, h1, h2, ?_⟩
    rw [hp]
    refine ⟨a, v, e1, n2 a _ e2 fun i hi => ?_, scal_dv e3 hx⟩
    obtain ⟨d', sh, o, g1, g2⟩ := h.live hi
    obtain ⟨w, _, _, od⟩ := h.at_ i d' sh o g1 g2
    obtain ⟨z, hz⟩ := od.there a hi
    have h5 := y.sh _ _ hz
    rw [y.sub _ _ e2] at h5
    cases h5
    exact od.noxd a hi _ hz
theorem pu_peek (h : PuE X k (frzG G) ⟨W.w, gAny, W.nn⟩ .frz e f) : PuE X k G W .frz e (peekE f) := .mk fun F0 H0 F r σ H Q S q => by
  obtain ⟨fp, dp⟩ := S.dp
  obtain ⟨sf, S'⟩ := S.peek dp
  refine h.run F0 H0 _ r σ H Q S' ?_
  unfold peekE at q
  cases z : f r with
  | stuck => rw [z] at q; exact q.elim
  | exc x =>
    rw [z] at q
    simp only at q
    by_cases hx : scalX x = true
    · rw [if_pos hx] at q
      exact peek_exc (F0 := F0) dp S.sub q hx
    · rw [if_neg hx] at q; exact q.elim
  | ok d =>
    rw [z] at q
    simp only at q
    by_cases hs : scalD d = true
    · rw [if_pos hs] at q
      intro v F' H' x rv
      obtain ⟨F2, x2, s2, n2⟩ := unpeek dp S.sub x
      exact q v F2 H' x2 (scal_dv (k := k) rv hs)
    · rw [if_neg hs] at q; exact q.elim
theorem pt_peek (h : PuT X k (frzG G) ⟨W.w, gAny, W.nn⟩ c t) : PuT X k G W c (peekT t) := .mk fun F0 H0 F r σ H Q S q => by
  obtain ⟨fp, dp⟩ := S.dp
  obtain ⟨sf, S'⟩ := S.peek dp
  refine h.run F0 H0 _ r σ H Q S' ?_
  unfold peekT at q
  cases z : t r with
  | stuck => rw [z] at q; exact q.elim
  | exc x =>
    rw [z] at q
    simp only at q
    by_cases hx : scalX x = true
    · rw [if_pos hx] at q
      exact peek_exc (F0 := F0) dp S.sub q hx
    · rw [if_neg hx] at q; exact q.elim
  | ok d =>
    rw [z] at q
    intro F' H' x
    obtain ⟨F2, x2, s2, n2⟩ := unpeek dp S.sub x
    exact q F2 H' x2
end
/-! ### deep values stored, changed, given up -/
section
variable {k : KC} {G G' : List Md} {F0 H0 F F' : Hp} {ρ : Env} {σ : Sl} {H H' H1 : Hp} {i : Nat} {v : V} {d d' : D} {sh : Sh} {A : List Addr}
theorem St4.setD (S : St4 k G F0 H0 F ρ σ H1) (x : Ext F H1 F' H) (od : ODv k F' H sh A v d) (nd : A.Nodup) (fr : ∀ a ∈ A, H1 a = none ∧ F' a = none) (e : Eqx G G' i) (hg : deepAt G' i = some (sh, none)) :
    St4 k G' F0 H0 F' (ρ.set i (some d)) (σ.set i (some v)) H where
  ext := S.ext.trans x
  len := by rw [List.length_set, List.length_set]; exact S.len
  frz := fun j e' q g => by
    rcases get_set_some q with ⟨rfl, q2, q3⟩ | ⟨q1, q2⟩
    · exact absurd (nf_of.mpr (.inr ⟨_, hg⟩)) g
    · obtain ⟨u, e1, e2⟩ := (S.step x).frz j e' q2 (fun z => g ((e.n j q1).mpr z))
      exact ⟨u, by rw [List.getElem?_set_ne (Ne.symm q1)]; exact e1, e2⟩
  own := fun j e' q g => by
    rcases get_set_some q with ⟨rfl, q2, q3⟩ | ⟨q1, q2⟩
    · rw [own_deep g] at hg; cases hg
    · obtain ⟨p, e1, e2⟩ := (S.step x).own j e' q2 (by rw [← e.o j q1]; exact g)
      exact ⟨p, by rw [List.getElem?_set_ne (Ne.symm q1)]; exact e1, e2⟩
  sep := fun a b da db p qa qb ga gb sa sb => by
    rcases get_set_some qa with ⟨rfl, q2, q3⟩ | ⟨q1, q2⟩
    · rw [own_deep ga] at hg; cases hg
    · rcases get_set_some qb with ⟨rfl, r2, r3⟩ | ⟨r1, r2⟩
      · rw [own_deep gb] at hg; cases hg
      · rw [List.getElem?_set_ne (Ne.symm q1)] at sa
        rw [List.getElem?_set_ne (Ne.symm r1)] at sb
        exact S.sep a b da db p q2 r2 (by rw [← e.o a q1]; exact ga) (by rw [← e.o b r1]; exact gb) sa sb
  pin := (S.step x).pin_set e (by
    cases z : pinAt G' i with
    | none => rfl
    | some p => rw [pin_deep z] at hg; cases hg)
  lk := (S.step x).lk_set e fun _ _ => by
    cases z : lockAt G' i with
    | none => rfl
    | some p => rw [lock_deep z] at hg; cases hg
  dp := by
    obtain ⟨fp, h0⟩ := S.dp
    have h := h0.ext x
    have new : ∀ a ∈ A, ∀ j, a ∉ fp j := fun a ha j hj => h0.there hj (fr a ha).1
    refine ⟨fun j => if j = i then (if i < ρ.length then A else []) else fp j, fun j e' s o e1 e2 => ?_, fun j z => ?_, fun j => ?_, fun j a ha => ?_, fun a b y ha hb => ?_, fun a b d2 p g q s hb => ?_⟩
    · rcases get_set_some e2 with ⟨rfl, q2, q3⟩ | ⟨q1, q2⟩
      · rw [hg] at e1
        cases e1
        cases q2
        exact ⟨v, by rw [List.getElem?_set_self (by rw [← S.len]; exact q3)], fun _ h => (by cases h), by rw [if_pos rfl, if_pos q3]; exact od⟩
      · rw [e.d j q1] at e1
        obtain ⟨w, h1, h2, h3⟩ := h.at_ j e' s o e1 q2
        exact ⟨w, by rw [List.getElem?_set_ne (Ne.symm q1)]; exact h1, h2, by simp only [if_neg q1]; exact h3⟩
    · by_cases hj : j = i
      · subst hj
        simp only [if_true]
        by_cases hl : j < ρ.length
        · rcases z with z | z
          · rw [hg] at z; cases z
          · exact absurd (by rw [List.getElem?_set_self hl]) (z d)
        · exact if_neg hl
      · simp only [if_neg hj]
        refine h.off j ?_
        rw [e.d j hj, List.getElem?_set_ne (Ne.symm hj)] at z
        exact z
    · by_cases hj : j = i
      · simp only [if_pos hj]
        split
        · exact nd
        · exact List.nodup_nil
      · simp only [if_neg hj]; exact h.nd j
    · by_cases hj : j = i
      · simp only [if_pos hj] at ha
        split at ha
        · exact ⟨(fr a ha).2, S.ext.sh.free (fr a ha).1⟩
        · cases ha
      · simp only [if_neg hj] at ha; exact h.fr j a ha
    · by_cases h1 : a = i
      · by_cases h2 : b = i
        · rw [h1, h2]
        · simp only [if_pos h1] at ha
          simp only [if_neg h2] at hb
          split at ha
          · exact absurd hb (new y ha b)
          · cases ha
      · by_cases h2 : b = i
        · simp only [if_neg h1] at ha
          simp only [if_pos h2] at hb
          split at hb
          · exact absurd ha (new y hb a)
          · cases hb
        · simp only [if_neg h1] at ha
          simp only [if_neg h2] at hb
          exact h.dis a b y ha hb
    · rcases get_set_some q with ⟨rfl, q2, q3⟩ | ⟨q1, q2⟩
      · rw [own_deep g] at hg; cases hg
      · rw [List.getElem?_set_ne (Ne.symm q1)] at s
        have go : isOwn G a = true := by rw [← e.o a q1]; exact g
        by_cases h2 : b = i
        · simp only [if_pos h2] at hb
          split at hb
          · obtain ⟨p', e1, _, _, ow⟩ := S.own a d2 q2 go
            rw [s] at e1
            cases e1
            obtain ⟨o, ho⟩ := ow.there
            rw [(fr p hb).1] at ho
            cases ho
          · cases hb
        · simp only [if_neg h2] at hb
          exact h.ow a b d2 p go q2 s hb
/-- an object of a deep slot changed -/
theorem St4.wrD (S : St4 k G F0 H0 F ρ σ H) {fp : Nat → List Addr} (h : Dps k G F H0 H ρ σ fp) {o : Option V} (hg : deepAt G i = some (sh, o)) (hd : ρ[i]? = some (some d)) (hs : σ[i]? = some (some v)) {p : Addr} (hp : p ∈ fp i) {ob : HO}
    (od : ODv k F (upd H p ob) sh A v d') (nd : A.Nodup) (hA : ∀ a ∈ A, a ∈ fp i) : St4 k G F0 H0 F (ρ.set i (some d')) σ (upd H p ob) := by
  have hF := (h.fr i p hp).1
  have h0 := (h.fr i p hp).2
  have no : isOwn G i ≠ true := fun z => by rw [own_deep z] at hg; cases hg
  have hi : i < ρ.length := (List.getElem?_eq_some_iff.mp hd).1
  refine ⟨⟨S.ext.sf, fun a z e => ?_, fun a z e => ?_, S.ext.new⟩, by rw [List.length_set]; exact S.len, fun j e q g => ?_, fun j e q g => ?_, fun a b da db p2 qa qb ga gb sa sb => ?_, fun j a e => ?_, fun j q d e1 e2 => ?_, fun j => if j = i then A else fp j, fun j e s o' e1 e2 => ?_, fun j z => ?_, fun j => ?_, fun j a ha => ?_, fun a b y ha hb => ?_, fun a b d2 q g e s hb => ?_⟩
  · rw [upd_ne (ne_of_none e h0)]; exact S.ext.sh _ _ e
  · rw [upd_ne (ne_of_none e hF)]; exact S.ext.sub _ _ e
  · rcases get_set_some q with ⟨rfl, q2, q3⟩ | ⟨q1, q2⟩
    · exact absurd (nf_of.mpr (.inr ⟨_, hg⟩)) g
    · exact S.frz j e q2 g
  · rcases get_set_some q with ⟨rfl, q2, q3⟩ | ⟨q1, q2⟩
    · exact absurd g no
    · obtain ⟨q, e1, e2, e3, e4⟩ := S.own j e q2 g
      have ne : q ≠ p := fun z => by subst z; exact h.ow j i e q g q2 e1 hp
      refine ⟨q, e1, e2, e3, ?_⟩
      cases e4 with
      | lst a b => exact .lst (by rw [upd_ne ne]; exact a) b
      | dct a b c => exact .dct (by rw [upd_ne ne]; exact a) b c
      | dtt a b c => exact .dtt (by rw [upd_ne ne]; exact a) b c
  · rcases get_set_some qa with ⟨rfl, q2, q3⟩ | ⟨q1, q2⟩
    · exact absurd ga no
    · rcases get_set_some qb with ⟨rfl, r2, r3⟩ | ⟨r1, r2⟩
      · exact absurd gb no
      · exact S.sep a b da db p2 q2 r2 ga gb sa sb
  · have ne : i ≠ j := fun z => by rw [← z] at e; rw [pin_deep e] at hg; cases hg
    obtain ⟨h1, h2, h3⟩ := S.pin j a e
    exact ⟨by rw [List.getElem?_set_ne ne]; exact h1, h2, h3⟩
  · rcases get_set_some e2 with ⟨rfl, q2, q3⟩ | ⟨q1, q2⟩
    · rw [lock_deep e1] at hg; cases hg
    · exact S.lk j q d e1 q2
  · rcases get_set_some e2 with ⟨rfl, q2, q3⟩ | ⟨q1, q2⟩
    · rw [hg] at e1
      cases e1
      cases q2
      obtain ⟨w, g1, g2, _⟩ := h.at_ _ _ _ _ hg hd
      rw [hs] at g1
      cases g1
      exact ⟨v, hs, g2, by simp only [if_true]; exact od⟩
    · obtain ⟨w, g1, g2, g3⟩ := h.at_ j e s o' e1 q2
      refine ⟨w, g1, g2, ?_⟩
      simp only [if_neg q1]
      refine g3.frame (Same.refl F) fun a ha => ?_
      have ne : a ≠ p := fun z => by subst z; exact q1 (h.dis j i a ha hp)
      rw [upd_ne ne]
  · by_cases hj : j = i
    · subst hj
      rcases z with z | z
      · rw [hg] at z; cases z
      · exact absurd (by rw [List.getElem?_set_self hi]) (z d')
    · simp only [if_neg hj]
      refine h.off j ?_
      rw [List.getElem?_set_ne (Ne.symm hj)] at z
      exact z
  · by_cases hj : j = i
    · simp only [if_pos hj]; exact nd
    · simp only [if_neg hj]; exact h.nd j
  · by_cases hj : j = i
    · subst hj
      simp only [if_true] at ha; exact h.fr j a (hA a ha)
    · simp only [if_neg hj] at ha; exact h.fr j a ha
  · have up : ∀ j y, y ∈ (if j = i then A else fp j) → y ∈ fp j := fun j y hy => by
      by_cases hj : j = i
      · subst hj; simp only [if_true] at hy; exact hA y hy
      · simp only [if_neg hj] at hy; exact hy
    exact h.dis a b y (up a y ha) (up b y hb)
  · have up : ∀ j y, y ∈ (if j = i then A else fp j) → y ∈ fp j := fun j y hy => by
      by_cases hj : j = i
      · subst hj; simp only [if_true] at hy; exact hA y hy
      · simp only [if_neg hj] at hy; exact hy
    rcases get_set_some e with ⟨rfl, q2, q3⟩ | ⟨q1, q2⟩
    · exact absurd g no
    · exact h.ow a b d2 q g q2 s (up b q hb)
/-- a deep slot is given up -/
theorem St4.freezeD (S : St4 k G F0 H0 F ρ σ H) (e : Eqx G G' i) {o : Option V} (hg : deepAt G i = some (sh, o)) (hg' : nf G' i ≠ true) (hp' : pinAt G' i = none) : ∃ F', Same F F' ∧ St4 k G' F0 H0 F' ρ σ H := by
  obtain ⟨fp, h⟩ := S.dp
  have no : isOwn G i ≠ true := fun z => by rw [own_deep z] at hg; cases hg
  have sf : Same F (addH F H fun _ => fp i) := fun a z e => by
    rw [addH_out fun _ hi => by rw [(h.fr i a hi).1] at e; cases e]
    exact e
  have sub : Same (addH F H fun _ => fp i) H := fun a z e => by
    by_cases q : a ∈ fp i
    · rw [addH_in (fp := fun _ => fp i) (i := 0) q] at e; exact e
    · rw [addH_out fun _ => q] at e; exact S.sub _ _ e
  have oo : ∀ j, isOwn G' j = true → isOwn G j = true ∧ j ≠ i := fun j z => by
    have hj : j ≠ i := fun y => by subst y; exact own_nf hg' z
    exact ⟨by rw [← e.o j hj]; exact z, hj⟩
  refine ⟨addH F H fun _ => fp i, sf, ⟨S.ext.sf.trans sf, S.ext.sh, sub, fun a h1 h2 => ?_⟩, S.len, fun j d2 q g => ?_, fun j d2 q g => ?_, fun a b da db p2 qa qb ga gb sa sb => ?_, fun j a hz => ?_, fun j p d2 hz hq => ?_, fun j => if j = i then [] else fp j, fun j d2 s o' e1 e2 => ?_, fun j z => ?_, fun j => ?_, fun j a ha => ?_, fun a b y ha hb => ?_, fun a b d2 q g hq s hb => ?_⟩
  · rw [addH_out fun _ hi => h2 (h.fr i a hi).2]
    exact S.ext.new a h1 h2
  · by_cases hj : j = i
    · subst hj
      obtain ⟨w, g1, _, g3⟩ := h.at_ j d2 sh o hg q
      exact ⟨w, g1, g3.dv sf fun a ha => addH_in (fp := fun _ => fp j) (i := 0) ha⟩
    · obtain ⟨u, f1, f2⟩ := S.frz j d2 q (fun z => g ((e.n j hj).mpr z))
      exact ⟨u, f1, f2.mono sf⟩
  · obtain ⟨g2, hj⟩ := oo j g
    obtain ⟨p, f1, f2, f3, f4⟩ := S.own j d2 q g2
    have np : p ∉ fp i := h.ow j i d2 p g2 q f1
    refine ⟨p, f1, by rw [addH_out fun _ => np]; exact f2, f3, ?_⟩
    cases f4 with
    | lst a1 a2 => exact .lst a1 (a2.mono sf)
    | dct a1 a2 a3 => exact .dct a1 a2 (a3.mono sf)
    | dtt a1 a2 a3 => exact .dtt a1 a2 (a3.mono sf)
  · exact S.sep a b da db p2 qa qb (oo a ga).1 (oo b gb).1 sa sb
  · have ne : j ≠ i := fun z => by rw [z, hp'] at hz; cases hz
    obtain ⟨h1, h2, h3⟩ := S.pin j a (by rw [← e.p j ne]; exact hz)
    exact ⟨h1, h2, h3.mono sf⟩
  · have ne : j ≠ i := fun z => by subst z; exact own_nf hg' (lockAt_own hz)
    exact S.lk j p d2 (by rw [← e.l j ne]; exact hz) hq
  · have hj : j ≠ i := fun z => by subst z; rw [deep_nf hg'] at e1; cases e1
    obtain ⟨w, g1, g2, g3⟩ := h.at_ j d2 s o' (by rw [← e.d j hj]; exact e1) e2
    exact ⟨w, g1, g2, by simp only [if_neg hj]; exact g3.frame sf fun _ _ => rfl⟩
  · by_cases hj : j = i
    · exact if_pos hj
    · simp only [if_neg hj]
      refine h.off j ?_
      rw [e.d j hj] at z
      exact z
  · by_cases hj : j = i
    · simp only [if_pos hj]; exact List.nodup_nil
    · simp only [if_neg hj]; exact h.nd j
  · by_cases hj : j = i
    · simp only [if_pos hj] at ha; cases ha
    · simp only [if_neg hj] at ha
      refine ⟨?_, (h.fr j a ha).2⟩
      rw [addH_out fun _ hi => hj (h.dis j i a ha hi)]
      exact (h.fr j a ha).1
  · by_cases h1 : a = i
    · simp only [if_pos h1] at ha; cases ha
    · by_cases h2 : b = i
      · simp only [if_pos h2] at hb; cases hb
      · simp only [if_neg h1] at ha
        simp only [if_neg h2] at hb
        exact h.dis a b y ha hb
  · by_cases h2 : b = i
    · simp only [if_pos h2] at hb; cases hb
    · simp only [if_neg h2] at hb
      exact h.ow a b d2 q (oo a g).1 hq s hb
end
/-! ### deep values made -/
theorem ODvL.snocC {k : KC} {F H : Hp} {c0 : Sh} {B : List Addr} {v : V} {d : D} (h : ODv k F H c0 B v d) : ∀ {i : Nat} {A : List Addr} {vs : List V} {ds : List D}, ODvL k F H (fun _ => c0) i A vs ds → ODvL k F H (fun _ => c0) i (A ++ B) (vs ++ [v]) (ds ++ [d])
  | i, _, _, _, .nil => by
    have := ODvL.cons (k := k) (F := F) (H := H) (c := fun _ => c0) (i := i) h (.nil (i := i + 1))
    rw [List.append_nil] at this
    exact this
  | _, _, _, _, .cons h1 h2 => by
    rw [List.append_assoc]
    exact .cons h1 (ODvL.snocC h h2)
theorem ODvL.length {k : KC} {F H : Hp} : ∀ {c : Nat → Sh} {i : Nat} {A : List Addr} {vs : List V} {ds : List D}, ODvL k F H c i A vs ds → vs.length = ds.length
  | _, _, _, _, _, .nil => rfl
  | _, _, _, _, _, .cons _ h => by rw [List.length_cons, List.length_cons, h.length]
theorem odvl_leaf {k : KC} {F H : Hp} : ∀ {i : Nat} {vs : List V} {ds : List D}, DvAll k F vs ds → ODvL k F H (fun _ => .leaf) i [] vs ds
  | _, _, _, .nil => .nil
  | _, _, _, .cons h1 h2 => .cons (.leaf h1) (odvl_leaf h2)
theorem leaf_odvl {k : KC} {F H : Hp} : ∀ {i : Nat} {A : List Addr} {vs : List V} {ds : List D}, ODvL k F H (fun _ => .leaf) i A vs ds → A = [] ∧ DvAll k F vs ds
  | _, _, _, _, .nil => ⟨rfl, .nil⟩
  | _, _, _, _, .cons h1 h2 => by
    obtain ⟨e, h3⟩ := leaf_odvl h2
    cases h1 with
    | leaf h => subst e; exact ⟨rfl, .cons h h3⟩
/-- an expression whose value is new, with what is in it -/
structure PuD (X : Cx) (k : KC) (G : List Md) (W : WE) (sh : Sh) (e : Expr) (f : Env → R D) : Prop where
  run : ∀ (F0 H0 F : Hp) (r : Env) (σ : Sl) (H : Hp) (Q : VK), St4 k G F0 H0 F r σ H →
    PostR k F H W σ (fun d => ∀ v F' H', Ext F H F' H' → ResD k sh H F' H' v d → Q v H') (f r) → canE X e σ H Q
def noDtt : D → Bool
  | .dtt _ _ => false
  | _ => true
def oDE (f : Env → R D) : Env → R D := fun r => f r >>= fun d => if noDtt d = true then .ok d else .stuck
def immE (f : Env → R D) : Env → R D := fun r => f r >>= fun d => if immK d = true then .ok d else .stuck
theorem own_resD {k : KC} {H F' H' : Hp} {v : V} {d : D} (h : Res k .own H F' H' v d) (hd : ∀ ks ds, d ≠ .dtt ks ds) : ResD k (.node fun _ => .leaf) H F' H' v d := by
  obtain ⟨p, rfl, h1, h2, h3⟩ := h
  have nd : [p].Nodup := List.nodup_cons.mpr ⟨List.not_mem_nil, List.nodup_nil⟩
  have fr : ∀ a ∈ [p], H a = none ∧ F' a = none := fun a ha => by rw [List.mem_singleton.mp ha]; exact ⟨h1, h2⟩
  cases h3 with
  | lst a b => exact ⟨[p], .lst a (odvl_leaf b), nd, fr⟩
  | dct a b c => exact ⟨[p], .dct a b (odvl_leaf c), nd, fr⟩
  | dtt a b c => exact absurd rfl (hd _ _)
section
variable {X : Cx} {k : KC} {G G1 Gn Gl : List Md} {W : WE} {ro : RM} {e : Expr} {f : Env → R D} {st : Stmt} {sts : List Stmt} {g : Env → SR} {pos : Pos}
theorem pud_own (h : PuE X k G W .own e f) : PuD X k G W (.node fun _ => .leaf) e (oDE f) := .mk fun F0 H0 F r σ H Q S q =>
  h.run F0 H0 F r σ H Q S (PostR.imp (PostR.bind (f := fun d => if noDtt d = true then R.ok d else R.stuck) q) fun d _ q1 v F' H' x rv => by
    by_cases hd : noDtt d = true
    · rw [if_pos hd] at q1
      exact q1 v F' H' x (own_resD rv fun ks ds z => by rw [z] at hd; cases hd)
    · rw [if_neg hd] at q1; exact q1.elim)
theorem pud_imm {c : Nat → Sh} (h : PuE X k G W .frz e f) : PuD X k G W (.node c) e (immE f) := .mk fun F0 H0 F r σ H Q S q =>
  h.run F0 H0 F r σ H Q S (PostR.imp (PostR.bind (f := fun d => if immK d = true then R.ok d else R.stuck) q) fun d _ q1 v F' H' x rv => by
    by_cases hd : immK d = true
    · rw [if_pos hd] at q1
      exact q1 v F' H' x ⟨[], .imm rv hd, List.nodup_nil, fun _ z => (nomatch z)⟩
    · rw [if_neg hd] at q1; exact q1.elim)
/-- name = e -/
theorem pus_setD {x : Str} {p1 : Pos} {sh : Sh} (i : Nat) (J : Jx X k G W) (he : PuD X k G W sh e f) (e1 : Eqx G G1 i) (hdp : deepAt G1 i = some (sh, none)) (hi : X.N[i]? = some x := by rfl)
    (hx : Loc X.env.scope x := by first | exact Or.inl rfl | exact Or.inr rfl) (hs : swapsWith e (some (.Name x p1)) pos.line X.env = pure false := by rfl)
    (hf : X.fn x = true ∨ X.env.scope.names.lookup x = some .local := by first | exact .inl rfl | exact .inr rfl) : PuS X k G G1 Gl W ro (.Assign [.Name x p1] e pos) (sAsg i f) := .mk fun F0 H0 F ρ σ H Dn S q =>
  canS_of (ps_set (i := i) J.nd hi hx pe_can hs hf) (he.run F0 H0 F ρ σ H _ S (post_of J.oke S q fun d q1 v F' H' x r => by
    obtain ⟨A, od, nd, fr⟩ := r
    exact q1 F' _ H' x.sf (S.setD x od nd fr e1 hdp)))
theorem pus_setDs {x : Str} {p1 : Pos} {sh : Sh} (i : Nat) (J : Jx X k G W) (he : PuD X k G W sh e f) (hdp : deepAt G i = some (sh, none) := by rfl) (hi : X.N[i]? = some x := by rfl)
    (hx : Loc X.env.scope x := by first | exact Or.inl rfl | exact Or.inr rfl) (hs : swapsWith e (some (.Name x p1)) pos.line X.env = pure false := by rfl)
    (hf : X.fn x = true ∨ X.env.scope.names.lookup x = some .local := by first | exact .inl rfl | exact .inr rfl) : PuS X k G G Gl W ro (.Assign [.Name x p1] e pos) (sAsg i f) := pus_setD i J he Eqx.refl hdp hi hx hs hf
/-- a deep slot is given up -/
theorem pub_freezeD {sh : Sh} {o : Option V} (i : Nat) (e : Eqx G G1 i) (hdp : deepAt G i = some (sh, o)) (h : PuB X k G1 Gn Gl W ro sts g) (hg : nf G1 i ≠ true := by exact Bool.false_ne_true) (hp : pinAt G1 i = none := by rfl) : PuB X k G Gn Gl W ro sts g := .mk fun F0 H0 F ρ σ H Dn S q => by
  obtain ⟨F', x, S'⟩ := S.freezeD e hdp hg hp
  exact h.run F0 H0 F' ρ σ H Dn S' (PostS.grow x q)
theorem pub_endD {sh : Sh} {o : Option V} (i : Nat) (e : Eqx G1 Gn i) (hdp : deepAt G1 i = some (sh, o)) (h : PuB X k G G1 Gl W ro sts g) (hg : nf Gn i ≠ true := by exact Bool.false_ne_true) (hp : pinAt Gn i = none := by rfl) : PuB X k G Gn Gl W ro sts g := .mk fun F0 H0 F ρ σ H Dn S q => by
  refine h.run F0 H0 F ρ σ H Dn S ?_
  cases z : g ρ with
  | nx r =>
    rw [z] at q
    exact fun F' σ' H' y S' => by
      obtain ⟨F2, x, S2⟩ := S'.freezeD e hdp hg hp
      exact q F2 σ' H' (y.trans x) S2
  | bk r => rw [z] at q; exact q
  | ct r => rw [z] at q; exact q
  | ret d => rw [z] at q; exact q
  | exc e r => rw [z] at q; exact q
  | stuck => rw [z] at q; exact q
/-- the reading of a comprehension -/
theorem lc_readD {c0 : Sh} {vs ws : List Nat} {wi : TI} {fi : Env → R (List D)} {g : D → Env → Option Env} {t : Env → R Bool} {f : Env → R D} {te : TE} {tgg : TG} {tt : TT}
    (qi : ∀ (F0 H0 F : Hp) (r : Env) (σ : Sl) (H : Hp) (Q : It → Hp → Prop), St4 k G F0 H0 F r σ H → PostR k F H W σ (fun ds => ∀ J F' H', Ext F H F' H' → WkS k F' H' J ds → Q J H') (fi r) → wi σ H Q)
    (np : noPin G = true) (hws : ∀ i ∈ ws, i ∈ vs)
    (hg : ∀ (F0 H0 F : Hp) (r r' : Env) (σ : Sl) (H : Hp) (v : V) (d : D) (Q : Sl → Hp → Prop), St4 k G F0 H0 F r σ H → Dv k F v d → g d r = some r' → (∀ σ', St4 k G F0 H0 F r' σ' H → Wp ws σ σ' → Q σ' H) → tgg v σ H Q)
    (ht : ∀ (F0 H0 F : Hp) (r : Env) (σ : Sl) (H : Hp) (Q : Bool → Hp → Prop), St4 k G F0 H0 F r σ H → PostR k F H (W0 W.nn) σ (fun b => ∀ F' H', Ext F H F' H' → Q b H') (t r) → tt σ H Q)
    (he : ∀ (F0 H0 F : Hp) (r : Env) (σ : Sl) (H : Hp) (Q : VK), St4 k G F0 H0 F r σ H → PostR k F H (W0 W.nn) σ (fun d => ∀ v F' H', Ext F H F' H' → ResD k c0 H F' H' v d → Q v H') (f r) → te σ H Q)
    {F0 H0 F : Hp} {ρ : Env} {σ : Sl} {H : Hp} {Q : VK} (S : St4 k G F0 H0 F ρ σ H)
    (q : PostR k F H W σ (fun d => ∀ v F' H', Ext F H F' H' → ResD k (.node fun _ => c0) H F' H' v d → Q v H') (lcE fi vs g t f ρ)) : tLc wi tgg tt te vs σ H Q := by
  refine qi F0 H0 F ρ σ H _ S ((PostR.bind q).imp fun ds _ q1 J F1 H1 x1 wk D hD => ?_)
  by_cases hz : ds.length ≤ szT
  · rw [if_pos hz] at q1
    have hsz := szT_le hz
    have S1 := S.step x1
    have fD : F1 D = none := x1.sub.free hD
    -- the list at D is nobody else's
    have st : ∀ {F2 H2 : Hp} {xs : List V}, St4 k G F0 H0 F2 ρ σ H2 → Same H1 H2 → True := fun _ _ => trivial
    refine ⟨fun i n H2 => n + i = ds.length ∧ ∃ F2 acc as A, Ext F1 H1 F2 (fun a => if a = D then none else H2 a) ∧ H2 D = some (.lst acc) ∧ ODvL k F2 H2 (fun _ => c0) 0 A acc as ∧ (A.Nodup ∧ ∀ a ∈ A, H1 a = none ∧ F2 a = none ∧ a ≠ D) ∧ as.length ≤ i ∧ ∃ ys, compD vs g t f (ds.drop i) ρ = .ok ys ∧ compD vs g t f ds ρ = .ok (as ++ ys), ?_⟩
    cases zc : compD vs g t f ds ρ with
    | exc x => exact absurd zc (by
        intro z
        have : ∀ ds, compD vs g t f ds ρ ≠ .exc x := fun ds => by
          induction ds with
          | nil => intro h; cases h
          | cons d r ih =>
            intro h
            simp only [compD] at h
            cases zg : g d (wipeR ρ vs) with
            | none => simp only [zg] at h; cases h
            | some r1 =>
              simp only [zg] at h
              cases zt : t r1 with
              | exc x => simp only [zt] at h; cases h
              | stuck => simp only [zt] at h; cases h
              | ok b =>
                simp only [zt] at h
                cases b with
                | false => exact ih h
                | true =>
                  simp only at h
                  cases zf : f r1 with
                  | exc x => simp only [zf] at h; cases h
                  | stuck => simp only [zf] at h; cases h
                  | ok y =>
                    simp only [zf] at h
                    cases zr : compD vs g t f r ρ with
                    | exc x2 =>
                      rw [zr] at h
                      have h : R.exc x2 = R.exc x := h
                      cases h
                      exact ih zr
                    | stuck => rw [zr] at h; cases h
                    | ok zs => rw [zr] at h; cases h
        exact this ds z)
    | stuck => rw [zc] at q1; exact q1.elim
    | ok all =>
      rw [zc] at q1
      have hid : (fun a => if a = D then none else (upd H1 D (.lst [])) a) = H1 := by
        funext a
        by_cases ha : a = D
        · rw [if_pos ha, ha]; exact hD.symm
        · rw [if_neg ha, upd_ne ha]
      refine ⟨⟨ds.length, by omega, F1, [], [], [], by rw [hid]; exact Ext.refl x1.sub, upd_same, .nil, ⟨List.nodup_nil, fun _ h => (nomatch h)⟩, Nat.zero_le _, all, by rw [List.drop_zero]; exact zc, rfl⟩, ?_⟩
      rintro i n H2 ⟨hn, F2, acc, as, A, x2, hacc, dva, ⟨nda, hA⟩, hal, ys, c1, c2⟩
      -- facts of the heap H2
      have f2D : F2 D = none := by
        cases z : F2 D with
        | none => rfl
        | some o =>
          have := x2.sub _ _ z
          simp at this
      have s12 : Same H1 H2 := fun a o e => by
        have := x2.sh a o e
        by_cases ha : a = D
        · rw [if_pos ha] at this; cases this
        · rw [if_neg ha] at this; exact this
      have s22 : Same F2 H2 := fun a o e => by
        have := x2.sub a o e
        by_cases ha : a = D
        · rw [if_pos ha] at this; cases this
        · rw [if_neg ha] at this; exact this
      have xx : Ext F1 H1 F2 H2 := ⟨x2.sf, s12, s22, x2.new⟩
      by_cases hlt : i < ds.length
      · refine .inr ⟨wk.go i F2 H2 x2.sf s12 s22 hlt, fun H' => n - 1 + (i + 1) = ds.length ∧ ∃ F2 acc as A, Ext F1 H1 F2 (fun a => if a = D then none else H' a) ∧ H' D = some (.lst acc) ∧ ODvL k F2 H' (fun _ => c0) 0 A acc as ∧ (A.Nodup ∧ ∀ a ∈ A, H1 a = none ∧ F2 a = none ∧ a ≠ D) ∧ as.length ≤ i + 1 ∧ ∃ ys, compD vs g t f (ds.drop (i + 1)) ρ = .ok ys ∧ compD vs g t f ds ρ = .ok (as ++ ys), fun H' hN => ⟨n - 1, by omega, by rw [← zc]; exact hN⟩, fun x H' hy => ?_⟩
        obtain ⟨d, F3, e1, x3, dv⟩ := wk.yld i F2 H2 x H' x2.sf s12 s22 hlt hy
        have ed : ds.drop i = d :: ds.drop (i + 1) := by
          obtain ⟨hh, e2⟩ := List.getElem?_eq_some_iff.mp e1
          rw [List.drop_eq_getElem_cons hh, e2]
        rw [ed] at c1
        simp only [compD] at c1
        cases zg : g d (wipeR ρ vs) with
        | none => simp only [zg] at c1; cases c1
        | some r1 =>
          simp only [zg] at c1
          have x13 : Ext F1 H1 F3 H' := xx.trans x3
          refine hg F0 H0 F3 (wipeR ρ vs) r1 (L2.wipe σ vs) H' x d _ ((S1.step x13).wipe np vs) dv zg fun σ2 S2 w2 => ⟨wipe_wp hws w2, ?_⟩
          refine ht F0 H0 F3 r1 σ2 H' _ S2 ?_
          cases zt : t r1 with
          | exc x => simp only [zt] at c1; cases c1
          | stuck => simp only [zt] at c1; cases c1
          | ok b =>
            simp only [zt] at c1
            intro F4 H4 x4
            have f4 : H2 D ≠ none := by rw [hacc]; intro z; cases z
            have h4D : H4 D = some (.lst acc) := x4.sh _ _ (x3.sh _ _ hacc)
            have f4D : F4 D = none := (x3.trans x4).new D f2D f4
            have drop : ∀ {F5 H5 : Hp} {o : HO}, Ext F2 H2 F5 H5 → Ext F1 H1 F5 (fun a => if a = D then none else (upd H5 D o) a) := fun {F5 H5 o} y => by
              have f5 : F5 D = none := y.new D f2D f4
              refine ⟨x2.sf.trans y.sf, fun a u e => ?_, fun a u e => ?_, fun a h1 h2 => ?_⟩
              · have na : a ≠ D := fun z => by rw [z, hD] at e; cases e
                rw [if_neg na, upd_ne na]
                exact y.sh _ _ (s12 _ _ e)
              · have na : a ≠ D := fun z => by rw [z, f5] at e; cases e
                rw [if_neg na, upd_ne na]
                exact y.sub _ _ e
              · refine y.new a (x2.new a h1 h2) ?_
                obtain ⟨u, e⟩ := some_of_ne h2
                rw [s12 _ _ e]
                intro z; cases z
            have liveA : ∀ a ∈ A, H2 a ≠ none := fun a ha => by
              obtain ⟨o, ho⟩ := dva.there a ha
              rw [ho]; exact fun z => by cases z
            have keepA : ∀ {F5 H5 : Hp}, Ext F2 H2 F5 H5 → ∀ a ∈ A, H5 a = H2 a := fun y a ha => by
              obtain ⟨o, ho⟩ := dva.there a ha
              rw [ho]; exact y.sh _ _ ho
            cases b with
            | false =>
              rw [if_neg Bool.false_ne_true]
              have hu : upd H4 D (.lst acc) = H4 := by
                funext a
                by_cases ha : a = D
                · rw [ha, upd_same, h4D]
                · rw [upd_ne ha]
              have y := drop (o := .lst acc) (x3.trans x4)
              rw [hu] at y
              refine ⟨by omega, F4, acc, as, A, y, h4D, dva.frame (x3.sf.trans x4.sf) (keepA (x3.trans x4)), ⟨nda, fun a ha => ⟨(hA a ha).1, (x3.trans x4).new a (hA a ha).2.1 (liveA a ha), (hA a ha).2.2⟩⟩, by omega, ys, c1, by rw [zc]; exact c2⟩
            | true =>
              rw [if_pos rfl]
              simp only at c1
              refine he F0 H0 F4 r1 σ2 H4 _ (S2.step x4) ?_
              cases zf : f r1 with
              | exc x => simp only [zf] at c1; cases c1
              | stuck => simp only [zf] at c1; cases c1
              | ok y0 =>
                simp only [zf] at c1
                cases zr : compD vs g t f (ds.drop (i + 1)) ρ with
                | exc x => rw [zr] at c1; cases c1
                | stuck => rw [zr] at c1; cases c1
                | ok zs =>
                  rw [zr] at c1
                  have c1 : R.ok (y0 :: zs) = R.ok ys := c1
                  cases c1
                  intro v F5 H5 x5 dv5
                  obtain ⟨B, od5, nd5, fr5⟩ := dv5
                  have x35 := (x3.trans x4).trans x5
                  have a4 : ∀ a ∈ A, H4 a ≠ none := fun a ha => by rw [keepA (x3.trans x4) a ha]; exact liveA a ha
                  have bD : ∀ b ∈ B, b ≠ D := fun b hb z => by have := (fr5 b hb).1; rw [z, h4D] at this; cases this
                  have s14 : Same H1 H4 := s12.trans (x3.trans x4).sh
                  refine ⟨acc, x5.sh _ _ h4D, by rw [dva.length]; omega, by omega, F5, acc ++ [v], as ++ [y0], A ++ B, drop x35, upd_same, ODvL.snocC (od5.frame (Same.refl F5) fun a ha => by rw [upd_ne (bD a ha)]) (dva.frame x35.sf fun a ha => by rw [upd_ne (hA a ha).2.2]; exact keepA x35 a ha), ⟨List.nodup_append.mpr ⟨nda, nd5, fun a ha b hb z => a4 a ha (by rw [z]; exact (fr5 b hb).1)⟩, fun a ha => ?_⟩, by rw [List.length_append]; simp; omega, zs, rfl, ?_⟩
                  · rcases List.mem_append.mp ha with ha | ha
                    · exact ⟨(hA a ha).1, x35.new a (hA a ha).2.1 (liveA a ha), (hA a ha).2.2⟩
                    · exact ⟨s14.free (fr5 a ha).1, (fr5 a ha).2, bD a ha⟩
                  rw [zc, c2, List.append_assoc]
                  rfl
      · have hi : i = ds.length := by omega
        subst hi
        refine .inl ⟨wk.stop F2 H2 x2.sf s12 s22, ?_⟩
        rw [List.drop_length] at c1
        cases c1
        rw [List.append_nil] at c2
        cases c2
        refine q1 _ F2 H2 (x1.trans xx) ⟨D :: A, .lst hacc dva, List.nodup_cons.mpr ⟨fun h => (hA D h).2.2 rfl, nda⟩, fun a ha => ?_⟩
        rcases List.mem_cons.mp ha with rfl | ha
        · exact ⟨x1.sh.free hD, f2D⟩
        · exact ⟨x1.sh.free (hA a ha).1, (hA a ha).2.1⟩
  · rw [if_neg hz] at q1
    exact q1.elim
/-- y = [..], y a plain local, deep -/
theorem pus_setLcD {c0 : Sh} (i : Nat) (e1 : Eqx G G1 i) {elt tg iter : Expr} {ifs : List Expr} {scope : Scope} {y : Str} {py spos : Pos} (own : List (Str × Nat)) {ws : List Nat} {pos : Pos} {fi : Env → R (List D)} {g : D → Env → Option Env} {t : Env → R Bool} {f : Env → R D}
    (K : Jx X k G W) (J : Jc X) (hi : PuIS X k G W tg iter fi) (hg : Blk X (fun Y => PuG Y k G tg ws g) scope) (ht : Blk X (fun Y => PuTs Y k G (W0 W.nn) ifs t) scope) (he : Blk X (fun Y => PuD Y k G (W0 W.nn) c0 elt f) scope)
    (ok : blkC X.N X.env.scope scope own = true) (hw : ∀ i ∈ ws, i ∈ own.map (·.2)) (hdp : deepAt G1 i = some (.node fun _ => c0, none))
    (hsw : swapsWith (.ListComp elt [⟨tg, iter, ifs, 0⟩] scope pos) (some (.Name y py)) spos.line X.env = pure true) (hy : X.N[i]? = some y := by rfl) (hyl : X.env.scope.names.lookup y = some .local := by rfl) (np : noPin G = true := by rfl) (hs : ∀ x, foldedSetIterable iter X.env x = pure x := by intro _; rfl) :
    PuS X k G G1 Gl W ro (.Assign [.Name y py] (.ListComp elt [⟨tg, iter, ifs, 0⟩] scope pos) spos) (sAsg i (lcE fi (own.map (·.2)) g t f)) := .mk fun F0 H0 F ρ σ H Dn S q => by
  obtain ⟨wi, pi, qi⟩ := hi
  refine canS_of (ps_setLc (i := i) (tt := fun σ H Q => ∀ s H' C cl fp, Classical.choose (ht s H' C cl fp) σ H Q) (te := fun σ H Q => ∀ s H' C cl fp, canE (X.blk s H' scope (compEnvC scope cl C X.env) fp) elt σ H Q)
    (g := fun v σ H Q => ∀ s H' C cl fp, canG (X.blk s H' scope (compEnvC scope cl C X.env) fp) tg v σ H Q) J.calm K.nd hy hyl hsw pi (blkOk_by ok)
    (fun s H' C cl fp => ⟨fun pins s1 σ H v u Q I r h => h s H' C cl fp pins s1 u I r⟩)
    (fun s H' C cl fp => ⟨fun pins s1 σ H Q I h => (Classical.choose_spec (ht s H' C cl fp)).1.run pins s1 σ H Q I (h s H' C cl fp)⟩)
    (fun s H' C cl fp => ⟨fun pins s1 σ H Q I h => h s H' C cl fp pins s1 I⟩) hs) ?_
  refine lc_readD qi np hw (fun F0 H0 F r r' σ H v d Q S dv e n s H' C cl fp => (hg s H' C cl fp).run F0 H0 F r r' σ H v d Q S dv e n)
    (fun F0 H0 F r σ H Q S n s H' C cl fp => (Classical.choose_spec (ht s H' C cl fp)).2 F0 H0 F r σ H Q S n)
    (fun F0 H0 F r σ H Q S n s H' C cl fp => (he s H' C cl fp).run F0 H0 F r σ H Q S n) S ?_
  unfold sAsg at q
  cases z : lcE fi (own.map (·.2)) g t f ρ with
  | ok d =>
    rw [z] at q
    rintro v F' H' x ⟨A, od, nd, fr⟩
    exact q F' _ H' x.sf (S.setD x od nd fr e1 hdp)
  | exc x => rw [z] at q; exact fun cls dd F' H' y z => q cls dd G F F' σ H H' K.oke (Same.refl F) S y z
  | stuck => rw [z] at q; exact q

end
/-! ### displays of deep values; a deep value given up; what a def hands back -/
def ResDL (k : KC) (c : Nat → Sh) (i : Nat) (H F' H' : Hp) (vs : List V) (ds : List D) : Prop := ∃ A : List Addr, ODvL k F' H' c i A vs ds ∧ A.Nodup ∧ ∀ a ∈ A, H a = none ∧ F' a = none
theorem ResD.ext {k : KC} {sh : Sh} {H F1 H1 F2 H2 : Hp} {v : V} {d : D} (h : ResD k sh H F1 H1 v d) (x : Ext F1 H1 F2 H2) : ResD k sh H F2 H2 v d := by
  obtain ⟨A, od, nd, fr⟩ := h
  have live : ∀ a ∈ A, H1 a ≠ none := fun a ha => by
    obtain ⟨o, ho⟩ := od.there a ha
    rw [ho]; exact fun z => by cases z
  exact ⟨A, od.frame x.sf fun a ha => by
    obtain ⟨o, ho⟩ := od.there a ha
    rw [ho]; exact x.sh _ _ ho, nd, fun a ha => ⟨(fr a ha).1, x.new a (fr a ha).2 (live a ha)⟩⟩
theorem ResD.keep {k : KC} {sh : Sh} {F H F' H' : Hp} {v : V} {d : D} (x : Ext F H F' H') (h : ResD k sh H F' H' v d) : ∃ F2, Ext F H F2 H' ∧ Dv k F2 v d := by
  obtain ⟨A, od, nd, fr⟩ := h
  have sf : Same F' (addH F' H' fun _ => A) := fun a z e => by
    rw [addH_out fun _ hi => by rw [(fr a hi).2] at e; cases e]
    exact e
  refine ⟨addH F' H' fun _ => A, ⟨x.sf.trans sf, x.sh, fun a z e => ?_, fun a h1 h2 => ?_⟩, od.dv sf fun a ha => addH_in (fp := fun _ => A) (i := 0) ha⟩
  · by_cases q : a ∈ A
    · rw [addH_in (fp := fun _ => A) (i := 0) q] at e; exact e
    · rw [addH_out fun _ => q] at e; exact x.sub _ _ e
  · rw [addH_out fun _ hi => h2 (fr a hi).1]
    exact x.new a h1 h2
structure PuDL (X : Cx) (k : KC) (G : List Md) (W : WE) (c : Nat → Sh) (i : Nat) (es : List Expr) (f : Env → R (List D)) : Prop where
  run : ∀ (F0 H0 F : Hp) (r : Env) (σ : Sl) (H : Hp) (Q : List V → Hp → Prop), St4 k G F0 H0 F r σ H →
    PostR k F H W σ (fun ds => ∀ vs F' H', Ext F H F' H' → ResDL k c i H F' H' vs ds → Q vs H') (f r) → canA X es σ H Q
section
variable {X : Cx} {k : KC} {G G1 Gn Gl : List Md} {W : WE} {ro : RM} {e : Expr} {es : List Expr} {f : Env → R D} {fs : Env → R (List D)} {pos : Pos} {c : Nat → Sh} {i : Nat} {sh : Sh}
theorem pud_frz (h : PuE X k G W .frz e f) : PuD X k G W .leaf e f := .mk fun F0 H0 F r σ H Q S q =>
  h.run F0 H0 F r σ H Q S (q.imp fun d _ n v F' H' x z => n v F' H' x ⟨[], .leaf z, List.nodup_nil, fun _ z => (nomatch z)⟩)
theorem PuD.frz (h : PuD X k G W sh e f) : PuE X k G W .frz e f := .mk fun F0 H0 F r σ H Q S q =>
  h.run F0 H0 F r σ H Q S (q.imp fun d _ n v F' H' x z => by
    obtain ⟨F2, x2, dv⟩ := z.keep x
    exact n v F2 H' x2 dv)
theorem pudl_nil : PuDL X k G W c i [] aNil := .mk fun F0 H0 F ρ σ H Q S q => canA_of pa_nil (q [] F H (Ext.refl S.sub) ⟨[], .nil, List.nodup_nil, fun _ z => (nomatch z)⟩)
theorem pudl_cons (ha : PuD X k G W (c i) e f) (hr : PuDL X k G W c (i + 1) es fs) (hs : starEach (e :: es) X.env = (false, eval e X.env) :: starEach es X.env := by rfl) : PuDL X k G W c i (e :: es) (aCons f fs) := .mk fun F0 H0 F ρ σ H Q S q => by
  refine canA_of (pa_cons pe_can pa_can hs) (ha.run F0 H0 F ρ σ H _ S ?_)
  refine (PostR.bind q).imp fun x _ q1 v F1 H1 x1 rv => ?_
  refine hr.run F0 H0 F1 ρ σ H1 _ (S.step x1) ?_
  refine ((PostR.bind q1).grow x1).imp fun xs _ q2 vs F2 H2 x2 rvs => ?_
  obtain ⟨B, odl, ndb, frb⟩ := rvs
  obtain ⟨A, od1, nda, fra1⟩ := rv
  have live : ∀ a ∈ A, H1 a ≠ none := fun a ha => by
    obtain ⟨o, ho⟩ := od1.there a ha
    rw [ho]; exact fun z => by cases z
  obtain ⟨A', od, nda', fra⟩ := (show ResD k (c i) H F1 H1 v x from ⟨A, od1, nda, fra1⟩).ext x2
  have fram : ODv k F2 H2 (c i) A v x := od1.frame x2.sf fun a ha => by
    obtain ⟨o, ho⟩ := od1.there a ha
    rw [ho]; exact x2.sh _ _ ho
  refine q2 (v :: vs) F2 H2 (x1.trans x2) ⟨A ++ B, .cons fram odl, List.nodup_append.mpr ⟨nda, ndb, fun a ha b hb z => live a ha (by rw [z]; exact (frb b hb).1)⟩, fun a ha => ?_⟩
  rcases List.mem_append.mp ha with ha | ha
  · exact ⟨(fra1 a ha).1, x2.new a (fra1 a ha).2 (live a ha)⟩
  · exact ⟨x1.sh.free (frb a ha).1, (frb a ha).2⟩
theorem pud_tup {x1 : Nat} (h : PuDL X k G W c 0 es fs) : PuD X k G W (.tupS c) (.Tuple es x1 pos) (tupE fs) := .mk fun F0 H0 F ρ σ H Q S q => by
  refine canE_of (pe_tup pa_can) (h.run F0 H0 F ρ σ H _ S ?_)
  refine (PostR.bind q).imp fun ds _ q1 vs F1 H1 x1 rv => ?_
  by_cases hl : ds.length ≤ szT
  · rw [if_pos hl] at q1
    obtain ⟨A, od, nd, fr⟩ := rv
    refine ⟨by rw [od.length]; exact szT_le hl, fun p hp => ?_⟩
    have np : p ∉ A := fun z => by
      obtain ⟨o, ho⟩ := od.there p z
      rw [hp] at ho; cases ho
    refine q1 _ F1 _ (x1.trans (Ext.own x1.sub hp)) ⟨p :: A, .tup upd_same (od.frame (Same.refl F1) fun a ha => upd_ne fun z => np (z ▸ ha)), List.nodup_cons.mpr ⟨np, nd⟩, fun a ha => ?_⟩
    rcases List.mem_cons.mp ha with rfl | ha
    · exact ⟨x1.sh.free hp, x1.sub.free hp⟩
    · exact fr a ha
  · rw [if_neg hl] at q1
    exact q1.elim
theorem pud_lst (h : PuDL X k G W c 0 es fs) : PuD X k G W (.node c) (.List es pos) (lstE fs) := .mk fun F0 H0 F ρ σ H Q S q => by
  refine canE_of (pe_lst pa_can) (h.run F0 H0 F ρ σ H _ S ?_)
  refine (PostR.bind q).imp fun ds _ q1 vs F1 H1 x1 rv => ?_
  by_cases hl : ds.length ≤ szT
  · rw [if_pos hl] at q1
    obtain ⟨A, od, nd, fr⟩ := rv
    refine ⟨by rw [od.length]; exact szT_le hl, fun p hp => ?_⟩
    have np : p ∉ A := fun z => by
      obtain ⟨o, ho⟩ := od.there p z
      rw [hp] at ho; cases ho
    refine q1 _ F1 _ (x1.trans (Ext.own x1.sub hp)) ⟨p :: A, .lst upd_same (od.frame (Same.refl F1) fun a ha => upd_ne fun z => np (z ▸ ha)), List.nodup_cons.mpr ⟨np, nd⟩, fun a ha => ?_⟩
    rcases List.mem_cons.mp ha with rfl | ha
    · exact ⟨x1.sh.free hp, x1.sub.free hp⟩
    · exact fr a ha
  · rw [if_neg hl] at q1
    exact q1.elim
/-- return e -/
theorem pus_retD (J : Jx X k G W) (he : PuD X k G W sh e f) : PuS X k G Gn Gl W (.deep sh) (.Return (some e) pos) (sRet f) := .mk fun F0 H0 F ρ σ H Dn S q =>
  canS_of (ps_ret pe_can) (he.run F0 H0 F ρ σ H _ S (post_of J.oke S q fun d q1 v F' H' x r => q1 v F' H' (S.ext.trans x) (by
    obtain ⟨A, od, nd, fr⟩ := r
    exact ⟨A, od, nd, fun a ha => ⟨S.ext.sh.free (fr a ha).1, (fr a ha).2⟩⟩)))
/-- return of a deep name -/
theorem pus_retN {x : Str} {p1 : Pos} (i : Nat) {o : Option V} (hdp : deepAt G i = some (sh, o)) (hN : X.N[i]? = some x := by rfl)
    (hv : Vis X.env.scope x := by first | exact Or.inl rfl | exact Or.inr (Or.inl rfl) | exact Or.inr (Or.inr rfl)) (hd : (x == ("__debug__" : Str)) = false := by decide) (hcd : (x == ("__classdict__" : Str)) = false := by decide) :
    PuS X k G Gn Gl W (.deep sh) (.Return (some (.Name x p1)) pos) (sRet (eVar i)) := .mk fun F0 H0 F ρ σ H Dn S q => by
  cases e : ρ[i]? with
  | none => simp only [sRet, eVar, e, sOf] at q; exact q.elim
  | some o =>
    cases o with
    | none => simp only [sRet, eVar, e, sOf] at q; exact q.elim
    | some d =>
      simp only [sRet, eVar, e, sOf] at q
      obtain ⟨fp, dp⟩ := S.dp
      obtain ⟨v, e1, _, od⟩ := dp.at_ i _ _ _ hdp e
      exact canS_of (ps_ret (pe_var hN hv hd hcd)) ⟨_, e1, q _ F H S.ext ⟨fp i, od, dp.nd i, fun a ha => ⟨(dp.fr i a ha).2, (dp.fr i a ha).1⟩⟩⟩
end
def PostCD (k : KC) (F H : Hp) (sh : Sh) (Q : VK) (E : XK) : R D → Prop
  | .ok d => ∀ v F' H', Ext F H F' H' → ResD k sh H F' H' v d → Q v H'
  | .exc x => ∀ cls dd F' H', Ext F H F' H' → ExcAt k F' x cls dd → E cls dd H'
  | .stuck => False
/-- the promise of a def of n parameters whose answer is deep -/
def spD (k : KC) (n : Nat) (m : List D → R D) (sh : Sh) : Sp := fun vs H Q E => ∃ F ds, Same F H ∧ DvAll k F vs ds ∧ ds.length = n ∧ PostCD k F H sh Q E (m ds)
section
variable {P : Program} {w : World} {K : PySem.W.Frag} {mg : Str → Option Value} {base : Heap}
theorem pu_defDp {nn : Bool} {x qual : Str} {st : Stmt} {f : Addr} {fd : FuncData} {N ps : List Str} {lvl : Nat} {k : KC} {sh : Sh} {m : List D → R D} (nN n : Nat) (G Gn : List Md) (b : Env → SR) (hm : m = runD nN b) (hNl : N.length = nN) (hnl : ps.length = n) (F : Fun K x qual st f fd) (S : FnScope N ps (defScope st)) (hk : k.K = K)
    (np : noPin G = true) (hG : ∀ i, i < ps.length → nf G i ≠ true) (hnx : ∀ r r', b r ≠ .nx r')
    (hbody : ∀ (cdv : Value) (A : Around) (outer : List PySem.Env) (s : Shared) (H : Hp) (E : XK), Room lvl (cxOf (CXb nn P w) P w K mg base N qual (defScope st) f cdv A outer s H E).A → Jc (cxOf (CXb nn P w) P w K mg base N qual (defScope st) f cdv A outer s H E) →
      ∀ wv ge, (∀ {G : List Md}, Jx (cxOf (CXb nn P w) P w K mg base N qual (defScope st) f cdv A outer s H E) k G ⟨wv, ge, nn⟩) → PuB (cxOf (CXb nn P w) P w K mg base N qual (defScope st) f cdv A outer s H E) k G Gn Gn ⟨wv, ge, nn⟩ (.deep sh) (defBody st) b) :
    FnOk P w K mg base (CXb nn P w) (lvl + 1) f fd ps (spD k n m sh) := by
  subst hm hNl hnl
  refine okXb F S (fun vs H Q E h => ?_) (fun cdv A outer s H vs Q E hr h => ?_)
  · obtain ⟨F, ds, _, dv, hl, _⟩ := h
    rw [dv.length, hl]
  · obtain ⟨F, ds, sm, dv, hl, q⟩ := h
    have body := hbody cdv A outer s H E hr ⟨rfl, passes_of rfl⟩ (fun cls d _ H => E cls d H) gAny ⟨hk, S.nd, takesB, okN⟩
    refine ⟨_, pb_can, body.run F H F _ _ H _ (St4.start sm dv hl np hG) ?_⟩
    unfold runD at q
    cases z : b (ds.map some ++ List.replicate (N.length - ds.length) none) with
    | nx r => exact absurd z (hnx _ _)
    | ret d => rw [z] at q; exact fun v F' H' x r => q v F' H' x r
    | bk r => rw [z] at q; exact q.elim
    | ct r => rw [z] at q; exact q.elim
    | exc e r => rw [z] at q; exact fun cls dd G' F1 F' σ' H1 H' _ _ S1 x1 ea => q cls dd F' H' (S1.ext.trans x1) ea
    | stuck => rw [z] at q; exact q.elim
end
section
variable {X : Cx} {k : KC} {G : List Md} {W : WE} {lvl n : Nat} {f : Addr} {fd : FuncData} {ps : List Str} {M : List D → R D} {sh : Sh} {x : Str} {e : Expr} {es : List Expr} {fs : Env → R (List D)} {p pos : Pos}
/-- f(e, ..), whose answer is deep -/
theorem pud_call (J : Jx X k G W) (F : FnOk X.prog X.w X.K X.mg X.base (CXb W.nn X.prog X.w) lvl f fd ps (spD k n M sh)) (hr : Room lvl X.A) (hm : X.mg x = some (.ref f)) (hk : PySem.W.keepIn X.K (.ref f) = true) (hb : Binds X.K fd ps [])
    (ha : PuA X k G W .frz (e :: es) fs) (hg : Gl X x := by rfl) (hdb : (x == ("__debug__" : Str)) = false := by decide) (he : starEach (e :: es) X.env = (false, eval e X.env) :: starEach es X.env := by rfl) (hpl : (backTo pos (starEach es X.env)).any (·.1) = false := by rfl) :
    PuD X k G W sh (.Call (.Name x p) (e :: es) [] pos) (callN n M fs) := .mk fun F0 H0 F1 ρ σ H Q S q => by
  refine canE_of (pe_callS F hr hg hm hk hb (passAtB J.tk) pa_can hdb he hpl) (ha.run F0 H0 F1 ρ σ H _ S ?_)
  refine (PostR.bind q).imp fun ds _ q1 vs F2 H2 x2 rv => ?_
  by_cases hl : ds.length = n
  · rw [if_pos hl] at q1
    refine ⟨F2, ds, x2.sub, rv.frz_iff, hl, ?_⟩
    cases z : M ds with
    | ok d =>
      rw [z] at q1
      exact fun v F' H' x3 r3 => q1 v F' H' (x2.trans x3) (by
        obtain ⟨A, od, nd, fr⟩ := r3
        exact ⟨A, od, nd, fun a ha => ⟨x2.sh.free (fr a ha).1, (fr a ha).2⟩⟩)
    | exc y =>
      rw [z] at q1
      exact fun cls dd F' H' x3 ea => q1 cls dd F' H' (x2.trans x3) ea
    | stuck => rw [z] at q1; exact q1
  · rw [if_neg hl] at q1
    exact q1.elim
end
/-! ### what is in a deep slot, changed in its place -/
theorem ODvL.at {k : KC} {F H : Hp} : ∀ {c : Nat → Sh} {i : Nat} {A : List Addr} {vs : List V} {ds : List D} {j : Nat} {d : D}, ODvL k F H c i A vs ds → ds[j]? = some d → ∃ A1 B A2 v, A = A1 ++ (B ++ A2) ∧ vs[j]? = some v ∧ ODv k F H (c (i + j)) B v d ∧
    ∀ (F' H' : Hp) (B' : List Addr) (v' : V) (d' : D), Same F F' → (∀ a ∈ A1, H' a = H a) → (∀ a ∈ A2, H' a = H a) → ODv k F' H' (c (i + j)) B' v' d' → ODvL k F' H' c i (A1 ++ (B' ++ A2)) (vs.set j v') (ds.set j d')
  | _, _, _, _, _, _, _, .nil, e => by simp at e
  | c, i, _, _, _, 0, d, .cons (A := A) (B := B) (v := v) h1 h2, e => by
    simp only [List.getElem?_cons_zero, Option.some.injEq] at e
    subst e
    refine ⟨[], A, B, v, rfl, rfl, h1, fun F' H' B' v' d' s _ g2 od => ?_⟩
    show ODvL k F' H' c i (B' ++ B) _ _
    exact .cons (show ODv k F' H' (c i) B' v' d' from od) (h2.frame s g2)
  | c, i, _, _, _, j + 1, d, .cons (A := A) (B := B) (v := v) h1 h2, e => by
    obtain ⟨A1, B1, A2, w, e1, e2, e3, e4⟩ := ODvL.at (j := j) h2 (by simpa using e)
    refine ⟨A ++ A1, B1, A2, w, by rw [e1, List.append_assoc], by simpa using e2, by rw [show i + (j + 1) = i + 1 + j by omega]; exact e3, fun F' H' B' v' d' s g1 g2 od => ?_⟩
    rw [List.append_assoc]
    exact .cons (h1.frame s fun a ha => g1 a (List.mem_append_left _ ha)) (e4 F' H' B' v' d' s (fun a ha => g1 a (List.mem_append_right _ ha)) g2 (by rw [show i + 1 + j = i + (j + 1) by omega]; exact od))
theorem leaf_own {k : KC} {F H : Hp} {A : List Addr} {v : V} {es : List D} (h : ODv k F H (.node fun _ => .leaf) A v (.lst es)) : ∃ p, v = .ref p ∧ A = [p] ∧ OwnAt k F H p (.lst es) := by
  cases h with
  | imm _ h => cases h
  | lst h1 h2 =>
    obtain ⟨e, dv⟩ := leaf_odvl h2
    subst e
    exact ⟨_, rfl, rfl, .lst h1 dv⟩
theorem own_leaf {k : KC} {F H : Hp} {p : Addr} {es : List D} (h : OwnAt k F H p (.lst es)) : ODv k F H (.node fun _ => .leaf) [p] (.ref p) (.lst es) := by
  cases h with
  | lst h1 h2 => exact .lst h1 (odvl_leaf h2)
/-- x[e].m(e, ..) of a list of own lists, its answer dropped -/
def sMtP (i : Nat) (fi : Env → R D) (o : List D → List D → R (List D)) (fs : Env → R (List D)) : Env → SR := fun r => match r[i]? with
  | some (some (.lst xs)) => match fi r with
    | .ok (.int n) => match ixN xs.length n with
      | some j => match xs[j]? with
        | some (.lst es) => match fs r with
          | .ok ds => match o es ds with
            | .ok ys => .nx (r.set i (some (.lst (xs.set j (.lst ys)))))
            | _ => .stuck
          | .exc x => .exc x r
          | .stuck => .stuck
        | _ => .stuck
      | none => .stuck
    | .exc x => .exc x r
    | _ => .stuck
  | _ => .stuck
section
variable {X : Cx} {k : KC} {G G1 Gn Gl : List Md} {W : WE} {ro : RM} {m m1 m2 : Mo} {e a b c : Expr} {es : List Expr} {fs : Env → R (List D)} {f g h : Env → R D} {x name : Str} {p1 p2 apos cpos pos : Pos} {id T : String} {r : V → List V → Hp → VK → Prop} {o : List D → List D → R (List D)}
theorem pus_mtP (J : Jx X k G W) (pa : PlainAttrs "list") (slot : Slot "list" name id) (hty : typeOf (.builtin id) = pure (.type "method_descriptor")) (rule : MtR X id r) (hp : MtO k m r o) (i : Nat) {ov : Option V} (hdp : deepAt G i = some (.node fun _ => .node fun _ => .leaf, ov)) (hb : PuE X k G W .frz b f) (ha : PuA X k G W m (e :: es) fs) (hN : X.N[i]? = some x)
    (hv : Vis X.env.scope x) (hd : (x == ("__debug__" : Str)) = false) (hcd : (x == ("__classdict__" : Str)) = false) (hpl : PlainIx b)
    (hbase : attributeBase (.Subscript (.Name x p1) b p2) name X.env (eval (.Subscript (.Name x p1) b p2) X.env) = eval (.Subscript (.Name x p1) b p2) X.env)
    (hfew : ((backTo cpos (starEach (e :: es) X.env)).all (fun x => !x.1) && (backToKw cpos (keywordEach [] X.env)).all (fun x => x.1.isSome)
      && decide ((e :: es).length + ([] : List Keyword).length + (if ([] : List Keyword).isEmpty then 0 else 1) < 30)) = true)
    (hline : (apos.endLine == cpos.line) = true) (hs : starEach (e :: es) X.env = (false, eval e X.env) :: starEach es X.env) (hplain : (backTo cpos (starEach es X.env)).any (·.1) = false)
    (hsw : swapsWith (.Call (.Attribute (.Subscript (.Name x p1) b p2) name apos) (e :: es) [] cpos) none pos.line X.env = pure false) :
    PuS X k G G Gl W ro (.Expr (.Call (.Attribute (.Subscript (.Name x p1) b p2) name apos) (e :: es) [] cpos) pos) (sMtP i f o fs) := .mk fun F0 H0 F ρ σ H Dn S q => by
  refine canS_of (ps_expr (pe_bm pa slot hty rule (pe_ix ix_seq (pe_var hN hv hd hcd) pe_can hpl) pa_can hbase hfew hline hs hplain) hsw) ?_
  unfold sMtP at q
  split at q
  · rename_i xs hx
    obtain ⟨fp, dp⟩ := S.dp
    obtain ⟨v0, e1, _, od⟩ := dp.at_ i _ _ _ hdp hx
    refine ⟨v0, e1, hb.run F0 H0 F ρ σ H _ S ?_⟩
    split at q
    · rename_i n hn
      rw [hn]
      intro w F1 H1 x1 rv
      have ew := vw_int rv.vw
      subst ew
      split at q
      · rename_i j hj
        split at q
        · rename_i es0 hes
          have dp1 := dp.ext x1
          have S1 := S.step x1
          obtain ⟨v0', e1', _, od1⟩ := dp1.at_ i _ _ _ hdp hx
          rw [e1] at e1'
          cases e1'
          generalize hA0 : fp i = A0 at od1
          cases od1 with
          | imm _ h => cases h
          | @lst _ A a us _ h1 h2 =>
            have ul := h2.length
            obtain ⟨A1, B, A2, w, eA, ew, od2, _⟩ := h2.at hes
            obtain ⟨p, rfl, rfl, ow⟩ := leaf_own od2
            refine .inl ⟨a, us, n, .ref p, rfl, rfl, SqL.of h1, ?_, own_ty ow, ha.run F0 H0 F1 ρ σ H1 _ S1 ?_⟩
            · unfold L2.atI
              rw [ul, hj]
              exact ew
            · split at q
              · rename_i ds hds
                rw [hds]
                split at q
                · rename_i ys hys
                  intro vs F2 H2 x2 rv2
                  have dp2 := dp1.ext x2
                  have S2 := S1.step x2
                  obtain ⟨v0', e1', _, od3⟩ := dp2.at_ i _ _ _ hdp hx
                  rw [e1] at e1'
                  cases e1'
                  have h1' := x2.sh _ _ h1
                  generalize hA : fp i = Af at od3
                  cases od3 with
                  | imm _ h => cases h
                  | @lst _ A' a us' _ g1 g2 =>
                    rw [h1'] at g1
                    cases g1
                    obtain ⟨A1', B', A2', w', eA', ew', od4, rb⟩ := g2.at hes
                    rw [ew] at ew'
                    cases ew'
                    obtain ⟨p', ep, eB, ow4⟩ := leaf_own od4
                    cases ep
                    subst eB
                    have nd := dp2.nd i
                    rw [hA, eA'] at nd
                    have hpin : p ∈ fp i := by rw [hA, eA']; simp
                    have pf := dp2.fr i p hpin
                    have ndc := List.nodup_cons.mp nd
                    have na : a ≠ p := fun z => ndc.1 (by rw [z]; simp)
                    have nd2 := List.nodup_append.mp ndc.2
                    have n1 : ∀ y ∈ A1', y ≠ p := fun y hy => nd2.2.2 y hy p (by simp)
                    have n2 : ∀ y ∈ A2', y ≠ p := fun y hy z => by
                      have := (List.nodup_append.mp nd2.2.1).2.2 p (by simp) y hy
                      exact this z.symm
                    refine hp F2 H2 H1 p vs es0 ys ds _ S2.sub pf.1 ow4 rv2 hys fun o' u ow5 => ?_
                    have od5 := rb F2 (upd H2 p o') [p] (.ref p) (.lst ys) (Same.refl F2) (fun y hy => upd_ne (n1 y hy)) (fun y hy => upd_ne (n2 y hy)) (own_leaf ow5)
                    have hset : us.set j (.ref p) = us := by
                      refine List.ext_getElem? fun y => ?_
                      by_cases hy : y = j
                      · subst hy
                        rw [List.getElem?_set_self (List.getElem?_eq_some_iff.mp ew).1, ew]
                      · rw [List.getElem?_set_ne (Ne.symm hy)]
                    rw [hset] at od5
                    have od6 : ODv k F2 (upd H2 p o') (.node fun _ => .node fun _ => .leaf) (a :: (A1' ++ ([p] ++ A2'))) (.ref a) (.lst (xs.set j (.lst ys))) := .lst (by rw [upd_ne na]; exact h1') od5
                    exact q F2 σ _ (x1.sf.trans x2.sf) (S2.wrD dp2 hdp hx e1 hpin od6 (by rw [eA'] at hA; rw [← hA]; exact dp2.nd i) fun y hy => by rw [hA, eA']; exact hy)
                · exact q.elim
              · rename_i y hds
                rw [hds]
                exact fun cls dd F' H' y z => q cls dd G F1 F' σ H1 H' J.oke x1.sf S1 y z
              · exact q.elim
        · exact q.elim
      · exact q.elim
    · rename_i y hn
      rw [hn]
      exact fun cls dd F' H' y z => q cls dd G F F' σ H H' J.oke (Same.refl F) S y z
    · exact q.elim
  · exact q.elim
theorem pus_appendP (i : Nat) {ov : Option V} (J : Jx X k G W) (hb : PuE X k G W .frz b f) (ha : PuA X k G W .frz [e] fs) (hdp : deepAt G i = some (.node fun _ => .node fun _ => .leaf, ov) := by rfl) (hN : X.N[i]? = some x := by rfl)
    (hv : Vis X.env.scope x := by first | exact Or.inl rfl | exact Or.inr (Or.inl rfl) | exact Or.inr (Or.inr rfl)) (hd : (x == ("__debug__" : Str)) = false := by decide) (hcd : (x == ("__classdict__" : Str)) = false := by decide) (hpl : PlainIx b := by exact fun _ _ => rfl)
    (hbase : attributeBase (.Subscript (.Name x p1) b p2) "append" X.env (eval (.Subscript (.Name x p1) b p2) X.env) = eval (.Subscript (.Name x p1) b p2) X.env := by rfl)
    (hfew : ((backTo cpos (starEach [e] X.env)).all (fun x => !x.1) && (backToKw cpos (keywordEach [] X.env)).all (fun x => x.1.isSome)
      && decide ([e].length + ([] : List Keyword).length + (if ([] : List Keyword).isEmpty then 0 else 1) < 30)) = true := by rfl)
    (hline : (apos.endLine == cpos.line) = true := by rfl) (hs : starEach [e] X.env = (false, eval e X.env) :: starEach [] X.env := by rfl) (hplain : (backTo cpos (starEach [] X.env)).any (·.1) = false := by rfl)
    (hsw : swapsWith (.Call (.Attribute (.Subscript (.Name x p1) b p2) "append" apos) [e] [] cpos) none pos.line X.env = pure false := by rfl) :
    PuS X k G G Gl W ro (.Expr (.Call (.Attribute (.Subscript (.Name x p1) b p2) "append" apos) [e] [] cpos) pos) (sMtP i f appO fs) :=
  pus_mtP J PySem.F.plainAttrs_list PySem.F.slot_list_append PySem.type_list_append mt_append mo_append i hdp hb ha hN hv hd hcd hpl hbase hfew hline hs hplain hsw
end
/-! ### a child that is a flat list -/
theorem ODv.childL {k : KC} {F H : Hp} {c : Nat → Sh} {A : List Addr} {v : V} {xs es : List D} {j : Nat} (od : ODv k F H (.node c) A v (.lst xs)) (hj : xs[j]? = some (.lst es)) (hc : c j = .node fun _ => .leaf) (nd : A.Nodup) :
    ∃ a us p, v = .ref a ∧ H a = some (.lst us) ∧ us.length = xs.length ∧ us[j]? = some (.ref p) ∧ OwnAt k F H p (.lst es) ∧ p ∈ A ∧ ∀ ob ys, OwnAt k F (upd H p ob) p (.lst ys) → ODv k F (upd H p ob) (.node c) A v (.lst (xs.set j (.lst ys))) := by
  cases od with
  | imm _ h => cases h
  | @lst _ A a us _ h1 h2 =>
    have ul := h2.length
    obtain ⟨A1, B, A2, w, eA, ew, od2, rb⟩ := h2.at hj
    rw [show 0 + j = j by omega, hc] at od2
    obtain ⟨p, rfl, rfl, ow⟩ := leaf_own od2
    subst eA
    have ndc := List.nodup_cons.mp nd
    have na : a ≠ p := fun z => ndc.1 (by rw [z]; simp)
    have nd2 := List.nodup_append.mp ndc.2
    have n1 : ∀ y ∈ A1, y ≠ p := fun y hy => nd2.2.2 y hy p (by simp)
    have n2 : ∀ y ∈ A2, y ≠ p := fun y hy z => (List.nodup_append.mp nd2.2.1).2.2 p (by simp) y hy z.symm
    refine ⟨a, us, p, rfl, h1, ul, ew, ow, by simp, fun ob ys ow5 => ?_⟩
    have od5 := rb F (upd H p ob) [p] (.ref p) (.lst ys) (Same.refl F) (fun y hy => upd_ne (n1 y hy)) (fun y hy => upd_ne (n2 y hy)) (by rw [show 0 + j = j by omega, hc]; exact own_leaf ow5)
    have hset : us.set j (.ref p) = us := by
      refine List.ext_getElem? fun y => ?_
      by_cases hy : y = j
      · subst hy
        rw [List.getElem?_set_self (List.getElem?_eq_some_iff.mp ew).1, ew]
      · rw [List.getElem?_set_ne (Ne.symm hy)]
    rw [hset] at od5
    exact .lst (by rw [upd_ne na]; exact h1) od5
theorem ODv.childT {k : KC} {F H : Hp} {c : Nat → Sh} {A : List Addr} {v : V} {xs es : List D} {j : Nat} (od : ODv k F H (.tupS c) A v (.tup xs)) (hj : xs[j]? = some (.lst es)) (hc : c j = .node fun _ => .leaf) (nd : A.Nodup) :
    ∃ a us p, v = .ref a ∧ H a = some (.tup us) ∧ us.length = xs.length ∧ us[j]? = some (.ref p) ∧ OwnAt k F H p (.lst es) ∧ p ∈ A ∧ ∀ ob ys, OwnAt k F (upd H p ob) p (.lst ys) → ODv k F (upd H p ob) (.tupS c) A v (.tup (xs.set j (.lst ys))) := by
  cases od with
  | @tup _ A a us _ h1 h2 =>
    have ul := h2.length
    obtain ⟨A1, B, A2, w, eA, ew, od2, rb⟩ := h2.at hj
    rw [show 0 + j = j by omega, hc] at od2
    obtain ⟨p, rfl, rfl, ow⟩ := leaf_own od2
    subst eA
    have ndc := List.nodup_cons.mp nd
    have na : a ≠ p := fun z => ndc.1 (by rw [z]; simp)
    have nd2 := List.nodup_append.mp ndc.2
    have n1 : ∀ y ∈ A1, y ≠ p := fun y hy => nd2.2.2 y hy p (by simp)
    have n2 : ∀ y ∈ A2, y ≠ p := fun y hy z => (List.nodup_append.mp nd2.2.1).2.2 p (by simp) y hy z.symm
    refine ⟨a, us, p, rfl, h1, ul, ew, ow, by simp, fun ob ys ow5 => ?_⟩
    have od5 := rb F (upd H p ob) [p] (.ref p) (.lst ys) (Same.refl F) (fun y hy => upd_ne (n1 y hy)) (fun y hy => upd_ne (n2 y hy)) (by rw [show 0 + j = j by omega, hc]; exact own_leaf ow5)
    have hset : us.set j (.ref p) = us := by
      refine List.ext_getElem? fun y => ?_
      by_cases hy : y = j
      · subst hy
        rw [List.getElem?_set_self (List.getElem?_eq_some_iff.mp ew).1, ew]
      · rw [List.getElem?_set_ne (Ne.symm hy)]
    rw [hset] at od5
    exact .tup (by rw [upd_ne na]; exact h1) od5
/-- x[e].clear() of a tuple that holds own lists -/
def sClrT (i n : Nat) : Env → SR := fun r => match r[i]? with
  | some (some (.tup xs)) => match xs[n]? with
    | some (.lst es) => .nx (r.set i (some (.tup (xs.set n (.lst [])))))
    | _ => .stuck
  | _ => .stuck
section
variable {X : Cx} {k : KC} {G G1 Gn Gl : List Md} {W : WE} {ro : RM} {b : Expr} {f : Env → R D} {x : Str} {p1 p2 apos cpos pos : Pos}
theorem pus_clearT {c : Nat → Sh} {jj : Int} (i n : Nat) {ov : Option V} (J : Jx X k G W) (hb : PuE X k G W .frz b (eC (.int jj))) (hdp : deepAt G i = some (.tupS c, ov) := by rfl) (hc : c n = .node fun _ => .leaf := by rfl) (hjj : jj = (n : Int) := by rfl) (hN : X.N[i]? = some x := by rfl)
    (hv : Vis X.env.scope x := by first | exact Or.inl rfl | exact Or.inr (Or.inl rfl) | exact Or.inr (Or.inr rfl)) (hd : (x == ("__debug__" : Str)) = false := by decide) (hcd : (x == ("__classdict__" : Str)) = false := by decide) (hpl : PlainIx b := by exact fun _ _ => rfl)
    (hbase : attributeBase (.Subscript (.Name x p1) b p2) "clear" X.env (eval (.Subscript (.Name x p1) b p2) X.env) = eval (.Subscript (.Name x p1) b p2) X.env := by rfl) (hline : (apos.endLine == cpos.line) = true := by rfl)
    (hsw : swapsWith (.Call (.Attribute (.Subscript (.Name x p1) b p2) "clear" apos) [] [] cpos) none pos.line X.env = pure false := by rfl) :
    PuS X k G G Gl W ro (.Expr (.Call (.Attribute (.Subscript (.Name x p1) b p2) "clear" apos) [] [] cpos) pos) (sClrT i n) := .mk fun F0 H0 F ρ σ H Dn S q => by
  refine canS_of (ps_expr (pe_bm0 PySem.F.plainAttrs_list PySem.F.slot_list_clear PySem.F.type_list_clear mt_clear (pe_ix ix_seq (pe_var hN hv hd hcd) pe_can hpl) hbase hline) hsw) ?_
  unfold sClrT at q
  split at q
  · rename_i xs hx
    obtain ⟨fp, dp⟩ := S.dp
    obtain ⟨v0, e1, _, od⟩ := dp.at_ i _ _ _ hdp hx
    refine ⟨v0, e1, hb.run F0 H0 F ρ σ H _ S ?_⟩
    show ∀ v F' H', Ext F H F' H' → Res k .frz H F' H' v (.int jj) → _
    intro w F1 H1 x1 rv
    have ew := vw_int rv.vw
    subst ew
    split at q
    · rename_i es0 hes
      have dp1 := dp.ext x1
      have S1 := S.step x1
      obtain ⟨v0', e1', _, od1⟩ := dp1.at_ i _ _ _ hdp hx
      rw [e1] at e1'
      cases e1'
      obtain ⟨a, us, p, rfl, h1, ul, ew, ow, hp, rb⟩ := od1.childT hes hc (dp1.nd i)
      obtain ⟨zs, g1, g2⟩ := own_lst ow
      refine .inr (.inl ⟨a, us, jj, .ref p, rfl, rfl, SqT.of h1, ?_, own_ty ow, p, zs, rfl, rfl, g1, ?_⟩)
      · subst hjj
        have hl := (List.getElem?_eq_some_iff.mp ew).1
        unfold L2.atI ixN
        rw [if_pos (by omega), if_pos (by omega)]
        exact ew
      · exact q F1 σ _ x1.sf (S1.wrD dp1 hdp hx e1 hp (rb _ [] (.lst upd_same .nil)) (dp1.nd i) fun y hy => hy)
    · exact q.elim
  · exact q.elim
end
/-! ### a flat list in a deep slot, changed -/
section
variable {X : Cx} {k : KC} {G G1 Gn Gl : List Md} {W : WE} {ro : RM} {m m1 m2 : Mo} {e a b c : Expr} {es : List Expr} {fs : Env → R (List D)} {f g h : Env → R D} {x name : Str} {p1 apos cpos pos : Pos} {id T : String} {r : V → List V → Hp → VK → Prop} {o : List D → List D → R (List D)}
theorem pus_mtR (J : Jx X k G W) (pa : PlainAttrs "list") (slot : Slot "list" name id) (hty : typeOf (.builtin id) = pure (.type "method_descriptor")) (rule : MtR X id r) (hp : MtO k m r o) (i : Nat) {ov : Option V} (hdp : deepAt G i = some (.node fun _ => .leaf, ov)) (ha : PuA X k G W m (e :: es) fs) (hN : X.N[i]? = some x)
    (hv : Vis X.env.scope x) (hd : (x == ("__debug__" : Str)) = false) (hcd : (x == ("__classdict__" : Str)) = false)
    (hbase : attributeBase (.Name x p1) name X.env (eval (.Name x p1) X.env) = eval (.Name x p1) X.env)
    (hfew : ((backTo cpos (starEach (e :: es) X.env)).all (fun x => !x.1) && (backToKw cpos (keywordEach [] X.env)).all (fun x => x.1.isSome)
      && decide ((e :: es).length + ([] : List Keyword).length + (if ([] : List Keyword).isEmpty then 0 else 1) < 30)) = true)
    (hline : (apos.endLine == cpos.line) = true) (hs : starEach (e :: es) X.env = (false, eval e X.env) :: starEach es X.env) (hplain : (backTo cpos (starEach es X.env)).any (·.1) = false)
    (hsw : swapsWith (.Call (.Attribute (.Name x p1) name apos) (e :: es) [] cpos) none pos.line X.env = pure false) :
    PuS X k G G Gl W ro (.Expr (.Call (.Attribute (.Name x p1) name apos) (e :: es) [] cpos) pos) (sMt i o fs) := .mk fun F0 H0 F ρ σ H Dn S q => by
  refine canS_of (ps_expr (pe_bm pa slot hty rule (pe_var hN hv hd hcd) pa_can hbase hfew hline hs hplain) hsw) ?_
  unfold sMt at q
  cases y : ρ[i]? with
  | none => rw [y] at q; exact q.elim
  | some z =>
    cases z with
    | none => rw [y] at q; exact q.elim
    | some d =>
      cases d with
      | lst xs =>
        rw [y] at q
        simp only at q
        obtain ⟨fp, dp⟩ := S.dp
        obtain ⟨v0, e1, _, od⟩ := dp.at_ i _ _ _ hdp y
        obtain ⟨p, rfl, eA, ow⟩ := leaf_own od
        refine ⟨_, e1, own_ty ow, ha.run F0 H0 F ρ σ H _ S ?_⟩
        cases z : fs ρ with
        | stuck => rw [z] at q; exact q.elim
        | exc y => rw [z] at q; exact fun cls dd F' H' y z => q cls dd G F F' σ H H' J.oke (Same.refl F) S y z
        | ok ds =>
          rw [z] at q
          simp only at q
          intro vs F1 H1 x1 rv
          cases zo : o xs ds with
          | exc _ => rw [zo] at q; exact q.elim
          | stuck => rw [zo] at q; exact q.elim
          | ok ys =>
            rw [zo] at q
            have S1 := S.step x1
            have dp1 := dp.ext x1
            obtain ⟨v1, e1', _, od1⟩ := dp1.at_ i _ _ _ hdp y
            rw [e1] at e1'
            cases e1'
            obtain ⟨p', ep, eA', ow'⟩ := leaf_own od1
            cases ep
            have hin : p ∈ fp i := by rw [eA]; simp
            exact hp F1 H1 H p vs xs ys ds _ S1.sub (dp1.fr i p hin).1 ow' rv zo fun o' _ w' => q F1 σ _ x1.sf (S1.wrD dp1 hdp y e1 hin (own_leaf w') (List.nodup_cons.mpr ⟨List.not_mem_nil, List.nodup_nil⟩) fun a ha => by rw [List.mem_singleton.mp ha]; exact hin)
      | _ => rw [y] at q; exact q.elim
theorem pus_appendR (i : Nat) {ov : Option V} (J : Jx X k G W) (ha : PuA X k G W .frz [e] fs) (hdp : deepAt G i = some (.node fun _ => .leaf, ov) := by rfl) (hN : X.N[i]? = some x := by rfl)
    (hv : Vis X.env.scope x := by first | exact Or.inl rfl | exact Or.inr (Or.inl rfl) | exact Or.inr (Or.inr rfl)) (hd : (x == ("__debug__" : Str)) = false := by decide) (hcd : (x == ("__classdict__" : Str)) = false := by decide)
    (hbase : attributeBase (.Name x p1) "append" X.env (eval (.Name x p1) X.env) = eval (.Name x p1) X.env := by rfl)
    (hfew : ((backTo cpos (starEach [e] X.env)).all (fun x => !x.1) && (backToKw cpos (keywordEach [] X.env)).all (fun x => x.1.isSome)
      && decide ([e].length + ([] : List Keyword).length + (if ([] : List Keyword).isEmpty then 0 else 1) < 30)) = true := by rfl)
    (hline : (apos.endLine == cpos.line) = true := by rfl) (hs : starEach [e] X.env = (false, eval e X.env) :: starEach [] X.env := by rfl) (hplain : (backTo cpos (starEach [] X.env)).any (·.1) = false := by rfl)
    (hsw : swapsWith (.Call (.Attribute (.Name x p1) "append" apos) [e] [] cpos) none pos.line X.env = pure false := by rfl) :
    PuS X k G G Gl W ro (.Expr (.Call (.Attribute (.Name x p1) "append" apos) [e] [] cpos) pos) (sApp i fs) :=
  pus_mtR J PySem.F.plainAttrs_list PySem.F.slot_list_append PySem.type_list_append mt_append mo_append i hdp ha hN hv hd hcd hbase hfew hline hs hplain hsw
end
/-! ### isinstance of the law's own classes -/
def isC (l : List Bool) : D → R D
  | .ins c _ _ => .ok (.bl (isl l c))
  | _ => .stuck
/-- what isinstance asks of an instance's class -/
def IcC (K : PySem.W.Frag) (D C : Addr) (b : Bool) : Prop := Cls K D ∧ PySem.W.findIn K (.ref D) "__class__" = some (some (.builtin "object.__class__")) ∧ PySem.W.specialIn K (.builtin "object.__class__") "__get__" = some (some (.builtin "getset_descriptor.__get__")) ∧
  PySem.W.takesIn K (.builtin "object.__class__") = some true ∧ PySem.W.mroIn K D (.type "object") = some true ∧ PySem.W.kitOne K (.ref D) (.ref C) = some b
section
variable {X : Cx} {k : KC} {G : List Md} {W : WE} {m : Mo} {e : Expr} {f : Env → R D} {p p2 pos : Pos}
theorem pu_isC (l : List Bool) {tn : Str} {C : Addr} (he : PuE X k G W m e f) (hm : X.mg "isinstance" = none) (pc : PE X (.Name tn p2) (tC (.ref C))) (hk : ∀ c D, k.ci c = some D → IcC X.K D C (isl l c))
    (hg : Gl X "isinstance" := by rfl)
    (hs : starEach [e, .Name tn p2] X.env = (false, eval e X.env) :: starEach [.Name tn p2] X.env := by rfl) (hs2 : starEach [.Name tn p2] X.env = [(false, eval (.Name tn p2) X.env)] := by rfl) (hpl : (backTo pos (starEach [.Name tn p2] X.env)).any (·.1) = false := by rfl) :
    PuE X k G W .frz (.Call (.Name "isinstance" p) [e, .Name tn p2] [] pos) (fun r => f r >>= isC l) := .mk fun F0 H0 F ρ σ H Q S q => by
  refine canE_of (pe_callB call_isi hg hm bt_isi (pa_cons pe_can (pa_cons pc pa_nil hs2) hs) (by decide) (by decide) hs hpl) (he.run F0 H0 F ρ σ H _ S ?_)
  refine (PostR.bind q).imp fun d _ q1 v F1 H1 x1 rv => ?_
  cases d with
  | ins c ns ds =>
    rcases rv.vw with h | ⟨p, e, _, h⟩
    · cases h with
      | ins h0 h1 h2 h3 =>
        obtain ⟨a1, a2, a3, a4, a5, a6⟩ := hk _ _ h0
        exact ⟨_, .ref C, _, .ref C, _, rfl, .own _, .base (.ins (x1.sub _ _ h1) a1 a2 a3 a4 a5), a6, q1 _ F1 H1 x1 (.bl _)⟩
    · cases h
  | _ => exact q1.elim
end
/-! ### weakest preconditions -/
theorem wp_isC {l : List Bool} {c : Nat} {ns : List Str} {ds : List D} {PD : D → Prop} {E : Exc → Prop} : (isC l (.ins c ns ds)).wp PD E ↔ PD (.bl (isl l c)) := Iff.rfl
def kidL (xs : List D) : D → R (Nat × List D)
  | .int n => match ixN xs.length n with
    | some j => match xs[j]? with
      | some (.lst es) => .ok (j, es)
      | _ => .stuck
    | none => .stuck
  | _ => .stuck
section
variable {i : Nat} {f : Env → R D} {t : Env → R Bool} {fs : Env → R (List D)} {r : Env} {w : Ws} {PD : D → Prop} {PB : Bool → Prop} {E : Exc → Prop} {o : List D → List D → R (List D)}
theorem wp_peekE : (peekE f r).wp PD E ↔ (f r).wp (fun d => scalD d = true ∧ PD d) (fun x => scalX x = true ∧ E x) := by
  unfold peekE
  cases f r with
  | ok d =>
    show R.wp (if scalD d = true then _ else _) PD E ↔ scalD d = true ∧ PD d
    by_cases h : scalD d = true
    · rw [if_pos h]; exact ⟨fun z => ⟨h, z⟩, fun z => z.2⟩
    · rw [if_neg h]; exact ⟨fun z => z.elim, fun z => absurd z.1 h⟩
  | exc x =>
    show R.wp (if scalX x = true then _ else _) PD E ↔ scalX x = true ∧ E x
    by_cases h : scalX x = true
    · rw [if_pos h]; exact ⟨fun z => ⟨h, z⟩, fun z => z.2⟩
    · rw [if_neg h]; exact ⟨fun z => z.elim, fun z => absurd z.1 h⟩
  | stuck => exact Iff.rfl
theorem wp_peekT : (peekT t r).wp PB E ↔ (t r).wp PB (fun x => scalX x = true ∧ E x) := by
  unfold peekT
  cases t r with
  | ok d => exact Iff.rfl
  | exc x =>
    show R.wp (if scalX x = true then _ else _) PB E ↔ scalX x = true ∧ E x
    by_cases h : scalX x = true
    · rw [if_pos h]; exact ⟨fun z => ⟨h, z⟩, fun z => z.2⟩
    · rw [if_neg h]; exact ⟨fun z => z.elim, fun z => absurd z.1 h⟩
  | stuck => exact Iff.rfl
theorem wp_oDE : (oDE f r).wp PD E ↔ (f r).wp (fun d => noDtt d = true ∧ PD d) E := by
  unfold oDE
  cases f r with
  | ok d =>
    show R.wp (if noDtt d = true then _ else _) PD E ↔ noDtt d = true ∧ PD d
    by_cases h : noDtt d = true
    · rw [if_pos h]; exact ⟨fun z => ⟨h, z⟩, fun z => z.2⟩
    · rw [if_neg h]; exact ⟨fun z => z.elim, fun z => absurd z.1 h⟩
  | exc x => exact Iff.rfl
  | stuck => exact Iff.rfl
theorem wp_immE : (immE f r).wp PD E ↔ (f r).wp (fun d => immK d = true ∧ PD d) E := by
  unfold immE
  cases f r with
  | ok d =>
    show R.wp (if immK d = true then _ else _) PD E ↔ immK d = true ∧ PD d
    by_cases h : immK d = true
    · rw [if_pos h]; exact ⟨fun z => ⟨h, z⟩, fun z => z.2⟩
    · rw [if_neg h]; exact ⟨fun z => z.elim, fun z => absurd z.1 h⟩
  | exc x => exact Iff.rfl
  | stuck => exact Iff.rfl
theorem wp_kidL {xs es : List D} {n : Int} {P : Nat × List D → Prop} (h : 0 ≤ n ∧ n < xs.length) (e : xs[n.toNat]? = some (.lst es)) (q : P (n.toNat, es)) : (kidL xs (.int n)).wp P E := by
  have : ixN xs.length n = some n.toNat := by
    unfold ixN
    rw [if_pos h.1, if_pos h.2]
  unfold kidL
  simp only [this, e]
  exact q
theorem ws_mtP (ne : ∀ xs ds x, o xs ds ≠ .exc x) : (sMtP i f o fs r).wp w ↔ (lsAt i r).wp (fun xs => (f r).wp (fun d => (kidL xs d).wp (fun je => (fs r).wp (fun ds => (o je.2 ds).wp (fun ys => w.N (r.set i (some (.lst (xs.set je.1 (.lst ys)))))) noE) (fun e => w.E e r)) noE) (fun e => w.E e r)) noE := by
  rw [lsAt_get]
  unfold sMtP
  split
  · rename_i xs hx
    simp only [hx, wp_ok]
    cases f r with
    | exc e => exact Iff.rfl
    | stuck => exact Iff.rfl
    | ok d =>
      simp only [wp_ok]
      cases d with
      | int n =>
        unfold kidL
        simp only
        cases ixN xs.length n with
        | none => exact Iff.rfl
        | some j =>
          simp only
          cases xs[j]? with
          | none => exact Iff.rfl
          | some d =>
            cases d with
            | lst es =>
              simp only [wp_ok]
              cases fs r with
              | exc e => exact Iff.rfl
              | stuck => exact Iff.rfl
              | ok ds =>
                simp only [wp_ok]
                cases h : o es ds with
                | ok ys => exact Iff.rfl
                | exc e => exact absurd h (ne es ds e)
                | stuck => exact Iff.rfl
            | _ => exact Iff.rfl
      | _ => exact Iff.rfl
  · rename_i hx
    cases z : r[i]? with
    | none => exact Iff.rfl
    | some y =>
      cases y with
      | none => exact Iff.rfl
      | some d =>
        cases d with
        | lst xs => exact absurd z (hx xs)
        | _ => exact Iff.rfl
theorem ws_appP : (sMtP i f appO fs r).wp w ↔ (lsAt i r).wp (fun xs => (f r).wp (fun d => (kidL xs d).wp (fun je => (fs r).wp (fun ds => (appO je.2 ds).wp (fun ys => w.N (r.set i (some (.lst (xs.set je.1 (.lst ys)))))) noE) (fun e => w.E e r)) noE) (fun e => w.E e r)) noE := ws_mtP appO_exc
def tupAt : Nat → Env → R (List D)
  | 0, some (.tup xs) :: _ => .ok xs
  | k + 1, _ :: r => tupAt k r
  | _, _ => .stuck
theorem tupAt_get : ∀ (k : Nat) (r : Env), tupAt k r = match r[k]? with | some (some (.tup xs)) => .ok xs | _ => .stuck
  | 0, [] => rfl
  | 0, none :: _ => rfl
  | 0, some d :: _ => by cases d <;> rfl
  | k + 1, [] => rfl
  | k + 1, x :: r => by
    show tupAt k r = _
    rw [tupAt_get k r]
    rfl
def lsOf : Option D → R (List D)
  | some (.lst es) => .ok es
  | _ => .stuck
theorem ws_clrT {n : Nat} : (sClrT i n r).wp w ↔ (tupAt i r).wp (fun xs => (lsOf xs[n]?).wp (fun _ => w.N (r.set i (some (.tup (xs.set n (.lst [])))))) noE) noE := by
  rw [tupAt_get]
  unfold sClrT
  split
  · rename_i xs hx
    simp only [hx, wp_ok]
    split
    · rename_i es hes
      rw [hes]
      exact Iff.rfl
    · rename_i hes
      cases z : xs[n]? with
      | none => exact Iff.rfl
      | some d =>
        cases d with
        | lst es => exact absurd z (hes es)
        | _ => exact Iff.rfl
  · rename_i hx
    cases z : r[i]? with
    | none => exact Iff.rfl
    | some y =>
      cases y with
      | none => exact Iff.rfl
      | some d =>
        cases d with
        | tup xs => exact absurd z (hx xs)
        | _ => exact Iff.rfl
end
end Pu

namespace Pu
open PySem PySem.Spec PyProof.Rows L2
/-! PuPt: paths into deep slots. -/
def focP : Sh → D → List Nat → Option (Sh × D)
  | sh, d, [] => some (sh, d)
  | .node c, .lst ds, j :: js => match ds[j]? with
    | some x => focP (c j) x js
    | none => none
  | .node c, .dct _ ds, j :: js => match ds[j]? with
    | some x => focP (c j) x js
    | none => none
  | .node c, .ins _ _ ds, j :: js => match ds[j]? with
    | some x => focP (c j) x js
    | none => none
  | .tupS c, .tup ds, j :: js => match ds[j]? with
    | some x => focP (c j) x js
    | none => none
  | _, _, _ :: _ => none
def setP : D → List Nat → D → D
  | _, [], x => x
  | .lst ds, j :: js, x => match ds[j]? with
    | some y => .lst (ds.set j (setP y js x))
    | none => .lst ds
  | .dct ks ds, j :: js, x => match ds[j]? with
    | some y => .dct ks (ds.set j (setP y js x))
    | none => .dct ks ds
  | .ins c ns ds, j :: js, x => match ds[j]? with
    | some y => .ins c ns (ds.set j (setP y js x))
    | none => .ins c ns ds
  | .tup ds, j :: js, x => match ds[j]? with
    | some y => .tup (ds.set j (setP y js x))
    | none => .tup ds
  | d, _ :: _, _ => d
def kidsV : HO → List V
  | .lst xs => xs
  | .tup xs => xs
  | .dK kvs => kvs.map (·.2)
  | .ins _ _ fs => fs.map (·.2)
  | _ => []
def kidV (H : Hp) (v : V) (j : Nat) : Option V := match v with
  | .ref a => match H a with
    | some o => (kidsV o)[j]?
    | none => none
  | _ => none
def valP (H : Hp) : V → List Nat → Option V
  | v, [] => some v
  | v, j :: js => match kidV H v j with
    | some w => valP H w js
    | none => none
theorem valP_snoc {H : Hp} {j : Nat} : ∀ {js : List Nat} {v : V}, valP H v (js ++ [j]) = (valP H v js).bind fun w => kidV H w j
  | [], v => by
    show (match kidV H v j with | some w => valP H w [] | none => none) = kidV H v j
    cases kidV H v j <;> rfl
  | i :: js, v => by
    show (match kidV H v i with | some w => valP H w (js ++ [j]) | none => none) = (match kidV H v i with | some w => valP H w js | none => none).bind _
    cases kidV H v i with
    | none => rfl
    | some w => exact valP_snoc
theorem focP_snoc {j : Nat} : ∀ {js : List Nat} {sh : Sh} {d : D}, focP sh d (js ++ [j]) = (focP sh d js).bind fun p => focP p.1 p.2 [j]
  | [], sh, d => by
    show focP sh d [j] = (focP sh d []).bind _
    cases sh <;> cases d <;> rfl
  | i :: js, sh, d => by
    cases sh <;> cases d <;> first
      | rfl
      | (rename_i c ds
         show (match ds[i]? with | some x => focP (c i) x (js ++ [j]) | none => none) = (match ds[i]? with | some x => focP (c i) x js | none => none).bind _
         cases ds[i]? with
         | none => rfl
         | some x => exact focP_snoc)
      | (rename_i c _ ds
         show (match ds[i]? with | some x => focP (c i) x (js ++ [j]) | none => none) = (match ds[i]? with | some x => focP (c i) x js | none => none).bind _
         cases ds[i]? with
         | none => rfl
         | some x => exact focP_snoc)
      | (rename_i c _ _ ds
         show (match ds[i]? with | some x => focP (c i) x (js ++ [j]) | none => none) = (match ds[i]? with | some x => focP (c i) x js | none => none).bind _
         cases ds[i]? with
         | none => rfl
         | some x => exact focP_snoc)
theorem set_same {α : Type} {us : List α} {j : Nat} {w : α} (h : us[j]? = some w) : us.set j w = us := by
  refine List.ext_getElem? fun y => ?_
  by_cases hy : y = j
  · subst hy
    rw [List.getElem?_set_self (List.getElem?_eq_some_iff.mp h).1, h]
  · rw [List.getElem?_set_ne (Ne.symm hy)]
/-- what stands at a path of a value that is one's own; and the value with another thing there -/
def Foc (k : KC) (F H : Hp) (sh : Sh) (A : List Addr) (v : V) (d : D) (js : List Nat) (sh' : Sh) (d' : D) : Prop :=
  ∃ (A1 B A2 : List Addr) (w : V), A = A1 ++ (B ++ A2) ∧ valP H v js = some w ∧ ODv k F H sh' B w d' ∧
    ∀ (F' H' : Hp) (B' : List Addr) (x : D), Same F F' → (∀ a ∈ A1, H' a = H a) → (∀ a ∈ A2, H' a = H a) → ODv k F' H' sh' B' w x → ODv k F' H' sh (A1 ++ (B' ++ A2)) v (setP d js x)
theorem foc_cons {k : KC} {F H : Hp} {c : Nat → Sh} {sh sh' : Sh} {A : List Addr} {a : Addr} {o : HO} {ds : List D} {d x d' : D} {j : Nat} {js : List Nat} {mk : List D → D} (h1 : H a = some o) (hl : ODvL k F H c 0 A (kidsV o) ds) (hj : ds[j]? = some x)
    (hm : ∀ y, setP d (j :: js) y = mk (ds.set j (setP x js y))) (hb : ∀ (F' H' : Hp) (A' : List Addr) (es : List D), H' a = some o → ODvL k F' H' c 0 A' (kidsV o) es → ODv k F' H' sh (a :: A') (.ref a) (mk es))
    (ih : ∀ B w, ODv k F H (c j) B w x → Foc k F H (c j) B w x js sh' d') : Foc k F H sh (a :: A) (.ref a) d (j :: js) sh' d' := by
  obtain ⟨A1, B, A2, w, eA, ew, od2, rb⟩ := hl.at hj
  rw [show 0 + j = j by omega] at od2 rb
  obtain ⟨C1, C, C2, u, eB, eu, od3, rb3⟩ := ih B w od2
  refine ⟨a :: (A1 ++ C1), C, C2 ++ A2, u, by rw [eA, eB]; simp, ?_, od3, fun F' H' B' y s g1 g2 od => ?_⟩
  · show (match kidV H (.ref a) j with | some w => valP H w js | none => none) = some u
    have : kidV H (.ref a) j = some w := by
      simp only [kidV, h1]
      exact ew
    rw [this]
    exact eu
  · rw [hm]
    have e1 : H' a = some o := by rw [g1 a (by simp)]; exact h1
    have q := rb F' H' (C1 ++ (B' ++ C2)) w (setP x js y) s (fun b hb => g1 b (by simp [hb])) (fun b hb => g2 b (by simp [hb])) (rb3 F' H' B' y s (fun b hb => g1 b (by simp [hb])) (fun b hb => g2 b (by simp [hb])) od)
    rw [set_same ew] at q
    have := hb F' H' _ _ e1 q
    have e : a :: (A1 ++ (C1 ++ (B' ++ C2) ++ A2)) = a :: (A1 ++ C1) ++ (B' ++ (C2 ++ A2)) := by simp
    rwa [e] at this
theorem ODv.focus {k : KC} {F H : Hp} : ∀ {js : List Nat} {sh : Sh} {A : List Addr} {v : V} {d : D} {sh' : Sh} {d' : D}, ODv k F H sh A v d → focP sh d js = some (sh', d') → Foc k F H sh A v d js sh' d'
  | [], sh, A, v, d, sh', d', od, e => by
    have e : (some (sh, d) : Option (Sh × D)) = some (sh', d') := by cases sh <;> cases d <;> exact e
    cases e
    exact ⟨[], A, [], v, by simp, rfl, od, fun F' H' B' x s _ _ q => by
      have : setP d [] x = x := by cases d <;> rfl
      rw [this]
      simpa using q⟩
  | j :: js, sh, A, v, d, sh', d', od, e => by
    cases od with
    | leaf h => cases d <;> cases e
    | imm h1 h2 => cases d <;> first | cases e | cases h2
    | @lst c A a xs ds h1 h2 =>
      simp only [focP] at e
      cases z : ds[j]? with
      | none => rw [z] at e; cases e
      | some x =>
        rw [z] at e
        exact foc_cons (mk := D.lst) h1 h2 z (fun y => by simp only [setP, z]) (fun F' H' A' es e1 q => .lst e1 q) fun B w od => ODv.focus od e
    | @tup c A a xs ds h1 h2 =>
      simp only [focP] at e
      cases z : ds[j]? with
      | none => rw [z] at e; cases e
      | some x =>
        rw [z] at e
        exact foc_cons (mk := D.tup) h1 h2 z (fun y => by simp only [setP, z]) (fun F' H' A' es e1 q => .tup e1 q) fun B w od => ODv.focus od e
    | @dct c A a kvs ks ds h1 hk h2 =>
      simp only [focP] at e
      cases z : ds[j]? with
      | none => rw [z] at e; cases e
      | some x =>
        rw [z] at e
        exact foc_cons (mk := D.dct ks) h1 h2 z (fun y => by simp only [setP, z]) (fun F' H' A' es e1 q => .dct e1 hk q) fun B w od => ODv.focus od e
    | @ins c A a C dx fs cn ns ds h0 h1 hn h2 =>
      simp only [focP] at e
      cases z : ds[j]? with
      | none => rw [z] at e; cases e
      | some x =>
        rw [z] at e
        exact foc_cons (mk := D.ins cn ns) h1 h2 z (fun y => by simp only [setP, z]) (fun F' H' A' es e1 q => .ins h0 e1 hn q) fun B w od => ODv.focus od e
/-! ### the objects of deep slots changed -/
section
variable {k : KC} {G : List Md} {F0 H0 F F' : Hp} {r r' : Env} {σ : Sl} {H H' rm : Hp}
theorem St4.holes (S : St4 k G F0 H0 F r σ H) {fp fp' Bs : Nat → List Addr} (dp : Dps k G F H0 H r σ fp) (hB : ∀ i a, a ∈ Bs i → a ∈ fp i) (hr1 : ∀ i a, a ∈ Bs i → rm a = none) (hr2 : ∀ a, (∀ i, a ∉ Bs i) → rm a = H a) (x : Ext F rm F' H')
    (hl : r'.length = r.length) (hr : ∀ j, deepAt G j = none → r'[j]? = r[j]?)
    (at' : ∀ (i : Nat) (d : D) (sh : Sh) (o : Option V), deepAt G i = some (sh, o) → r'[i]? = some (some d) → ∃ v, σ[i]? = some (some v) ∧ (∀ w, o = some w → v = w) ∧ ODv k F' H' sh (fp' i) v d)
    (off' : ∀ i, deepAt G i = none ∨ (∀ d, r'[i]? ≠ some (some d)) → fp' i = []) (nd' : ∀ i, (fp' i).Nodup)
    (fr' : ∀ i a, a ∈ fp' i → (a ∈ fp i ∧ a ∉ Bs i) ∨ (rm a = none ∧ F' a = none)) (dis' : ∀ i j a, a ∈ fp' i → a ∈ fp' j → i = j) : St4 k G F0 H0 F' r' σ H' := by
  have keep : ∀ a z, H0 a = some z → rm a = some z := fun a z e => by
    rw [hr2 a fun i hi => by rw [(dp.fr i a (hB i a hi)).2] at e; cases e]
    exact S.ext.sh _ _ e
  have old : ∀ i a, a ∈ fp i → a ∉ Bs i → rm a = H a := fun i a h1 h2 => hr2 a fun j hj => by
    cases dp.dis i j a h1 (hB j a hj)
    exact h2 hj
  have ownp : ∀ (i : Nat) (d : D) (p : Addr), isOwn G i = true → r[i]? = some (some d) → σ[i]? = some (some (.ref p)) → rm p = H p := fun i d p h1 h2 h3 => hr2 p fun j hj => dp.ow i j d p h1 h2 h3 (hB j p hj)
  refine ⟨⟨S.ext.sf.trans x.sf, fun a z e => x.sh _ _ (keep a z e), x.sub, fun a h1 h2 => ?_⟩, by rw [hl]; exact S.len, fun j d q g => ?_, fun j d q g => ?_, fun a b da db p qa qb ga gb sa sb => ?_, fun j a e => ?_, fun j p d e q => ?_, fp', at', off', nd', fun i a ha => ?_, dis', fun i j d p g q s hp => ?_⟩
  · refine x.new a (S.ext.new a h1 h2) ?_
    obtain ⟨z, e⟩ := some_of_ne h2
    rw [keep a z e]
    exact fun q => by cases q
  · rw [hr j (deep_nf g)] at q
    obtain ⟨v, e1, e2⟩ := S.frz j d q g
    exact ⟨v, e1, e2.mono x.sf⟩
  · rw [hr j (own_deep g)] at q
    obtain ⟨p, e1, e2, e3, e4⟩ := S.own j d q g
    have hp := ownp j d p g q e1
    refine ⟨p, e1, x.new p e2 ?_, e3, ?_⟩
    · obtain ⟨o, z⟩ := e4.there
      rw [hp, z]
      exact fun q => by cases q
    · cases e4 with
      | lst a b => exact .lst (x.sh _ _ (hp.trans a)) (b.mono x.sf)
      | dct a b c => exact .dct (x.sh _ _ (hp.trans a)) b (c.mono x.sf)
      | dtt a b c => exact .dtt (x.sh _ _ (hp.trans a)) b (c.mono x.sf)
  · rw [hr a (own_deep ga)] at qa
    rw [hr b (own_deep gb)] at qb
    exact S.sep a b da db p qa qb ga gb sa sb
  · obtain ⟨h1, h2, h3⟩ := S.pin j a e
    exact ⟨by rw [hr j (pin_deep e)]; exact h1, h2, h3.mono x.sf⟩
  · rw [hr j (lock_deep e)] at q
    exact S.lk j p d e q
  · rcases fr' i a ha with ⟨h1, h2⟩ | ⟨h1, h2⟩
    · refine ⟨x.new a (dp.fr i a h1).1 ?_, (dp.fr i a h1).2⟩
      rw [old i a h1 h2]
      exact dp.there h1
    · refine ⟨h2, ?_⟩
      cases z : H0 a with
      | none => rfl
      | some o => rw [keep a o z] at h1; cases h1
  · rw [hr i (own_deep g)] at q
    rcases fr' j p hp with ⟨h1, _⟩ | ⟨h1, _⟩
    · exact dp.ow i j d p g q s h1
    · obtain ⟨p', e1, _, _, ow⟩ := S.own i d q g
      rw [s] at e1
      cases e1
      obtain ⟨o, z⟩ := ow.there
      rw [ownp i d p g q s, z] at h1
      cases h1
open Classical in
noncomputable def rmH (H : Hp) (B : List Addr) : Hp := fun a => if a ∈ B then none else H a
theorem rmH_in {B : List Addr} {a : Addr} (h : a ∈ B) : rmH H B a = none := if_pos h
theorem rmH_out {B : List Addr} {a : Addr} (h : a ∉ B) : rmH H B a = H a := if_neg h
/-- one slot's value changed -/
theorem St4.hole (S : St4 k G F0 H0 F r σ H) {fp : Nat → List Addr} (dp : Dps k G F H0 H r σ fp) {i : Nat} {sh : Sh} {o : Option V} {d0 d1 : D} {v0 : V} {A' B : List Addr} (hg : deepAt G i = some (sh, o)) (hd : r[i]? = some (some d0)) (hs : σ[i]? = some (some v0))
    (hB : ∀ a ∈ B, a ∈ fp i) (x : Ext F (rmH H B) F' H') (od : ODv k F' H' sh A' v0 d1) (nd : A'.Nodup) (hA : ∀ a ∈ A', (a ∈ fp i ∧ a ∉ B) ∨ (rmH H B a = none ∧ F' a = none)) : St4 k G F0 H0 F' (r.set i (some d1)) σ H' := by
  have hi : i < r.length := (List.getElem?_eq_some_iff.mp hd).1
  have kp : ∀ j, j ≠ i → ∀ a ∈ fp j, H' a = H a := fun j hj a ha => by
    have nB : a ∉ B := fun z => hj (dp.dis j i a ha (hB a z))
    obtain ⟨z, e⟩ := some_of_ne (dp.there ha)
    rw [e]
    exact x.sh _ _ (by rw [rmH_out nB]; exact e)
  refine S.holes (Bs := fun j => if j = i then B else []) (fp' := fun j => if j = i then A' else fp j) dp (fun j a ha => ?_) (fun j a ha => ?_) (fun a ha => ?_) x (by rw [List.length_set]) (fun j hj => ?_) (fun j d s o' e1 e2 => ?_) (fun j z => ?_) (fun j => ?_) (fun j a ha => ?_) (fun a b y ha hb => ?_)
  · by_cases hj : j = i
    · simp only [if_pos hj] at ha; rw [hj]; exact hB a ha
    · simp only [if_neg hj] at ha; cases ha
  · by_cases hj : j = i
    · simp only [if_pos hj] at ha; exact rmH_in ha
    · simp only [if_neg hj] at ha; cases ha
  · have := ha i
    simp only [if_true] at this
    exact rmH_out this
  · have ne : j ≠ i := fun z => by rw [z, hg] at hj; cases hj
    rw [List.getElem?_set_ne (Ne.symm ne)]
  · rcases get_set_some e2 with ⟨rfl, q2, q3⟩ | ⟨q1, q2⟩
    · rw [hg] at e1
      cases e1
      cases q2
      obtain ⟨w, g1, g2, _⟩ := dp.at_ _ _ _ _ hg hd
      rw [hs] at g1
      cases g1
      exact ⟨v0, hs, g2, by simp only [if_true]; exact od⟩
    · obtain ⟨w, g1, g2, g3⟩ := dp.at_ j d s o' e1 q2
      exact ⟨w, g1, g2, by simp only [if_neg q1]; exact g3.frame x.sf (kp j q1)⟩
  · by_cases hj : j = i
    · subst hj
      rcases z with z | z
      · rw [hg] at z; cases z
      · exact absurd (by rw [List.getElem?_set_self hi]) (z d1)
    · simp only [if_neg hj]
      refine dp.off j ?_
      rw [List.getElem?_set_ne (Ne.symm hj)] at z
      exact z
  · by_cases hj : j = i
    · simp only [if_pos hj]; exact nd
    · simp only [if_neg hj]; exact dp.nd j
  · by_cases hj : j = i
    · subst hj
      simp only [if_true] at ha ⊢
      exact hA a ha
    · simp only [if_neg hj] at ha ⊢
      exact .inl ⟨ha, List.not_mem_nil⟩
  · have up : ∀ j, j ≠ i → ∀ y, y ∈ fp j → y ∉ A' := fun j hj y hy hA' => by
      rcases hA y hA' with ⟨h1, _⟩ | ⟨h1, _⟩
      · exact hj (dp.dis j i y hy h1)
      · have nB : y ∉ B := fun z => hj (dp.dis j i y hy (hB y z))
        rw [rmH_out nB] at h1
        exact dp.there hy h1
    by_cases h1 : a = i
    · by_cases h2 : b = i
      · rw [h1, h2]
      · simp only [if_pos h1] at ha
        simp only [if_neg h2] at hb
        exact absurd ha (up b h2 y hb)
    · by_cases h2 : b = i
      · simp only [if_neg h1] at ha
        simp only [if_pos h2] at hb
        exact absurd hb (up a h1 y ha)
      · simp only [if_neg h1] at ha
        simp only [if_neg h2] at hb
        exact dp.dis a b y ha hb
/-- the thing at a path changed -/
theorem St4.holeP (S : St4 k G F0 H0 F r σ H) {fp : Nat → List Addr} (dp : Dps k G F H0 H r σ fp) {i : Nat} {sh sh' : Sh} {o : Option V} {d0 d1 : D} {v0 w : V} {js : List Nat} {A1 B A2 B' : List Addr} (hg : deepAt G i = some (sh, o)) (hd : r[i]? = some (some d0)) (hs : σ[i]? = some (some v0)) (eA : fp i = A1 ++ (B ++ A2))
    (rb : ∀ (F' H' : Hp) (B' : List Addr) (x : D), Same F F' → (∀ a ∈ A1, H' a = H a) → (∀ a ∈ A2, H' a = H a) → ODv k F' H' sh' B' w x → ODv k F' H' sh (A1 ++ (B' ++ A2)) v0 (setP d0 js x))
    (x : Ext F (rmH H B) F' H') (od : ODv k F' H' sh' B' w d1) (nd : B'.Nodup) (hB : ∀ a ∈ B', rmH H B a = none ∧ F' a = none) : St4 k G F0 H0 F' (r.set i (some (setP d0 js d1))) σ H' := by
  have nda : (A1 ++ (B ++ A2)).Nodup := by rw [← eA]; exact dp.nd i
  obtain ⟨n1, n2, n3⟩ := List.nodup_append.mp nda
  obtain ⟨n4, n5, n6⟩ := List.nodup_append.mp n2
  have a1 : ∀ a ∈ A1, a ∉ B := fun a ha hb => n3 a ha a (by simp [hb]) rfl
  have a2 : ∀ a ∈ A2, a ∉ B := fun a ha hb => n6 a hb a ha rfl
  have kp : ∀ a, a ∈ fp i → a ∉ B → H' a = H a := fun a ha nB => by
    obtain ⟨z, e⟩ := some_of_ne (dp.there ha)
    rw [e]
    exact x.sh _ _ (by rw [rmH_out nB]; exact e)
  have no : ∀ a, a ∈ fp i → a ∉ B → a ∉ B' := fun a ha nB hb => by
    have := (hB a hb).1
    rw [rmH_out nB] at this
    exact dp.there ha this
  have m1 : ∀ a ∈ A1, a ∈ fp i := fun a ha => by rw [eA]; simp [ha]
  have m2 : ∀ a ∈ A2, a ∈ fp i := fun a ha => by rw [eA]; simp [ha]
  refine S.hole dp hg hd hs (fun a ha => by rw [eA]; simp [ha]) x (rb F' H' B' d1 x.sf (fun a ha => kp a (m1 a ha) (a1 a ha)) (fun a ha => kp a (m2 a ha) (a2 a ha)) od) (List.nodup_append.mpr ⟨n1, List.nodup_append.mpr ⟨nd, n5, fun a ha b hb z => ?_⟩, fun a ha b hb z => ?_⟩) fun a ha => ?_
  · subst z
    exact no a (m2 a hb) (a2 a hb) ha
  · subst z
    rcases List.mem_append.mp hb with hb | hb
    · exact no a (m1 a ha) (a1 a ha) hb
    · exact n3 a ha a (by simp [hb]) rfl
  · rcases List.mem_append.mp ha with ha | ha
    · exact .inl ⟨m1 a ha, a1 a ha⟩
    · rcases List.mem_append.mp ha with ha | ha
      · exact .inr (hB a ha)
      · exact .inl ⟨m2 a ha, a2 a ha⟩
theorem ext_rm {p : Addr} {ob : HO} (s : Same F H) (hp : F p = none) : Ext F (rmH H [p]) F (upd H p ob) := ⟨Same.refl F, fun a z e => by
    by_cases ha : a ∈ [p]
    · rw [rmH_in ha] at e; cases e
    · rw [rmH_out ha] at e
      rw [upd_ne fun z => ha (by rw [z]; simp)]
      exact e, fun a z e => by rw [upd_ne (ne_of_none e hp)]; exact s _ _ e, fun a h _ => h⟩
end
/-! ### expressions that lead to a place in a deep slot -/
structure PuK (X : Cx) (k : KC) (G : List Md) (W : WE) (i : Nat) (sh' : Sh) (e : Expr) (π : Env → R (List Nat × D)) : Prop where
  run : ∀ (F0 H0 F : Hp) (r : Env) (σ : Sl) (H : Hp) (Q : VK), St4 k G F0 H0 F r σ H →
    PostR k F H W σ (fun jd => ∀ v F' H', Ext F H F' H' → (∀ v0, σ[i]? = some (some v0) → valP H' v0 jd.1 = some v) → Q v H') (π r) → canE X e σ H Q
  foc : ∃ sh o, deepAt G i = some (sh, o) ∧ ∀ r jd, π r = .ok jd → ∃ d0, r[i]? = some (some d0) ∧ focP sh d0 jd.1 = some (sh', jd.2)
section
variable {X : Cx} {k : KC} {G G1 Gn Gl : List Md} {W : WE} {ro : RM} {i : Nat} {sh sh' : Sh} {e a : Expr} {π : Env → R (List Nat × D)} {f g : Env → R D} {x nm : Str} {pos apos p1 p2 cpos : Pos} {m m1 : Mo}
/-- what stands there, now -/
theorem PuK.at (h : PuK X k G W i sh' e π) {F0 H0 F : Hp} {r : Env} {σ : Sl} {H : Hp} (S : St4 k G F0 H0 F r σ H) {jd : List Nat × D} (q : π r = .ok jd) {fp : Nat → List Addr} (dp : Dps k G F H0 H r σ fp) :
    ∃ sh o d0 v0, deepAt G i = some (sh, o) ∧ r[i]? = some (some d0) ∧ σ[i]? = some (some v0) ∧ (∀ w, o = some w → v0 = w) ∧ Foc k F H sh (fp i) v0 d0 jd.1 sh' jd.2 := by
  obtain ⟨sh, o, h1, h2⟩ := h.foc
  obtain ⟨d0, h3, h4⟩ := h2 r jd q
  obtain ⟨v0, g1, g2, od⟩ := dp.at_ i d0 sh o h1 h3
  exact ⟨sh, o, d0, v0, h1, h3, g1, g2, od.focus h4⟩
theorem kidV_mono {H H' : Hp} (x : Same H H') {v w : V} {j : Nat} (h : kidV H v j = some w) : kidV H' v j = some w := by
  cases v with
  | ref b =>
    simp only [kidV] at h ⊢
    cases zb : H b with
    | none => rw [zb] at h; cases h
    | some o =>
      rw [zb] at h
      rw [x _ _ zb]
      exact h
  | _ => cases h
theorem valP_mono {H H' : Hp} (x : Same H H') : ∀ {js : List Nat} {v w : V}, valP H v js = some w → valP H' v js = some w
  | [], _, _, h => h
  | j :: js, v, w, h => by
    simp only [valP] at h ⊢
    cases zk : kidV H v j with
    | none => rw [zk] at h; cases h
    | some z =>
      rw [zk] at h
      rw [kidV_mono x zk]
      exact valP_mono x h
/-- the value that an expression led to, a while later -/
theorem PuK.here (h : PuK X k G W i sh' e π) {F0 H0 F2 : Hp} {r : Env} {σ : Sl} {H1 H2 : Hp} {v : V} {jd : List Nat × D} (q : π r = .ok jd) (hv : ∀ v0, σ[i]? = some (some v0) → valP H1 v0 jd.1 = some v) (x : Same H1 H2)
    (S : St4 k G F0 H0 F2 r σ H2) {fp : Nat → List Addr} (dp : Dps k G F2 H0 H2 r σ fp) :
    ∃ sh o d0 v0 A1 B A2, deepAt G i = some (sh, o) ∧ r[i]? = some (some d0) ∧ σ[i]? = some (some v0) ∧ fp i = A1 ++ (B ++ A2) ∧ valP H2 v0 jd.1 = some v ∧ ODv k F2 H2 sh' B v jd.2 ∧
      ∀ (F' H' : Hp) (B' : List Addr) (x : D), Same F2 F' → (∀ a ∈ A1, H' a = H2 a) → (∀ a ∈ A2, H' a = H2 a) → ODv k F' H' sh' B' v x → ODv k F' H' sh (A1 ++ (B' ++ A2)) v0 (setP d0 jd.1 x) := by
  obtain ⟨sh, o, d0, v0, g1, g2, g3, _, A1, B, A2, u, eA, eu, od, rb⟩ := h.at S q dp
  have := valP_mono x (hv v0 g3)
  rw [eu] at this
  cases this
  exact ⟨sh, o, d0, v0, A1, B, A2, g1, g2, g3, eA, eu, od, rb⟩
def kNm (i : Nat) : Env → R (List Nat × D) := fun r => match r[i]? with
  | some (some d) => .ok ([], d)
  | _ => .stuck
theorem focP_nil {sh : Sh} {d : D} : focP sh d [] = some (sh, d) := by cases sh <;> cases d <;> rfl
theorem pk_nm (i : Nat) {o : Option V} (hdp : deepAt G i = some (sh, o) := by rfl) (hN : X.N[i]? = some x := by rfl)
    (hv : Vis X.env.scope x := by first | exact Or.inl rfl | exact Or.inr (Or.inl rfl) | exact Or.inr (Or.inr rfl)) (hd : (x == ("__debug__" : Str)) = false := by decide) (hcd : (x == ("__classdict__" : Str)) = false := by decide) : PuK X k G W i sh (.Name x pos) (kNm i) where
  run := fun F0 H0 F r σ H Q S q => by
    unfold kNm at q
    cases e : r[i]? with
    | none => rw [e] at q; exact q.elim
    | some z =>
      cases z with
      | none => rw [e] at q; exact q.elim
      | some d =>
        rw [e] at q
        obtain ⟨fp, dp⟩ := S.dp
        obtain ⟨v, e1, _, _⟩ := dp.at_ i d sh o hdp e
        refine canE_of (pe_var hN hv hd hcd) ⟨v, e1, q v F H (Ext.refl S.sub) fun v0 h => ?_⟩
        rw [e1] at h
        cases h
        rfl
  foc := ⟨sh, o, hdp, fun r jd q => by
    unfold kNm at q
    cases e : r[i]? with
    | none => rw [e] at q; cases q
    | some z =>
      cases z with
      | none => rw [e] at q; cases q
      | some d =>
        rw [e] at q
        cases q
        exact ⟨d, rfl, focP_nil⟩⟩
/-- one step on, into a list -/
def kIxO : List Nat × D → D → R (List Nat × D)
  | (js, .lst ds), .int n => match ixN ds.length n with
    | some j => match ds[j]? with
      | some x => .ok (js ++ [j], x)
      | none => .stuck
    | none => .stuck
  | _, _ => .stuck
def kIx (π : Env → R (List Nat × D)) (f : Env → R D) : Env → R (List Nat × D) := fun r => π r >>= fun jd => f r >>= fun y => kIxO jd y
theorem odv_lst {F H : Hp} {c : Nat → Sh} {B : List Addr} {w : V} {ds : List D} (h : ODv k F H (.node c) B w (.lst ds)) : ∃ a B1 us, w = .ref a ∧ B = a :: B1 ∧ H a = some (.lst us) ∧ ODvL k F H c 0 B1 us ds := by
  cases h with
  | imm _ h => cases h
  | lst h1 h2 => exact ⟨_, _, _, rfl, rfl, h1, h2⟩
theorem odv_dct {F H : Hp} {c : Nat → Sh} {B : List Addr} {w : V} {ks : List KD} {ds : List D} (h : ODv k F H (.node c) B w (.dct ks ds)) : ∃ a B1 kvs, w = .ref a ∧ B = a :: B1 ∧ H a = some (.dK kvs) ∧ kvs.map (·.1) = ks.map kd ∧ ODvL k F H c 0 B1 (kvs.map (·.2)) ds := by
  cases h with
  | imm _ h => cases h
  | dct h1 h2 h3 => exact ⟨_, _, _, rfl, rfl, h1, h2, h3⟩
theorem odv_ins {F H : Hp} {c : Nat → Sh} {B : List Addr} {w : V} {cn : Nat} {ns : List Str} {ds : List D} (h : ODv k F H (.node c) B w (.ins cn ns ds)) : ∃ a B1 C dx fs, w = .ref a ∧ B = a :: B1 ∧ k.ci cn = some C ∧ H a = some (.ins C dx fs) ∧ fs.map (·.1) = ns ∧ ODvL k F H c 0 B1 (fs.map (·.2)) ds := by
  cases h with
  | imm _ h => cases h
  | ins h0 h1 h2 h3 => exact ⟨_, _, _, _, _, rfl, rfl, h0, h1, h2, h3⟩
theorem focP_ix {c : Nat → Sh} {d0 : D} {sh : Sh} {js : List Nat} {ds : List D} {j : Nat} {x : D} (h : focP sh d0 js = some (.node c, .lst ds)) (hj : ds[j]? = some x) : focP sh d0 (js ++ [j]) = some (c j, x) := by
  rw [focP_snoc, h]
  show (match ds[j]? with | some x => focP (c j) x [] | none => none) = _
  rw [hj]
  exact focP_nil
theorem focP_key {c : Nat → Sh} {d0 : D} {sh : Sh} {js : List Nat} {ks : List KD} {ds : List D} {j : Nat} {x : D} (h : focP sh d0 js = some (.node c, .dct ks ds)) (hj : ds[j]? = some x) : focP sh d0 (js ++ [j]) = some (c j, x) := by
  rw [focP_snoc, h]
  show (match ds[j]? with | some x => focP (c j) x [] | none => none) = _
  rw [hj]
  exact focP_nil
theorem focP_fld {c : Nat → Sh} {d0 : D} {sh : Sh} {js : List Nat} {cn : Nat} {ns : List Str} {ds : List D} {j : Nat} {x : D} (h : focP sh d0 js = some (.node c, .ins cn ns ds)) (hj : ds[j]? = some x) : focP sh d0 (js ++ [j]) = some (c j, x) := by
  rw [focP_snoc, h]
  show (match ds[j]? with | some x => focP (c j) x [] | none => none) = _
  rw [hj]
  exact focP_nil
theorem kIxO_ok {jd jd' : List Nat × D} {y : D} (h : kIxO jd y = .ok jd') : ∃ js ds n j x, jd = (js, .lst ds) ∧ y = .int n ∧ ixN ds.length n = some j ∧ ds[j]? = some x ∧ jd' = (js ++ [j], x) := by
  obtain ⟨js, dd⟩ := jd
  cases dd with
  | lst ds =>
    cases y with
    | int n =>
      simp only [kIxO] at h
      cases zn : ixN ds.length n with
      | none => rw [zn] at h; cases h
      | some j =>
        rw [zn] at h
        simp only at h
        cases zj : ds[j]? with
        | none => rw [zj] at h; cases h
        | some x =>
          rw [zj] at h
          cases h
          exact ⟨js, ds, n, j, x, rfl, rfl, zn, zj, rfl⟩
    | _ => cases h
  | _ => cases y <;> cases h
theorem kIxO_exc {jd : List Nat × D} {y : D} {x : Exc} : kIxO jd y ≠ .exc x := fun h => by
  obtain ⟨js, dd⟩ := jd
  cases dd with
  | lst ds =>
    cases y with
    | int n =>
      simp only [kIxO] at h
      cases zn : ixN ds.length n with
      | none => rw [zn] at h; cases h
      | some j =>
        rw [zn] at h
        simp only at h
        cases zj : ds[j]? with
        | none => rw [zj] at h; cases h
        | some x => rw [zj] at h; cases h
    | _ => cases h
  | _ => cases y <;> cases h
theorem pk_ix {c : Nat → Sh} {c0 : Sh} (he : PuK X k G W i (.node c) e π) (hb : PuE X k G W m1 a f) (hc : ∀ j, c j = c0 := by exact fun _ => rfl) (hpl : PlainIx a := by exact fun _ _ => rfl) : PuK X k G W i c0 (.Subscript e a pos) (kIx π f) where
  run := fun F0 H0 F r σ H Q S q => by
    refine canE_of (pe_ix ix_seq pe_can pe_can hpl) (he.run F0 H0 F r σ H _ S ?_)
    cases zπ : π r with
    | stuck => simp only [kIx, zπ] at q; exact q.elim
    | exc y => simp only [kIx, zπ] at q; exact q
    | ok jd =>
      have q : PostR k F H W σ (fun jd => ∀ v F' H', Ext F H F' H' → (∀ v0, σ[i]? = some (some v0) → valP H' v0 jd.1 = some v) → Q v H') (f r >>= fun y => kIxO jd y) := by simp only [kIx, zπ] at q; exact q
      intro v F1 H1 x1 hv
      have S1 := S.step x1
      refine hb.run F0 H0 F1 r σ H1 _ S1 (((PostR.bind q).grow x1).imp fun y _ q1 w F2 H2 x2 rw_ => ?_)
      have S2 := S1.step x2
      obtain ⟨fp, dp⟩ := S2.dp
      obtain ⟨sh, o, d0, v0, A1, B, A2, g1, g2, g3, eA, eu, od, _⟩ := he.here zπ hv x2.sh S2 dp
      cases zk : kIxO jd y with
      | stuck => rw [zk] at q1; exact q1.elim
      | exc x => exact absurd zk kIxO_exc
      | ok jd' =>
        rw [zk] at q1
        obtain ⟨js, ds, n, j, x, rfl, rfl, zn, zj, rfl⟩ := kIxO_ok zk
        obtain ⟨p, B1, us, rfl, eB, h1, hl⟩ := odv_lst od
        obtain ⟨C1, C, C2, t, _, et, _, _⟩ := hl.at zj
        have ew := vw_int rw_.vw
        subst ew
        refine .inl ⟨p, us, n, t, rfl, rfl, SqL.of h1, ?_, q1 t F2 H2 (x1.trans x2) fun v0' hs => ?_⟩
        · unfold L2.atI
          rw [hl.length, zn]
          exact et
        · rw [g3] at hs
          cases hs
          rw [valP_snoc, eu]
          show kidV H2 (.ref p) j = some t
          simp only [kidV, h1]
          exact et
  foc := by
    obtain ⟨sh, o, h1, h2⟩ := he.foc
    refine ⟨sh, o, h1, fun r jd q => ?_⟩
    cases zπ : π r with
    | stuck => simp only [kIx, zπ] at q; cases q
    | exc y => simp only [kIx, zπ] at q; cases q
    | ok jd0 =>
      have q : (f r >>= fun y => kIxO jd0 y) = .ok jd := by simp only [kIx, zπ] at q; exact q
      cases zf : f r with
      | stuck => rw [zf] at q; cases q
      | exc y => rw [zf] at q; cases q
      | ok y =>
        rw [zf] at q
        obtain ⟨js, ds, n, j, x, rfl, rfl, zn, zj, rfl⟩ := kIxO_ok q
        obtain ⟨d0, h3, h4⟩ := h2 r _ zπ
        exact ⟨d0, h3, by rw [focP_ix h4 zj, hc]⟩
/-- a field -/
def fldJ (nm : Str) : List Str → Option Nat
  | [] => none
  | n :: ns => if n = nm then some 0 else (fldJ nm ns).map (· + 1)
theorem fldJ_lookup {nm : Str} : ∀ {fs : List (Str × V)} {j : Nat} {w : V}, fldJ nm (fs.map (·.1)) = some j → (fs.map (·.2))[j]? = some w → fs.lookup nm = some w
  | [], _, _, h, _ => by cases h
  | (n, v) :: fs, j, w, h, hw => by
    simp only [List.map_cons, fldJ] at h
    by_cases z : n = nm
    · rw [if_pos z] at h
      cases h
      simp only [List.map_cons, List.getElem?_cons_zero] at hw
      rw [List.lookup_cons]
      simp [z, ← hw]
    · rw [if_neg z] at h
      cases zj : fldJ nm (fs.map (·.1)) with
      | none => rw [zj] at h; cases h
      | some j' =>
        rw [zj] at h
        cases h
        simp only [List.map_cons, List.getElem?_cons_succ] at hw
        rw [List.lookup_cons]
        have : (nm == n) = false := beq_eq_false_iff_ne.mpr fun q => z q.symm
        simp only [this]
        exact fldJ_lookup zj hw
def kFldO (cs : List Nat) (nm : Str) (j : Nat) : List Nat × D → R (List Nat × D)
  | (js, .ins c ns ds) => if cs.contains c = true ∧ fldJ nm ns = some j then (match ds[j]? with
    | some x => .ok (js ++ [j], x)
    | none => .stuck) else .stuck
  | _ => .stuck
def kFld (cs : List Nat) (nm : Str) (j : Nat) (π : Env → R (List Nat × D)) : Env → R (List Nat × D) := fun r => π r >>= kFldO cs nm j
theorem kFldO_ok {cs : List Nat} {j : Nat} {jd jd' : List Nat × D} (h : kFldO cs nm j jd = .ok jd') : ∃ js c ns ds x, jd = (js, .ins c ns ds) ∧ cs.contains c = true ∧ fldJ nm ns = some j ∧ ds[j]? = some x ∧ jd' = (js ++ [j], x) := by
  obtain ⟨js, dd⟩ := jd
  cases dd with
  | ins c ns ds =>
    simp only [kFldO] at h
    split at h
    · rename_i z
      cases zj : ds[j]? with
      | none => rw [zj] at h; cases h
      | some x =>
        rw [zj] at h
        cases h
        exact ⟨js, c, ns, ds, x, rfl, z.1, z.2, zj, rfl⟩
    · cases h
  | _ => cases h
theorem kFldO_exc {cs : List Nat} {j : Nat} {jd : List Nat × D} {x : Exc} : kFldO cs nm j jd ≠ .exc x := fun h => by
  obtain ⟨js, dd⟩ := jd
  cases dd with
  | ins c ns ds =>
    simp only [kFldO] at h
    split at h
    · cases zj : ds[j]? with
      | none => rw [zj] at h; cases h
      | some x => rw [zj] at h; cases h
    · cases h
  | _ => cases h
theorem pk_fld {c : Nat → Sh} {c0 : Sh} (cs : List Nat) (j : Nat) (hC : ∀ c C, cs.contains c = true → k.ci c = some C → Cls X.K C ∧ NoAttr X.K C nm) (he : PuK X k G W i (.node c) e π) (hc : c j = c0 := by rfl)
    (hb : attributeBase e nm X.env (eval e X.env) = eval e X.env := by rfl) : PuK X k G W i c0 (.Attribute e nm pos) (kFld cs nm j π) where
  run := fun F0 H0 F r σ H Q S q => by
    refine canE_of (pe_fld pe_can hb) (he.run F0 H0 F r σ H _ S ((PostR.bind q).imp fun jd zπ q1 v F1 H1 x1 hv => ?_))
    have S1 := S.step x1
    obtain ⟨fp, dp⟩ := S1.dp
    obtain ⟨sh, o, d0, v0, A1, B, A2, g1, g2, g3, eA, eu, od, _⟩ := he.here zπ hv (Same.refl H1) S1 dp
    cases zk : kFldO cs nm j jd with
    | stuck => rw [zk] at q1; exact q1.elim
    | exc x => exact absurd zk kFldO_exc
    | ok jd' =>
      rw [zk] at q1
      obtain ⟨js, cn, ns, ds, x, rfl, z1, z2, zj, rfl⟩ := kFldO_ok zk
      obtain ⟨a, B1, C, dx, fs, rfl, eB, h0, h1, rfl, hl⟩ := odv_ins od
      obtain ⟨C1, C', C2, t, _, et, _, _⟩ := hl.at zj
      obtain ⟨c1, c2⟩ := hC cn C z1 h0
      refine ⟨a, C, dx, fs, t, rfl, h1, c1, c2, fldJ_lookup z2 et, q1 t F1 H1 x1 fun v0' hs => ?_⟩
      rw [g3] at hs
      cases hs
      rw [valP_snoc, eu]
      show kidV H1 (.ref a) j = some t
      simp only [kidV, h1]
      exact et
  foc := by
    obtain ⟨sh, o, h1, h2⟩ := he.foc
    refine ⟨sh, o, h1, fun r jd q => ?_⟩
    cases zπ : π r with
    | stuck => simp only [kFld, zπ] at q; cases q
    | exc y => simp only [kFld, zπ] at q; cases q
    | ok jd0 =>
      have q : kFldO cs nm j jd0 = .ok jd := by simp only [kFld, zπ] at q; exact q
      obtain ⟨js, cn, ns, ds, x, rfl, z1, z2, zj, rfl⟩ := kFldO_ok q
      obtain ⟨d0, h3, h4⟩ := h2 r _ zπ
      exact ⟨d0, h3, by rw [focP_fld h4 zj, hc]⟩
/-- a thing that is kept for good, read where it stands -/
def kGet (π : Env → R (List Nat × D)) : Env → R D := fun r => π r >>= fun jd => .ok jd.2
theorem pu_kLeaf (h : PuK X k G W i .leaf e π) : PuE X k G W .frz e (kGet π) := .mk fun F0 H0 F r σ H Q S q =>
  h.run F0 H0 F r σ H Q S ((PostR.bind q).imp fun jd zπ q1 v F1 H1 x1 hv => by
    have S1 := S.step x1
    obtain ⟨fp, dp⟩ := S1.dp
    obtain ⟨sh, o, d0, v0, A1, B, A2, g1, g2, g3, eA, eu, od, _⟩ := h.here zπ hv (Same.refl H1) S1 dp
    have : Dv k F1 v jd.2 := by
      generalize jd.2 = d at od
      cases od with
      | leaf h => exact h
    exact q1 v F1 H1 x1 this)
/-- a list or dict whose things are kept, read where it stands -/
def kOwnO : D → R D
  | .ins _ _ _ => .stuck
  | d => .ok d
def kView (π : Env → R (List Nat × D)) : Env → R D := fun r => π r >>= fun jd => kOwnO jd.2
theorem odv_view {F H : Hp} {B : List Addr} {v : V} {d : D} (od : ODv k F H (.node fun _ => .leaf) B v d) (hn : kOwnO d ≠ .stuck) : Dv k F v d ∨ ∃ p, v = .ref p ∧ B = [p] ∧ OwnAt k F H p d := by
  cases od with
  | imm h1 h2 => exact .inl h1
  | lst h1 h2 =>
    obtain ⟨e, dv⟩ := leaf_odvl h2
    subst e
    exact .inr ⟨_, rfl, rfl, .lst h1 dv⟩
  | dct h1 hk h2 =>
    obtain ⟨e, dv⟩ := leaf_odvl h2
    subst e
    exact .inr ⟨_, rfl, rfl, .dct h1 hk dv⟩
  | ins _ _ _ _ => exact absurd rfl hn
theorem kOwnO_ok {d d' : D} (h : kOwnO d = .ok d') : d' = d ∧ kOwnO d ≠ .stuck := by
  cases d <;> first | (cases h; exact ⟨rfl, fun z => by cases z⟩) | cases h
theorem kOwnO_exc {d : D} {x : Exc} : kOwnO d ≠ .exc x := fun h => by cases d <;> cases h
theorem pu_kView (h : PuK X k G W i (.node fun _ => .leaf) e π) : PuE X k G W .vw e (kView π) := .mk fun F0 H0 F r σ H Q S q =>
  h.run F0 H0 F r σ H Q S ((PostR.bind q).imp fun jd zπ q1 v F1 H1 x1 hv => by
    have S1 := S.step x1
    obtain ⟨fp, dp⟩ := S1.dp
    obtain ⟨sh, o, d0, v0, A1, B, A2, g1, g2, g3, eA, eu, od, _⟩ := h.here zπ hv (Same.refl H1) S1 dp
    cases zk : kOwnO jd.2 with
    | stuck => rw [zk] at q1; exact q1.elim
    | exc x => exact absurd zk kOwnO_exc
    | ok d =>
      rw [zk] at q1
      obtain ⟨rfl, hn⟩ := kOwnO_ok zk
      rcases odv_view od hn with h | ⟨p, rfl, rfl, ow⟩
      · exact q1 v F1 H1 x1 (.inl h)
      · exact q1 _ F1 H1 x1 (.inr ⟨p, rfl, (dp.fr i p (by rw [eA]; simp)).1, ow⟩))
/-- e[a] = v, the list at e being one's own -/
def kPut (i : Nat) (π : Env → R (List Nat × D)) (f g : Env → R D) : Env → SR := fun r => match g r with
  | .ok d => match π r with
    | .ok (js, .lst xs) => match f r with
      | .ok y => match setO xs y d with
        | .ok ys => .nx (r.set i (some (match r[i]? with | some (some d0) => setP d0 js (.lst ys) | _ => .non)))
        | _ => .stuck
      | .exc x => .exc x r
      | .stuck => .stuck
    | .exc x => .exc x r
    | _ => .stuck
  | .exc x => .exc x r
  | .stuck => .stuck
theorem odv_lst_own {F H : Hp} {B : List Addr} {v : V} {xs : List D} (od : ODv k F H (.node fun _ => .leaf) B v (.lst xs)) : ∃ p us, v = .ref p ∧ B = [p] ∧ H p = some (.lst us) ∧ DvAll k F us xs := by
  obtain ⟨a, B1, us, e1, e2, e3, e4⟩ := odv_lst od
  obtain ⟨e, dv⟩ := leaf_odvl e4
  subst e
  exact ⟨a, us, e1, e2, e3, dv⟩
theorem odv_dct_own {F H : Hp} {B : List Addr} {v : V} {ks : List KD} {xs : List D} (od : ODv k F H (.node fun _ => .leaf) B v (.dct ks xs)) : ∃ p kvs, v = .ref p ∧ B = [p] ∧ H p = some (.dK kvs) ∧ kvs.map (·.1) = ks.map kd ∧ DvAll k F (kvs.map (·.2)) xs := by
  obtain ⟨a, B1, kvs, e1, e2, e3, e4, e5⟩ := odv_dct od
  obtain ⟨e, dv⟩ := leaf_odvl e5
  subst e
  exact ⟨a, kvs, e1, e2, e3, e4, dv⟩
theorem nodup1 {p : Addr} : [p].Nodup := List.nodup_cons.mpr ⟨List.not_mem_nil, List.nodup_nil⟩
theorem pus_kPut (J : Jx X k G W) (hk : PuK X k G W i (.node fun _ => .leaf) e π) (ha : PuE X k G W m1 a f) {v : Expr} (he : PuE X k G W .frz v g)
    (hst : ∀ u, assign (.Subscript e a apos) X.env u = (do
      let ov ← holding [u] (eval e X.env)
      let iv ← holding [u, ov] (eval a X.env)
      standAt apos
      holding [u, ov, iv] (setItem ov iv u)
      release [u, ov, iv] []) := by intro _; rfl)
    (hs : swapsWithSole [(.Subscript e a apos)] v pos.line X.env = pure false := by rfl) (hw : swappedStores [(.Subscript e a apos)] v X.env = pure none := by rfl)
    (h1 : (assignEach [(.Subscript e a apos)] X.env).map (·.2) = [assign (.Subscript e a apos) X.env] := by rfl) :
    PuS X k G G Gl W ro (.Assign [.Subscript e a apos] v pos) (kPut i π f g) := .mk fun F0 H0 F ρ σ H Dn S q => by
  refine canS_of (ps_asg pe_can (pg_sub pe_can pe_can set_list hst) hs hw h1) ?_
  unfold kPut at q
  refine he.run F0 H0 F ρ σ H _ S ?_
  cases z : g ρ with
  | stuck => rw [z] at q; exact q.elim
  | exc y => rw [z] at q; exact fun cls dd F' H' y z => q cls dd G F F' σ H H' J.oke (Same.refl F) S y z
  | ok d =>
    rw [z] at q
    simp only at q
    intro v1 F1 H1 x1 rv
    have S1 := S.step x1
    refine hk.run F0 H0 F1 ρ σ H1 _ S1 ?_
    cases zπ : π ρ with
    | stuck => rw [zπ] at q; exact q.elim
    | exc y => rw [zπ] at q; exact fun cls dd F' H' y z => q cls dd G F1 F' σ H1 H' J.oke x1.sf S1 y z
    | ok jd =>
      obtain ⟨js, dd⟩ := jd
      rw [zπ] at q
      cases dd with
      | lst xs =>
        simp only at q
        intro w F2 H2 x2 hv
        have S2 := S1.step x2
        refine ha.run F0 H0 F2 ρ σ H2 _ S2 ?_
        cases zf : f ρ with
        | stuck => rw [zf] at q; exact q.elim
        | exc y => rw [zf] at q; exact fun cls dd F' H' y z => q cls dd G F2 F' σ H2 H' J.oke (x1.sf.trans x2.sf) S2 y z
        | ok j =>
          rw [zf] at q
          simp only at q
          intro u F3 H3 x3 ru
          have S3 := S2.step x3
          obtain ⟨fp, dp⟩ := S3.dp
          obtain ⟨sh, o, d0, v0, A1, B, A2, g1, g2, g3, eA, eu, od, rb⟩ := hk.here zπ hv x3.sh S3 dp
          obtain ⟨p, us, rfl, rfl, t1, t2⟩ := odv_lst_own od
          have fp3 := dp.fr i p (by rw [eA]; simp)
          cases zs : setO xs j d with
          | exc _ => rw [zs] at q; exact q.elim
          | stuck => rw [zs] at q; exact q.elim
          | ok ys =>
            rw [zs] at q
            cases j with
            | int j =>
              cases zj : ixN xs.length j with
              | none => simp only [setO, zj] at zs; cases zs
              | some n =>
                simp only [setO, zj] at zs
                cases zs
                have ew := vw_int ru.vw
                subst ew
                refine ⟨p, us, j, n, rfl, rfl, t1, by rw [t2.length]; exact zj, ?_⟩
                rw [g2] at q
                simp only at q
                exact q F3 σ _ (x1.sf.trans (x2.sf.trans x3.sf)) (S3.holeP dp g1 g2 g3 eA rb (ext_rm S3.sub fp3.1) (.lst upd_same (odvl_leaf (t2.set (Dv.mono (x2.sf.trans x3.sf) rv) n))) nodup1 fun a ha => by
                  rw [List.mem_singleton.mp ha]
                  exact ⟨rmH_in (by simp), fp3.1⟩)
            | _ => simp only [setO] at zs; cases zs
      | _ => exact q.elim
/-- e.append(v), the list at e being one's own: v new, with what is in it -/
def kApp (i : Nat) (π : Env → R (List Nat × D)) (f : Env → R D) : Env → SR := fun r => match π r with
  | .ok (js, .lst xs) => match f r with
    | .ok d => if xs.length < szT then .nx (r.set i (some (match r[i]? with | some (some d0) => setP d0 js (.lst (xs ++ [d])) | _ => .non))) else .stuck
    | .exc x => .exc x r
    | .stuck => .stuck
  | .exc x => .exc x r
  | _ => .stuck
theorem pus_kApp {c0 : Sh} {v : Expr} (J : Jx X k G W) (hk : PuK X k G W i (.node fun _ => c0) e π) (hv : PuD X k G W c0 v f)
    (hbase : attributeBase e "append" X.env (eval e X.env) = eval e X.env := by rfl)
    (hfew : ((backTo cpos (starEach [v] X.env)).all (fun x => !x.1) && (backToKw cpos (keywordEach [] X.env)).all (fun x => x.1.isSome)
      && decide ([v].length + ([] : List Keyword).length + (if ([] : List Keyword).isEmpty then 0 else 1) < 30)) = true := by rfl)
    (hline : (apos.endLine == cpos.line) = true := by rfl) (hs : starEach [v] X.env = (false, eval v X.env) :: starEach [] X.env := by rfl) (hplain : (backTo cpos (starEach [] X.env)).any (·.1) = false := by rfl)
    (hsw : swapsWith (.Call (.Attribute e "append" apos) [v] [] cpos) none pos.line X.env = pure false := by rfl) :
    PuS X k G G Gl W ro (.Expr (.Call (.Attribute e "append" apos) [v] [] cpos) pos) (kApp i π f) := .mk fun F0 H0 F ρ σ H Dn S q => by
  refine canS_of (ps_expr (pe_bm PySem.F.plainAttrs_list PySem.F.slot_list_append PySem.type_list_append mt_append pe_can (pa_cons pe_can pa_nil hs) hbase hfew hline hs hplain) hsw) ?_
  unfold kApp at q
  refine hk.run F0 H0 F ρ σ H _ S ?_
  cases zπ : π ρ with
  | stuck => rw [zπ] at q; exact q.elim
  | exc y => rw [zπ] at q; exact fun cls dd F' H' y z => q cls dd G F F' σ H H' J.oke (Same.refl F) S y z
  | ok jd =>
    obtain ⟨js, dd⟩ := jd
    rw [zπ] at q
    cases dd with
    | lst xs =>
      simp only at q
      intro w F2 H2 x2 hv'
      have S2 := S.step x2
      obtain ⟨fp, dp⟩ := S2.dp
      obtain ⟨sh, o, d0, v0, A1, B, A2, g1, g2, g3, eA, eu, od, rb⟩ := hk.here zπ hv' (Same.refl H2) S2 dp
      obtain ⟨p, B1, us, rfl, rfl, t1, t2⟩ := odv_lst od
      have fp2 := dp.fr i p (by rw [eA]; simp)
      refine ⟨.inl ⟨rfl, us, SqL.of t1⟩, hv.run F0 H0 F2 ρ σ H2 _ S2 ?_⟩
      cases zf : f ρ with
      | stuck => rw [zf] at q; exact q.elim
      | exc y => rw [zf] at q; exact fun cls dd F' H' y z => q cls dd G F2 F' σ H2 H' J.oke x2.sf S2 y z
      | ok d =>
        rw [zf] at q
        simp only at q
        rintro u F3 H3 x3 ⟨A', oda, nda, fra⟩
        by_cases hz : xs.length < szT
        · rw [if_pos hz, g2] at q
          simp only at q
          have ndfp : (A1 ++ (p :: B1 ++ A2)).Nodup := by rw [← eA]; exact dp.nd i
          obtain ⟨_, m2, _⟩ := List.nodup_append.mp ndfp
          obtain ⟨m4, _, _⟩ := List.nodup_append.mp m2
          obtain ⟨m5, m6⟩ := List.nodup_cons.mp m4
          have h3p := x3.sh _ _ t1
          have f3p : F3 p = none := x3.new p fp2.1 (by rw [t1]; exact fun z => by cases z)
          have mB : ∀ a ∈ p :: B1, a ∈ fp i := fun a ha => by rw [eA]; exact List.mem_append_right _ (List.mem_append_left _ ha)
          have liveB : ∀ a ∈ p :: B1, H2 a ≠ none := fun a ha => dp.there (mB a ha)
          have nA : ∀ a ∈ A', a ≠ p := fun a ha z => by have := (fra a ha).1; rw [z, t1] at this; cases this
          have ex : Ext F2 (rmH H2 (p :: B1)) F3 (upd H3 p (.lst (us ++ [u]))) := ⟨x3.sf, fun a z e => by
              by_cases ha : a ∈ p :: B1
              · rw [rmH_in ha] at e; cases e
              · rw [rmH_out ha] at e
                rw [upd_ne fun z => ha (by rw [z]; simp)]
                exact x3.sh _ _ e, fun a z e => by rw [upd_ne (ne_of_none e f3p)]; exact x3.sub _ _ e, fun a h1 h2 => by
              by_cases ha : a ∈ p :: B1
              · rw [rmH_in ha] at h2; exact absurd rfl h2
              · rw [rmH_out ha] at h2; exact x3.new a h1 h2⟩
          refine ⟨p, us, u, rfl, rfl, h3p, ?_, q F3 σ _ (x2.sf.trans x3.sf) (S2.holeP (B' := p :: (B1 ++ A')) dp g1 g2 g3 eA rb ex (.lst upd_same (ODvL.snocC (oda.frame (Same.refl F3) fun a ha => upd_ne (nA a ha)) (t2.frame x3.sf fun a ha => ?_))) (List.nodup_cons.mpr ⟨fun h => ?_, List.nodup_append.mpr ⟨m6, nda, fun a ha b hb z => ?_⟩⟩) fun a ha => ?_)⟩
          · rw [t2.length]; exact Nat.lt_of_lt_of_le hz (szT_le (Nat.le_refl _))
          · rw [upd_ne fun z : a = p => m5 (by rw [← z]; exact ha)]
            obtain ⟨z, e⟩ := some_of_ne (liveB a (by simp [ha]))
            rw [e]
            exact x3.sh _ _ e
          · rcases List.mem_append.mp h with h | h
            · exact m5 h
            · exact nA p h rfl
          · subst z
            exact liveB a (by simp [ha]) (fra a hb).1
          · by_cases hb : a ∈ p :: B1
            · exact ⟨rmH_in hb, x3.new a (dp.fr i a (mB a hb)).1 (liveB a hb)⟩
            · have ha' : a ∈ A' := by
                rcases List.mem_cons.mp ha with h | h
                · exact absurd (by simp [h]) hb
                · rcases List.mem_append.mp h with h | h
                  · exact absurd (by simp [h]) hb
                  · exact h
              exact ⟨by rw [rmH_out hb]; exact (fra a ha').1, (fra a ha').2⟩
        · rw [if_neg hz] at q
          exact q.elim
    | _ => exact q.elim
end
/-! ### a new list of scalars, while deep slots are read -/
def peekO (f : Env → R D) : Env → R D := fun r => match f r with
  | .ok (.lst ds) => if ds.all scalD = true then .ok (.lst ds) else .stuck
  | .exc x => if scalX x = true then .exc x else .stuck
  | _ => .stuck
theorem scal_all {k : KC} {F F' : Hp} : ∀ {vs : List V} {ds : List D}, DvAll k F vs ds → ds.all scalD = true → DvAll k F' vs ds
  | _, _, .nil, _ => .nil
  | _, _, .cons h1 h2, s => by
    rw [List.all_cons, Bool.and_eq_true] at s
    exact .cons (scal_dv h1 s.1) (scal_all h2 s.2)
theorem pud_peekO {X : Cx} {k : KC} {G : List Md} {W : WE} {e : Expr} {f : Env → R D} (h : PuE X k (frzG G) ⟨W.w, gAny, W.nn⟩ .own e f) : PuD X k G W (.node fun _ => .leaf) e (peekO f) := .mk fun F0 H0 F r σ H Q S q => by
  obtain ⟨fp, dp⟩ := S.dp
  obtain ⟨sf, S'⟩ := S.peek dp
  refine h.run F0 H0 _ r σ H Q S' ?_
  unfold peekO at q
  cases z : f r with
  | stuck => rw [z] at q; exact q.elim
  | exc x =>
    rw [z] at q
    simp only at q
    by_cases hx : scalX x = true
    · rw [if_pos hx] at q
      exact peek_exc (F0 := F0) dp S.sub q hx
    · rw [if_neg hx] at q; exact q.elim
  | ok d =>
    rw [z] at q
    cases d with
    | lst ds =>
      simp only at q
      by_cases hs : ds.all scalD = true
      · rw [if_pos hs] at q
        rintro v F' H' x ⟨p, rfl, h1, h2, ow⟩
        obtain ⟨F2, x2, s2, n2⟩ := unpeek dp S.sub x
        obtain ⟨us, t1, t2⟩ := own_lst ow
        have f2 : F2 p = none := by
          cases z : F2 p with
          | none => rfl
          | some o => rw [s2 _ _ z] at h2; cases h2
        refine q _ F2 H' x2 ⟨[p], .lst t1 (odvl_leaf (scal_all t2 hs)), nodup1, fun a ha => ?_⟩
        rw [List.mem_singleton.mp ha]
        exact ⟨h1, f2⟩
      · rw [if_neg hs] at q; exact q.elim
    | _ => exact q.elim
/-! ### a deep list, from now on a flat one -/
section
variable {k : KC} {G G' : List Md} {F0 H0 F : Hp} {ρ : Env} {σ : Sl} {H : Hp} {i : Nat} {c : Nat → Sh} {ds : List D}
theorem St4.flatD (S : St4 k G F0 H0 F ρ σ H) (e : Eqx G G' i) {o : Option V} (hg : deepAt G i = some (.node c, o)) (ho : isOwn G' i = true) (hlk : lockAt G' i = none) (hd : ρ[i]? = some (some (.lst ds))) : ∃ F', Same F F' ∧ St4 k G' F0 H0 F' ρ σ H := by
  obtain ⟨fp, h⟩ := S.dp
  obtain ⟨v0, g1, _, od⟩ := h.at_ i _ _ _ hg hd
  obtain ⟨a0, A, us, rfl, eA, t1, t2⟩ := odv_lst od
  have no : isOwn G i ≠ true := fun z => by rw [own_deep z] at hg; cases hg
  have hnd := h.nd i
  rw [eA] at hnd
  obtain ⟨na, ndA⟩ := List.nodup_cons.mp hnd
  have inA : ∀ a ∈ A, a ∈ fp i := fun a ha => by rw [eA]; simp [ha]
  have in0 : a0 ∈ fp i := by rw [eA]; simp
  have sf : Same F (addH F H fun _ => A) := fun a z e => by
    rw [addH_out fun _ hi => by rw [(h.fr i a (inA a hi)).1] at e; cases e]
    exact e
  have sub : Same (addH F H fun _ => A) H := fun a z e => by
    by_cases q : a ∈ A
    · rw [addH_in (fp := fun _ => A) (i := 0) q] at e; exact e
    · rw [addH_out fun _ => q] at e; exact S.sub _ _ e
  have oo : ∀ j, j ≠ i → isOwn G' j = true → isOwn G j = true := fun j hj z => by rw [← e.o j hj]; exact z
  refine ⟨addH F H fun _ => A, sf, ⟨S.ext.sf.trans sf, S.ext.sh, sub, fun a h1 h2 => ?_⟩, S.len, fun j d2 q g => ?_, fun j d2 q g => ?_, fun a b da db p2 qa qb ga gb sa sb => ?_, fun j a hz => ?_, fun j p d2 hz hq => ?_, fun j => if j = i then [] else fp j, fun j d2 s o' e1 e2 => ?_, fun j z => ?_, fun j => ?_, fun j a ha => ?_, fun a b y ha hb => ?_, fun a b d2 q g hq s hb => ?_⟩
  · rw [addH_out fun _ hi => h2 (h.fr i a (inA a hi)).2]
    exact S.ext.new a h1 h2
  · have hj : j ≠ i := fun z => by subst z; exact g (nf_own ho)
    obtain ⟨u, f1, f2⟩ := S.frz j d2 q (fun z => g ((e.n j hj).mpr z))
    exact ⟨u, f1, f2.mono sf⟩
  · by_cases hj : j = i
    · subst hj
      rw [hd] at q
      cases q
      refine ⟨a0, g1, by rw [addH_out fun _ => na]; exact (h.fr j a0 in0).1, (h.fr j a0 in0).2, .lst t1 (t2.dv sf fun a ha => addH_in (fp := fun _ => A) (i := 0) ha)⟩
    · obtain ⟨p, f1, f2, f3, f4⟩ := S.own j d2 q (oo j hj g)
      have np : p ∉ A := fun z => h.ow j i d2 p (oo j hj g) q f1 (inA p z)
      refine ⟨p, f1, by rw [addH_out fun _ => np]; exact f2, f3, ?_⟩
      cases f4 with
      | lst a1 a2 => exact .lst a1 (a2.mono sf)
      | dct a1 a2 a3 => exact .dct a1 a2 (a3.mono sf)
      | dtt a1 a2 a3 => exact .dtt a1 a2 (a3.mono sf)
  · by_cases ha : a = i
    · by_cases hb : b = i
      · rw [ha, hb]
      · subst ha
        rw [g1] at sa
        cases sa
        exact absurd in0 (h.ow b a db a0 (oo b hb gb) qb sb)
    · by_cases hb : b = i
      · subst hb
        rw [g1] at sb
        cases sb
        exact absurd in0 (h.ow a b da a0 (oo a ha ga) qa sa)
      · exact S.sep a b da db p2 qa qb (oo a ha ga) (oo b hb gb) sa sb
  · have ne : j ≠ i := fun z => by rw [z, isOwn_pinAt ho] at hz; cases hz
    obtain ⟨h1, h2, h3⟩ := S.pin j a (by rw [← e.p j ne]; exact hz)
    exact ⟨h1, h2, h3.mono sf⟩
  · have ne : j ≠ i := fun z => by rw [z, hlk] at hz; cases hz
    exact S.lk j p d2 (by rw [← e.l j ne]; exact hz) hq
  · have hj : j ≠ i := fun z => by subst z; rw [own_deep ho] at e1; cases e1
    obtain ⟨w, g1, g2, g3⟩ := h.at_ j d2 s o' (by rw [← e.d j hj]; exact e1) e2
    exact ⟨w, g1, g2, by simp only [if_neg hj]; exact g3.frame sf fun _ _ => rfl⟩
  · by_cases hj : j = i
    · exact if_pos hj
    · simp only [if_neg hj]
      refine h.off j ?_
      rw [e.d j hj] at z
      exact z
  · by_cases hj : j = i
    · simp only [if_pos hj]; exact List.nodup_nil
    · simp only [if_neg hj]; exact h.nd j
  · by_cases hj : j = i
    · simp only [if_pos hj] at ha; cases ha
    · simp only [if_neg hj] at ha
      refine ⟨?_, (h.fr j a ha).2⟩
      rw [addH_out fun _ hi => hj (h.dis j i a ha (inA a hi))]
      exact (h.fr j a ha).1
  · by_cases h1 : a = i
    · simp only [if_pos h1] at ha; cases ha
    · by_cases h2 : b = i
      · simp only [if_pos h2] at hb; cases hb
      · simp only [if_neg h1] at ha
        simp only [if_neg h2] at hb
        exact h.dis a b y ha hb
  · by_cases h2 : b = i
    · simp only [if_pos h2] at hb; cases hb
    · simp only [if_neg h2] at hb
      by_cases h1 : a = i
      · subst h1
        rw [g1] at s
        cases s
        exact h2 (h.dis b a a0 hb in0)
      · exact h.ow a b d2 q (oo a h1 g) hq s hb
end
def flatS (i : Nat) (g : Env → SR) : Env → SR := fun r => match r[i]? with
  | some (some (.lst _)) => g r
  | _ => .stuck
theorem pub_flatD {X : Cx} {k : KC} {G G1 Gn Gl : List Md} {W : WE} {ro : RM} {sts : List Stmt} {g : Env → SR} {c : Nat → Sh} {o : Option V} (i : Nat) (e : Eqx G G1 i) (hdp : deepAt G i = some (.node c, o)) (h : PuB X k G1 Gn Gl W ro sts g) (hg : isOwn G1 i = true := by rfl) (hl : lockAt G1 i = none := by rfl) : PuB X k G Gn Gl W ro sts (flatS i g) := .mk fun F0 H0 F ρ σ H Dn S q => by
  unfold flatS at q
  split at q
  · rename_i ds hd
    obtain ⟨F', x, S'⟩ := S.flatD e hdp hg hl hd
    exact h.run F0 H0 F' ρ σ H Dn S' (PostS.grow x q)
  · exact q.elim
/-! ### a statement amid which the slots told stay as they are, and may be read as if kept for good; the others are given up -/
def cstG (vs : Nat → V) : Nat → List Md → List Bool → List Md
  | n, _ :: G, true :: bs => .deep .leaf (some (vs n)) :: cstG vs (n + 1) G bs
  | n, m :: G, false :: bs => m :: cstG vs (n + 1) G bs
  | _, G, _ => G
def cstOk : List Md → List Bool → Bool
  | .frz :: G, false :: bs => cstOk G bs
  | .pin _ :: _, _ => false
  | _ :: G, true :: bs => cstOk G bs
  | [], [] => true
  | _, _ => false
def bAt (bs : List Bool) (i : Nat) : Bool := bs[i]?.getD false
theorem cst_deep {vs : Nat → V} : ∀ {G : List Md} {bs : List Bool} {n i : Nat}, cstOk G bs = true → deepAt (cstG vs n G bs) i = if bAt bs i = true then some (.leaf, some (vs (n + i))) else none
  | [], [], _, _, _ => rfl
  | [], _ :: _, _, _, h => by cases h
  | x :: G, [], _, _, h => by cases x <;> cases h
  | x :: G, b :: bs, n, 0, h => by
    cases b with
    | true => rfl
    | false => cases x <;> first | rfl | cases h
  | x :: G, b :: bs, n, i + 1, h => by
    have h2 : cstOk G bs = true := by cases x <;> cases b <;> first | exact h | cases h
    have ih := cst_deep (vs := vs) (n := n + 1) (i := i) h2
    rw [show n + (i + 1) = n + 1 + i by omega]
    have e : bAt (b :: bs) (i + 1) = bAt bs i := rfl
    rw [e, ← ih]
    cases b <;> cases x <;> first | rfl | cases h
theorem cst_own {vs : Nat → V} : ∀ {G : List Md} {bs : List Bool} {n i : Nat}, cstOk G bs = true → isOwn (cstG vs n G bs) i = false
  | [], [], _, _, _ => rfl
  | [], _ :: _, _, _, h => by cases h
  | x :: G, [], _, _, h => by cases x <;> cases h
  | x :: G, b :: bs, n, 0, h => by
    cases b with
    | true => rfl
    | false => cases x <;> first | rfl | cases h
  | x :: G, b :: bs, n, i + 1, h => by
    have h2 : cstOk G bs = true := by cases x <;> cases b <;> first | exact h | cases h
    have ih := cst_own (vs := vs) (n := n + 1) (i := i) h2
    rw [← ih]
    cases b <;> cases x <;> first | rfl | cases h
theorem cst_pin {vs : Nat → V} : ∀ {G : List Md} {bs : List Bool} {n i : Nat}, cstOk G bs = true → pinAt (cstG vs n G bs) i = none ∧ pinAt G i = none
  | [], [], _, _, _ => ⟨rfl, rfl⟩
  | [], _ :: _, _, _, h => by cases h
  | x :: G, [], _, _, h => by cases x <;> cases h
  | x :: G, b :: bs, n, 0, h => by cases b <;> cases x <;> first | exact ⟨rfl, rfl⟩ | cases h
  | x :: G, b :: bs, n, i + 1, h => by
    have h2 : cstOk G bs = true := by cases x <;> cases b <;> first | exact h | cases h
    have ih := cst_pin (vs := vs) (n := n + 1) (i := i) h2
    cases b <;> cases x <;> first | exact ih | cases h
theorem cst_frz : ∀ {G : List Md} {bs : List Bool} {i : Nat}, cstOk G bs = true → bAt bs i = false → nf G i = false
  | [], _, _, _, _ => rfl
  | x :: G, [], _, h, _ => by cases x <;> cases h
  | x :: G, b :: bs, 0, h, e => by
    have e : b = false := e
    subst e
    cases x <;> first | rfl | cases h
  | x :: G, b :: bs, i + 1, h, e => by
    have h2 : cstOk G bs = true := by cases x <;> cases b <;> first | exact h | cases h
    have ih := cst_frz (G := G) (bs := bs) (i := i) h2 e
    cases x <;> first | exact ih | cases h
def chkT : List Bool → Env → Env → Bool
  | true :: bs, some _ :: r, some _ :: r' => chkT bs r r'
  | true :: bs, none :: r, _ :: r' => chkT bs r r'
  | false :: bs, _ :: r, _ :: r' => chkT bs r r'
  | [], [], [] => true
  | _, _, _ => false
def wipeT : List Bool → Env → Env
  | true :: bs, o :: r => o :: wipeT bs r
  | false :: bs, _ :: r => none :: wipeT bs r
  | _, r => r
theorem chkT_len : ∀ {bs : List Bool} {r r' : Env}, chkT bs r r' = true → r'.length = r.length ∧ (wipeT bs r).length = r.length
  | [], [], [], _ => ⟨rfl, rfl⟩
  | b :: bs, o :: r, o' :: r', h => by
    have h2 : chkT bs r r' = true := by cases b <;> cases o <;> cases o' <;> first | exact h | cases h
    have ih := chkT_len h2
    cases b <;> simp [wipeT, ih.1, ih.2]
  | [], _ :: _, _, h => by cases h
  | [], [], _ :: _, h => by cases h
  | b :: _, [], _, h => by cases b <;> cases h
  | b :: _, o :: _, [], h => by cases b <;> cases o <;> cases h
theorem chkT_at : ∀ {bs : List Bool} {r r' : Env} {i : Nat} {d : D}, chkT bs r r' = true → (wipeT bs r)[i]? = some (some d) → bAt bs i = true ∧ r[i]? = some (some d) ∧ ∃ d', r'[i]? = some (some d')
  | [], [], [], _, _, _, h => by cases h
  | b :: bs, o :: r, o' :: r', 0, d, h, e => by
    cases b with
    | false => simp [wipeT] at e
    | true =>
      simp only [wipeT, List.getElem?_cons_zero, Option.some.injEq] at e
      subst e
      cases o' with
      | none => cases h
      | some d' => exact ⟨rfl, rfl, d', rfl⟩
  | b :: bs, o :: r, o' :: r', i + 1, d, h, e => by
    have h2 : chkT bs r r' = true := by cases b <;> cases o <;> cases o' <;> first | exact h | cases h
    have e2 : (wipeT bs r)[i]? = some (some d) := by cases b <;> simpa [wipeT] using e
    exact chkT_at (bs := bs) (i := i) h2 e2
  | [], _ :: _, _, _, _, h, _ => by cases h
  | [], [], _ :: _, _, _, h, _ => by cases h
  | b :: _, [], _, _, _, h, _ => by cases b <;> cases h
  | b :: _, o :: _, [], _, _, h, _ => by cases b <;> cases o <;> cases h
def thawS (bs : List Bool) (g : Env → SR) : Env → SR := fun r => match g r with
  | .nx r' => if chkT bs r r' = true then .nx (wipeT bs r) else .stuck
  | .ret d => .ret d
  | _ => .stuck
open Classical in
/-- the objects that the slots own -/
noncomputable def ownB (G : List Md) (r : Env) (σ : Sl) (fp : Nat → List Addr) (a : Addr) : Prop := (∃ i, a ∈ fp i) ∨ ∃ i d, isOwn G i = true ∧ r[i]? = some (some d) ∧ σ[i]? = some (some (.ref a))
open Classical in
noncomputable def addB (F H : Hp) (B : Addr → Prop) : Hp := fun a => if B a then H a else F a
theorem addB_in {F H : Hp} {B : Addr → Prop} {a : Addr} (h : B a) : addB F H B a = H a := if_pos h
theorem addB_out {F H : Hp} {B : Addr → Prop} {a : Addr} (h : ¬B a) : addB F H B a = F a := if_neg h
section
variable {k : KC} {G : List Md} {F0 H0 F : Hp} {r : Env} {σ : Sl} {H : Hp}
theorem St4.cst (S : St4 k G F0 H0 F r σ H) {fp : Nat → List Addr} (dp : Dps k G F H0 H r σ fp) {bs : List Bool} (ok : cstOk G bs = true) {vs : Nat → V} (hvs : ∀ i v, σ[i]? = some (some v) → vs i = v) :
    Same F (addB F H (ownB G r σ fp)) ∧ St4 k (cstG vs 0 G bs) F0 H0 (addB F H (ownB G r σ fp)) r σ H := by
  have bf : ∀ a, ownB G r σ fp a → F a = none ∧ H0 a = none := fun a ha => by
    rcases ha with ⟨i, hi⟩ | ⟨i, d, h1, h2, h3⟩
    · exact dp.fr i a hi
    · obtain ⟨p, e1, e2, e3, _⟩ := S.own i d h2 h1
      rw [h3] at e1
      cases e1
      exact ⟨e2, e3⟩
  have sf : Same F (addB F H (ownB G r σ fp)) := fun a z e => by
    rw [addB_out fun h => by rw [(bf a h).1] at e; cases e]
    exact e
  have sub : Same (addB F H (ownB G r σ fp)) H := fun a z e => by
    by_cases q : ownB G r σ fp a
    · rw [addB_in q] at e; exact e
    · rw [addB_out q] at e; exact S.sub _ _ e
  have val : ∀ i d, r[i]? = some (some d) → ∃ v, σ[i]? = some (some v) ∧ Dv k (addB F H (ownB G r σ fp)) v d := fun i d e => by
    by_cases hn : nf G i = true
    · rcases nf_of.mp hn with z | ⟨s, z⟩
      · obtain ⟨p, e1, e2, e3, e4⟩ := S.own i d e z
        have hin : addB F H (ownB G r σ fp) p = H p := addB_in (.inr ⟨i, d, z, e, e1⟩)
        refine ⟨_, e1, ?_⟩
        cases e4 with
        | lst a b => exact .lst (hin.trans a) (b.mono sf)
        | dct a b c => exact .dct (hin.trans a) b (c.mono sf)
        | dtt a b c => exact .dtt (hin.trans a) b (c.mono sf)
      · obtain ⟨v, h1, _, h3⟩ := dp.at_ i d s.1 s.2 z e
        exact ⟨v, h1, h3.dv sf fun a ha => addB_in (.inl ⟨i, ha⟩)⟩
    · obtain ⟨v, h1, h2⟩ := S.frz i d e hn
      exact ⟨v, h1, h2.mono sf⟩
  refine ⟨sf, ⟨⟨S.ext.sf.trans sf, S.ext.sh, sub, fun a h1 h2 => ?_⟩, S.len, fun i d e g => val i d e, fun i d e g => ?_, fun i j d e p e1 e2 g1 g2 => ?_, fun i a e => ?_, fun i p d e => ?_, fun _ => [], fun i d sh o h e => ?_, fun _ _ => rfl, fun _ => List.nodup_nil, fun _ _ h => (nomatch h), fun _ _ _ h => (nomatch h), fun _ _ _ _ _ _ _ => List.not_mem_nil⟩⟩
  · rw [addB_out fun h => h2 (bf a h).2]
    exact S.ext.new a h1 h2
  · rw [cst_own ok] at g; cases g
  · rw [cst_own ok] at g1; cases g1
  · rw [(cst_pin ok).1] at e; cases e
  · have := lockAt_own e
    rw [cst_own ok] at this; cases this
  · rw [cst_deep ok] at h
    split at h
    · cases h
      obtain ⟨v, h1, h2⟩ := val i d e
      exact ⟨v, h1, fun w hw => by cases hw; rw [Nat.zero_add]; exact (hvs i v h1).symm, .leaf h2⟩
    · cases h
/-- back -/
theorem St4.thaw (S : St4 k G F0 H0 F r σ H) {fp : Nat → List Addr} (dp : Dps k G F H0 H r σ fp) {bs : List Bool} (ok : cstOk G bs = true) {vs : Nat → V} (hvs : ∀ i v, σ[i]? = some (some v) → vs i = v)
    {F' : Hp} {r' : Env} {σ' : Sl} {H' : Hp} (sm : Same (addB F H (ownB G r σ fp)) F') (S' : St4 k (cstG vs 0 G bs) F0 H0 F' r' σ' H') (hc : chkT bs r r' = true) : ∃ F2, Same F F2 ∧ St4 k G F0 H0 F2 (wipeT bs r) σ' H' := by
  classical
  have bf : ∀ a, ownB G r σ fp a → F a = none ∧ H0 a = none ∧ H a ≠ none := fun a ha => by
    rcases ha with ⟨i, hi⟩ | ⟨i, d, h1, h2, h3⟩
    · exact ⟨(dp.fr i a hi).1, (dp.fr i a hi).2, dp.there hi⟩
    · obtain ⟨p, e1, e2, e3, e4⟩ := S.own i d h2 h1
      rw [h3] at e1
      cases e1
      obtain ⟨o, z⟩ := e4.there
      exact ⟨e2, e3, by rw [z]; exact fun q => by cases q⟩
  have keep : ∀ a, ownB G r σ fp a → H' a = H a := fun a ha => by
    obtain ⟨o, e⟩ := some_of_ne (bf a ha).2.2
    rw [e]
    exact S'.sub _ _ (sm _ _ (by rw [addB_in ha]; exact e))
  obtain ⟨F2, hF2⟩ : ∃ F2 : Hp, ∀ a, F2 a = if ownB G r σ fp a then none else F' a := ⟨fun a => if ownB G r σ fp a then none else F' a, fun _ => rfl⟩
  have f2in : ∀ a, ownB G r σ fp a → F2 a = none := fun a h => by rw [hF2, if_pos h]
  have f2out : ∀ a, ¬ownB G r σ fp a → F2 a = F' a := fun a h => by rw [hF2, if_neg h]
  have sf : Same F F2 := fun a z e => by
    have nb : ¬ownB G r σ fp a := fun h => by rw [(bf a h).1] at e; cases e
    rw [f2out a nb]
    exact sm _ _ (by rw [addB_out nb]; exact e)
  have sub : Same F2 H' := fun a z e => by
    by_cases q : ownB G r σ fp a
    · rw [f2in a q] at e; cases e
    · rw [f2out a q] at e; exact S'.sub _ _ e
  obtain ⟨dp', hdp⟩ := S'.dp
  have val : ∀ i d, (wipeT bs r)[i]? = some (some d) → r[i]? = some (some d) ∧ ∀ v, σ[i]? = some (some v) → σ'[i]? = some (some v) := fun i d e => by
    obtain ⟨h1, h2, d', h3⟩ := chkT_at hc e
    refine ⟨h2, fun v hv => ?_⟩
    obtain ⟨w, g1, g2, _⟩ := hdp.at_ i d' .leaf (some (vs (0 + i))) (by rw [cst_deep ok, if_pos h1]) h3
    rw [g1, g2 _ rfl, Nat.zero_add, hvs i v hv]
  obtain ⟨l1, l2⟩ := chkT_len hc
  refine ⟨F2, sf, ⟨S.ext.sf.trans sf, S'.ext.sh, sub, fun a h1 h2 => ?_⟩, by rw [l2, ← l1]; exact S'.len, fun j d q g => ?_, fun j d q g => ?_, fun a b da db p qa qb ga gb sa sb => ?_, fun j a e => ?_, fun j p d e q => ?_, fun j => if ∃ d, (wipeT bs r)[j]? = some (some d) then fp j else [], fun j d s o e1 e2 => ?_, fun j z => ?_, fun j => ?_, fun j a ha => ?_, fun a b y ha hb => ?_, fun i j d p g q s hp => ?_⟩
  · have nb : ¬ownB G r σ fp a := fun h => h2 (bf a h).2.1
    rw [f2out a nb]
    exact S'.ext.new a h1 h2
  · obtain ⟨e1, e2⟩ := val j d q
    obtain ⟨v, f1, f2⟩ := S.frz j d e1 g
    exact ⟨v, e2 v f1, f2.mono sf⟩
  · obtain ⟨e1, e2⟩ := val j d q
    obtain ⟨p, f1, f2, f3, f4⟩ := S.own j d e1 g
    have hb : ownB G r σ fp p := .inr ⟨j, d, g, e1, f1⟩
    refine ⟨p, e2 _ f1, f2in p hb, f3, ?_⟩
    cases f4 with
    | lst a1 a2 => exact .lst ((keep p hb).trans a1) (a2.mono sf)
    | dct a1 a2 a3 => exact .dct ((keep p hb).trans a1) a2 (a3.mono sf)
    | dtt a1 a2 a3 => exact .dtt ((keep p hb).trans a1) a2 (a3.mono sf)
  · obtain ⟨e1, e2⟩ := val a da qa
    obtain ⟨e3, e4⟩ := val b db qb
    obtain ⟨p1, f1, _⟩ := S.own a da e1 ga
    obtain ⟨p2, f2, _⟩ := S.own b db e3 gb
    have := e2 _ f1
    rw [sa] at this
    cases this
    have := e4 _ f2
    rw [sb] at this
    cases this
    exact S.sep a b da db p e1 e3 ga gb f1 f2
  · rw [(cst_pin (vs := vs) (n := 0) ok).2] at e; cases e
  · obtain ⟨e1, e2⟩ := val j d q
    exact e2 _ (S.lk j p d e e1)
  · obtain ⟨g1, g2⟩ := val j d e2
    obtain ⟨w, k1, k2, k3⟩ := dp.at_ j d s o e1 g1
    refine ⟨w, g2 w k1, k2, ?_⟩
    rw [if_pos ⟨d, e2⟩]
    exact k3.frame sf fun a ha => keep a (.inl ⟨j, ha⟩)
  · by_cases h : ∃ d, (wipeT bs r)[j]? = some (some d)
    · rw [if_pos h]
      obtain ⟨d, hd⟩ := h
      rcases z with z | z
      · exact dp.off j (.inl z)
      · exact absurd hd (z d)
    · rw [if_neg h]
  · split
    · exact dp.nd j
    · exact List.nodup_nil
  · split at ha
    · exact ⟨f2in a (.inl ⟨j, ha⟩), (dp.fr j a ha).2⟩
    · cases ha
  · split at ha
    · split at hb
      · exact dp.dis a b y ha hb
      · cases hb
    · cases ha
  · split at hp
    · obtain ⟨e1, e2⟩ := val i d q
      obtain ⟨p', f1, _⟩ := S.own i d e1 g
      have := e2 _ f1
      rw [s] at this
      cases this
      exact dp.ow i j d p g e1 f1 hp
    · cases hp
end
section
variable {X : Cx} {k : KC} {G Gl : List Md} {W : WE} {ro : RM} {st : Stmt} {g : Env → SR}
theorem pus_thaw (bs : List Bool) (h : ∀ vs : Nat → V, PuS X k (cstG vs 0 G bs) (cstG vs 0 G bs) (cstG vs 0 G bs) W ro st g) (ok : cstOk G bs = true := by rfl) : PuS X k G G Gl W ro st (thawS bs g) := .mk fun F0 H0 F ρ σ H Dn S q => by
  obtain ⟨fp, dp⟩ := S.dp
  obtain ⟨vs, hvs⟩ : ∃ vs : Nat → V, ∀ i v, σ[i]? = some (some v) → vs i = v := ⟨fun i => match σ[i]? with | some (some v) => v | _ => .non, fun i v e => by simp only [e]⟩
  obtain ⟨sf, S1⟩ := S.cst dp ok hvs
  refine (h vs).run F0 H0 _ ρ σ H Dn S1 ?_
  unfold thawS at q
  cases z : g ρ with
  | nx r' =>
    rw [z] at q
    simp only at q
    by_cases hc : chkT bs ρ r' = true
    · rw [if_pos hc] at q
      intro F' σ' H' sm S2
      obtain ⟨F2, s2, S3⟩ := S.thaw dp ok hvs sm S2 hc
      exact q F2 σ' H' s2 S3
    · rw [if_neg hc] at q; exact q.elim
  | ret d => rw [z] at q; exact q
  | bk r => rw [z] at q; exact q.elim
  | ct r => rw [z] at q; exact q.elim
  | exc e r => rw [z] at q; exact q.elim
  | stuck => rw [z] at q; exact q.elim
/-- a name amid that -/
theorem pu_varC {x : Str} {pos : Pos} (i : Nat) {o : Option V} (hg : deepAt G i = some (.leaf, o) := by rfl) (hN : X.N[i]? = some x := by rfl)
    (hv : Vis X.env.scope x := by first | exact Or.inl rfl | exact Or.inr (Or.inl rfl) | exact Or.inr (Or.inr rfl)) (hd : (x == ("__debug__" : Str)) = false := by decide) (hcd : (x == ("__classdict__" : Str)) = false := by decide) :
    PuE X k G W .frz (.Name x pos) (eVar i) := .mk fun F0 H0 F r σ H Q S q => by
  unfold eVar at q
  cases e : r[i]? with
  | none => rw [e] at q; exact q.elim
  | some z =>
    cases z with
    | none => rw [e] at q; exact q.elim
    | some d =>
      rw [e] at q
      obtain ⟨fp, dp⟩ := S.dp
      obtain ⟨v, e1, _, od⟩ := dp.at_ i d _ _ hg e
      have : Dv k F v d := by
        generalize fp i = B at od
        cases od with
        | leaf h => exact h
      exact canE_of (pe_var hN hv hd hcd) ⟨v, e1, q v F H (Ext.refl S.sub) this⟩
end
/-! ### weakest preconditions -/
def kAt : Nat → Env → R (List Nat × D)
  | 0, some d :: _ => .ok ([], d)
  | k + 1, _ :: r => kAt k r
  | _, _ => .stuck
theorem kNm_eq : ∀ (k : Nat) (r : Env), kNm k r = kAt k r
  | 0, [] => rfl
  | 0, none :: _ => rfl
  | 0, some d :: _ => rfl
  | k + 1, [] => rfl
  | k + 1, x :: r => by
    show _ = kAt k r
    rw [← kNm_eq k r]
    rfl
def upA : Nat → Env → List Nat → D → D
  | 0, some d :: _, js, x => setP d js x
  | k + 1, _ :: r, js, x => upA k r js x
  | _, _, _, _ => .non
theorem upA_eq : ∀ (k : Nat) (r : Env) (js : List Nat) (x : D), (match r[k]? with | some (some d0) => setP d0 js x | _ => .non) = upA k r js x
  | 0, [], _, _ => rfl
  | 0, none :: _, _, _ => rfl
  | 0, some d :: _, _, _ => rfl
  | k + 1, [], _, _ => rfl
  | k + 1, o :: r, js, x => by
    show _ = upA k r js x
    rw [← upA_eq k r]
    rfl
theorem upA_0 {d x : D} {r : Env} {js : List Nat} : upA 0 (some d :: r) js x = setP d js x := rfl
theorem upA_S {k : Nat} {o : Option D} {x : D} {r : Env} {js : List Nat} : upA (k + 1) (o :: r) js x = upA k r js x := rfl
theorem setP_nil {d x : D} : setP d [] x = x := by cases d <;> rfl
theorem setP_lst {ds : List D} {j : Nat} {js : List Nat} {x y : D} (h : ds[j]? = some y) : setP (.lst ds) (j :: js) x = .lst (ds.set j (setP y js x)) := by simp only [setP, h]
def lsK : List Nat × D → R (List Nat × List D)
  | (js, .lst xs) => .ok (js, xs)
  | _ => .stuck
def scalL : D → Prop
  | .lst ds => ds.all scalD = true
  | _ => False
theorem scalL_l {ds : List D} : scalL (.lst ds) ↔ ds.all scalD = true := Iff.rfl
section
variable {i j : Nat} {π : Env → R (List Nat × D)} {f g : Env → R D} {r : Env} {w : Ws} {E : Exc → Prop} {PD : D → Prop} {PK : List Nat × D → Prop}
theorem ws_thaw {bs : List Bool} {g : Env → SR} : (thawS bs g r).wp w ↔ (g r).wp ⟨fun r' => chkT bs r r' = true ∧ w.N (wipeT bs r), w.T, fun _ => False, fun _ => False, fun _ _ => False⟩ := by
  unfold thawS
  cases g r with
  | nx r' =>
    show SR.wp (if chkT bs r r' = true then .nx (wipeT bs r) else .stuck) w ↔ chkT bs r r' = true ∧ w.N (wipeT bs r)
    by_cases h : chkT bs r r' = true
    · rw [if_pos h]; exact ⟨fun z => ⟨h, z⟩, fun z => z.2⟩
    · rw [if_neg h]; exact ⟨fun z => z.elim, fun z => absurd z.1 h⟩
  | _ => exact Iff.rfl
theorem wp_kNm : (kNm i r).wp PK E ↔ (kAt i r).wp PK E := by rw [kNm_eq]
theorem k_0 {d : D} : (kAt 0 (some d :: r)).wp PK E ↔ PK ([], d) := Iff.rfl
theorem k_S {o : Option D} : (kAt (i + 1) (o :: r)).wp PK E ↔ (kAt i r).wp PK E := Iff.rfl
theorem wp_kIx : (kIx π f r).wp PK E ↔ (π r).wp (fun jd => (f r).wp (fun y => (kIxO jd y).wp PK E) E) E := by
  unfold kIx
  cases π r with
  | ok jd => exact wp_bind (x := f r) (f := fun y => kIxO jd y)
  | exc x => exact Iff.rfl
  | stuck => exact Iff.rfl
theorem wp_kIxO {js : List Nat} {ds : List D} {n : Int} {x : D} (h : 0 ≤ n ∧ n < ds.length) (e : ds[n.toNat]? = some x) (q : PK (js ++ [n.toNat], x)) : (kIxO (js, .lst ds) (.int n)).wp PK E := by
  have : ixN ds.length n = some n.toNat := by
    unfold ixN
    rw [if_pos h.1, if_pos h.2]
  simp only [kIxO, this, e]
  exact q
theorem wp_kFld {cs : List Nat} {nm : Str} : (kFld cs nm j π r).wp PK E ↔ (π r).wp (fun jd => (kFldO cs nm j jd).wp PK E) E := by
  unfold kFld
  exact wp_bind
theorem wp_kGet : (kGet π r).wp PD E ↔ (π r).wp (fun jd => PD jd.2) E := by
  unfold kGet
  exact wp_bind
theorem wp_kView : (kView π r).wp PD E ↔ (π r).wp (fun jd => (kOwnO jd.2).wp PD E) E := by
  unfold kView
  exact wp_bind
theorem wp_kOwnL {ds : List D} : (kOwnO (.lst ds)).wp PD E ↔ PD (.lst ds) := Iff.rfl
theorem wp_kOwnD {ks : List KD} {ds : List D} : (kOwnO (.dct ks ds)).wp PD E ↔ PD (.dct ks ds) := Iff.rfl
theorem wp_lsK {js : List Nat} {ds : List D} {P : List Nat × List D → Prop} : (lsK (js, .lst ds)).wp P E ↔ P (js, ds) := Iff.rfl
theorem ws_kPut : (kPut i π f g r).wp w ↔ (g r).wp (fun d => (π r).wp (fun jd => (lsK jd).wp (fun jx => (f r).wp (fun y => (setO jx.2 y d).wp (fun ys => w.N (r.set i (some (upA i r jx.1 (.lst ys))))) noE) (fun e => w.E e r)) noE) (fun e => w.E e r)) (fun e => w.E e r) := by
  unfold kPut
  cases g r with
  | exc e => exact Iff.rfl
  | stuck => exact Iff.rfl
  | ok d =>
    simp only [wp_ok]
    cases π r with
    | exc e => exact Iff.rfl
    | stuck => exact Iff.rfl
    | ok jd =>
      obtain ⟨js, dd⟩ := jd
      simp only [wp_ok]
      cases dd with
      | lst xs =>
        simp only [wp_lsK]
        cases f r with
        | exc e => exact Iff.rfl
        | stuck => exact Iff.rfl
        | ok y =>
          simp only [wp_ok]
          cases h : setO xs y d with
          | exc e =>
            exfalso
            cases y with
            | int n =>
              simp only [setO] at h
              cases zn : ixN xs.length n with
              | none => rw [zn] at h; cases h
              | some j => rw [zn] at h; cases h
            | _ => cases h
          | stuck => exact Iff.rfl
          | ok ys =>
            simp only [wp_ok]
            rw [upA_eq]
            exact Iff.rfl
      | _ => exact Iff.rfl
theorem ws_kApp : (kApp i π f r).wp w ↔ (π r).wp (fun jd => (lsK jd).wp (fun jx => (f r).wp (fun d => jx.2.length < szT ∧ w.N (r.set i (some (upA i r jx.1 (.lst (jx.2 ++ [d])))))) (fun e => w.E e r)) noE) (fun e => w.E e r) := by
  unfold kApp
  cases π r with
  | exc e => exact Iff.rfl
  | stuck => exact Iff.rfl
  | ok jd =>
    obtain ⟨js, dd⟩ := jd
    simp only [wp_ok]
    cases dd with
    | lst xs =>
      simp only [wp_lsK]
      cases f r with
      | exc e => exact Iff.rfl
      | stuck => exact Iff.rfl
      | ok d =>
        simp only [wp_ok]
        rw [upA_eq]
        by_cases h : xs.length < szT
        · rw [if_pos h]; exact ⟨fun z => ⟨h, z⟩, fun z => z.2⟩
        · rw [if_neg h]; exact ⟨fun z => z.elim, fun z => absurd z.1 h⟩
    | _ => exact Iff.rfl
theorem ws_flat {g : Env → SR} : (flatS i g r).wp w ↔ (lsAt i r).wp (fun _ => (g r).wp w) noE := by
  rw [lsAt_get]
  unfold flatS
  split
  · rename_i xs hx
    simp only [hx, wp_ok]
  · rename_i hx
    cases z : r[i]? with
    | none => exact Iff.rfl
    | some y =>
      cases y with
      | none => exact Iff.rfl
      | some d =>
        cases d with
        | lst xs => exact absurd z (hx xs)
        | _ => exact Iff.rfl
theorem wp_peekO : (peekO f r).wp PD E ↔ (f r).wp (fun d => scalL d ∧ PD d) (fun x => scalX x = true ∧ E x) := by
  unfold peekO
  cases f r with
  | ok d =>
    cases d with
    | lst ds =>
      show R.wp (if ds.all scalD = true then _ else _) PD E ↔ ds.all scalD = true ∧ PD (.lst ds)
      by_cases h : ds.all scalD = true
      · rw [if_pos h]; exact ⟨fun z => ⟨h, z⟩, fun z => z.2⟩
      · rw [if_neg h]; exact ⟨fun z => z.elim, fun z => absurd z.1 h⟩
    | _ => exact ⟨fun z => z.elim, fun z => z.1.elim⟩
  | exc x =>
    show R.wp (if scalX x = true then _ else _) PD E ↔ scalX x = true ∧ E x
    by_cases h : scalX x = true
    · rw [if_pos h]; exact ⟨fun z => ⟨h, z⟩, fun z => z.2⟩
    · rw [if_neg h]; exact ⟨fun z => z.elim, fun z => absurd z.1 h⟩
  | stuck => exact Iff.rfl
end
end Pu

namespace Lw
open PySem PySem.Spec PyProof.Rows L2 Pu
def tops (i : Nat) : Stmt := PySem.Challenge.pw_cuetimer_k48_the_table.main.body.getD i (.Pass ⟨0, 0, 0, 0⟩)
abbrev s_break_price : Stmt := tops 3
abbrev gm_break_price_0 : List Md := [.frz]
noncomputable def b_break_price : Pu.Env → SR :=
  (sSeq (sIf (c2 (inO false) (e2 ixD (eVar 0) (e1 negD (eC (.int 1)))) (eC (.str [46, 33, 63])))
    (sRet (eC (.int 0)))
    sNil)
    (sSeq (sIf (c2 (inO false) (e2 ixD (eVar 0) (e1 negD (eC (.int 1)))) (eC (.str [44, 59, 58])))
    (sRet (eC (.int 50)))
    sNil)
    (sRet (eC (.int 200)))))
noncomputable def m_break_price : List D → R D := runD 1 b_break_price
abbrev s_row_price : Stmt := tops 4
abbrev gm_row_price_0 : List Md := [.frz, .frz, .frz, .frz]
noncomputable def b_row_price : Pu.Env → SR :=
  (sSeq (sAsg 3 (e2 subD (eVar 1) (eA lenD (aCons (eVar 0) aNil))))
    (sSeq (sIf (tE (eVar 2))
    (sRet (e2 mulI (eVar 3) (eVar 3)))
    sNil)
    (sRet (e2 addD (e2 mulI (eVar 3) (eVar 3)) (callN 1 m_break_price (aCons (eVar 0) aNil))))))
noncomputable def m_row_price : List D → R D := runD 4 b_row_price
abbrev s_rows_from : Stmt := tops 5
abbrev gm_rows_from_0 : List Md := [.frz, .frz, .frz, .frz, .frz, .frz]
abbrev gm_rows_from_1 : List Md := [.frz, .frz, .frz, .own, .frz, .frz]
noncomputable def l_rows_from_1 : Pu.Env → SR :=
  (sSeq (sIf (c2 neG (eVar 4) (eC (.str [])))
    (sAsg 4 (e2 addD (eVar 4) (eC (.str [32]))))
    sNil)
    (sSeq (sAsg 4 (e2 addD (eVar 4) (e2 ixD (eVar 0) (eVar 5))))
    (sSeq (sIf (c2 gtD (eA lenD (aCons (eVar 4) aNil)) (eVar 1))
    .bk
    sNil)
    (sApp 3 (aCons (tupE (aCons (e2 addD (eVar 5) (eC (.int 1))) (aCons (callN 3 m_row_price (aCons (eVar 4) (aCons (eVar 1) (aCons (bE (c2 eqG (eVar 5) (e2 subD (eA lenD (aCons (eVar 0) aNil)) (eC (.int 1))))) aNil)))) aNil))) aNil)))))
noncomputable def b_rows_from : Pu.Env → SR :=
  (sSeq (sAsg 3 (lstE aNil))
    (sSeq (sAsg 4 (eC (.str [])))
    (sSeq (sFor (iA range2D (aCons (eVar 2) (aCons (eA lenD (aCons (eVar 0) aNil)) aNil))) (gN 5) l_rows_from_1)
    (sRet (eVar 3)))))
theorem nx_rows_from : NoNx b_rows_from := (nx_seq (nx_seq (nx_seq nx_ret)))
noncomputable def m_rows_from : List D → R D := runD 6 b_rows_from
abbrev s_next_list : Stmt := tops 6
abbrev gm_next_list_0 : List Md := [.frz, .frz, .frz, .frz, .frz, .frz, .frz]
abbrev gm_next_list_1 : List Md := [.frz, .frz, .frz, .own, .frz, .frz, .frz]
noncomputable def l_next_list_1 : Pu.Env → SR :=
  (sIf (orT (c2 isN (e2 ixD (eVar 3) (eVar 5)) (eC .non)) (c2 ltD (e2 addD (e2 ixD (eVar 2) (eVar 4)) (eVar 6)) (e2 ixD (eVar 3) (eVar 5))))
    (sPut 3 (eVar 5) (e2 addD (e2 ixD (eVar 2) (eVar 4)) (eVar 6)))
    sNil)
noncomputable def l_next_list_2 : Pu.Env → SR :=
  (sIf (c2 notN (e2 ixD (eVar 2) (eVar 4)) (eC .non))
    (sFor (iE (callN 3 m_rows_from (aCons (eVar 0) (aCons (eVar 1) (aCons (eVar 4) aNil))))) (gT 2 (gsCons (gN 5) (gsCons (gN 6) gsNil))) l_next_list_1)
    sNil)
noncomputable def b_next_list : Pu.Env → SR :=
  (sSeq (sAsg 3 (e2 repL (lstE (aCons (eC .non) aNil)) (e2 addD (eA lenD (aCons (eVar 0) aNil)) (eC (.int 1)))))
    (sSeq (sFor (iA range1D (aCons (eA lenD (aCons (eVar 0) aNil)) aNil)) (gN 4) l_next_list_2)
    (sRet (eVar 3))))
theorem nx_next_list : NoNx b_next_list := (nx_seq (nx_seq nx_ret))
noncomputable def m_next_list : List D → R D := runD 7 b_next_list
abbrev s_parting_table : Stmt := tops 7
abbrev gm_parting_table_0 : List Md := [.frz, .frz, .frz, .frz, .frz, .frz]
abbrev gm_parting_table_1 : List Md := [.frz, .frz, .frz, .frz, .deep (.node fun _ => .node fun _ => .leaf) none, .frz]
noncomputable def l_parting_table_1 : Pu.Env → SR :=
  (kApp 4 (kNm 4) (peekO (callN 3 m_next_list (aCons (eVar 3) (aCons (eVar 1) (aCons (e2 ixD (eVar 4) (eVar 5)) aNil))))))
noncomputable def b_parting_table : Pu.Env → SR :=
  (sSeq (sAsg 3 (m1E splitD (eVar 0) (eC (.str [32]))))
    (sSeq (sAsg 4 (lstE (aCons (oDE (e2 addL (lstE (aCons (eC (.int 0)) aNil)) (e2 repL (lstE (aCons (eC .non) aNil)) (eA lenD (aCons (eVar 3) aNil))))) aNil)))
    (sSeq (sFor (iA range1D (aCons (eVar 2) aNil)) (gN 5) l_parting_table_1)
    (sRet (eVar 4)))))
theorem nx_parting_table : NoNx b_parting_table := (nx_seq (nx_seq (nx_seq nx_ret)))
noncomputable def m_parting_table : List D → R D := runD 6 b_parting_table
abbrev s__law_cell_at : Stmt := tops 9
abbrev gm__law_cell_at_0 : List Md := [.frz, .frz]
noncomputable def b__law_cell_at : Pu.Env → SR :=
  (sSeq (sIf (c2 ltD (eVar 1) (eA lenD (aCons (eVar 0) aNil)))
    (sRet (e2 ixD (eVar 0) (eVar 1)))
    sNil)
    (sRet (eC (.int 0))))
noncomputable def m__law_cell_at : List D → R D := runD 2 b__law_cell_at
abbrev s__law_mixed : Stmt := tops 10
abbrev gm__law_mixed_0 : List Md := [.frz, .frz]
noncomputable def b__law_mixed : Pu.Env → SR :=
  (sRet (e2 modD (e2 mulI (e2 modD (eVar 0) (eC (.int 2147483647))) (eVar 1)) (eC (.int 2147483647))))
noncomputable def m__law_mixed : List D → R D := runD 2 b__law_mixed
abbrev s__law_word : Stmt := tops 11
abbrev gm__law_word_0 : List Md := [.frz, .frz, .frz, .frz, .frz]
noncomputable def l__law_word_1 : Pu.Env → SR :=
  (sSeq (sAsg 0 (e2 modD (e2 addD (e2 mulI (eVar 0) (eC (.int 48271))) (eC (.int 11))) (eC (.int 2147483647))))
    (sAsg 3 (e2 addD (eVar 3) (e2 ixD (eVar 2) (e2 modD (eVar 0) (eC (.int 93)))))))
noncomputable def b__law_word : Pu.Env → SR :=
  (sSeq (sAsg 2 (eC (.str [33, 34, 35, 36, 38, 39, 40, 41, 42, 43, 44, 45, 46, 47, 48, 49, 50, 51, 52, 53, 54, 55, 56, 57, 58, 59, 60, 61, 62, 63, 64, 65, 66, 67, 68, 69, 70, 71, 72, 73, 74, 75, 76, 77, 78, 79, 80, 81, 82, 83, 84, 85, 86, 87, 88, 89, 90])))
    (sSeq (sAsg 2 (e2 addD (eVar 2) (eC (.str [91, 92, 93, 94, 95, 96, 97, 98, 99, 100, 101, 102, 103, 104, 105, 106, 107, 108, 109, 110, 111, 112, 113, 114, 115, 116, 117, 118, 119, 120, 121, 122, 123, 124, 125, 126]))))
    (sSeq (sAsg 3 (eC (.str [])))
    (sSeq (sFor (iA range1D (aCons (eVar 1) aNil)) (gN 4) l__law_word_1)
    (sRet (eVar 3))))))
noncomputable def m__law_word : List D → R D := runD 5 b__law_word
abbrev s__law_parts : Stmt := tops 12
abbrev gm__law_parts_0 : List Md := [.frz, .frz, .frz, .frz, .frz, .frz, .frz]
abbrev gm__law_parts_1 : List Md := [.frz, .own, .frz, .frz, .frz, .frz, .frz]
noncomputable def l__law_parts_1 : Pu.Env → SR :=
  (sSeq (sAsg 4 (callN 2 m__law_mixed (aCons (eVar 3) (aCons (eC (.int 48271)) aNil))))
    (sSeq (sAsg 5 (e2 addD (eC (.int 1)) (e2 modD (eVar 4) (eC (.int 5)))))
    (sSeq (sIf (andT (c2 eqG (e2 modD (e2 fdivD (eVar 4) (eC (.int 5))) (eC (.int 8))) (eC (.int 0))) (c2 ltD (eVar 2) (eC (.int 150))))
    (sAsg 5 (e2 addD (eC (.int 1)) (e2 modD (e2 fdivD (eVar 4) (eC (.int 40))) (eC (.int 30)))))
    sNil)
    (sSeq (sAsg 6 (callN 2 m__law_word (aCons (callN 2 m__law_mixed (aCons (eVar 3) (aCons (eC (.int 69621)) aNil))) (aCons (eVar 5) aNil))))
    (sSeq (sIf (c2 eqG (e2 modD (e2 fdivD (eVar 4) (eC (.int 7))) (eC (.int 3))) (eC (.int 0)))
    (sAsg 6 (e2 addD (slE sliceD (eVar 6) oNone (oSome (e1 negD (eC (.int 1))))) (e2 ixD (eC (.str [46, 33, 63, 44, 59, 58])) (e2 modD (e2 fdivD (eVar 4) (eC (.int 21))) (eC (.int 6))))))
    sNil)
    (sSeq (sAsg 2 (e2 addD (eVar 2) (eVar 5)))
    (sApp 1 (aCons (eVar 6) aNil))))))))
noncomputable def b__law_parts : Pu.Env → SR :=
  (sSeq (sAsg 1 (lstE aNil))
    (sSeq (sAsg 2 (eC (.int 0)))
    (sSeq (sFor (iE (eVar 0)) (gN 3) l__law_parts_1)
    (sRet (eVar 1)))))
theorem nx__law_parts : NoNx b__law_parts := (nx_seq (nx_seq (nx_seq nx_ret)))
noncomputable def m__law_parts : List D → R D := runD 7 b__law_parts
abbrev s__law_cost : Stmt := tops 13
abbrev gm__law_cost_0 : List Md := [.frz, .frz, .frz, .frz, .frz, .frz, .frz]
noncomputable def b__law_cost : Pu.Env → SR :=
  (sSeq (sAsg 4 (eA lenD (aCons (m1E joinD (eC (.str [32])) (slE sliceD (eVar 0) (oSome (eVar 2)) (oSome (eVar 3)))) aNil)))
    (sSeq (sIf (c2 gtD (eVar 4) (eVar 1))
    (sRet (eC .non))
    sNil)
    (sSeq (sAsg 5 (e2 powD (e2 subD (eVar 1) (eVar 4)) (eC (.int 2))))
    (sSeq (sAsg 6 (e2 ixD (e2 ixD (eVar 0) (e2 subD (eVar 3) (eC (.int 1)))) (e1 negD (eC (.int 1)))))
    (sSeq (sIf (orT (c2 eqG (eVar 3) (eA lenD (aCons (eVar 0) aNil))) (c2 (inO false) (eVar 6) (eC (.str [46, 33, 63]))))
    (sRet (eVar 5))
    sNil)
    (sRet (e2 addD (eVar 5) (e2 ixD (lstE (aCons (eC (.int 200)) (aCons (eC (.int 50)) aNil))) (eA intS (aCons (bE (c2 (inO false) (eVar 6) (eC (.str [44, 59, 58])))) aNil))))))))))
noncomputable def m__law_cost : List D → R D := runD 7 b__law_cost
abbrev s__law_next : Stmt := tops 14
abbrev gm__law_next_0 : List Md := [.frz, .frz, .frz, .frz, .frz, .frz, .frz, .frz]
abbrev gm__law_next_1 : List Md := [.frz, .frz, .frz, .own, .frz, .frz, .frz, .frz]
noncomputable def l__law_next_1 : Pu.Env → SR :=
  (sSeq (sAsg 7 (callN 4 m__law_cost (aCons (eVar 0) (aCons (eVar 1) (aCons (eVar 6) (aCons (eVar 4) aNil))))))
    (sIf (andT (c2 notN (e2 ixD (eVar 2) (eVar 6)) (eC .non)) (andT (c2 notN (eVar 7) (eC .non)) (orT (c2 isN (eVar 5) (eC .non)) (c2 ltD (e2 addD (e2 ixD (eVar 2) (eVar 6)) (eVar 7)) (eVar 5)))))
    (sAsg 5 (e2 addD (e2 ixD (eVar 2) (eVar 6)) (eVar 7)))
    sNil))
noncomputable def l__law_next_2 : Pu.Env → SR :=
  (sSeq (sAsg 5 (eC .non))
    (sSeq (sFor (iA range2D (aCons (eA (int2 max2) (aCons (eC (.int 0)) (aCons (e2 subD (eVar 4) (eVar 1)) aNil))) (aCons (eVar 4) aNil))) (gN 6) l__law_next_1)
    (sApp 3 (aCons (eVar 5) aNil))))
noncomputable def b__law_next : Pu.Env → SR :=
  (sSeq (sAsg 3 (lstE (aCons (eC .non) aNil)))
    (sSeq (sFor (iA range2D (aCons (eC (.int 1)) (aCons (e2 addD (eA lenD (aCons (eVar 0) aNil)) (eC (.int 1))) aNil))) (gN 4) l__law_next_2)
    (sRet (eVar 3))))
theorem nx__law_next : NoNx b__law_next := (nx_seq (nx_seq nx_ret))
noncomputable def m__law_next : List D → R D := runD 8 b__law_next
abbrev s__law_whole : Stmt := tops 15
abbrev gm__law_whole_0 : List Md := [.frz]
noncomputable def b__law_whole : Pu.Env → SR :=
  (sRet (orE (bE (c2 isN (eVar 0) (eC .non))) (andE (fun r => (eVar 0) r >>= isK .int) (notE (fun r => (eVar 0) r >>= isK .bool)))))
noncomputable def m__law_whole : List D → R D := runD 1 b__law_whole
abbrev s_law : Stmt := tops 16
abbrev gm_law_0 : List Md := [.frz, .frz, .frz, .frz, .frz, .frz, .frz, .frz, .frz, .frz, .frz]
abbrev gm_law_1 : List Md := [.frz, .frz, .frz, .frz, .frz, .own, .frz, .frz, .frz, .frz, .frz]
abbrev gm_law_2 : List Md := [.frz, .frz, .frz, .frz, .frz, .frz, .frz, .deep (.node fun _ => .node fun _ => .leaf) none, .frz, .frz, .frz]
noncomputable def l_law_1 : Pu.Env → SR :=
  (sApp 5 (aCons (callN 3 m__law_next (aCons (eVar 1) (aCons (eVar 3) (aCons (e2 ixD (eVar 5) (eVar 6)) aNil)))) aNil))
noncomputable def l_law_2 : Pu.Env → SR :=
  (sIf (orT (notT (tE (fun r => (eVar 8) r >>= isK .list))) (notT (tE (eA allD (aCons (lcE (iE (eVar 8)) [10] (gN 10) tYesP (callN 1 m__law_whole (aCons (eVar 10) aNil))) aNil)))))
    (sRet (eC (.bl false)))
    sNil)
noncomputable def b_law : Pu.Env → SR :=
  (sSeq (sAsg 1 (callN 1 m__law_parts (aCons (e2 addL (lstE (aCons (callN 2 m__law_cell_at (aCons (eVar 0) (aCons (eC (.int 3)) aNil))) aNil)) (slE sliceD (eVar 0) (oSome (eC (.int 4))) (oSome (eC (.int 24))))) aNil)))
    (sSeq (sAsg 2 (eA maxD (aCons (lcE (iE (eVar 1)) [9] (gN 9) tYesP (eA lenD (aCons (eVar 9) aNil))) aNil)))
    (sSeq (sAsg 3 (e2 addD (eC (.int 1)) (e2 modD (callN 2 m__law_cell_at (aCons (eVar 0) (aCons (eC (.int 0)) aNil))) (eC (.int 100)))))
    (sSeq (sIf (c2 gtD (e2 modD (callN 2 m__law_cell_at (aCons (eVar 0) (aCons (eC (.int 1)) aNil))) (eC (.int 3))) (eC (.int 0)))
    (sAsg 3 (e2 addD (eVar 2) (e2 modD (callN 2 m__law_cell_at (aCons (eVar 0) (aCons (eC (.int 0)) aNil))) (eC (.int 21)))))
    sNil)
    (sSeq (sAsg 4 (e2 addD (eC (.int 1)) (e2 modD (callN 2 m__law_cell_at (aCons (eVar 0) (aCons (eC (.int 2)) aNil))) (eC (.int 5)))))
    (sSeq (sAsg 5 (lstE (aCons (e2 addL (lstE (aCons (eC (.int 0)) aNil)) (e2 repL (lstE (aCons (eC .non) aNil)) (eA lenD (aCons (eVar 1) aNil)))) aNil)))
    (sSeq (sFor (iA range1D (aCons (eVar 4) aNil)) (gN 6) l_law_1)
    (sSeq (sAsg 7 (callN 3 m_parting_table (aCons (m1E joinD (eC (.str [32])) (eVar 1)) (aCons (eVar 3) (aCons (eVar 4) aNil)))))
    (sSeq (sIf (peekT (orT (notT (tE (fun r => (eVar 7) r >>= isK .list))) (c2 neG (eVar 7) (eVar 5))))
    (sRet (eC (.bl false)))
    sNil)
    (sSeq (thawS [true, true, true, true, true, true, true, true, false, true, false] (sFor (iE (eVar 7)) (gN 8) l_law_2))
    (sSeq (kPut 7 (kIx (kNm 7) (eC (.int 0))) (eC (.int 0)) (eC (.int 7)))
    (sSeq (sMtP 7 (eVar 4) appO (aCons (eC .non) aNil))
    (sRet (bE (c2 eqG (callN 3 m_parting_table (aCons (m1E joinD (eC (.str [32])) (eVar 1)) (aCons (eVar 3) (aCons (eVar 4) aNil)))) (eVar 5))))))))))))))))
noncomputable def m_law : List D → R D := runD 11 b_law
local macro_rules | `(tactic| walk_at "fitN") => `(tactic| first | exact Fit.of 22 (by omega) | exact Fit.of 64 (by omega) | exact Fit.of 120 (by omega) | (apply Fit.mul <;> walk_at "fitN") | (apply Fit.add <;> walk_at "fitN") | (apply Fit.sub <;> walk_at "fitN") | assumption)
local macro_rules | `(tactic| walk_at "fit") => `(tactic| (with_reducible show fitI _ = true; first | exact fit_small (by omega) (by omega) | exact fit_of (by walk_at "fitN") (by decide)))
local macro_rules | `(tactic| walk_at "sd") => `(tactic| first | ((with_reducible show _ ∧ _); refine And.intro ?_ ?_ <;> walk_at "sd") | omega | (walk_at "fit") | (with_reducible show i62 _ = true; exact i62_of (by omega) (by omega)) | (with_reducible assumption) | (with_reducible exact True.intro))
local macro_rules | `(tactic| walk_at "wp0") => `(tactic| try simp only [wp_ok, wp_exc, wp_stuck, wp_bind, wp_C, wp_var0, wp_varS, wp_e2, wp_e1, wp_mulI, wp_mulW, wp_fdiv, wp_mod, wp_sub, wp_addI, wp_neg, wp_pow, wp_addS, wp_addT, wp_addL, wp_repL, wp_c2, wp_bE, wp_ltI, wp_leI, wp_gtI, wp_geI, wp_ltS,
  wp_eqI, wp_neI, wp_eqS, wp_neS, wp_tE, wp_truB, wp_truI, wp_truN, wp_truL, wp_truS, wp_and, wp_or, wp_not, wp_andE, wp_orE, wp_notE, wp_blD, wp_ifE, wp_aNil, wp_aCons, wp_tupE, wp_lstE, wp_eA, wp_ixT0, wp_ixT1, wp_ixT2, wp_ixT3, wp_ixT4, wp_ixL0, wp_ixL1, wp_ixL2, wp_ixL3, wp_ixL4, wp_len, wp_lenT, wp_lenS, wp_lenX, wp_divmod, wp_int2,
  wp_slE, wp_oNone, wp_oSome, wp_intD, wp_slL, wp_slLS, wp_slD, wp_slDS, wp_slS, wp_slX, wp_slT, wp_iE, wp_iterL, wp_iterT, wp_iterX, wp_iA, wp_rg1, wp_rg2, wp_enum, wp_zip, wp_rev, wp_isK, wp_callN, ws_seqH, ws_nil, ws_nx, ws_bk, ws_ct, ws_asg, ws_drop, ws_ret, ws_if, ws_asgG, ow_N, ow_T, ow_nil, ow_cons, ws_par, wp_runD, wp_m1E, wp_txt, wp_intI, wp_intB, wp_absI, wp_listL, wp_listT, wp_listS, wp_tupL, wp_tupT, wp_inX, inTx_one, wp_c3, ls_0, ls_S, ws_app, ws_ext, wp_appO, wp_extO, ws_rev, ws_put, wp_callL, wp_lend, ws_raise, ws_raiseP, ws_tryAs, ws_tryOnly, ws_tryRaise, wp_xf, wp_shr, wp_allD, wp_revI, ws_pop, wp_popO, wp_ownE, wp_dgetS, wp_dgetI, wp_dinS, wp_dinI, wp_disp, wp_dictD, dc_0, dc_S, kw_s, kw_i, ws_dput, wp_takeO, ws_appPop, wp_peekE, wp_peekT, wp_oDE, wp_immE, ws_appP, ws_thaw, wp_kNm, k_0, k_S, wp_kIx, wp_kFld, wp_kGet, wp_kView, wp_kOwnL, wp_kOwnD, wp_lsK, ws_kPut, ws_kApp, ws_flat, wp_peekO, scalL_l, upA_0, upA_S, setP_nil, chkT, wipeT, wp_isC, ws_clrT, tupAt, scalD, scalX, noDtt, immK, wp_idx, wp_mtd, wp_mkE, wp_supG, wp_callD, rc_some, wp_repS, wp_dgetT, wp_dinT, dt_0, dt_S, kw_t, ws_dputT, wp_callK, wp_isN_bb, wp_isN_nn, wp_isN_bn, wp_isN_in, wp_isN_sn, wp_isN_tn, wp_isN_ln, wp_notN_bb, wp_notN_nn, wp_notN_bn, wp_notN_in, wp_notN_sn, wp_notN_tn, wp_notN_ln, fl_int, fl_bl, fl_str, fl_non, fl_tup, fls_nil, fls_cons, flR_f, flR_t, Bool.and_true, Bool.and_self,
  List.map_cons, List.map_nil, List.cons_append, List.nil_append, List.length_cons, List.length_nil, List.length_map, List.length_append, Nat.reduceAdd, Nat.reduceSub, Nat.zero_add, Int.zero_add, List.replicate_succ, List.replicate_zero, List.set_cons_succ, List.set_cons_zero, isK,
  decide_eq_true_eq, beq_iff_eq, Bool.not_eq_true', true_and, Bool.false_eq_true, if_false, if_true, Int.reducePow, Int.reduceToNat, Nat.reducePow, szT, Nat.reduceLeDiff, reduceCtorEq, decide_true, decide_false, lit_cast, Int.reduceEq, not_true_eq_false, not_false_eq_true,  Bool.not_true, Bool.not_false])
local macro_rules | `(tactic| walk_at "wp") => `(tactic| (walk_at "wp0"; repeat ((with_reducible refine hold_of ?_); walk_at "wp0")))
local macro_rules | `(tactic| walk_at "sides") => `(tactic| repeat ((with_reducible show _ ∧ _); refine And.intro (by walk_at "sd") ?_))
local macro_rules | `(tactic| walk_at "go") => `(tactic| (walk_at "wp0"; walk_at "sides"; repeat ((with_reducible refine hold_of ?_); walk_at "wp0"; walk_at "sides")))
local macro_rules | `(tactic| walk_at "if") => `(tactic| first | rw [if_neg (by omega)] | rw [if_pos (by omega)] | rw [if_pos (by rfl)] | rw [if_neg (by exact Bool.false_ne_true)] | rw [if_neg (by rw [decide_eq_false_iff_not]; omega)] | rw [if_pos (by rw [decide_eq_false_iff_not]; omega)])
local macro_rules | `(tactic| walk_at "run") => `(tactic| (walk_at "go"; repeat (walk_at "if"; walk_at "go")))
local macro_rules | `(tactic| walk_at "call") => `(tactic| fail)
local macro_rules | `(tactic| walk_at "auto") => `(tactic| (walk_at "go"; repeat ((first | walk_at "if" | walk_at "call" | (with_reducible refine wf_cons.mpr ?_) | (with_reducible refine wf_nil.mpr ?_)); walk_at "go")))

theorem cell_ok (ns : List Int) (k : Nat) (P : D → Prop) (E : Exc → Prop) (h : ∀ c, P (.int c)) : (m__law_cell_at [.scr ns, .int k]).wp P E := by
  unfold m__law_cell_at b__law_cell_at
  walk_at "go"
  split
  · exact ix_scr ⟨by omega, by assumption⟩ fun n _ => h n
  · walk_at "go"
    exact h _
theorem cell_okI (ns : List Int) {k : Int} (hk : 0 ≤ k) (P : D → Prop) (E : Exc → Prop) (h : ∀ c, P (.int c)) : (m__law_cell_at [.scr ns, .int k]).wp P E := by
  obtain ⟨n, rfl⟩ : ∃ n : Nat, k = (n : Int) := ⟨k.toNat, by omega⟩
  exact cell_ok ns n P E h

/-! lists of whole numbers, alike or not -/
theorem shal_il (xs : List Int) {n : Nat} : shal (n + 1) (.lst (xs.map D.int)) = true := by
  show (xs.map D.int).all (shal n) = true
  rw [List.all_eq_true]
  intro d hd
  obtain ⟨r, _, rfl⟩ := List.mem_map.mp hd
  cases n <;> rfl
theorem eqD_cons {x y : D} {xs ys : List D} : eqD (.lst (x :: xs)) (.lst (y :: ys)) = (eqD x y && eqD (.lst xs) (.lst ys)) := rfl
theorem eqD_ints : ∀ xs ys : List Int, eqD (.lst (xs.map D.int)) (.lst (ys.map D.int)) = decide (xs = ys)
  | [], [] => rfl
  | [], _ :: _ => rfl
  | _ :: _, [] => rfl
  | x :: xs, y :: ys => by
    rw [List.map_cons, List.map_cons, eqD_cons, eqD_ints xs ys]
    show (x == y && _) = _
    by_cases h : x = y
    · subst h; simp
    · simp [h]
theorem eqI_ok {xs ys : List Int} {P : Bool → Prop} {E : Exc → Prop} (h : P (decide (xs = ys))) : (eqG (.lst (xs.map D.int)) (.lst (ys.map D.int))).wp P E := by
  rw [wp_eqG, eqD_ints]
  exact ⟨⟨shal_il xs, shal_il ys⟩, h⟩
theorem neI_ok {xs ys : List Int} {P : Bool → Prop} {E : Exc → Prop} (h : P (!decide (xs = ys))) : (neG (.lst (xs.map D.int)) (.lst (ys.map D.int))).wp P E := by
  rw [wp_neG, eqD_ints]
  exact ⟨⟨shal_il xs, shal_il ys⟩, h⟩
theorem set_ints {xs : List Int} {i v : Int} {j : Nat} {P : List D → Prop} {E : Exc → Prop} (hi : i = (j : Int)) (hj : j < xs.length) (q : P ((xs.set j v).map D.int)) : (setO (xs.map D.int) (.int i) (.int v)).wp P E := by
  subst hi
  have e : ixN (xs.map D.int).length (j : Int) = some j := by
    unfold ixN
    rw [List.length_map, if_pos (by omega), if_pos (by omega)]
    rfl
  show R.wp (match ixN (xs.map D.int).length (j : Int) with | some j => _ | none => _) P E
  rw [e]
  show P ((xs.map D.int).set j (.int v))
  rw [← List.map_set]
  exact q
theorem rep_ints (v : Int) {i : Int} {n : Nat} (hi : i = (n : Int)) : (List.replicate i.toNat [D.int v]).flatten = (List.replicate n v).map D.int := by
  subst hi
  rw [show ((n : Int)).toNat = n by omega]
  induction n with
  | zero => rfl
  | succ n ih => rw [List.replicate_succ, List.flatten_cons, ih]; rfl
theorem sum_ints {xs : List Int} {P : D → Prop} {E : Exc → Prop} (q : P (.int xs.sum)) : (sumD [.lst (xs.map D.int)]).wp P E := by
  show (sumI (.lst (xs.map D.int))).wp P E
  unfold sumI intsL
  simp only [intsOf_map]
  exact q

/-! chains: from a point to its parent, and what the way weighs -/
def It (p : Nat → Nat) : Nat → Nat → Nat
  | 0, x => x
  | d + 1, x => p (It p d x)
def Ws (p : Nat → Nat) (g : Nat → Int) : Nat → Nat → Int
  | 0, _ => 0
  | d + 1, x => Ws p g d x + g (It p d x)
theorem It_add (p : Nat → Nat) (a x : Nat) : ∀ b, It p (a + b) x = It p b (It p a x)
  | 0 => rfl
  | b + 1 => by
    show p (It p (a + b) x) = p (It p b (It p a x))
    rw [It_add p a x b]
theorem It_same {p q : Nat → Nat} {b x : Nat} (h : ∀ y, y ≠ b → q y = p y) : ∀ d, (∀ j, j < d → It q j x ≠ b) → It q d x = It p d x
  | 0, _ => rfl
  | d + 1, hj => by
    have ih := It_same h d fun j hd => hj j (by omega)
    have h1 := hj d (by omega)
    show q (It q d x) = p (It p d x)
    rw [h _ h1, ih]
theorem Ws_same {p q : Nat → Nat} {g f : Nat → Int} {b x : Nat} (h : ∀ y, y ≠ b → q y = p y) (hg : ∀ y, y ≠ b → f y = g y) : ∀ d, (∀ j, j < d → It q j x ≠ b) → Ws q f d x = Ws p g d x
  | 0, _ => rfl
  | d + 1, hj => by
    have ih := Ws_same h hg d fun j hd => hj j (by omega)
    have h1 := hj d (by omega)
    have h2 := It_same h d fun j hd => hj j (by omega)
    show Ws q f d x + f (It q d x) = Ws p g d x + g (It p d x)
    rw [ih, hg _ h1, h2]
/-- no step falls: neither does the way; and if one rises, so does it -/
theorem Ws_pot {p : Nat → Nat} {g T : Nat → Int} {x : Nat} : ∀ d, (∀ j, j < d → T (It p j x) ≤ T (It p (j + 1) x) + g (It p j x)) → T x ≤ T (It p d x) + Ws p g d x ∧ ((∃ j, j < d ∧ T (It p j x) < T (It p (j + 1) x) + g (It p j x)) → T x < T (It p d x) + Ws p g d x)
  | 0, _ => ⟨by show T x ≤ T x + 0; omega, fun ⟨j, hj, _⟩ => by omega⟩
  | d + 1, h => by
    obtain ⟨h1, h2⟩ := Ws_pot d fun j hj => h j (by omega)
    have h3 := h d (by omega)
    have e : Ws p g (d + 1) x = Ws p g d x + g (It p d x) := rfl
    refine ⟨by omega, fun ⟨j, hj, h4⟩ => ?_⟩
    by_cases z : j = d
    · subst z
      omega
    · have := h2 ⟨j, by omega, h4⟩
      omega
/-- more values than places: two are alike -/
theorem pigeon : ∀ (n : Nat) (f : Nat → Nat), (∀ i, i ≤ n → f i < n) → ∃ i j, i < j ∧ j ≤ n ∧ f i = f j
  | 0, f, h => absurd (h 0 (by omega)) (by omega)
  | n + 1, f, h => by
    by_cases z : ∃ i, i ≤ n ∧ f i = f (n + 1)
    · obtain ⟨i, hi, e⟩ := z
      exact ⟨i, n + 1, by omega, by omega, e⟩
    · have hz : ∀ i, i ≤ n → f i ≠ f (n + 1) := fun i hi e => z ⟨i, hi, e⟩
      have hl := h (n + 1) (by omega)
      obtain ⟨i, j, h1, h2, h3⟩ := pigeon n (fun i => if f (n + 1) < f i then f i - 1 else f i) fun i hi => by
        have a1 := hz i hi
        have a2 := h i (by omega)
        show (if f (n + 1) < f i then f i - 1 else f i) < n
        split <;> omega
      refine ⟨i, j, h1, by omega, ?_⟩
      have a1 := hz i (by omega)
      have a2 := hz j (by omega)
      split at h3 <;> split at h3 <;> omega
/-- a chain that is whole for n steps among n points is whole for ever, and its n-th point comes back -/
theorem chain_round {n : Nat} {p : Nat → Nat} {ok : Nat → Prop} {x : Nat} (hx : x < n) (hp : ∀ y, y < n → ok y → p y < n) (h : ∀ j, j < n → ok (It p j x)) : (∀ m, ok (It p m x) ∧ It p m x < n) ∧ ∃ c, 1 ≤ c ∧ c ≤ n ∧ It p (n + c) x = It p n x := by
  have hn : ∀ m, m ≤ n → It p m x < n := fun m => by
    induction m with
    | zero => intro _; exact hx
    | succ m ih => intro hm; exact hp _ (ih (by omega)) (h m (by omega))
  obtain ⟨i, j, h1, h2, h3⟩ := pigeon n (fun m => It p m x) hn
  have h3 : It p i x = It p j x := h3
  have per : ∀ m, j ≤ m → It p m x = It p (m - (j - i)) x := fun m hm => by
    have e1 : m = j + (m - j) := by omega
    have e2 : m - (j - i) = i + (m - j) := by omega
    rw [e2, It_add, h3, ← It_add, ← e1]
  refine ⟨fun m => ?_, j - i, by omega, by omega, ?_⟩
  · induction m using Nat.strongRecOn with
    | ind m ih =>
      by_cases z : m < j
      · exact ⟨h m (by omega), hn m (by omega)⟩
      · rw [per m (by omega)]
        exact ih _ (by omega)
  · rw [per (n + (j - i)) (by omega), show n + (j - i) - (j - i) = n by omega]

--USES c_chain
/-! the least way to part: levels of a table -/
/-- what is known of the next level while pairs (i, j) are looked at -/
structure Best (co : Nat → Nat → Int) (ah : Nat → Option Int) (S : Nat → Nat → Prop) (fo : Nat → Option Int) : Prop where
  a : ∀ j c, fo j = some c → ∃ i c', S i j ∧ ah i = some c' ∧ c = c' + co i j
  b : ∀ i j c', S i j → ah i = some c' → ∃ c, fo j = some c ∧ c ≤ c' + co i j
def updO (f : Nat → Option Int) (b : Nat) (v : Int) : Nat → Option Int := fun y => if y = b then some v else f y
theorem Best.start (co : Nat → Nat → Int) (ah : Nat → Option Int) : Best co ah (fun _ _ => False) (fun _ => none) := ⟨fun _ _ h => (by cases h), fun _ _ _ h => h.elim⟩
theorem Best.same {co : Nat → Nat → Int} {ah : Nat → Option Int} {S S' : Nat → Nat → Prop} {fo : Nat → Option Int} (h : Best co ah S fo) (hs : ∀ i j, S' i j ↔ S i j) : Best co ah S' fo :=
  ⟨fun j c hc => by obtain ⟨i, c', h1, h2⟩ := h.a j c hc; exact ⟨i, c', (hs i j).mpr h1, h2⟩, fun i j c' h1 h2 => h.b i j c' ((hs i j).mp h1) h2⟩
/-- a point that is not reached leads nowhere -/
theorem Best.none {co : Nat → Nat → Int} {ah : Nat → Option Int} {S S' : Nat → Nat → Prop} {fo : Nat → Option Int} (h : Best co ah S fo) {s : Nat} (hn : ah s = none) (hs : ∀ i j, S i j → S' i j) (hs' : ∀ i j, S' i j → S i j ∨ i = s) : Best co ah S' fo :=
  ⟨fun j c hc => by obtain ⟨i, c', h1, h2⟩ := h.a j c hc; exact ⟨i, c', hs i j h1, h2⟩, fun i j c' h1 h2 => by
    rcases hs' i j h1 with z | z
    · exact h.b i j c' z h2
    · subst z
      rw [hn] at h2
      cases h2⟩
/-- a better way is noted -/
theorem Best.put {co : Nat → Nat → Int} {ah : Nat → Option Int} {S : Nat → Nat → Prop} {fo : Nat → Option Int} (h : Best co ah S fo) {s m : Nat} {v : Int} (hv : ah s = some v) (hb : ∀ c, fo m = some c → v + co s m ≤ c) : Best co ah (fun i j => S i j ∨ (i = s ∧ j = m)) (updO fo m (v + co s m)) := by
  refine ⟨fun j c hc => ?_, fun i j c' h1 h2 => ?_⟩
  · unfold updO at hc
    by_cases z : j = m
    · rw [if_pos z] at hc
      cases hc
      subst z
      exact ⟨s, v, .inr ⟨rfl, rfl⟩, hv, rfl⟩
    · rw [if_neg z] at hc
      obtain ⟨i, c', g1, g2⟩ := h.a j c hc
      exact ⟨i, c', .inl g1, g2⟩
  · unfold updO
    by_cases z : j = m
    · subst z
      rw [if_pos rfl]
      refine ⟨_, rfl, ?_⟩
      rcases h1 with h1 | ⟨h1, _⟩
      · obtain ⟨c, g1, g2⟩ := h.b i j c' h1 h2
        have := hb c g1
        omega
      · subst h1
        rw [hv] at h2
        cases h2
        omega
    · rw [if_neg z]
      rcases h1 with h1 | ⟨_, h1⟩
      · exact h.b i j c' h1 h2
      · exact absurd h1 z
/-- a way that is no better is passed by -/
theorem Best.pass {co : Nat → Nat → Int} {ah : Nat → Option Int} {S : Nat → Nat → Prop} {fo : Nat → Option Int} (h : Best co ah S fo) {s m : Nat} {v c : Int} (hv : ah s = some v) (hc : fo m = some c) (hb : c ≤ v + co s m) : Best co ah (fun i j => S i j ∨ (i = s ∧ j = m)) fo := by
  refine ⟨fun j c hc => ?_, fun i j c' h1 h2 => ?_⟩
  · obtain ⟨i, c', g1, g2⟩ := h.a j c hc
    exact ⟨i, c', .inl g1, g2⟩
  · rcases h1 with h1 | ⟨h1, h3⟩
    · exact h.b i j c' h1 h2
    · subst h1
      subst h3
      rw [hv] at h2
      cases h2
      exact ⟨c, hc, hb⟩
/-- rows that part the first j, with their cost -/
inductive RowsOf {α : Type} (co : Nat → Nat → Int) (S : Nat → Nat → Prop) (row : Nat → Nat → α) : Nat → Nat → Int → List α → Prop where
  | nil : RowsOf co S row 0 0 0 []
  | snoc {k i j : Nat} {c : Int} {rs : List α} : RowsOf co S row k i c rs → S i j → RowsOf co S row (k + 1) j (c + co i j) (rs ++ [row i j])
def lev0 : Nat → Option Int := fun j => if j = 0 then some 0 else none
/-- levels: each the best beyond the one before -/
structure Levels (co : Nat → Nat → Int) (S : Nat → Nat → Prop) (m : Nat) (lev : Nat → Nat → Option Int) : Prop where
  zero : lev 0 = lev0
  next : ∀ k, k < m → Best co (lev k) S (lev (k + 1))
theorem Levels.sound {α : Type} {co : Nat → Nat → Int} {S : Nat → Nat → Prop} {row : Nat → Nat → α} {m : Nat} {lev : Nat → Nat → Option Int} (h : Levels co S m lev) : ∀ {k j : Nat} {c : Int}, k ≤ m → lev k j = some c → ∃ rs : List α, RowsOf co S row k j c rs
  | 0, j, c, _, hc => by
    rw [h.zero] at hc
    unfold lev0 at hc
    by_cases z : j = 0
    · rw [if_pos z] at hc
      cases hc
      subst z
      exact ⟨[], .nil⟩
    · rw [if_neg z] at hc
      cases hc
  | k + 1, j, c, hk, hc => by
    obtain ⟨i, c', h1, h2, rfl⟩ := (h.next k (by omega)).a j c hc
    obtain ⟨rs, hr⟩ := Levels.sound h (by omega) h2
    exact ⟨_, .snoc hr h1⟩
theorem Levels.least {α : Type} {co : Nat → Nat → Int} {S : Nat → Nat → Prop} {row : Nat → Nat → α} {m : Nat} {lev : Nat → Nat → Option Int} (h : Levels co S m lev) {k j : Nat} {c : Int} {rs : List α} (hk : k ≤ m) (hr : RowsOf co S row k j c rs) : ∃ c0, lev k j = some c0 ∧ c0 ≤ c := by
  induction hr with
  | nil => exact ⟨0, by rw [h.zero]; rfl, Int.le_refl _⟩
  | @snoc k i j c rs hr hs ih =>
    obtain ⟨c0, h1, h2⟩ := ih (by omega)
    obtain ⟨c1, h3, h4⟩ := (h.next k (by omega)).b i j c0 hs h1
    exact ⟨c1, h3, by omega⟩
/-- one step back from a level -/
theorem Levels.back {co : Nat → Nat → Int} {S : Nat → Nat → Prop} {m : Nat} {lev : Nat → Nat → Option Int} (h : Levels co S m lev) {k j : Nat} {c : Int} (hk : k < m) (hc : lev (k + 1) j = some c) : ∃ i c', S i j ∧ lev k i = some c' ∧ c' + co i j = c := by
  obtain ⟨i, c', h1, h2, h3⟩ := (h.next k hk).a j c hc
  exact ⟨i, c', h1, h2, h3.symm⟩
theorem RowsOf.len {α : Type} {co : Nat → Nat → Int} {S : Nat → Nat → Prop} {row : Nat → Nat → α} {k j : Nat} {c : Int} {rs : List α} (h : RowsOf co S row k j c rs) : rs.length = k := by
  induction h with
  | nil => rfl
  | snoc _ _ ih => simp [ih]

/-! a sign of a text -/
theorem ix_str {s : Tx} {i : Int} (Q : Nat → Prop) {P : D → Prop} {E : Exc → Prop} (hi : 0 ≤ i ∧ i < s.length) (hQ : ∀ c ∈ s, Q c) (h : ∀ c, Q c → P (.str [c])) : (ixD (.str s) (.int i)).wp P E := by
  obtain ⟨c, h1, h2⟩ := atI_in (ds := s) hi.1 hi.2
  rw [wp_ixX]
  exact ⟨c, h1, h c (hQ c (List.mem_of_getElem? h2))⟩
theorem ix_last {s : Tx} {c : Nat} {P : D → Prop} {E : Exc → Prop} (h : P (.str [c])) : (ixD (.str (s ++ [c])) (.int (-1))).wp P E := by
  rw [wp_ixX]
  refine ⟨c, ?_, h⟩
  unfold atI ixN
  rw [if_neg (by omega), if_pos (by simp; omega)]
  show (s ++ [c])[(-1 + ((s ++ [c]).length : Int)).toNat]? = some c
  rw [show (-1 + ((s ++ [c]).length : Int)).toNat = s.length by simp; omega]
  simp
theorem ix_lastN {s : Tx} {c : Nat} {i : Int} {P : D → Prop} {E : Exc → Prop} (hi : i = s.length) (h : P (.str [c])) : (ixD (.str (s ++ [c])) (.int i)).wp P E := by
  subst hi
  rw [wp_ixX]
  exact ⟨c, atI_nat (j := s.length) (by simp), h⟩
theorem last_of {s : Tx} (h : s ≠ []) : ∃ t c, s = t ++ [c] := ⟨s.dropLast, s.getLast h, (List.dropLast_concat_getLast h).symm⟩

/-! texts glued by one sign, and split again -/
def Jn (c : Nat) : List Tx → Tx
  | [] => []
  | [w] => w
  | w :: v :: r => w ++ c :: Jn c (v :: r)
theorem Jn_cons (c : Nat) (w : Tx) {r : List Tx} (h : r ≠ []) : Jn c (w :: r) = w ++ c :: Jn c r := by
  cases r with
  | nil => exact absurd rfl h
  | cons v r => rfl
theorem Jn_app (c : Nat) : ∀ {a b : List Tx}, a ≠ [] → b ≠ [] → Jn c (a ++ b) = Jn c a ++ c :: Jn c b
  | [], _, h, _ => absurd rfl h
  | [w], b, _, hb => Jn_cons c w hb
  | w :: v :: r, b, _, hb => by
    have ih := Jn_app c (a := v :: r) (b := b) (by simp) hb
    rw [List.cons_append, Jn_cons c w (by simp), ih, Jn_cons c w (by simp)]
    simp
theorem fold_glue (c : Nat) : ∀ (r : List Tx) (a : Tx), r.foldl (fun a p => a ++ [c] ++ p) a = match r with | [] => a | _ => a ++ c :: Jn c r
  | [], a => rfl
  | [w], a => by simp [Jn]
  | w :: v :: r, a => by
    have ih := fold_glue c (v :: r) (a ++ [c] ++ w)
    rw [List.foldl_cons, ih, Jn_cons c w (by simp)]
    simp
theorem join_Jn (c : Nat) (ws : List Tx) : joinL [c] ws = Jn c ws := by
  cases ws with
  | nil => rfl
  | cons w r =>
    show r.foldl _ w = _
    rw [fold_glue]
    cases r <;> rfl
theorem Jn_len (c : Nat) : ∀ {ws : List Tx}, ws ≠ [] → (Jn c ws).length + 1 = (ws.map List.length).sum + ws.length
  | [], h => absurd rfl h
  | [w], _ => by simp [Jn]
  | w :: v :: r, _ => by
    have ih := Jn_len c (ws := v :: r) (by simp)
    rw [Jn_cons c w (by simp)]
    simp only [List.length_append, List.length_cons, List.map_cons, List.sum_cons] at ih ⊢
    omega
theorem Jn_le (c : Nat) (ws : List Tx) : (Jn c ws).length ≤ (ws.map List.length).sum + ws.length ∧ (ws.map List.length).sum + ws.length ≤ (Jn c ws).length + 1 := by
  cases ws with
  | nil => simp [Jn]
  | cons w r =>
    have := Jn_len c (ws := w :: r) (by simp)
    omega
theorem split_Jn (c : Nat) : ∀ {ws : List Tx}, ws ≠ [] → (∀ w ∈ ws, c ∉ w) → splitL c (Jn c ws) = ws
  | [], h, _ => absurd rfl h
  | [w], _, h => splitL_none c (h w (by simp))
  | w :: v :: r, _, h => by
    rw [Jn_cons c w (by simp), splitL_app c (h w (by simp)), split_Jn c (by simp) fun x hx => h x (List.mem_cons_of_mem _ hx)]
theorem splitL_len (c : Nat) : ∀ (s : Tx), ∀ p ∈ splitL c s, p.length ≤ s.length
  | [], p, h => by simp [splitL] at h; simp [h]
  | a :: r, p, h => by
    have ih := splitL_len c r
    rw [splitL_cons] at h
    split at h
    · rcases List.mem_cons.mp h with rfl | h
      · simp
      · have := ih p h; simp; omega
    · obtain ⟨q, qs, e⟩ := splitL_ne c r
      rw [e] at h ih
      rcases List.mem_cons.mp h with rfl | h
      · have := ih q (by simp); simp; omega
      · have := ih p (List.mem_cons_of_mem _ h); simp; omega
theorem split_ok {s : Tx} {c : Nat} {P : D → Prop} {E : Exc → Prop} (hc : c < 256) (hl : s.length ≤ szT) (q : P (.lst ((splitL c s).map D.str))) : (splitD (.str s) (.str [c])).wp P E := by
  unfold splitD
  rw [wp_guard, wp_ok, split_one c hc]
  refine ⟨?_, ?_⟩
  · rw [Bool.and_eq_true, Bool.and_eq_true, List.all_eq_true]
    refine ⟨⟨rfl, decide_eq_true hl⟩, fun y hy => ?_⟩
    obtain ⟨p, hp, rfl⟩ := List.mem_map.mp hy
    rw [tx_len]
    exact decide_eq_true (Nat.le_trans (splitL_len c s p hp) hl)
  · rw [List.map_map, show ((fun y => D.str (cs y)) ∘ tx) = D.str from funext fun p => by show D.str (cs (tx p)) = _; rw [cs_tx]]
    exact q
theorem jn_ok {c : Nat} {ws : List Tx} {P : D → Prop} {E : Exc → Prop} (hl : (Jn c ws).length ≤ 400000) (hw : ws.length ≤ 400000) (q : P (.str (Jn c ws))) : (joinD (.str [c]) (.lst (ws.map D.str))).wp P E := by
  have h := Jn_le c ws
  refine join_ok (ts := ws) rfl (by show _ ≤ 1000000; simp only [List.length_singleton]; omega) (by rw [join_Jn]; show _ ≤ 1000000; omega) ?_
  rw [join_Jn]
  exact q
theorem Jn_last (c : Nat) : ∀ {ws : List Tx} {t : Tx} {x : Nat}, ws.getLast? = some (t ++ [x]) → ∃ u, Jn c ws = u ++ [x]
  | [], t, x, h => by simp at h
  | [w], t, x, h => by simp at h; exact ⟨t, h⟩
  | w :: v :: r, t, x, h => by
    obtain ⟨u, e⟩ := Jn_last c (ws := v :: r) (t := t) (x := x) (by rw [List.getLast?_cons_cons] at h; exact h)
    rw [Jn_cons c w (by simp), e]
    exact ⟨w ++ c :: u, by simp⟩
theorem cut_to {α : Type} {xs : List α} {k : Nat} (h : k ≤ xs.length) : cut xs none (some (k : Int)) = xs.take k := by
  unfold cut
  rw [HT.sIx_nat, HT.sIx_none, Nat.min_eq_left h, List.drop_zero, Nat.sub_zero]
theorem cut_from {α : Type} {xs : List α} {k : Nat} (h : k ≤ xs.length) : cut xs (some (k : Int)) none = xs.drop k := by
  unfold cut
  rw [HT.sIx_nat, HT.sIx_none, Nat.min_eq_left h, List.take_of_length_le (by rw [List.length_drop]; exact Nat.le_refl _)]
theorem cut_two {α : Type} {xs : List α} {i k : Nat} (h : k ≤ xs.length) (hi : i ≤ k) : cut xs (some (i : Int)) (some (k : Int)) = (xs.take k).drop i := by
  unfold cut
  rw [HT.sIx_nat, HT.sIx_nat, Nat.min_eq_left h, Nat.min_eq_left (by omega), List.take_drop, Nat.add_sub_cancel' hi]

--USES c_last c_join
/-! the break behind a row; both sides of words -/
def brkC (c : Nat) : Int := if c ∈ [46, 33, 63] then 0 else if c ∈ [44, 59, 58] then 50 else 200
theorem brkC_le (c : Nat) : 0 ≤ brkC c ∧ brkC c ≤ 200 := by unfold brkC; split <;> (try split) <;> omega
theorem brk_ok (t : Tx) (c : Nat) (P : D → Prop) (E : Exc → Prop) (q : P (.int (brkC c))) : (m_break_price [.str (t ++ [c])]).wp P E := by
  unfold m_break_price b_break_price
  unfold brkC at q
  walk_at "go"
  refine ix_last ?_
  walk_at "go"
  by_cases h1 : c ∈ [46, 33, 63]
  · rw [if_pos h1] at q
    rw [if_pos h1]
    exact q
  · rw [if_neg h1] at q
    rw [if_neg h1]
    walk_at "go"
    refine ix_last ?_
    walk_at "go"
    by_cases h2 : c ∈ [44, 59, 58]
    · rw [if_pos h2] at q
      rw [if_pos h2]
      exact q
    · rw [if_neg h2] at q
      rw [if_neg h2]
      walk_at "go"
      exact q


--USES c_join c_isw
def WS (ws : List Tx) : Prop := ws ≠ [] ∧ (∀ w ∈ ws, 32 ∉ w) ∧ (∀ w ∈ ws, w ≠ []) ∧ (Jn 32 ws).length ≤ 10000
theorem WS.n {ws : List Tx} (h : WS ws) : ws.length ≤ 10000 := by
  have h1 := Jn_le 32 ws
  have h2 := h.2.2.2
  have h3 := Jn_len 32 h.1
  have : ∀ l : List Tx, (∀ w ∈ l, w ≠ []) → l.length ≤ (l.map List.length).sum := fun l => by
    induction l with
    | nil => intro _; simp
    | cons a r ih =>
      intro hh
      have := ih fun w hw => hh w (List.mem_cons_of_mem _ hw)
      have h0 : 0 < a.length := List.length_pos_iff.mpr (hh a (by simp))
      simp only [List.map_cons, List.sum_cons, List.length_cons]
      omega
  have := this ws h.2.2.1
  omega
theorem Jn_take (ws : List Tx) (n : Nat) : (Jn 32 (ws.take n)).length ≤ (Jn 32 ws).length ∧ (Jn 32 (ws.drop n)).length ≤ (Jn 32 ws).length := by
  by_cases h1 : ws.take n = []
  · rw [h1]
    have : ws.drop n = ws := by
      rcases List.take_eq_nil_iff.mp h1 with rfl | rfl
      · simp
      · simp
    rw [this]
    exact ⟨by simp [Jn], Nat.le_refl _⟩
  · by_cases h2 : ws.drop n = []
    · rw [h2]
      rw [List.drop_eq_nil_iff] at h2
      rw [List.take_of_length_le h2]
      exact ⟨Nat.le_refl _, by simp [Jn]⟩
    · have := congrArg List.length (Jn_app 32 h1 h2)
      rw [List.take_append_drop] at this
      simp at this
      omega
/-! whole numbers in a list: the least one, and being in it -/
theorem inI_ok (i : Int) (ns : List Int) {neg : Bool} {P : Bool → Prop} {E : Exc → Prop} (h : P (if neg = true then !decide (i ∈ ns) else decide (i ∈ ns))) : (inO neg (.int i) (.lst (ns.map D.int))).wp P E := by
  have e : inV (fv (.int i)) ((ns.map D.int).map fv) = decide (i ∈ ns) := by
    unfold inV
    rw [List.map_map, List.any_map]
    clear h
    induction ns with
    | nil => rfl
    | cons n r ih =>
      rw [List.any_cons, ih]
      show (decide (n = i) || _) = _
      by_cases h : n = i
      · subst h; simp
      · simp [h, show i ≠ n from fun z => h z.symm]
  have f : ((ns.map D.int).all flatD) = true := by
    rw [List.all_eq_true]
    intro d hd
    obtain ⟨n, _, rfl⟩ := List.mem_map.mp hd
    rfl
  show R.wp (if (flatD (.int i) && (ns.map D.int).all flatD) = true then _ else _) P E
  rw [if_pos (by rw [f]; rfl)]
  rw [e]
  exact h
theorem min_ok {ns : List Int} {m : Int} {P : D → Prop} {E : Exc → Prop} (hm : m ∈ ns) (hle : ∀ y, y ∈ ns → m ≤ y) (q : P (.int m)) : (minI (.lst (ns.map D.int))).wp P E := by
  unfold minI intsL
  cases e : minOf ns with
  | none => cases ns with
    | nil => cases hm
    | cons _ _ => cases e
  | some n =>
    have := minOf_is e hm hle
    subst this
    simp only [intsOf_map, e]
    exact q
theorem minD_ok {ns : List Int} {m : Int} {P : D → Prop} {E : Exc → Prop} (hm : m ∈ ns) (hle : ∀ y, y ∈ ns → m ≤ y) (q : P (.int m)) : (minD [.lst (ns.map D.int)]).wp P E := min_ok hm hle q
theorem ix_ints {ns : List Int} {i v : Int} {j : Nat} {P : D → Prop} {E : Exc → Prop} (hi : i = (j : Int)) (h : ns[j]? = some v) (q : P (.int v)) : (ixD (.lst (ns.map D.int)) (.int i)).wp P E := by
  subst hi
  have hl := (List.getElem?_eq_some_iff.mp h).1
  refine ix_at (by rw [List.length_map]; omega) fun d hd => ?_
  rw [show ((j : Int)).toNat = j by omega, List.getElem?_map, h] at hd
  cases hd
  exact q
theorem inB_ok {ds : List D} (hd : ∀ d ∈ ds, d = .bl false) {P : Bool → Prop} {E : Exc → Prop} (h : P false) : (inO false (.bl true) (.lst ds)).wp P E := by
  have e : inV (fv (.bl true)) (ds.map fv) = false := by
    unfold inV
    rw [List.any_eq_false]
    intro v hv
    obtain ⟨d, hd', rfl⟩ := List.mem_map.mp hv
    rw [hd d hd']
    decide
  have f : ds.all flatD = true := by
    rw [List.all_eq_true]
    intro d hd'
    rw [hd d hd']
    rfl
  show R.wp (if (flatD (.bl true) && ds.all flatD) = true then _ else _) P E
  rw [if_pos (by rw [f]; rfl)]
  rw [e]
  exact h

--USES c_mem
/-! rules, and what is wanting -/
structure Ru where
  a : Nat
  b : Nat
  l : Int
  w : Option Int
  y : D
def wD : Option Int → D
  | none => .non
  | some w => .int w
def ruD (r : Ru) : D := .tup [.int r.a, .int r.b, .int r.l, wD r.w, r.y]
def RL (rs : List Ru) : List D := rs.map ruD
theorem rl_len (rs : List Ru) : (RL rs).length = rs.length := List.length_map ..
def lk (ts : List Int) (r : Ru) : Int := r.l - (ts.getD r.b 0 - ts.getD r.a 0)
/-- points within, and least, moments and weight of no great size -/
structure RuOk (n : Nat) (B : Int) (r : Ru) : Prop where
  a : r.a < n
  b : r.b < n
  l : -B ≤ r.l ∧ r.l ≤ B
  w : ∀ w, r.w = some w → 0 ≤ w ∧ w ≤ B
def TsOk (n : Nat) (B : Int) (ts : List Int) : Prop := ts.length = n ∧ ∀ t ∈ ts, -B ≤ t ∧ t ≤ B
theorem TsOk.at {n : Nat} {B : Int} {ts : List Int} (h : TsOk n B ts) {i : Nat} (hi : i < n) : ts[i]? = some (ts.getD i 0) ∧ -B ≤ ts.getD i 0 ∧ ts.getD i 0 ≤ B := by
  have hi' : i < ts.length := by rw [h.1]; exact hi
  have e : ts.getD i 0 = ts[i] := by simp [List.getD, List.getElem?_eq_getElem hi']
  rw [e]
  exact ⟨List.getElem?_eq_getElem hi', h.2 _ (List.getElem_mem ..)⟩
theorem lk_le {n : Nat} {B C : Int} {ts : List Int} {r : Ru} (h : TsOk n B ts) (hr : RuOk n C r) : -(2 * B + C) ≤ lk ts r ∧ lk ts r ≤ 2 * B + C := by
  have h1 := h.at hr.a
  have h2 := h.at hr.b
  have h3 := hr.l
  unfold lk
  omega
def bkOf (ts : List Int) (i : Nat) (r : Ru) : List Int := if r.w = none ∧ 0 < lk ts r then [(i : Int)] else []
def bkL (ts : List Int) (rs : List Ru) : List Int := (rs.mapIdx (bkOf ts)).flatten
theorem bkL_snoc (ts : List Int) (rs : List Ru) (r : Ru) : bkL ts (rs ++ [r]) = bkL ts rs ++ bkOf ts rs.length r := by
  unfold bkL
  rw [List.mapIdx_append, List.flatten_append]
  simp
def prOf (ts : List Int) (r : Ru) : Int := match r.w with
  | none => 0
  | some w => w * max2 0 (lk ts r)
def prL (ts : List Int) (rs : List Ru) : Int := (rs.map (prOf ts)).sum
theorem prL_snoc (ts : List Int) (rs : List Ru) (r : Ru) : prL ts (rs ++ [r]) = prL ts rs + prOf ts r := by
  unfold prL
  simp
theorem flat_len {α β : Type} : ∀ (xs : List α) (f : Nat → α → List β), (∀ i x, (f i x).length ≤ 1) → (xs.mapIdx f).flatten.length ≤ xs.length
  | [], _, _ => Nat.le_refl _
  | x :: xs, f, h => by
    have := flat_len xs (fun i => f (i + 1)) fun i y => h _ y
    have h0 := h 0 x
    rw [List.mapIdx_cons, List.flatten_cons, List.length_append, List.length_cons]
    omega
theorem bkL_len (ts : List Int) (rs : List Ru) : (bkL ts rs).length ≤ rs.length := flat_len rs _ fun i x => by unfold bkOf; split <;> simp
theorem ix_mom {ts : List Int} {n i : Nat} {B : Int} (h : TsOk n B ts) (hi : i < n) (P : D → Prop) (E : Exc → Prop) (q : P (.int (ts.getD i 0))) : (ixD (.lst (ts.map D.int)) (.int i)).wp P E := ix_ints rfl (h.at hi).1 q
theorem prOf_neg {ts : List Int} {r : Ru} (h : ¬ 0 < lk ts r) : prOf ts r = 0 := by
  unfold prOf max2
  cases r.w <;> simp [h]
theorem prOf_none {ts : List Int} {r : Ru} (h : r.w = none) : prOf ts r = 0 := by unfold prOf; rw [h]
theorem prOf_pos {ts : List Int} {r : Ru} {w : Int} (h : r.w = some w) (h2 : 0 < lk ts r) : prOf ts r = w * lk ts r := by unfold prOf max2; rw [h]; simp [h2]
theorem bkOf_neg {ts : List Int} {i : Nat} {r : Ru} (h : ¬ 0 < lk ts r) : bkOf ts i r = [] := by unfold bkOf; simp [h]
theorem bkOf_some {ts : List Int} {i : Nat} {r : Ru} {w : Int} (h : r.w = some w) : bkOf ts i r = [] := by unfold bkOf; simp [h]
theorem bkOf_pos {ts : List Int} {i : Nat} {r : Ru} (h : r.w = none) (h2 : 0 < lk ts r) : bkOf ts i r = [(i : Int)] := by unfold bkOf; simp [h, h2]

--USES c_ruled
--USES c_rule
/-! rings of rules -/
/-- the point ahead -/
def pb (qs : List Ru) (i : Nat) : Option Nat := (qs[if i = 0 then qs.length - 1 else i - 1]?).map (·.b)
def ringP (qs : List Ru) : Prop := (∀ (i : Nat) (r : Ru), qs[i]? = some r → r.w = none ∧ pb qs i = some r.a ∧ r.a ∉ (qs.take i).map (·.a)) ∧ 0 < (qs.map (·.l)).sum
open Classical in
noncomputable def ringB (qs : List Ru) : Bool := decide (ringP qs)
open Classical in
theorem ringB_no {qs : List Ru} {i : Nat} {r : Ru} (h : qs[i]? = some r) (hn : r.w ≠ none ∨ pb qs i ≠ some r.a ∨ r.a ∈ (qs.take i).map (·.a)) : ringB qs = false := by
  unfold ringB
  refine decide_eq_false fun z => ?_
  have := z.1 i r h
  rcases hn with hn | hn | hn
  · exact hn this.1
  · exact hn this.2.1
  · exact this.2.2 hn
open Classical in
theorem ringB_yes {qs : List Ru} (h : ∀ (i : Nat) (r : Ru), qs[i]? = some r → r.w = none ∧ pb qs i = some r.a ∧ r.a ∉ (qs.take i).map (·.a)) : ringB qs = decide (0 < (qs.map (·.l)).sum) := by
  unfold ringB
  by_cases z : 0 < (qs.map (·.l)).sum
  · rw [decide_eq_true z]
    exact decide_eq_true ⟨h, z⟩
  · rw [decide_eq_false z]
    exact decide_eq_false fun x => z x.2
/-- the rules of some numbers -/
def pick (rs : List Ru) (ks : List Nat) : List Ru := ks.filterMap (fun k : Nat => rs[k]?)
theorem pick_at {rs : List Ru} : ∀ {ks : List Nat}, (∀ k ∈ ks, k < rs.length) → ∀ i : Nat, (pick rs ks)[i]? = (ks[i]?).bind (fun k : Nat => rs[k]?)
  | [], _, i => by simp [pick]
  | k :: ks, h, i => by
    have hk := List.getElem?_eq_getElem (h k (List.mem_cons_self ..))
    have ih := pick_at (ks := ks) (fun x hx => h x (List.mem_cons_of_mem _ hx))
    have e : pick rs (k :: ks) = rs[k]'(h k (List.mem_cons_self ..)) :: pick rs ks := by
      unfold pick
      rw [List.filterMap_cons, hk]
    rw [e]
    cases i with
    | zero => simp [hk]
    | succ i => simp only [List.getElem?_cons_succ]; exact ih i
theorem pick_len {rs : List Ru} : ∀ {ks : List Nat}, (∀ k ∈ ks, k < rs.length) → (pick rs ks).length = ks.length
  | [], _ => rfl
  | k :: ks, h => by
    have hk := List.getElem?_eq_getElem (h k (List.mem_cons_self ..))
    have ih := pick_len (ks := ks) (fun x hx => h x (List.mem_cons_of_mem _ hx))
    have e : pick rs (k :: ks) = rs[k]'(h k (List.mem_cons_self ..)) :: pick rs ks := by
      unfold pick
      rw [List.filterMap_cons, hk]
    rw [e, List.length_cons, List.length_cons, ih]

--USES c_chain c_ringp
/-! keeping: what is known of times, parents and rounds -/
def upd {α : Type} (f : Nat → α) (b : Nat) (v : α) : Nat → α := fun y => if y = b then v else f y
theorem upd_at {α : Type} (f : Nat → α) (b : Nat) (v : α) : upd f b v b = v := if_pos rfl
theorem upd_ne {α : Type} {f : Nat → α} {b : Nat} {v : α} {y : Nat} (h : y ≠ b) : upd f b v y = f y := if_neg h
def parO (rs : List Ru) (L : Nat → Option Nat) (y : Nat) : Nat := match L y with
  | some k => (match rs[k]? with
    | some r => r.a
    | none => y)
  | none => y
def needO (rs : List Ru) (L : Nat → Option Nat) (y : Nat) : Int := match L y with
  | some k => (match rs[k]? with
    | some r => r.l
    | none => 0)
  | none => 0
theorem par_of {rs : List Ru} {L : Nat → Option Nat} {y k : Nat} {r : Ru} (h : L y = some k) (hr : rs[k]? = some r) : parO rs L y = r.a ∧ needO rs L y = r.l := by
  unfold parO needO
  rw [h]
  simp only [hr]
  exact ⟨trivial, trivial⟩
structure KI (rs : List Ru) (n : Nat) (T : Nat → Int) (L : Nat → Option Nat) (R : Nat → Nat) : Prop where
  par : ∀ v, v < n → ∀ k, L v = some k → ∃ r, rs[k]? = some r ∧ r.w = none ∧ r.b = v ∧ r.a < n ∧ T v ≤ T r.a + r.l
  rnd : ∀ v, v < n → 1 ≤ R v → ∃ k r, L v = some k ∧ rs[k]? = some r ∧ R v ≤ R r.a + 1
  pos : ∀ v, v < n → ∀ d, 1 ≤ d → (∀ j, j < d → L (It (parO rs L) j v) ≠ none) → It (parO rs L) d v = v → 0 < Ws (parO rs L) (needO rs L) d v
theorem KI.start (rs : List Ru) (n : Nat) : KI rs n (fun _ => 0) (fun _ => none) (fun _ => 0) :=
  ⟨fun _ _ _ h => (by cases h), fun _ _ h => absurd h (by decide), fun v _ d hd h => absurd rfl (h 0 (by omega))⟩
theorem KI.raise {rs : List Ru} {n : Nat} {T : Nat → Int} {L : Nat → Option Nat} {R : Nat → Nat} (h : KI rs n T L R) {k t : Nat} {r : Ru} (hr : rs[k]? = some r) (hw : r.w = none) (ha : r.a < n) (hlt : T r.b < T r.a + r.l) (ht : t ≤ R r.a) (hR : ∀ v, R v ≤ t + 1) : KI rs n (upd T r.b (T r.a + r.l)) (upd L r.b (some k)) (upd R r.b (t + 1)) := by
  have Rle : ∀ y, R y ≤ upd R r.b (t + 1) y := fun y => by
    by_cases z : y = r.b
    · rw [z, upd_at]; exact hR _
    · rw [upd_ne z]; exact Nat.le_refl _
  have Tle : ∀ y, T y ≤ upd T r.b (T r.a + r.l) y := fun y => by
    by_cases z : y = r.b
    · rw [z, upd_at]; omega
    · rw [upd_ne z]; exact Int.le_refl _
  have pb := par_of (rs := rs) (L := upd L r.b (some k)) (y := r.b) (upd_at ..) hr
  have pn : ∀ y, y ≠ r.b → parO rs (upd L r.b (some k)) y = parO rs L y := fun y hy => by unfold parO; rw [upd_ne hy]
  have nn : ∀ y, y ≠ r.b → needO rs (upd L r.b (some k)) y = needO rs L y := fun y hy => by unfold needO; rw [upd_ne hy]
  refine ⟨fun v hv k' hk => ?_, fun v hv h1 => ?_, fun v hv d hd hok hc => ?_⟩
  · by_cases z : v = r.b
    · subst z
      rw [upd_at] at hk
      cases hk
      refine ⟨r, hr, hw, rfl, ha, ?_⟩
      rw [upd_at]
      have := Tle r.a
      omega
    · rw [upd_ne z] at hk
      obtain ⟨r', h1, h2, h3, h4, h5⟩ := h.par v hv k' hk
      refine ⟨r', h1, h2, h3, h4, ?_⟩
      rw [upd_ne z]
      have := Tle r'.a
      omega
  · by_cases z : v = r.b
    · subst z
      refine ⟨k, r, upd_at .., hr, ?_⟩
      rw [upd_at]
      have := Rle r.a
      omega
    · rw [upd_ne z] at h1
      obtain ⟨k', r', g1, g2, g3⟩ := h.rnd v hv h1
      refine ⟨k', r', by rw [upd_ne z]; exact g1, g2, ?_⟩
      rw [upd_ne z]
      have := Rle r'.a
      omega
  · have lt : ∀ m, m ≤ d → It (parO rs (upd L r.b (some k))) m v < n := fun m => by
      induction m with
      | zero => intro _; exact hv
      | succ m ih =>
        intro hm
        have i1 := ih (by omega)
        have i2 := hok m (by omega)
        show parO rs (upd L r.b (some k)) (It (parO rs (upd L r.b (some k))) m v) < n
        generalize It (parO rs (upd L r.b (some k))) m v = y at i1 i2 ⊢
        by_cases z : y = r.b
        · subst z; rw [pb.1]; exact ha
        · rw [upd_ne z] at i2
          rw [pn y z]
          obtain ⟨k', hk'⟩ := Option.ne_none_iff_exists'.mp i2
          obtain ⟨r', g1, _, _, g4, _⟩ := h.par y i1 k' hk'
          rw [(par_of hk' g1).1]
          exact g4
    by_cases hz : ∃ j, j < d ∧ It (parO rs (upd L r.b (some k))) j v = r.b
    · have step : ∀ j, j < d → T (It (parO rs (upd L r.b (some k))) j v) ≤ T (It (parO rs (upd L r.b (some k))) (j + 1) v) + needO rs (upd L r.b (some k)) (It (parO rs (upd L r.b (some k))) j v) ∧
          (It (parO rs (upd L r.b (some k))) j v = r.b → T (It (parO rs (upd L r.b (some k))) j v) < T (It (parO rs (upd L r.b (some k))) (j + 1) v) + needO rs (upd L r.b (some k)) (It (parO rs (upd L r.b (some k))) j v)) := fun j hj => by
        have i1 := lt j (by omega)
        have i2 := hok j hj
        show _ ≤ T (parO rs (upd L r.b (some k)) (It (parO rs (upd L r.b (some k))) j v)) + _ ∧ (_ → _ < T (parO rs (upd L r.b (some k)) (It (parO rs (upd L r.b (some k))) j v)) + _)
        generalize It (parO rs (upd L r.b (some k))) j v = y at i1 i2 ⊢
        by_cases z : y = r.b
        · subst z
          rw [pb.1, pb.2]
          exact ⟨by omega, fun _ => hlt⟩
        · rw [upd_ne z] at i2
          rw [pn y z, nn y z]
          obtain ⟨k', hk'⟩ := Option.ne_none_iff_exists'.mp i2
          obtain ⟨r', g1, _, _, _, g5⟩ := h.par y i1 k' hk'
          rw [(par_of hk' g1).1, (par_of hk' g1).2]
          exact ⟨g5, fun e => absurd e z⟩
      obtain ⟨j, hj, ej⟩ := hz
      have := (Ws_pot (T := T) (g := needO rs (upd L r.b (some k))) d fun j hj => (step j hj).1).2 ⟨j, hj, (step j hj).2 ej⟩
      rw [hc] at this
      omega
    · have hz : ∀ j, j < d → It (parO rs (upd L r.b (some k))) j v ≠ r.b := fun j hj e => hz ⟨j, hj, e⟩
      rw [Ws_same pn nn d hz]
      refine h.pos v hv d hd (fun j hj => ?_) ?_
      · have := hok j hj
        rw [It_same pn j fun i hi => hz i (by omega)] at this
        rwa [upd_ne (by rw [← It_same pn j fun i hi => hz i (by omega)]; exact hz j hj)] at this
      · rw [← It_same pn d hz]
        exact hc
def cnd (rs : List Ru) (T : Nat → Int) (R : Nat → Nat) (p k : Nat) : Prop := ∀ r, rs[k]? = some r → T r.a + r.l ≤ T r.b ∨ p ≤ R r.a
/-- amid a round -/
structure RI (rs : List Ru) (must dn : List Nat) (n t : Nat) (T : Nat → Int) (L : Nat → Option Nat) (R : Nat → Nat) (ra : Option Nat) : Prop where
  ki : KI rs n T L R
  le : ∀ v, R v ≤ t + 1
  done : ∀ k ∈ dn, cnd rs T R (t + 1) k
  all : ∀ k ∈ must, cnd rs T R t k
  no : ra = none → ∀ k ∈ dn, ∀ r, rs[k]? = some r → T r.a + r.l ≤ T r.b
  so : ∀ v, ra = some v → v < n ∧ R v = t + 1
  bd : ∀ v, v < n → 0 ≤ T v ∧ T v ≤ 10 ^ 19 * ((1000 * t + dn.length : Nat) : Int)
theorem RI.start (rs : List Ru) (must : List Nat) (n : Nat) : RI rs must [] n 0 (fun _ => 0) (fun _ => none) (fun _ => 0) none :=
  ⟨KI.start rs n, fun _ => Nat.zero_le _, (fun k h => (by cases h)), fun _ _ _ _ => .inr (Nat.zero_le _), fun _ k h => (by cases h), fun _ h => (by cases h), fun _ _ => (by simp)⟩
theorem RI.stay {rs : List Ru} {must dn : List Nat} {n t : Nat} {T : Nat → Int} {L : Nat → Option Nat} {R : Nat → Nat} {ra : Option Nat} (h : RI rs must dn n t T L R ra) {k : Nat} {r : Ru} (hr : rs[k]? = some r) (hle : ¬ T r.b < T r.a + r.l) : RI rs must (dn ++ [k]) n t T L R ra := by
  refine ⟨h.ki, h.le, fun k' hk => ?_, h.all, fun hn k' hk r' hr' => ?_, h.so, fun v hv => ?_⟩
  · rw [List.mem_append, List.mem_singleton] at hk
    rcases hk with hk | rfl
    · exact h.done k' hk
    · intro r' hr'
      rw [hr] at hr'
      cases hr'
      exact .inl (by omega)
  · rw [List.mem_append, List.mem_singleton] at hk
    rcases hk with hk | rfl
    · exact h.no hn k' hk r' hr'
    · rw [hr] at hr'
      cases hr'
      omega
  · have := h.bd v hv
    rw [List.length_append, List.length_singleton]
    omega
theorem RI.raise {rs : List Ru} {must dn : List Nat} {n t : Nat} {T : Nat → Int} {L : Nat → Option Nat} {R : Nat → Nat} {ra : Option Nat} (h : RI rs must dn n t T L R ra) {k : Nat} {r : Ru} (hk : k ∈ must) (hr : rs[k]? = some r) (hw : r.w = none) (ha : r.a < n) (hb : r.b < n) (hC : r.l ≤ 10 ^ 19) (hlt : T r.b < T r.a + r.l) : RI rs must (dn ++ [k]) n t (upd T r.b (T r.a + r.l)) (upd L r.b (some k)) (upd R r.b (t + 1)) (some r.b) := by
  have h0 : t ≤ R r.a := by
    rcases h.all k hk r hr with z | z
    · omega
    · exact z
  have up : ∀ p, p ≤ t + 1 → ∀ k', cnd rs T R p k' → cnd rs (upd T r.b (T r.a + r.l)) (upd R r.b (t + 1)) p k' := fun p hp k' hc r' hr' => by
    by_cases z : r'.a = r.b
    · right
      rw [z, upd_at]
      exact hp
    · rw [upd_ne z, upd_ne z]
      rcases hc r' hr' with hc | hc
      · left
        by_cases z2 : r'.b = r.b
        · rw [z2] at hc ⊢
          rw [upd_at]
          omega
        · rw [upd_ne z2]
          exact hc
      · exact .inr hc
  refine ⟨h.ki.raise hr hw ha hlt h0 h.le, fun v => ?_, fun k' hk' => ?_, fun k' hk' => up t (by omega) k' (h.all k' hk'), fun hn => (by cases hn), fun v hv => ?_, fun v hv => ?_⟩
  · by_cases z : v = r.b
    · rw [z, upd_at]; exact Nat.le_refl _
    · rw [upd_ne z]; exact h.le v
  · rw [List.mem_append, List.mem_singleton] at hk'
    rcases hk' with hk' | rfl
    · exact up (t + 1) (by omega) k' (h.done k' hk')
    · intro r' hr'
      rw [hr] at hr'
      cases hr'
      by_cases z : r.a = r.b
      · right
        rw [z, upd_at]
        exact Nat.le_refl _
      · left
        rw [upd_ne z, upd_at]
        exact Int.le_refl _
  · cases hv
    exact ⟨hb, upd_at ..⟩
  · have h1 := h.bd v hv
    have h2 := h.bd r.a ha
    have h3 := h.bd r.b hb
    rw [List.length_append, List.length_singleton]
    by_cases z : v = r.b
    · rw [z, upd_at]
      omega
    · rw [upd_ne z]
      omega
theorem RI.next {rs : List Ru} {must : List Nat} {n t : Nat} {T : Nat → Int} {L : Nat → Option Nat} {R : Nat → Nat} {ra : Option Nat} (h : RI rs must must n t T L R ra) (hm : must.length ≤ 1000) : RI rs must [] n (t + 1) T L R none :=
  ⟨h.ki, fun v => (by have := h.le v; omega), (fun k h => (by cases h)), h.done, fun _ k h => (by cases h), (fun _ h => (by cases h)), fun v hv => (by
    have := h.bd v hv
    rw [List.length_nil]
    omega)⟩
/-- after n rounds that raised: every way back is whole and comes round -/
theorem KI.back {rs : List Ru} {n : Nat} {T : Nat → Int} {L : Nat → Option Nat} {R : Nat → Nat} (h : KI rs n T L R) {v : Nat} (hv : v < n) (hR : n ≤ R v) : (∀ m, L (It (parO rs L) m v) ≠ none ∧ It (parO rs L) m v < n) ∧ ∃ c, 1 ≤ c ∧ c ≤ n ∧ It (parO rs L) (n + c) v = It (parO rs L) n v := by
  have hp : ∀ y, y < n → L y ≠ none → parO rs L y < n := fun y hy hn => by
    obtain ⟨k, hk⟩ := Option.ne_none_iff_exists'.mp hn
    obtain ⟨r, g1, _, _, g4, _⟩ := h.par y hy k hk
    rw [(par_of hk g1).1]
    exact g4
  have all : ∀ j, j < n → L (It (parO rs L) j v) ≠ none ∧ It (parO rs L) j v < n ∧ n ≤ R (It (parO rs L) j v) + j := fun j => by
    induction j with
    | zero =>
      intro _
      refine ⟨?_, hv, hR⟩
      obtain ⟨k, r, g1, _, _⟩ := h.rnd v hv (by omega)
      show L v ≠ none
      rw [g1]
      exact Option.some_ne_none _
    | succ j ih =>
      intro hj
      obtain ⟨i1, i2, i3⟩ := ih (by omega)
      have i4 : It (parO rs L) (j + 1) v < n := hp _ i2 i1
      obtain ⟨k, r, g1, g2, g3⟩ := h.rnd _ i2 (by omega)
      have e : It (parO rs L) (j + 1) v = r.a := (par_of g1 g2).1
      rw [e] at i4 ⊢
      obtain ⟨k', r', g1', _, _⟩ := h.rnd r.a i4 (by omega)
      exact ⟨by rw [g1']; exact Option.some_ne_none _, i4, by omega⟩
  exact chain_round (ok := fun y => L y ≠ none) hv hp fun j hj => (all j hj).1
def kO (L : Nat → Option Nat) (y : Nat) : Nat := (L y).getD 0
theorem KI.at {rs : List Ru} {n : Nat} {T : Nat → Int} {L : Nat → Option Nat} {R : Nat → Nat} (h : KI rs n T L R) {y : Nat} (hy : y < n) (hL : L y ≠ none) : L y = some (kO L y) ∧ ∃ r, rs[kO L y]? = some r ∧ r.w = none ∧ r.b = y ∧ r.a = parO rs L y ∧ r.l = needO rs L y ∧ r.a < n := by
  obtain ⟨k, hk⟩ := Option.ne_none_iff_exists'.mp hL
  obtain ⟨r, g1, g2, g3, g4, _⟩ := h.par y hy k hk
  have e : kO L y = k := by unfold kO; rw [hk]; rfl
  rw [e]
  exact ⟨hk, r, g1, g2, g3, (par_of hk g1).1.symm, (par_of hk g1).2.symm, g4⟩

--USES c_kept
/-! the ring that is met on the way back -/
def chL (rs : List Ru) (L : Nat → Option Nat) (z d : Nat) : List Nat := (List.range d).map fun i => kO L (It (parO rs L) i z)
theorem chL_snoc (rs : List Ru) (L : Nat → Option Nat) (z d : Nat) : chL rs L z (d + 1) = chL rs L z d ++ [kO L (It (parO rs L) d z)] := by
  unfold chL
  rw [List.range_succ, List.map_append]
  rfl
theorem pick_map {rs : List Ru} {f : Nat → Nat} {g : Nat → Ru} : ∀ {xs : List Nat}, (∀ x ∈ xs, rs[f x]? = some (g x)) → pick rs (xs.map f) = xs.map g
  | [], _ => rfl
  | x :: xs, h => by
    have ih := pick_map (rs := rs) (f := f) (g := g) (xs := xs) fun y hy => h y (List.mem_cons_of_mem _ hy)
    unfold pick at ih ⊢
    rw [List.map_cons, List.map_cons, List.filterMap_cons, h x (List.mem_cons_self ..), ih]
theorem Ws_sum (p : Nat → Nat) (g : Nat → Int) (z : Nat) : ∀ d, Ws p g d z = ((List.range d).map fun i => g (It p i z)).sum
  | 0 => rfl
  | d + 1 => by
    rw [List.range_succ, List.map_append, List.sum_append, ← Ws_sum p g z d]
    show Ws p g d z + g (It p d z) = _
    simp
theorem ring_got {rs : List Ru} {n : Nat} {T : Nat → Int} {L : Nat → Option Nat} {R : Nat → Nat} (h : KI rs n T L R) {z d : Nat} (hok : ∀ m, L (It (parO rs L) m z) ≠ none ∧ It (parO rs L) m z < n) (d1 : 1 ≤ d) (hc : It (parO rs L) d z = z) (hm : ∀ j, 1 ≤ j → j < d → It (parO rs L) j z ≠ z) : ringP (pick rs (chL rs L z d).reverse) ∧ ∀ k ∈ (chL rs L z d).reverse, k < rs.length := by
  have hat := fun m => (h.at (hok m).2 (hok m).1).2
  let ρ : Nat → Ru := fun i => (rs[kO L (It (parO rs L) i z)]?).getD ⟨0, 0, 0, none, .non⟩
  have hρ : ∀ i, rs[kO L (It (parO rs L) i z)]? = some (ρ i) ∧ (ρ i).w = none ∧ (ρ i).b = It (parO rs L) i z ∧ (ρ i).a = It (parO rs L) (i + 1) z ∧ (ρ i).l = needO rs L (It (parO rs L) i z) := fun i => by
    obtain ⟨r, g1, g2, g3, g4, g5, _⟩ := hat i
    have e : ρ i = r := by show (rs[kO L (It (parO rs L) i z)]?).getD _ = r; rw [g1]; rfl
    rw [e]
    exact ⟨g1, g2, g3, g4, g5⟩
  have e1 : (chL rs L z d).reverse = ((List.range d).reverse).map fun i => kO L (It (parO rs L) i z) := by unfold chL; rw [List.map_reverse]
  have e2 : pick rs (chL rs L z d).reverse = (List.range d).reverse.map ρ := by
    rw [e1]
    exact pick_map fun x _ => (hρ x).1
  have len : ((List.range d).reverse.map ρ).length = d := by simp
  have get : ∀ i, i < d → ((List.range d).reverse.map ρ)[i]? = some (ρ (d - 1 - i)) := fun i hi => by
    rw [List.getElem?_map, List.getElem?_reverse (by simp; exact hi), List.length_range, List.getElem?_range (by omega)]
    rfl
  have dist : ∀ x y, 1 ≤ x → x < y → y ≤ d → It (parO rs L) x z ≠ It (parO rs L) y z := fun x y h1 h2 h3 e => by
    have a1 := It_add (parO rs L) x z (d - y)
    have a2 := It_add (parO rs L) y z (d - y)
    rw [e, ← a2, show y + (d - y) = d by omega, hc] at a1
    exact hm (x + (d - y)) (by omega) (by omega) a1
  refine ⟨?_, fun k hk => ?_⟩
  · rw [e2]
    refine ⟨fun i r hi => ?_, ?_⟩
    · have hid : i < d := by rw [← len]; exact (List.getElem?_eq_some_iff.mp hi).1
      rw [get i hid] at hi
      cases hi
      obtain ⟨_, g2, g3, g4, _⟩ := hρ (d - 1 - i)
      refine ⟨g2, ?_, ?_⟩
      · unfold pb
        rw [len, g4]
        by_cases z0 : i = 0
        · subst z0
          rw [if_pos rfl, get (d - 1) (by omega), show d - 1 - 0 + 1 = d by omega, hc]
          show some (ρ (d - 1 - (d - 1))).b = some z
          rw [show d - 1 - (d - 1) = 0 by omega, (hρ 0).2.2.1]
          rfl
        · rw [if_neg z0, get (i - 1) (by omega)]
          show some (ρ (d - 1 - (i - 1))).b = _
          rw [(hρ _).2.2.1, show d - 1 - (i - 1) = d - 1 - i + 1 by omega]
      · intro hmem
        obtain ⟨r, hr, er⟩ := List.mem_map.mp hmem
        obtain ⟨i', hi', er'⟩ := List.mem_iff_getElem?.mp hr |>.imp fun i' hi' => (⟨(List.getElem?_eq_some_iff.mp hi').1, hi'⟩ : ∃ _ : i' < (((List.range d).reverse.map ρ).take i).length, (((List.range d).reverse.map ρ).take i)[i']? = some r)
        rw [List.length_take] at hi'
        rw [List.getElem?_take, if_pos (by omega), get i' (by omega)] at er'
        cases er'
        rw [(hρ _).2.2.2.1, g4] at er
        exact dist (d - 1 - i + 1) (d - 1 - i' + 1) (by omega) (by omega) (by omega) er.symm
    · rw [List.map_map, ← List.sum_reverse, ← List.map_reverse, List.reverse_reverse]
      have p := h.pos z (hok 0).2 d d1 (fun j _ => (hok j).1) hc
      rw [Ws_sum] at p
      have e3 : (List.range d).map ((fun x => x.l) ∘ ρ) = (List.range d).map fun i => needO rs L (It (parO rs L) i z) := List.map_congr_left fun i _ => (hρ i).2.2.2.2
      rw [e3]
      exact p
  · rw [e1] at hk
    obtain ⟨i, _, rfl⟩ := List.mem_map.mp hk
    exact (List.getElem?_eq_some_iff.mp (hρ i).1).1

--USES c_mem
/-! points taken one by one -/
def nD (i : Nat) : D := .int (i : Int)
def NL (xs : List Nat) : List D := xs.map nD
theorem nl_len (xs : List Nat) : (NL xs).length = xs.length := List.length_map ..
theorem nl_erase : ∀ (xs : List Nat) (i : Nat), (NL xs).eraseIdx i = NL (xs.eraseIdx i)
  | [], _ => rfl
  | _ :: _, 0 => rfl
  | x :: xs, i + 1 => by
    have ih := nl_erase xs i
    unfold NL at *
    rw [List.map_cons, List.eraseIdx_cons_succ, List.eraseIdx_cons_succ, ih, List.map_cons]
theorem nl_get (xs : List Nat) {i : Nat} (h : i < xs.length) : (NL xs)[i]? = some (.int (xs.getD i 0 : Nat)) := by
  unfold NL
  rw [List.getElem?_map, List.getElem?_eq_getElem h]
  simp [nD, List.getD, List.getElem?_eq_getElem h]
theorem getD_mem {xs : List Nat} {i : Nat} (h : i < xs.length) : xs.getD i 0 ∈ xs := by
  have : xs.getD i 0 = xs[i] := by simp [List.getD, List.getElem?_eq_getElem h]
  rw [this]
  exact List.getElem_mem ..
theorem ix_nl {xs : List Nat} {i : Int} {j : Nat} (hi : i = (j : Int)) (h : j < xs.length) (P : D → Prop) (E : Exc → Prop) (q : P (.int (xs.getD j 0 : Nat))) : (ixD (.lst (NL xs)) (.int i)).wp P E := by
  subst hi
  refine ix_at (by rw [nl_len]; omega) fun d hd => ?_
  rw [show ((j : Nat) : Int).toNat = j by omega, nl_get xs h] at hd
  cases hd
  exact q
theorem ix_int {xs : List Int} {i : Int} {j : Nat} (hi : i = (j : Int)) (h : j < xs.length) (Q : Int → Prop) (hQ : ∀ x ∈ xs, Q x) (P : D → Prop) (E : Exc → Prop) (q : ∀ x, Q x → P (.int x)) : (ixD (.lst (xs.map D.int)) (.int i)).wp P E :=
  ix_ints hi (List.getElem?_eq_getElem h) (q _ (hQ _ (List.getElem_mem ..)))
theorem nl_snoc (xs : List Nat) (i : Nat) : NL xs ++ [D.int (i : Int)] = NL (xs ++ [i]) := by unfold NL; rw [List.map_append]; rfl

--USES c_keptr c_round
/-! keeping, walked -/
def mustL (rs : List Ru) : List Nat := (List.range rs.length).filter fun k => match rs[k]? with
  | some r => r.w.isNone
  | none => false
theorem mustL_in {rs : List Ru} {k : Nat} : k ∈ mustL rs ↔ ∃ r, rs[k]? = some r ∧ r.w = none := by
  unfold mustL
  rw [List.mem_filter, List.mem_range]
  constructor
  · rintro ⟨h1, h2⟩
    rw [List.getElem?_eq_getElem h1] at h2 ⊢
    exact ⟨_, rfl, Option.isNone_iff_eq_none.mp h2⟩
  · rintro ⟨r, h1, h2⟩
    refine ⟨(List.getElem?_eq_some_iff.mp h1).1, ?_⟩
    rw [h1]
    exact Option.isNone_iff_eq_none.mpr h2
theorem mustL_len (rs : List Ru) : (mustL rs).length ≤ rs.length := by
  have := List.length_filter_le (fun k => match rs[k]? with | some r => r.w.isNone | none => false) (List.range rs.length)
  rw [List.length_range] at this
  exact this
theorem ixr {rs : List Ru} {r : Ru} {i : Int} {j : Nat} (hi : i = (j : Int)) (h : rs[j]? = some r) (P : D → Prop) (E : Exc → Prop) (q : P (ruD r)) : (ixD (.lst (RL rs)) (.int i)).wp P E := by
  have hl := (List.getElem?_eq_some_iff.mp h).1
  subst hi
  rw [wp_ixL]
  refine ⟨_, ?_, q⟩
  unfold atI ixN
  rw [rl_len, if_pos (by omega), if_pos (by omega)]
  show (RL rs)[((j : Int)).toNat]? = some _
  rw [show ((j : Int)).toNat = j by omega]
  unfold RL
  rw [List.getElem?_map, h]
  rfl
def okF (rs : List Ru) : D → Option D
  | .int k => match rs[k.toNat]? with
    | some r => if r.w.isNone = true then some (.int k) else none
    | none => none
  | _ => none
theorem okF_map {rs : List Ru} : ∀ {xs : List Nat}, (xs.map nD).filterMap (okF rs) = NL (xs.filter fun k => match rs[k]? with
  | some r => r.w.isNone
  | none => false)
  | [] => rfl
  | x :: xs => by
    have ih := okF_map (rs := rs) (xs := xs)
    rw [List.map_cons, List.filterMap_cons, List.filter_cons, ih]
    have e : okF rs (nD x) = match rs[x]? with
      | some r => if r.w.isNone = true then some (nD x) else none
      | none => none := rfl
    rw [e]
    cases z : rs[x]? with
    | none => simp
    | some r =>
      simp only
      by_cases z2 : r.w.isNone = true
      · rw [if_pos z2, if_pos z2]
        rfl
      · rw [if_neg z2, if_neg z2]
def TL (n : Nat) (T : Nat → Int) : List D := (List.range n).map fun v => D.int (T v)
def oD : Option Nat → D
  | none => .non
  | some k => .int (k : Int)
def LL (n : Nat) (L : Nat → Option Nat) : List D := (List.range n).map fun v => oD (L v)
theorem tl_len (n : Nat) (T : Nat → Int) : (TL n T).length = n := by unfold TL; simp
theorem ll_len (n : Nat) (L : Nat → Option Nat) : (LL n L).length = n := by unfold LL; simp
theorem fun_at {n : Nat} {f : Nat → D} {v : Nat} (hv : v < n) : atI ((List.range n).map f) (v : Int) = some (f v) := by
  unfold atI ixN
  rw [List.length_map, List.length_range, if_pos (by omega), if_pos (by omega)]
  show ((List.range n).map f)[((v : Int)).toNat]? = some _
  rw [show ((v : Int)).toNat = v by omega, List.getElem?_map, List.getElem?_range hv]
  rfl
theorem fun_set {n : Nat} {α : Type} {f : Nat → α} {g : α → D} {b : Nat} {x : α} : ((List.range n).map fun v => g (f v)).set b (g x) = (List.range n).map fun v => g (upd f b x v) := by
  refine List.ext_getElem? fun i => ?_
  rw [List.getElem?_set, List.getElem?_map, List.getElem?_map, List.length_map, List.length_range]
  by_cases hi : i < n
  · rw [List.getElem?_range hi]
    by_cases z : b = i
    · subst z
      rw [if_pos rfl, if_pos hi]
      simp [upd_at]
    · rw [if_neg z]
      simp [upd_ne (show i ≠ b from fun e => z e.symm)]
  · rw [List.getElem?_eq_none (show (List.range n).length ≤ i by simp; omega)]
    by_cases z : b = i
    · subst z
      rw [if_pos rfl, if_neg hi]
      rfl
    · rw [if_neg z]
      rfl
theorem ix_TL {n : Nat} {T : Nat → Int} {v : Nat} (hv : v < n) (P : D → Prop) (E : Exc → Prop) (q : P (.int (T v))) : (ixD (.lst (TL n T)) (.int (v : Int))).wp P E := by
  rw [wp_ixL]
  exact ⟨_, fun_at hv, q⟩
theorem ix_LL {n : Nat} {L : Nat → Option Nat} {v : Nat} (hv : v < n) (P : D → Prop) (E : Exc → Prop) (q : P (oD (L v))) : (ixD (.lst (LL n L)) (.int (v : Int))).wp P E := by
  rw [wp_ixL]
  exact ⟨_, fun_at hv, q⟩
theorem set_TL {n : Nat} {T : Nat → Int} {v : Nat} {x : Int} (hv : v < n) (P : List D → Prop) (E : Exc → Prop) (q : P (TL n (upd T v x))) : (setO (TL n T) (.int (v : Int)) (.int x)).wp P E := by
  refine wp_setO (by rw [tl_len]; omega) ?_
  rw [show ((v : Int)).toNat = v by omega]
  unfold TL at q ⊢
  rw [fun_set (f := T) (g := D.int)]
  exact q
theorem set_LL {n : Nat} {L : Nat → Option Nat} {v k : Nat} (hv : v < n) (P : List D → Prop) (E : Exc → Prop) (q : P (LL n (upd L v (some k)))) : (setO (LL n L) (.int (v : Int)) (.int (k : Int))).wp P E := by
  refine wp_setO (by rw [ll_len]; omega) ?_
  rw [show ((v : Int)).toNat = v by omega]
  unfold LL at q ⊢
  have := fun_set (n := n) (f := L) (g := oD) (b := v) (x := some k)
  rw [show D.int (k : Int) = oD (some k) from rfl, this]
  exact q
theorem rep_flat {x : D} : ∀ n : Nat, (List.replicate n [x]).flatten = (List.range n).map fun _ => x
  | 0 => rfl
  | n + 1 => by
    rw [List.replicate_succ, List.flatten_cons, rep_flat n, List.range_succ_eq_map, List.map_cons, List.map_map]
    rfl
structure KpOk (many : Nat) (rs : List Ru) : Prop where
  m : many ≤ 999
  l : rs.length ≤ 1000
  r : ∀ r ∈ rs, r.a ≤ many ∧ r.b ≤ many ∧ -(10 ^ 19) ≤ r.l ∧ r.l ≤ 10 ^ 19
def subF (t : Int) : D → D
  | .int i => .int (i - t)
  | d => d
theorem tl_sub (n : Nat) (T : Nat → Int) (t : Int) : (TL n T).map (subF t) = TL n fun v => T v - t := by
  unfold TL
  rw [List.map_map]
  rfl
/-! lists of texts -/
def SL (ws : List Tx) : List D := ws.map D.str
theorem sl_len (ws : List Tx) : (SL ws).length = ws.length := List.length_map ..

--USES c_dp c_brk c_side c_keepw c_sl
/-! the table of partings, walked -/
def rowP (ws : List Tx) (i j : Nat) : Tx := Jn 32 ((ws.drop i).take (j - i))
def coP (ws : List Tx) (wide : Int) (i j : Nat) : Int := (wide - (rowP ws i j).length) * (wide - (rowP ws i j).length) + if j = ws.length then 0 else brkC ((rowP ws i j).getLastD 0)
def SP (ws : List Tx) (wide : Int) (i j : Nat) : Prop := i < j ∧ j ≤ ws.length ∧ ((rowP ws i j).length : Int) ≤ wide
theorem rowP_mono {ws : List Tx} {i j k : Nat} (h : j ≤ k) : (rowP ws i j).length ≤ (rowP ws i k).length := by
  have := (Jn_take ((ws.drop i).take (k - i)) (j - i)).1
  rw [List.take_take, Nat.min_eq_left (by omega)] at this
  exact this
theorem rowP_le {ws : List Tx} (i j : Nat) : (rowP ws i j).length ≤ (Jn 32 ws).length := by
  have h1 := (Jn_take (ws.drop i) (j - i)).1
  have h2 := (Jn_take ws i).2
  unfold rowP
  omega
theorem rowP_self (ws : List Tx) (i : Nat) : rowP ws i i = [] := by unfold rowP; rw [Nat.sub_self]; rfl
theorem rowP_cut {ws : List Tx} {i j : Nat} (hj : j ≤ ws.length) (hi : i ≤ j) : (ws.take j).drop i = (ws.drop i).take (j - i) := List.drop_take ..
theorem rowP_snoc {ws : List Tx} (hw : ∀ w ∈ ws, w ≠ []) {i j : Nat} (hi : i ≤ j) {w : Tx} (hj : ws[j]? = some w) : rowP ws i (j + 1) = if i = j then w else rowP ws i j ++ 32 :: w := by
  have hl := (List.getElem?_eq_some_iff.mp hj).1
  have e : (ws.drop i).take (j + 1 - i) = (ws.drop i).take (j - i) ++ [w] := by
    rw [show j + 1 - i = (j - i) + 1 by omega, List.take_succ, List.getElem?_drop, show i + (j - i) = j by omega, hj]
    rfl
  unfold rowP
  rw [e]
  by_cases z : i = j
  · subst z
    rw [if_pos rfl, Nat.sub_self]
    rfl
  · rw [if_neg z]
    refine Jn_app 32 (fun h0 => ?_) (by simp)
    have := congrArg List.length h0
    rw [List.length_take, List.length_drop, List.length_nil] at this
    omega
theorem rowP_ne {ws : List Tx} (hw : ∀ w ∈ ws, w ≠ []) {i j : Nat} (hi : i < j) (hj : j ≤ ws.length) : rowP ws i j ≠ [] := by
  obtain ⟨w, h⟩ : ∃ w, ws[j - 1]? = some w := ⟨_, List.getElem?_eq_getElem (by omega)⟩
  have hne := hw w (List.mem_of_getElem? h)
  have := rowP_snoc hw (i := i) (j := j - 1) (by omega) h
  rw [show j - 1 + 1 = j by omega] at this
  rw [this]
  split
  · exact hne
  · simp
theorem last_snoc {r : Tx} (h : r ≠ []) : ∃ t, r = t ++ [r.getLastD 0] := by
  obtain ⟨t, c, rfl⟩ := last_of h
  exact ⟨t, by simp⟩
theorem rprice_ok {r : Tx} (h : r ≠ []) (hl : r.length ≤ 10000) {wide : Int} (w0 : 0 ≤ wide) (w1 : wide ≤ 1000) (b : Bool) (P : D → Prop) (E : Exc → Prop) (q : P (.int ((wide - r.length) * (wide - r.length) + if b = true then 0 else brkC (r.getLastD 0)))) : (m_row_price [.str r, .int wide, .bl b]).wp P E := by
  obtain ⟨t, ht⟩ := last_snoc h
  unfold m_row_price b_row_price
  walk_at "go"
  cases b with
  | true =>
    rw [if_pos rfl, Int.add_zero] at q
    walk_at "go"
    exact q
  | false =>
    rw [if_neg Bool.false_ne_true] at q
    walk_at "go"
    rw [ht]
    refine brk_ok _ _ _ _ ?_
    rw [← ht]
    walk_at "go"
    exact q
theorem ix_slj {ws : List Tx} {j : Nat} {w : Tx} {i : Int} (hi : i = (j : Int)) (h : ws[j]? = some w) (P : D → Prop) (E : Exc → Prop) (q : P (.str w)) : (ixD (.lst (SL ws)) (.int i)).wp P E := by
  have hl := (List.getElem?_eq_some_iff.mp h).1
  subst hi
  rw [wp_ixL]
  refine ⟨_, ?_, q⟩
  unfold atI ixN
  rw [sl_len, if_pos (by omega), if_pos (by omega)]
  show (SL ws)[((j : Int)).toNat]? = some _
  rw [show ((j : Int)).toNat = j by omega]
  unfold SL
  rw [List.getElem?_map, h]
  rfl
def prD (ws : List Tx) (wide : Int) (s : Nat) : Nat → D := fun j => .tup [.int (j : Nat), .int (coP ws wide s j)]
theorem rowsfrom_ok {ws : List Tx} (h : WS ws) {wide : Int} (w0 : 0 ≤ wide) (w1 : wide ≤ 1000) {s : Nat} (hs : s < ws.length) (P : D → Prop) (E : Exc → Prop) (q : ∀ k, s + k ≤ ws.length → (∀ j, SP ws wide s j ↔ s < j ∧ j ≤ s + k) → P (.lst ((List.range' (s + 1) k).map (prD ws wide s)))) : (m_rows_from [.lst (SL ws), .int wide, .int (s : Int)]).wp P E := by
  have hn := h.n
  have hw := h.2.2.1
  have hll := h.2.2.2
  have hsl := sl_len ws
  unfold m_rows_from b_rows_from
  walk_at "go"
  with_reducible refine ws_forR ?_
  walk_at "go"
  rw [hsl]
  walk_at "go"
  refine ⟨(s : Int), (ws.length : Int), rfl, fun k r => ∃ o5 : Option D, s + k ≤ ws.length ∧ (∀ j, s < j → j ≤ s + k → SP ws wide s j) ∧ r = [some (.lst (SL ws)), some (.int wide), some (.int (s : Int)), some (.lst ((List.range' (s + 1) k).map (prD ws wide s))), some (.str (rowP ws s (s + k))), o5], ⟨_, by omega, fun j h1 h2 => by omega, (by have e0 : rowP ws s (s + 0) = [] := rowP_self ws s; rw [e0]; rfl)⟩, ?_, ?_⟩
  · rintro r ⟨o5, h1, h2, rfl⟩
    walk_at "go"
    refine q _ h1 fun j => ⟨fun z => ⟨z.1, by have := z.2.1; omega⟩, fun z => h2 j z.1 z.2⟩
  · rintro k r hk ⟨o5, h1, h2, rfl⟩
    obtain ⟨w, hwk⟩ : ∃ w, ws[s + k]? = some w := ⟨_, List.getElem?_eq_getElem (by omega)⟩
    have sn := rowP_snoc hw (i := s) (j := s + k) (by omega) hwk
    have le1 := rowP_le (ws := ws) s (s + k)
    have le2 := rowP_le (ws := ws) s (s + k + 1)
    have wl : w.length ≤ (rowP ws s (s + k + 1)).length := by
      rw [sn]
      split
      · exact Nat.le_refl _
      · rw [List.length_append, List.length_cons]; omega
    have co : coP ws wide s (s + k + 1) = (wide - (rowP ws s (s + k + 1)).length) * (wide - (rowP ws s (s + k + 1)).length) + if decide ((s : Int) + k = ws.length - 1) = true then 0 else brkC ((rowP ws s (s + k + 1)).getLastD 0) := by
      unfold coP
      by_cases z : s + k + 1 = ws.length
      · rw [if_pos z, if_pos (decide_eq_true (by omega))]
      · rw [if_neg z, if_neg (by rw [decide_eq_true_eq]; omega)]
    have pp : prD ws wide s (s + k + 1) = .tup [.int ((s : Int) + k + 1), .int (coP ws wide s (s + k + 1))] := by unfold prD; rw [show ((s + k + 1 : Nat) : Int) = (s : Int) + k + 1 by omega]
    have rg : (List.range' (s + 1) (k + 1)).map (prD ws wide s) = (List.range' (s + 1) k).map (prD ws wide s) ++ [.tup [.int ((s : Int) + k + 1), .int (coP ws wide s (s + k + 1))]] := by
      rw [List.range'_concat, List.map_append, ← pp]
      simp [Nat.add_assoc, Nat.add_comm 1 k]
    have rne := rowP_ne hw (i := s) (j := s + k + 1) (by omega) (by omega)
    unfold l_rows_from_1
    walk_at "go"
    by_cases z : k = 0
    all_goals first
      | (have e0 : rowP ws s (s + k) = [] := by rw [z]; exact rowP_self ws s
         have sn2 : rowP ws s (s + k + 1) = w := by rw [sn, if_pos (by omega)]
         rw [e0]
         rw [if_neg (by simp)]
         walk_at "go"
         refine ix_slj (j := s + k) (by omega) hwk _ _ ?_
         walk_at "go"
         rw [← sn2])
      | (have e0 : rowP ws s (s + k) ≠ [] := rowP_ne hw (by omega) (by omega)
         have sn2 : rowP ws s (s + k + 1) = rowP ws s (s + k) ++ [32] ++ w := by rw [sn, if_neg (by omega)]; simp
         have sl2 := congrArg List.length sn2
         rw [List.length_append, List.length_append, List.length_singleton] at sl2
         rw [if_pos e0]
         walk_at "go"
         refine ix_slj (j := s + k) (by omega) hwk _ _ ?_
         walk_at "go"
         rw [← sn2, ← sl2])
    all_goals
      by_cases zf : wide < ((rowP ws s (s + k + 1)).length : Int)
      · rw [if_pos zf]
        walk_at "go"
        refine q k h1 fun j => ⟨fun zz => ⟨zz.1, ?_⟩, fun zz => h2 j zz.1 zz.2⟩
        rcases Nat.lt_or_ge (s + k) j with zj | zj
        · have := rowP_mono (ws := ws) (i := s) (j := s + k + 1) (k := j) (by omega)
          have := zz.2.2
          omega
        · exact zj
      · rw [if_neg zf]
        walk_at "go"
        rw [hsl]
        walk_at "go"
        refine rprice_ok rne (by omega) w0 w1 _ _ _ ?_
        rw [← co]
        walk_at "go"
        refine ⟨by rw [List.length_range']; omega, some (.int ((s : Int) + k)), by omega, fun j j1 j2 => ?_, by rw [rg]; rfl⟩
        rcases Nat.lt_or_ge j (s + k + 1) with zj | zj
        · exact h2 j j1 (by omega)
        · have : j = s + k + 1 := by omega
          subst this
          exact ⟨by omega, by omega, by omega⟩
def oI : Option Int → D
  | none => .non
  | some i => .int i
def OL (n : Nat) (f : Nat → Option Int) : List D := (List.range (n + 1)).map fun v => oI (f v)
theorem ol_len (n : Nat) (f : Nat → Option Int) : (OL n f).length = n + 1 := by unfold OL; simp
theorem ix_OL {n : Nat} {f : Nat → Option Int} {v : Nat} {i : Int} (hi : i = (v : Int)) (hv : v ≤ n) (P : D → Prop) (E : Exc → Prop) (q : P (oI (f v))) : (ixD (.lst (OL n f)) (.int i)).wp P E := by
  subst hi
  rw [wp_ixL]
  exact ⟨_, fun_at (by omega), q⟩
theorem set_OL {n : Nat} {f : Nat → Option Int} {v : Nat} {x : Int} (hv : v ≤ n) (P : List D → Prop) (E : Exc → Prop) (q : P (OL n (updO f v x))) : (setO (OL n f) (.int (v : Int)) (.int x)).wp P E := by
  refine wp_setO (by rw [ol_len]; omega) ?_
  rw [show ((v : Int)).toNat = v by omega]
  unfold OL at q ⊢
  have := fun_set (n := n + 1) (f := f) (g := oI) (b := v) (x := some x)
  rw [show D.int x = oI (some x) from rfl, this]
  exact q
/-- bounds of what stands in a level -/
def Lb (B : Int) (f : Nat → Option Int) : Prop := ∀ j c, f j = some c → 0 ≤ c ∧ c ≤ B
theorem coP_le {ws : List Tx} (hll : (Jn 32 ws).length ≤ 10000) {wide : Int} (w0 : 0 ≤ wide) (w1 : wide ≤ 1000) (i j : Nat) : 0 ≤ coP ws wide i j ∧ coP ws wide i j ≤ 10 ^ 9 := by
  have le := rowP_le (ws := ws) i j
  have a : ∀ x : Int, -10000 ≤ x → x ≤ 10000 → 0 ≤ x * x ∧ x * x ≤ 100000000 := fun x h0 h1 => by
    refine ⟨?_, ?_⟩
    · rcases Int.le_total 0 x with h | h
      · exact Int.mul_nonneg h h
      · have := Int.mul_nonneg (show 0 ≤ -x by omega) (show 0 ≤ -x by omega)
        rwa [Int.neg_mul_neg] at this
    · rcases Int.le_total 0 x with h | h
      · have := Int.mul_le_mul h1 h1 h (by omega : (0 : Int) ≤ 10000)
        omega
      · have := Int.mul_le_mul (show -x ≤ 10000 by omega) (show -x ≤ 10000 by omega) (show 0 ≤ -x by omega) (by omega : (0 : Int) ≤ 10000)
        rw [Int.neg_mul_neg] at this
        omega
  have s := a (wide - (rowP ws i j).length) (by omega) (by omega)
  have b := brkC_le ((rowP ws i j).getLastD 0)
  unfold coP
  split <;> omega
theorem nextlist_ok {ws : List Tx} (h : WS ws) {wide : Int} (w0 : 0 ≤ wide) (w1 : wide ≤ 1000) {ah : Nat → Option Int} {B : Int} (hB : Lb B ah) (hB2 : B ≤ 10 ^ 17) (P : D → Prop) (E : Exc → Prop) (q : ∀ fo, Best (coP ws wide) ah (SP ws wide) fo → P (.lst (OL ws.length fo))) : (m_next_list [.lst (SL ws), .int wide, .lst (OL ws.length ah)]).wp P E := by
  have hn := h.n
  have hsl := sl_len ws
  unfold m_next_list b_next_list
  walk_at "go"
  rw [hsl]
  walk_at "go"
  rw [show ((ws.length : Int) + 1).toNat = ws.length + 1 by omega, rep_flat]
  with_reducible refine ws_forR ?_
  walk_at "go"
  rw [hsl]
  walk_at "go"
  refine ⟨0, (ws.length : Int), rfl, fun s r => ∃ fo o4 o5 o6, Best (coP ws wide) ah (fun i j => SP ws wide i j ∧ i < s) fo ∧ r = [some (.lst (SL ws)), some (.int wide), some (.lst (OL ws.length ah)), some (.lst (OL ws.length fo)), o4, o5, o6], ⟨fun _ => none, _, _, _, (Best.start _ _).same fun i j => ⟨fun z => by omega, fun z => z.elim⟩, rfl⟩, ?_, ?_⟩
  · rintro r ⟨fo, o4, o5, o6, hb, rfl⟩
    walk_at "go"
    refine q fo (hb.same fun i j => ⟨fun z => ⟨z, ?_⟩, fun z => z.1⟩)
    have := z.1
    have := z.2.1
    omega
  · rintro s r hs ⟨fo, o4, o5, o6, hb, rfl⟩
    have hs' : s < ws.length := by omega
    unfold l_next_list_2
    walk_at "go"
    refine ix_OL (v := s) (by omega) (by omega) _ _ ?_
    cases hv : ah s with
    | none =>
      simp only [oI]
      walk_at "run"
      exact ⟨fo, _, _, _, hb.none hv (fun i j z => ⟨z.1, by omega⟩) (fun i j z => by
        rcases Nat.lt_or_ge i s with zz | zz
        · exact .inl ⟨z.1, zz⟩
        · exact .inr (by omega)), rfl⟩
    | some v =>
      simp only [oI]
      walk_at "run"
      have bv := hB s v hv
      with_reducible refine ws_forM (prD ws wide s) ?_
      walk_at "go"
      with_reducible refine rowsfrom_ok h w0 w1 hs' _ _ fun k k1 k2 => ?_
      refine ⟨List.range' (s + 1) k, rfl, fun dn r => ∃ fo o5 o6, Best (coP ws wide) ah (fun i j => (SP ws wide i j ∧ i < s) ∨ (i = s ∧ j ∈ dn)) fo ∧ r = [some (.lst (SL ws)), some (.int wide), some (.lst (OL ws.length ah)), some (.lst (OL ws.length fo)), some (.int (s : Int)), o5, o6], ⟨fo, _, _, hb.same fun i j => ⟨fun z => z.elim (fun z => z) (fun z => absurd z.2 (by simp)), fun z => .inl z⟩, rfl⟩, ?_, ?_⟩
      · rintro r ⟨fo, o5, o6, hb, rfl⟩
        refine ⟨fo, _, _, _, hb.same fun i j => ⟨fun z => ?_, fun z => ?_⟩, rfl⟩
        · rcases Nat.lt_or_ge i s with zz | zz
          · exact .inl ⟨z.1, zz⟩
          · have e : i = s := by omega
            subst e
            have := (k2 j).mp z.1
            exact .inr ⟨rfl, by rw [List.mem_range'_1]; omega⟩
        · rcases z with z | ⟨z, zz⟩
          · exact ⟨z.1, by omega⟩
          · subst z
            rw [List.mem_range'_1] at zz
            exact ⟨(k2 j).mpr (by omega), by omega⟩
      · rintro dn x t r e ⟨fo, o5, o6, hb, rfl⟩
        have hx : x ∈ List.range' (s + 1) k := by rw [e]; simp
        rw [List.mem_range'_1] at hx
        have cb := coP_le h.2.2.2 w0 w1 s x
        have nx : ∀ fo', Best (coP ws wide) ah (fun i j => ((SP ws wide i j ∧ i < s) ∨ (i = s ∧ j ∈ dn)) ∨ (i = s ∧ j = x)) fo' → Best (coP ws wide) ah (fun i j => (SP ws wide i j ∧ i < s) ∨ (i = s ∧ j ∈ dn ++ [x])) fo' := fun fo' hb' => hb'.same fun i j => by
          simp only [List.mem_append, List.mem_singleton]
          constructor
          · rintro (z | ⟨z, z2 | z2⟩)
            · exact .inl (.inl z)
            · exact .inl (.inr ⟨z, z2⟩)
            · exact .inr ⟨z, z2⟩
          · rintro ((z | ⟨z, z2⟩) | ⟨z, z2⟩)
            · exact .inl z
            · exact .inr ⟨z, .inl z2⟩
            · exact .inr ⟨z, .inr z2⟩
        have ixs : ∀ (P : D → Prop) (E : Exc → Prop), P (.int v) → (ixD (.lst (OL ws.length ah)) (.int (s : Int))).wp P E := fun P E hq => by
          refine ix_OL (v := s) (by omega) (by omega) _ _ ?_
          rw [hv]
          exact hq
        unfold l_next_list_1
        simp only [prD]
        walk_at "go"
        refine ix_OL (v := x) rfl (by omega) _ _ ?_
        cases hf : fo x with
        | none =>
          simp only [oI]
          walk_at "run"
          refine ixs _ _ ?_
          walk_at "run"
          refine set_OL (v := x) (by omega) _ _ ?_
          walk_at "run"
          exact ⟨_, _, _, nx _ (hb.put hv fun c hc => by rw [hf] at hc; cases hc), rfl⟩
        | some c =>
          simp only [oI]
          walk_at "run"
          refine ixs _ _ ?_
          walk_at "run"
          refine ix_OL (v := x) rfl (by omega) _ _ ?_
          rw [hf]
          simp only [oI]
          walk_at "go"
          by_cases z : v + coP ws wide s x < c
          · rw [if_pos z]
            walk_at "run"
            refine ixs _ _ ?_
            walk_at "run"
            refine set_OL (v := x) (by omega) _ _ ?_
            walk_at "run"
            exact ⟨_, _, _, nx _ (hb.put hv fun c' hc => by rw [hf] at hc; cases hc; omega), rfl⟩
          · rw [if_neg z]
            walk_at "run"
            exact ⟨_, _, _, nx _ (hb.pass hv hf (by omega)), rfl⟩

--USES c_dpw
/-! the whole table, and the way back -/
def TBL (n : Nat) (lev : Nat → Nat → Option Int) (m : Nat) : List D := (List.range (m + 1)).map fun i => .lst (OL n (lev i))
theorem tbl_len (n : Nat) (lev : Nat → Nat → Option Int) (m : Nat) : (TBL n lev m).length = m + 1 := by unfold TBL; simp
theorem tbl_snoc (n : Nat) (lev : Nat → Nat → Option Int) (m : Nat) (fo : Nat → Option Int) : TBL n lev m ++ [.lst (OL n fo)] = TBL n (upd lev (m + 1) fo) (m + 1) := by
  unfold TBL
  rw [List.range_succ (n := m + 1), List.map_append]
  congr 1
  · refine List.map_congr_left fun i hi => ?_
    rw [List.mem_range] at hi
    rw [upd_ne (by omega)]
  · simp [upd_at]
theorem ix_TBL {n : Nat} {lev : Nat → Nat → Option Int} {m v : Nat} {i : Int} (hi : i = (v : Int)) (hv : v ≤ m) (P : D → Prop) (E : Exc → Prop) (q : P (.lst (OL n (lev v)))) : (ixD (.lst (TBL n lev m)) (.int i)).wp P E := by
  subst hi
  rw [wp_ixL]
  exact ⟨_, fun_at (f := fun i => .lst (OL n (lev i))) (by omega), q⟩
theorem ol_zero (n : Nat) : [D.int 0] ++ (List.replicate n [D.non]).flatten = OL n lev0 := by
  unfold OL
  rw [rep_flat, List.range_succ_eq_map, List.map_cons, List.map_map]
  show D.int 0 :: _ = D.int 0 :: _
  congr 1
theorem Levels.grow {co : Nat → Nat → Int} {S : Nat → Nat → Prop} {m : Nat} {lev : Nat → Nat → Option Int} (h : Levels co S m lev) {fo : Nat → Option Int} (hb : Best co (lev m) S fo) : Levels co S (m + 1) (upd lev (m + 1) fo) := by
  refine ⟨by rw [upd_ne (by omega)]; exact h.zero, fun k hk => ?_⟩
  rw [upd_ne (show k ≠ m + 1 by omega)]
  by_cases z : k = m
  · subst z
    rw [upd_at]
    exact hb
  · rw [upd_ne (by omega)]
    exact h.next k (by omega)
--USES c_dpt c_round
/-! the least parting -/
theorem minQ_le : ∀ (ps : List (Int × Int)) (p : Int × Int), minQ p ps ∈ p :: ps ∧ ∀ x ∈ p :: ps, (minQ p ps).1 ≤ x.1
  | [], p => ⟨List.mem_cons_self .., fun x hx => by rw [List.mem_singleton] at hx; rw [hx]; exact Int.le_refl _⟩
  | q :: ps, p => by
    have e : minQ p (q :: ps) = minQ (if pairL q p = true then q else p) ps := rfl
    obtain ⟨h1, h2⟩ := minQ_le ps (if pairL q p = true then q else p)
    rw [e]
    have h3 := h2 _ (List.mem_cons_self ..)
    by_cases z : pairL q p = true
    · rw [if_pos z] at h1 h2 h3 ⊢
      have z2 : q.1 ≤ p.1 := by
        unfold pairL at z
        simp at z
        omega
      refine ⟨List.mem_cons_of_mem _ h1, fun x hx => ?_⟩
      rcases List.mem_cons.mp hx with rfl | hx
      · omega
      · exact h2 x hx
    · rw [if_neg z] at h1 h2 h3 ⊢
      have z2 : p.1 ≤ q.1 := by
        unfold pairL at z
        simp at z
        omega
      refine ⟨?_, fun x hx => ?_⟩
      · rcases List.mem_cons.mp h1 with h1 | h1
        · rw [h1]; exact List.mem_cons_self ..
        · exact List.mem_cons_of_mem _ (List.mem_cons_of_mem _ h1)
      · rcases List.mem_cons.mp hx with rfl | hx
        · exact h3
        · rcases List.mem_cons.mp hx with rfl | hx
          · omega
          · exact h2 x (List.mem_cons_of_mem _ hx)
def lastsL (lev : Nat → Nat → Option Int) (n m : Nat) : List (Int × Int) := (List.range' 1 m).filterMap fun k => (lev k n).map fun c => (c, (k : Int))
theorem lastsL_in {lev : Nat → Nat → Option Int} {n m : Nat} {p : Int × Int} : p ∈ lastsL lev n m ↔ ∃ k : Nat, 1 ≤ k ∧ k ≤ m ∧ lev k n = some p.1 ∧ p.2 = k := by
  unfold lastsL
  rw [List.mem_filterMap]
  constructor
  · rintro ⟨k, hk, h⟩
    rw [List.mem_range'_1] at hk
    obtain ⟨c, h1, rfl⟩ := Option.map_eq_some_iff.mp h
    exact ⟨k, by omega, by omega, h1, rfl⟩
  · rintro ⟨k, k1, k2, h1, h2⟩
    refine ⟨k, by rw [List.mem_range'_1]; omega, ?_⟩
    rw [h1]
    exact congrArg some (Prod.ext rfl h2.symm)
def lastF (lev : Nat → Nat → Option Int) (n : Nat) : D → Option D
  | .int k => (lev k.toNat n).map fun c => pairQ (c, k)
  | _ => none
theorem lastF_map (lev : Nat → Nat → Option Int) (n : Nat) : ∀ xs : List Nat, (xs.map nD).filterMap (lastF lev n) = (xs.filterMap fun k => (lev k n).map fun c => (c, (k : Int))).map pairQ
  | [] => rfl
  | x :: xs => by
    have ih := lastF_map lev n xs
    have e : lastF lev n (nD x) = (lev x n).map fun c => pairQ (c, (x : Int)) := rfl
    rw [List.map_cons, List.filterMap_cons, List.filterMap_cons, e, ih]
    cases lev x n with
    | none => rfl
    | some c => rfl
theorem ix_OLm1 {n : Nat} {f : Nat → Option Int} (P : D → Prop) (E : Exc → Prop) (q : P (oI (f n))) : (ixD (.lst (OL n f)) (.int (-1))).wp P E := by
  rw [wp_ixL]
  refine ⟨_, ?_, q⟩
  unfold atI ixN
  rw [ol_len, if_neg (by omega), if_pos (by omega)]
  show (OL n f)[(-1 + ((n + 1 : Nat) : Int)).toNat]? = some _
  rw [show (-1 + ((n + 1 : Nat) : Int)).toNat = n by omega]
  unfold OL
  rw [List.getElem?_map, List.getElem?_range (by omega)]
  rfl
--USES c_sl
/-! the longest of texts; lists of texts, alike or not -/
def lenF : D → D
  | .str s => .int s.length
  | _ => .non
theorem lens_sl (ws : List Tx) : (SL ws).map lenF = (ws.map fun w => (w.length : Int)).map D.int := by
  unfold SL
  rw [List.map_map, List.map_map]
  rfl
theorem maxlen_ok {ws : List Tx} (h : ws ≠ []) (P : D → Prop) (E : Exc → Prop) (q : ∀ m : Nat, (∃ w ∈ ws, w.length = m) → (∀ w ∈ ws, w.length ≤ m) → P (.int (m : Int))) : (maxD [.lst ((SL ws).map lenF)]).wp P E := by
  have key : ∀ (r : List Tx) (x : Nat), ∃ m : Nat, (r.map fun w => (w.length : Int)).foldl (fun a b => if b > a then b else a) (x : Int) = (m : Int) ∧ x ≤ m ∧ (m = x ∨ ∃ w ∈ r, w.length = m) ∧ ∀ w ∈ r, w.length ≤ m := by
    intro r
    induction r with
    | nil => intro x; exact ⟨x, rfl, Nat.le_refl _, .inl rfl, by simp⟩
    | cons b r ih =>
      intro x
      rw [List.map_cons, List.foldl_cons]
      by_cases z : (b.length : Int) > x
      · rw [if_pos z]
        obtain ⟨m, h1, h2, h3, h4⟩ := ih b.length
        refine ⟨m, h1, by omega, .inr ?_, fun w hw => ?_⟩
        · rcases h3 with h3 | ⟨w, hw, h3⟩
          · exact ⟨b, by simp, h3.symm⟩
          · exact ⟨w, by simp [hw], h3⟩
        · rcases List.mem_cons.mp hw with rfl | hw
          · exact h2
          · exact h4 w hw
      · rw [if_neg z]
        obtain ⟨m, h1, h2, h3, h4⟩ := ih x
        refine ⟨m, h1, h2, ?_, fun w hw => ?_⟩
        · rcases h3 with h3 | ⟨w, hw, h3⟩
          · exact .inl h3
          · exact .inr ⟨w, by simp [hw], h3⟩
        · rcases List.mem_cons.mp hw with rfl | hw
          · omega
          · exact h4 w hw
  cases ws with
  | nil => exact absurd rfl h
  | cons x r =>
    obtain ⟨m, h1, h2, h3, h4⟩ := key r x.length
    rw [lens_sl]
    show (intsL maxOf (.lst (((x :: r).map fun w => (w.length : Int)).map D.int))).wp P E
    unfold intsL
    rw [show (x :: r).map (fun w => (w.length : Int)) = (x.length : Int) :: r.map (fun w => (w.length : Int)) from rfl]
    simp only [intsOf_map, maxOf, wp_ok]
    rw [h1]
    refine q m ?_ fun w hw => ?_
    · rcases h3 with h3 | ⟨w, hw, h3⟩
      · exact ⟨x, by simp, h3.symm⟩
      · exact ⟨w, by simp [hw], h3⟩
    · rcases List.mem_cons.mp hw with rfl | hw
      · exact h2
      · exact h4 w hw
theorem shal_sl (ws : List Tx) {n : Nat} : shal (n + 1) (.lst (SL ws)) = true := by
  show (SL ws).all (shal n) = true
  rw [List.all_eq_true]
  intro d hd
  obtain ⟨r, _, rfl⟩ := List.mem_map.mp hd
  cases n <;> rfl
theorem eqS_cons {x y : D} {xs ys : List D} : eqD (.lst (x :: xs)) (.lst (y :: ys)) = (eqD x y && eqD (.lst xs) (.lst ys)) := rfl
theorem eqD_sl : ∀ xs ys : List Tx, eqD (.lst (SL xs)) (.lst (SL ys)) = decide (xs = ys)
  | [], [] => rfl
  | [], _ :: _ => rfl
  | _ :: _, [] => rfl
  | x :: xs, y :: ys => by
    have ih := eqD_sl xs ys
    unfold SL at ih ⊢
    rw [List.map_cons, List.map_cons, eqS_cons, ih, eqD_str]
    by_cases h : x = y
    · subst h; simp
    · simp [h]

--USES c_dpw
/-! what rows cost, row by row, and as a way through the table -/
def sqL (wide : Int) (r : Tx) : Int := (wide - r.length) * (wide - r.length)
def prB (wide : Int) : List Tx → Int
  | [] => 0
  | r :: rs => sqL wide r + (if rs = [] then 0 else brkC (r.getLastD 0)) + prB wide rs
def pcA (wide : Int) : List Tx → Int
  | [] => 0
  | r :: rs => sqL wide r + brkC (r.getLastD 0) + pcA wide rs
theorem pcA_snoc (wide : Int) (l : Tx) : ∀ rs, pcA wide (rs ++ [l]) = pcA wide rs + (sqL wide l + brkC (l.getLastD 0))
  | [] => by simp [pcA]
  | r :: rs => by
    rw [List.cons_append, pcA, pcA, pcA_snoc wide l rs]
    omega
theorem prB_snoc (wide : Int) (l : Tx) : ∀ rs, prB wide (rs ++ [l]) = pcA wide rs + sqL wide l
  | [] => by simp [prB, pcA]
  | r :: rs => by
    rw [List.cons_append, prB, pcA, prB_snoc wide l rs, if_neg (by simp)]
    omega
theorem coP_in {ws : List Tx} {wide : Int} {i j : Nat} (h : j < ws.length) : coP ws wide i j = sqL wide (rowP ws i j) + brkC ((rowP ws i j).getLastD 0) := by
  unfold coP
  rw [if_neg (by omega)]
  rfl
theorem coP_end {ws : List Tx} {wide : Int} {i : Nat} : coP ws wide i ws.length = sqL wide (rowP ws i ws.length) := by
  unfold coP
  rw [if_pos rfl, Int.add_zero]
  rfl
theorem RowsOf.pcA {ws : List Tx} {wide : Int} {S : Nat → Nat → Prop} (hS : ∀ i j, S i j → i < j) {k j : Nat} {c : Int} {rs : List Tx} (h : RowsOf (coP ws wide) S (rowP ws) k j c rs) : j < ws.length → c = Lw.pcA wide rs := by
  induction h with
  | nil => exact fun _ => rfl
  | @snoc k i j c rs h hs ih =>
    intro hj
    have := hS i j hs
    rw [pcA_snoc, coP_in hj, ih (by omega)]
theorem RowsOf.prB {ws : List Tx} {wide : Int} {S : Nat → Nat → Prop} (hS : ∀ i j, S i j → i < j) {k j : Nat} {c : Int} {rs : List Tx} (h : RowsOf (coP ws wide) S (rowP ws) k j c rs) (hj : j = ws.length) (h0 : 0 < j) : c = Lw.prB wide rs := by
  cases h with
  | nil => omega
  | @snoc k i j c rs h hs =>
    have := hS i j hs
    rw [prB_snoc, hj, coP_end, ← RowsOf.pcA hS h (by omega)]
theorem RowsOf.rows {ws : List Tx} {co : Nat → Nat → Int} {S : Nat → Nat → Prop} (hw : ∀ w ∈ ws, w ≠ []) (hS : ∀ i j, S i j → i < j ∧ j ≤ ws.length) {k j : Nat} {c : Int} {rs : List Tx} (h : RowsOf co S (rowP ws) k j c rs) : ∀ r ∈ rs, r ≠ [] ∧ r.length ≤ (Jn 32 ws).length := by
  induction h with
  | nil => simp
  | @snoc k i j c rs h hs ih =>
    intro r hr
    rw [List.mem_append, List.mem_singleton] at hr
    rcases hr with hr | rfl
    · exact ih r hr
    · exact ⟨rowP_ne hw (hS i j hs).1 (hS i j hs).2, rowP_le i j⟩

theorem mixed_ok (c b : Int) (hb : 0 ≤ b) (hb2 : b < 10 ^ 9) (P : D → Prop) (E : Exc → Prop) (q : ∀ n, 0 ≤ n → n < 2147483647 → P (.int n)) : (m__law_mixed [.int c, .int b]).wp P E := by
  unfold m__law_mixed b__law_mixed
  walk_at "go"
  exact q _ (by omega) (by omega)

--USES c_last c_mixed
/-! words that are drawn -/
def sgnS : Tx := [33, 34, 35, 36, 38, 39, 40, 41, 42, 43, 44, 45, 46, 47, 48, 49, 50, 51, 52, 53, 54, 55, 56, 57, 58, 59, 60, 61, 62, 63, 64, 65, 66, 67, 68, 69, 70, 71, 72, 73, 74, 75, 76, 77, 78, 79, 80, 81, 82, 83, 84, 85, 86, 87, 88, 89, 90] ++ [91, 92, 93, 94, 95, 96, 97, 98, 99, 100, 101, 102, 103, 104, 105, 106, 107, 108, 109, 110, 111, 112, 113, 114, 115, 116, 117, 118, 119, 120, 121, 122, 123, 124, 125, 126]
theorem sgnS_in : ∀ c ∈ sgnS, 33 ≤ c ∧ c ≤ 126 := by decide
theorem word_ok (n k : Int) (hn : 0 ≤ n) (hn2 : n < 2147483647) (k1 : 1 ≤ k) (k2 : k ≤ 100) (P : D → Prop) (E : Exc → Prop) (q : ∀ w : Tx, (w.length : Int) = k → (∀ c ∈ w, 33 ≤ c ∧ c ≤ 126) → P (.str w)) : (m__law_word [.int n, .int k]).wp P E := by
  unfold m__law_word b__law_word
  walk_at "go"
  with_reducible refine ws_for ?_
  walk_at "go"
  refine ⟨fun rest r => ∃ (j : Int) (m : Int) (w : Tx) (o : Option D), rest = rng j k ∧ 0 ≤ j ∧ j ≤ k ∧ 0 ≤ m ∧ m < 2147483647 ∧ (w.length : Int) = j ∧ (∀ c ∈ w, 33 ≤ c ∧ c ≤ 126) ∧ r = [some (.int m), some (.int k), some (.str sgnS), some (.str w), o], ⟨0, n, [], _, rfl, by omega, by omega, hn, hn2, rfl, by simp, rfl⟩, ?_, ?_⟩
  · rintro r ⟨j, m, w, o, hd, j0, j1, m0, m1, hw, hc, rfl⟩
    have := rng_done hd
    walk_at "go"
    exact q w (by omega) hc
  · rintro d rest r ⟨j, m, w, o, hd, j0, j1, m0, m1, hw, hc, rfl⟩
    obtain ⟨j3, rfl, rfl⟩ := rng_head hd
    unfold l__law_word_1
    walk_at "go"
    have l93 : (sgnS.length : Int) = 93 := by decide
    refine ix_str (fun c => 33 ≤ c ∧ c ≤ 126) (by omega) sgnS_in fun c cc => ?_
    walk_at "go"
    refine ⟨j + 1, _, w ++ [c], _, rfl, by omega, by omega, by omega, by omega, by simp; omega, fun x hx => ?_, rfl⟩
    rw [List.mem_append, List.mem_singleton] at hx
    rcases hx with hx | rfl
    · exact hc x hx
    · exact cc

theorem div_is {x d k : Int} (h : 0 < d) (h1 : k * d ≤ x) (h2 : x < k * d + d) : x / d = k := by
  have a := Int.le_ediv_of_mul_le h h1
  have b : x / d < k + 1 := Int.ediv_lt_of_lt_mul h (by rw [Int.add_mul]; omega)
  omega
theorem script_list {m : List Int} {d : D} {rest : List D} (h : d :: rest = m.map D.int) : ∃ c l', m = c :: l' ∧ d = .int c ∧ rest = l'.map D.int := by
  cases m with
  | nil => cases h
  | cons c l' => cases h; exact ⟨c, l', rfl, rfl, rfl⟩

--USES c_words c_div c_sl
/-! parts that are drawn (as c_wparts, with the rest of a walk shut) -/
def WdS (w : Tx) : Prop := w ≠ [] ∧ w.length ≤ 30 ∧ ∀ c ∈ w, 33 ≤ c ∧ c ≤ 126
noncomputable def tl_parts : Pu.Env → SR :=
  (sSeq (sAsg 6 (callN 2 m__law_word (aCons (callN 2 m__law_mixed (aCons (eVar 3) (aCons (eC (.int 69621)) aNil))) (aCons (eVar 5) aNil))))
        (sSeq (sIf (c2 eqG (e2 modD (e2 fdivD (eVar 4) (eC (.int 7))) (eC (.int 3))) (eC (.int 0)))
        (sAsg 6 (e2 addD (slE sliceD (eVar 6) oNone (oSome (e1 negD (eC (.int 1))))) (e2 ixD (eC (.str [46, 33, 63, 44, 59, 58])) (e2 modD (e2 fdivD (eVar 4) (eC (.int 21))) (eC (.int 6))))))
        sNil)
        (sSeq (sAsg 2 (e2 addD (eVar 2) (eVar 5)))
        (sApp 1 (aCons (eVar 6) aNil)))))
theorem parts_eq : l__law_parts_1 = (sSeq (sAsg 4 (callN 2 m__law_mixed (aCons (eVar 3) (aCons (eC (.int 48271)) aNil))))
    (sSeq (sAsg 5 (e2 addD (eC (.int 1)) (e2 modD (eVar 4) (eC (.int 5)))))
    (sSeq (sIf (andT (c2 eqG (e2 modD (e2 fdivD (eVar 4) (eC (.int 5))) (eC (.int 8))) (eC (.int 0))) (c2 ltD (eVar 2) (eC (.int 150))))
    (sAsg 5 (e2 addD (eC (.int 1)) (e2 modD (e2 fdivD (eVar 4) (eC (.int 40))) (eC (.int 30)))))
    sNil) tl_parts))) := rfl
theorem parts_ok (cells : List Int) (hl : cells.length ≤ 100) (P : D → Prop) (E : Exc → Prop) (q : ∀ ws : List Tx, ws.length = cells.length → (∀ w ∈ ws, WdS w) → P (.lst (SL ws))) : (m__law_parts [.lst (cells.map D.int)]).wp P E := by
  unfold m__law_parts b__law_parts
  walk_at "go"
  with_reducible refine ws_for ?_
  walk_at "go"
  refine ⟨fun rest r => ∃ (m : List Int) (ws : List Tx) (tot : Int) (o3 o4 o5 o6 : Option D), rest = m.map D.int ∧ ws.length + m.length = cells.length ∧ (∀ w ∈ ws, WdS w) ∧ r = [some (.lst (cells.map D.int)), some (.lst (SL ws)), some (.int tot), o3, o4, o5, o6], ⟨cells, [], 0, _, _, _, _, rfl, by simp, by simp, rfl⟩, ?_, ?_⟩
  · rintro r ⟨m, ws, tot, o3, o4, o5, o6, hm, h1, h2, rfl⟩
    have : m = [] := by
      cases m with
      | nil => rfl
      | cons _ _ => cases hm
    subst this
    walk_at "go"
    exact q ws (by simpa using h1) h2
  · rintro d rest r ⟨m, ws, tot, o3, o4, o5, o6, hm, h1, h2, rfl⟩
    obtain ⟨c, l', rfl, rfl, rfl⟩ := script_list hm
    simp only [List.length_cons] at h1
    rw [parts_eq]
    walk_at "go"
    refine mixed_ok _ _ (by omega) (by omega) _ _ fun n n0 n1 => ?_
    walk_at "go"
    have fin : ∀ (size : Int) (w : Tx) (o4 : Option D), WdS w → ∃ (m' : List Int) (ws' : List Tx) (tot' : Int) (p3 p4 p5 p6 : Option D), l'.map D.int = m'.map D.int ∧ ws'.length + m'.length = cells.length ∧ (∀ w ∈ ws', WdS w) ∧ [some (D.lst (cells.map D.int)), some (.lst (SL ws ++ [.str w])), some (.int (tot + size)), some (.int c), o4, some (.int size), some (.str w)] = [some (.lst (cells.map D.int)), some (.lst (SL ws')), some (.int tot'), p3, p4, p5, p6] := fun size w o4 hw => by
      refine ⟨l', ws ++ [w], tot + size, some (.int c), o4, some (.int size), some (.str w), rfl, by simp; omega, fun x hx => ?_, by unfold SL; simp⟩
      rw [List.mem_append, List.mem_singleton] at hx
      rcases hx with hx | rfl
      · exact h2 x hx
      · exact hw
    have tail : ∀ size : Int, 1 ≤ size → size ≤ 30 → (tl_parts [some (.lst (cells.map D.int)), some (.lst (SL ws)), some (.int tot), some (.int c), some (.int n), some (.int size), o6]).wp
        ⟨fun r => ∃ (m : List Int) (ws : List Tx) (tot : Int) (o3 o4 o5 o6 : Option D), l'.map D.int = m.map D.int ∧ ws.length + m.length = cells.length ∧ (∀ w ∈ ws, WdS w) ∧ r = [some (.lst (cells.map D.int)), some (.lst (SL ws)), some (.int tot), o3, o4, o5, o6], P, fun _ => False, fun _ => False, fun e _ => E e⟩ := fun size s1 s2 => by
      unfold tl_parts
      walk_at "go"
      refine mixed_ok _ _ (by omega) (by omega) _ _ fun k k0 k1 => ?_
      walk_at "go"
      refine word_ok k size k0 k1 s1 (by omega) _ _ fun w wl wc => ?_
      walk_at "go"
      have hne : w ≠ [] := fun z => by rw [z] at wl; simp at wl; omega
      split
      · walk_at "go"
        obtain ⟨t, c0, rfl⟩ := last_of hne
        rw [show cut (t ++ [c0]) none (some (-1)) = t from cut_front (k := 0) rfl (by omega)]
        refine ix_str (fun c => 33 ≤ c ∧ c ≤ 126) (by simp; omega) (by decide) fun x hx => ?_
        walk_at "go"
        simp only [List.length_append, List.length_singleton] at wl
        refine And.intro (by omega) ?_
        walk_at "go"
        rw [sl_len]
        refine ⟨by omega, ?_⟩
        refine fin size (t ++ [x]) _ ⟨by simp, by simp; omega, fun y hy => ?_⟩
        rw [List.mem_append, List.mem_singleton] at hy
        rcases hy with hy | rfl
        · exact wc y (List.mem_append_left _ hy)
        · exact hx
      · walk_at "go"
        rw [sl_len]
        refine ⟨by omega, ?_⟩
        exact fin size w _ ⟨hne, by omega, wc⟩
    split
    · split
      · walk_at "go"
        (refine ws_imp (tail _ ?_ ?_) (fun _ z => z) (fun _ z => z) (fun _ z => z.elim) (fun _ z => z.elim) (fun _ _ z => z) <;> omega)
      · walk_at "go"
        (refine ws_imp (tail _ ?_ ?_) (fun _ z => z) (fun _ z => z) (fun _ z => z.elim) (fun _ z => z.elim) (fun _ _ z => z) <;> omega)
    · walk_at "go"
      (refine ws_imp (tail _ ?_ ?_) (fun _ z => z) (fun _ z => z) (fun _ z => z.elim) (fun _ z => z.elim) (fun _ _ z => z) <;> omega)

--USES c_dpp c_max c_prb c_parts2
/-! what the laws on partings ask alike -/
theorem WS_drawn {ws : List Tx} (h0 : ws ≠ []) (hl : ws.length ≤ 100) (hw : ∀ w ∈ ws, WdS w) : WS ws := by
  refine ⟨h0, fun w hw' z => ?_, fun w hw' => (hw w hw').1, ?_⟩
  · have := (hw w hw').2.2 32 z
    omega
  · have h1 := Jn_le 32 ws
    have : ∀ l : List Tx, (∀ w ∈ l, WdS w) → (l.map List.length).sum ≤ 30 * l.length := fun l => by
      induction l with
      | nil => intro _; simp
      | cons a r ih =>
        intro hh
        have h2 := ih fun w hw => hh w (List.mem_cons_of_mem _ hw)
        have h3 := (hh a (by simp)).2.1
        simp only [List.map_cons, List.sum_cons, List.length_cons]
        omega
    have := this ws hw
    omega
theorem RowsOf.inw {ws : List Tx} {wide : Int} {k j : Nat} {c : Int} {rs : List Tx} (h : RowsOf (coP ws wide) (SP ws wide) (rowP ws) k j c rs) : ∀ r ∈ rs, (r.length : Int) ≤ wide := by
  induction h with
  | nil => simp
  | snoc h hs ih =>
    intro r hr
    rw [List.mem_append, List.mem_singleton] at hr
    rcases hr with hr | rfl
    · exact ih r hr
    · exact hs.2.2
theorem RowsOf.glue {ws : List Tx} {wide : Int} {k j : Nat} {c : Int} {rs : List Tx} (h : RowsOf (coP ws wide) (SP ws wide) (rowP ws) k j c rs) : Jn 32 rs = Jn 32 (ws.take j) := by
  induction h with
  | nil => rfl
  | @snoc k i j c rs h hs ih =>
    have hi := hs.1
    have hj := hs.2.1
    have e : ws.take j = ws.take i ++ (ws.drop i).take (j - i) := by
      rw [show j = i + (j - i) by omega, List.take_add]
      simp
    have ne : (ws.drop i).take (j - i) ≠ [] := fun z => by
      have := congrArg List.length z
      rw [List.length_take, List.length_drop, List.length_nil] at this
      omega
    cases h with
    | nil =>
      rw [e]
      rfl
    | @snoc k2 i2 _ c2 rs2 h2 hs2 =>
      have hi2 := hs2.1
      have hj2 := hs2.2.1
      rw [e, Jn_app 32 (by simp) (by simp), ih, Jn_app 32 (fun z => by
        have := congrArg List.length z
        rw [List.length_take, List.length_nil] at this
        omega) ne]
      rfl
/-- two tables of levels tell the same -/
theorem Levels.alike {co : Nat → Nat → Int} {S : Nat → Nat → Prop} {m : Nat} {l1 l2 : Nat → Nat → Option Int} (h1 : Levels co S m l1) (h2 : Levels co S m l2) {k j : Nat} (hk : k ≤ m) : l1 k j = l2 k j := by
  have half : ∀ {l1 l2 : Nat → Nat → Option Int}, Levels co S m l1 → Levels co S m l2 → ∀ c, l1 k j = some c → ∃ c', l2 k j = some c' ∧ c' ≤ c := fun h1 h2 c hc => by
    obtain ⟨rs, hr⟩ := h1.sound (row := fun _ _ => ()) hk hc
    exact h2.least hk hr
  cases e1 : l1 k j with
  | none =>
    cases e2 : l2 k j with
    | none => rfl
    | some c =>
      obtain ⟨c', g, _⟩ := half h2 h1 c e2
      rw [e1] at g
      cases g
  | some c =>
    obtain ⟨c', g1, g2⟩ := half h1 h2 c e1
    obtain ⟨c2, g3, g4⟩ := half h2 h1 c' g1
    rw [e1] at g3
    cases g3
    rw [g1, show c' = c by omega]
theorem inS_no {t : Tx} {ws : List Tx} (hn : t ∉ ws) {P : Bool → Prop} {E : Exc → Prop} (h : P true) : (inO true (.str t) (.lst (SL ws))).wp P E := by
  have e : inV (fv (.str t)) ((SL ws).map fv) = false := by
    unfold inV
    rw [List.any_eq_false]
    intro v hv
    obtain ⟨d, hd', rfl⟩ := List.mem_map.mp hv
    obtain ⟨w, hw, rfl⟩ := List.mem_map.mp hd'
    intro z
    have z2 : eqD (.str w) (.str t) = true := z
    rw [eqD_str, beq_iff_eq] at z2
    exact hn (z2 ▸ hw)
  have f : (SL ws).all flatD = true := by
    rw [List.all_eq_true]
    intro d hd'
    obtain ⟨w, hw, rfl⟩ := List.mem_map.mp hd'
    rfl
  show R.wp (if (flatD (.str t) && (SL ws).all flatD) = true then _ else _) P E
  rw [if_pos (by rw [f]; rfl)]
  rw [e]
  exact h

--USES c_cell c_eq c_told
--DROP table_ok
theorem rowP_ge {ws : List Tx} (hw : ∀ w ∈ ws, w ≠ []) {i : Nat} : ∀ k, i + k ≤ ws.length → k ≤ (rowP ws i (i + k)).length
  | 0, _ => Nat.zero_le _
  | k + 1, hk => by
    have ih := rowP_ge hw (i := i) k (by omega)
    have hj := List.getElem?_eq_getElem (l := ws) (i := i + k) (by omega)
    have := rowP_snoc hw (i := i) (j := i + k) (by omega) hj
    have hne := hw _ (List.mem_of_getElem? hj)
    rw [show i + (k + 1) = i + k + 1 by omega, this]
    split
    · rename_i z
      have := List.length_pos_iff.mpr hne
      omega
    · simp
      omega
theorem rowP_last {ws : List Tx} (hw : ∀ w ∈ ws, w ≠ []) {i j : Nat} (hi : i ≤ j) {w : Tx} (hj : ws[j]? = some w) : (rowP ws i (j + 1)).getLastD 0 = w.getLastD 0 := by
  rw [rowP_snoc hw hi hj]
  split
  · rfl
  · obtain ⟨t, ht⟩ := last_snoc (hw w (List.mem_of_getElem? hj))
    generalize w.getLastD 0 = c at ht
    rw [ht, show rowP ws i j ++ 32 :: (t ++ [c]) = (rowP ws i j ++ 32 :: t) ++ [c] by simp]
    exact List.getLastD_concat ..
theorem lcost48_ok {ws : List Tx} (h : WS ws) {wide : Int} (w0 : 0 ≤ wide) (w1 : wide ≤ 1000) {i j : Nat} (hi : i < j) (hj : j ≤ ws.length) (P : D → Prop) (E : Exc → Prop) (q : (SP ws wide i j → P (.int (coP ws wide i j))) ∧ (¬SP ws wide i j → P .non)) : (m__law_cost [.lst (SL ws), .int wide, .int (i : Int), .int (j : Int)]).wp P E := by
  have hn := h.n
  have hsl := sl_len ws
  have hll := h.2.2.2
  obtain ⟨q1, q2⟩ := q
  unfold m__law_cost b__law_cost
  walk_at "go"
  have ce : cut (SL ws) (some (i : Int)) (some (j : Int)) = SL ((ws.drop i).take (j - i)) := by
    rw [cut_two (by rw [hsl]; omega) (by omega)]
    unfold SL
    rw [← List.map_take, ← List.map_drop, rowP_cut (by omega) (by omega)]
  rw [ce]
  have rl := rowP_le (ws := ws) i j
  refine jn_ok (by show (rowP ws i j).length ≤ _; omega) (by rw [List.length_take, List.length_drop]; omega) ?_
  show Hold _ _ [_, _, _, _, some (.int ((rowP ws i j).length : Nat)), _, _]
  obtain ⟨k, rfl⟩ : ∃ k, j = k + 1 := ⟨j - 1, by omega⟩
  have hw := List.getElem?_eq_getElem (l := ws) (i := k) (by omega)
  have hla := rowP_last h.2.2.1 (i := i) (by omega) hw
  have rne := rowP_ne h.2.2.1 (i := i) (j := k + 1) (by omega) (by omega)
  have edge : SP ws wide i (k + 1) ↔ ((rowP ws i (k + 1)).length : Int) ≤ wide := ⟨fun z => z.2.2, fun z => ⟨by omega, by omega, z⟩⟩
  have cod : coP ws wide i (k + 1) = (wide - (rowP ws i (k + 1)).length) * (wide - (rowP ws i (k + 1)).length) + if k + 1 = ws.length then 0 else brkC ((rowP ws i (k + 1)).getLastD 0) := rfl
  rw [hla] at cod
  obtain ⟨t, ht⟩ := last_snoc (h.2.2.1 _ (List.mem_of_getElem? hw))
  generalize hrow : rowP ws i (k + 1) = row at rl rne edge cod
  generalize ws[k] = w at hw hla cod ht
  generalize w.getLastD 0 = c at hla cod ht
  walk_at "go"
  by_cases zf : wide < (row.length : Int)
  · rw [if_pos zf]
    exact q2 fun z => by have := edge.mp z; omega
  rw [if_neg zf]
  have q := q1 (edge.mpr (by omega))
  rw [cod] at q
  have sq : (wide - (row.length : Nat)) ^ 2 = (wide - row.length) * (wide - row.length) := by
    rw [Int.pow_succ, Int.pow_succ, Int.pow_zero, Int.one_mul]
  walk_at "go"
  rw [sq]
  refine ix_slj (j := k) (by omega) hw _ _ ?_
  rw [ht]
  refine ix_last ?_
  walk_at "go"
  rw [hsl]
  by_cases z : k + 1 = ws.length
  · rw [if_pos (by omega)]
    rw [if_pos z, Int.add_zero] at q
    exact q
  rw [if_neg (by omega)]
  rw [if_neg z] at q
  unfold brkC at q
  walk_at "go"
  by_cases h6 : c ∈ [46, 33, 63]
  · rw [if_pos h6]
    rw [if_pos h6, Int.add_zero] at q
    exact q
  · rw [if_neg h6]
    rw [if_neg h6] at q
    walk_at "go"
    by_cases h5 : c ∈ [44, 59, 58]
    · rw [if_pos h5]
      rw [if_pos h5] at q
      walk_at "go"
      exact q
    · rw [if_neg h5]
      rw [if_neg h5] at q
      walk_at "go"
      exact q
theorem lnext_ok {ws : List Tx} (h : WS ws) {wide : Int} (w0 : 0 ≤ wide) (w1 : wide ≤ 1000) {ah : Nat → Option Int} {B : Int} (hB : Lb B ah) (hB2 : B ≤ 10 ^ 17) (P : D → Prop) (E : Exc → Prop) (q : ∀ fo, Best (coP ws wide) ah (SP ws wide) fo → P (.lst (OL ws.length fo))) : (m__law_next [.lst (SL ws), .int wide, .lst (OL ws.length ah)]).wp P E := by
  have hn := h.n
  have hsl := sl_len ws
  have hll := h.2.2.2
  have nsp : ∀ i j : Nat, (i : Int) < (j : Int) - wide → ¬SP ws wide i j := fun i j hd hs => by
    have := rowP_ge h.2.2.1 (i := i) (j - i) (by have := hs.2.1; have := hs.1; omega)
    rw [show i + (j - i) = j by have := hs.1; omega] at this
    have := hs.2.2
    have := hs.1
    omega
  unfold m__law_next b__law_next
  walk_at "go"
  with_reducible refine ws_forR ?_
  walk_at "go"
  rw [hsl]
  walk_at "sides"
  refine ⟨1, ((ws.length + 1 : Nat) : Int), by rw [show (ws.length : Int) + 1 = ((ws.length + 1 : Nat) : Int) by omega], fun k r => ∃ fo o4 o5 o6 o7, Best (coP ws wide) ah (fun i j => SP ws wide i j ∧ j ≤ k) fo ∧ r = [some (.lst (SL ws)), some (.int wide), some (.lst (OL ws.length ah)), some (.lst (OL k fo)), o4, o5, o6, o7], ⟨fun _ => none, _, _, _, _, (Best.start _ _).same fun i j => ⟨fun z => by have := z.1.1; omega, fun z => z.elim⟩, rfl⟩, ?_, ?_⟩
  · rintro r ⟨fo, o4, o5, o6, o7, hb, rfl⟩
    rw [show (((ws.length + 1 : Nat) : Int) - 1).toNat = ws.length by omega] at hb ⊢
    walk_at "go"
    exact q fo (hb.same fun i j => ⟨fun z => ⟨z, z.2.1⟩, fun z => z.1⟩)
  · rintro k r hk ⟨fo, o4, o5, o6, o7, hb, rfl⟩
    have hk' : k < ws.length := by omega
    unfold l__law_next_2
    walk_at "go"
    with_reducible refine ws_forR ?_
    walk_at "go"
    obtain ⟨lo, hlo, hlo2⟩ : ∃ lo : Nat, max2 0 (1 + (k : Int) - wide) = (lo : Int) ∧ (∀ i : Nat, i < lo → (i : Int) < ((k + 1 : Nat) : Int) - wide) ∧ lo ≤ k + 1 := by
      unfold max2
      split
      · exact ⟨(1 + (k : Int) - wide).toNat, by omega, fun i hi => by omega, by omega⟩
      · exact ⟨0, rfl, fun i hi => by omega, by omega⟩
    rw [hlo]
    walk_at "sides"
    refine ⟨(lo : Int), ((k + 1 : Nat) : Int), by rw [show 1 + (k : Int) = ((k + 1 : Nat) : Int) by omega], fun c r => ∃ (o : Option Int) (o6 o7 : Option D), (∀ x, o = some x → ∃ i c', SP ws wide i (k + 1) ∧ ah i = some c' ∧ x = c' + coP ws wide i (k + 1)) ∧ (∀ i c', i < lo + c → SP ws wide i (k + 1) → ah i = some c' → ∃ x, o = some x ∧ x ≤ c' + coP ws wide i (k + 1)) ∧
      r = [some (.lst (SL ws)), some (.int wide), some (.lst (OL ws.length ah)), some (.lst (OL k fo)), some (.int (1 + (k : Int))), some (oI o), o6, o7], ⟨none, _, _, fun _ z => (by cases z), fun i c' hi hs => absurd hs (nsp i (k + 1) (hlo2.1 i (by omega))), rfl⟩, ?_, ?_⟩
    · rintro r ⟨o, o6, o7, ha, hb2, rfl⟩
      walk_at "go"
      rw [ol_len]
      have e : OL k fo ++ [oI o] = OL (k + 1) (fun v => if v = k + 1 then o else fo v) := by
        unfold OL
        rw [show k + 1 + 1 = (k + 1) + 1 from rfl, List.range_succ (n := k + 1), List.map_append]
        congr 1
        · refine List.map_congr_left fun v hv => ?_
          rw [List.mem_range] at hv
          simp only
          rw [if_neg (by omega)]
        · simp
      rw [e]
      refine ⟨by omega, _, _, _, _, _, ⟨fun j c hc => ?_, fun i j c' hs hc => ?_⟩, rfl⟩
      · by_cases z : j = k + 1
        · rw [if_pos z] at hc
          obtain ⟨i, c', g1, g2, g3⟩ := ha c hc
          subst z
          exact ⟨i, c', ⟨g1, Nat.le_refl _⟩, g2, g3⟩
        · rw [if_neg z] at hc
          obtain ⟨i, c', g1, g2, g3⟩ := hb.a j c hc
          exact ⟨i, c', ⟨g1.1, by omega⟩, g2, g3⟩
      · by_cases z : j = k + 1
        · subst z
          simp only [if_true]
          exact hb2 i c' (by have := hs.1.1; have := hlo2.2; omega) hs.1 hc
        · simp only [if_neg z]
          exact hb.b i j c' ⟨hs.1, by omega⟩ hc
    · rintro c r hc ⟨o, o6, o7, ha, hb2, rfl⟩
      unfold l__law_next_1
      walk_at "go"
      rw [show (lo : Int) + c = ((lo + c : Nat) : Int) by omega, show 1 + (k : Int) = ((k + 1 : Nat) : Int) by omega]
      have cb := coP_le hll w0 w1 (lo + c) (k + 1)
      refine lcost48_ok h w0 w1 (by omega) (by omega) _ _ ⟨fun hs => ?_, fun hs => ?_⟩
      all_goals
        walk_at "go"
        refine ix_OL (v := lo + c) (by omega) (by omega) _ _ ?_
        cases hv : ah (lo + c) with
        | none =>
          rw [show oI none = D.non from rfl]
          walk_at "run"
          refine ⟨o, _, _, ha, fun i c' hi hs2 hc2 => ?_, rfl⟩
          by_cases z : i = lo + c
          · rw [z, hv] at hc2; cases hc2
          · exact hb2 i c' (by omega) hs2 hc2
        | some v => ?_
      case' refine_1.some =>
        have bv := hB _ v hv
        rw [show oI (some v) = D.int v from rfl]
        walk_at "run"
        cases o with
        | none => ?_
        | some x => ?_
      case refine_1.some.none =>
        rw [show oI none = D.non from rfl]
        walk_at "run"
        refine ix_OL (v := lo + c) (by omega) (by omega) _ _ ?_
        rw [hv, show oI (some v) = D.int v from rfl]
        walk_at "go"
        refine ⟨some (v + coP ws wide (lo + c) (k + 1)), _, _, fun x hx => ?_, fun i c' hi hs2 hc2 => ?_, rfl⟩
        · cases hx
          exact ⟨lo + c, v, hs, hv, rfl⟩
        · by_cases z : i = lo + c
          · rw [z, hv] at hc2
            cases hc2
            rw [z]
            exact ⟨_, rfl, Int.le_refl _⟩
          · obtain ⟨x, hx, _⟩ := hb2 i c' (by omega) hs2 hc2
            cases hx
      case refine_1.some.some =>
        rw [show oI (some x) = D.int x from rfl]
        walk_at "go"
        refine ix_OL (v := lo + c) (by omega) (by omega) _ _ ?_
        rw [hv, show oI (some v) = D.int v from rfl]
        walk_at "go"
        by_cases z2 : v + coP ws wide (lo + c) (k + 1) < x
        · rw [if_pos z2]
          refine ix_OL (v := lo + c) (by omega) (by omega) _ _ ?_
          rw [hv, show oI (some v) = D.int v from rfl]
          walk_at "go"
          refine ⟨some (v + coP ws wide (lo + c) (k + 1)), _, _, fun x hx => ?_, fun i c' hi hs2 hc2 => ?_, rfl⟩
          · cases hx
            exact ⟨lo + c, v, hs, hv, rfl⟩
          · by_cases z : i = lo + c
            · rw [z, hv] at hc2
              cases hc2
              rw [z]
              exact ⟨_, rfl, Int.le_refl _⟩
            · obtain ⟨y, hy, hle⟩ := hb2 i c' (by omega) hs2 hc2
              cases hy
              exact ⟨_, rfl, by omega⟩
        · rw [if_neg z2]
          refine ⟨some x, _, _, ha, fun i c' hi hs2 hc2 => ?_, rfl⟩
          by_cases z : i = lo + c
          · rw [z, hv] at hc2
            cases hc2
            rw [z]
            exact ⟨_, rfl, by omega⟩
          · exact hb2 i c' (by omega) hs2 hc2
      case refine_2.some =>
        rw [show oI (some v) = D.int v from rfl]
        walk_at "run"
        refine ⟨o, _, _, ha, fun i c' hi hs2 hc2 => ?_, rfl⟩
        by_cases z : i = lo + c
        · rw [z] at hs2; exact absurd hs2 hs
        · exact hb2 i c' (by omega) hs2 hc2
theorem scal_OL (n : Nat) (f : Nat → Option Int) : (OL n f).all scalD = true := by
  rw [List.all_eq_true]
  intro d hd
  unfold OL at hd
  obtain ⟨v, _, rfl⟩ := List.mem_map.mp hd
  cases f v <;> rfl
theorem tableD_ok {ws : List Tx} (h : WS ws) {wide : Int} (w0 : 0 ≤ wide) (w1 : wide ≤ 1000) {m : Nat} (hm : m ≤ 1000) (P : D → Prop) (E : Exc → Prop) (q : ∀ lev, Levels (coP ws wide) (SP ws wide) m lev → (∀ i, i ≤ m → Lb (10 ^ 9 * (i : Int)) (lev i)) → P (.lst (TBL ws.length lev m))) : (m_parting_table [.str (Jn 32 ws), .int wide, .int (m : Int)]).wp P E := by
  have hn := h.n
  have hsl := sl_len ws
  have hll := h.2.2.2
  unfold m_parting_table b_parting_table
  walk_at "go"
  refine split_ok (by omega) (by show _ ≤ 1000000; omega) ?_
  rw [split_Jn 32 h.1 h.2.1]
  show Hold _ _ [_, _, _, some (.lst (SL ws)), _, _]
  walk_at "go"
  rw [hsl]
  walk_at "go"
  rw [show ((ws.length : Int)).toNat = ws.length by omega]
  have z0 : D.int 0 :: (List.replicate ws.length [D.non]).flatten = OL ws.length lev0 := ol_zero ws.length
  have zl : (List.replicate ws.length [D.non]).flatten.length = ws.length := by rw [rep_flat]; simp
  rw [zl, z0]
  refine ⟨by omega, ?_⟩
  walk_at "go"
  with_reducible refine ws_forR ?_
  walk_at "go"
  refine ⟨0, (m : Int), rfl, fun k r => ∃ lev o5, Levels (coP ws wide) (SP ws wide) k lev ∧ (∀ i, i ≤ k → Lb (10 ^ 9 * (i : Int)) (lev i)) ∧ r = [some (.str (Jn 32 ws)), some (.int wide), some (.int (m : Int)), some (.lst (SL ws)), some (.lst (TBL ws.length lev k)), o5], ⟨fun _ => lev0, _, ⟨rfl, fun k hk => by omega⟩, fun i hi j c hc => ?_, rfl⟩, ?_, ?_⟩
  · have hc : lev0 j = some c := hc
    unfold lev0 at hc
    by_cases z : j = 0
    · rw [if_pos z] at hc
      cases hc
      omega
    · rw [if_neg z] at hc
      cases hc
  · rintro r ⟨lev, o5, h1, h2, rfl⟩
    rw [show ((m : Int) - 0).toNat = m by omega] at h1 h2 ⊢
    walk_at "go"
    exact q lev h1 h2
  · rintro k r hk ⟨lev, o5, h1, h2, rfl⟩
    unfold l_parting_table_1
    walk_at "go"
    refine ix_TBL (v := k) (by omega) (by omega) _ _ ?_
    with_reducible refine nextlist_ok h w0 w1 (h2 k (by omega)) (by omega) _ _ fun fo hb => ?_
    walk_at "go"
    refine ⟨scal_OL _ _, ?_⟩
    rw [tbl_len, tbl_snoc]
    refine ⟨by omega, _, _, h1.grow hb, fun i hi => ?_, rfl⟩
    by_cases z : i = k + 1
    · subst z
      rw [upd_at]
      intro j c hc
      obtain ⟨i', c', g1, g2, rfl⟩ := hb.a j c hc
      have a1 := h2 k (by omega) i' c' g2
      have a2 := coP_le hll w0 w1 i' j
      omega
    · rw [upd_ne z]
      exact h2 i (by omega)
theorem tbl_same {co : Nat → Nat → Int} {S : Nat → Nat → Prop} {m n : Nat} {l1 l2 : Nat → Nat → Option Int} (h1 : Levels co S m l1) (h2 : Levels co S m l2) : TBL n l1 m = TBL n l2 m := by
  unfold TBL
  refine List.map_congr_left fun k hk => ?_
  rw [List.mem_range] at hk
  congr 1
  unfold OL
  refine List.map_congr_left fun j _ => ?_
  rw [Levels.alike h1 h2 (by omega)]
theorem shal_tbl (n : Nat) (lev : Nat → Nat → Option Int) (m k : Nat) : shal (k + 3) (.lst (TBL n lev m)) = true := by
  show (TBL n lev m).all (shal (k + 2)) = true
  rw [List.all_eq_true]
  intro d hd
  unfold TBL at hd
  obtain ⟨v, _, rfl⟩ := List.mem_map.mp hd
  show (OL n (lev v)).all (shal (k + 1)) = true
  rw [List.all_eq_true]
  intro d hd
  unfold OL at hd
  obtain ⟨u, _, rfl⟩ := List.mem_map.mp hd
  cases lev v u <;> rfl
theorem tbl_at {n : Nat} {lev : Nat → Nat → Option Int} {m k : Nat} (h : k ≤ m) : (TBL n lev m)[k]? = some (.lst (OL n (lev k))) := by
  unfold TBL
  rw [List.getElem?_map, List.getElem?_range (by omega)]
  rfl
theorem whole_ok (o : Option Int) (P : D → Prop) (E : Exc → Prop) (q : P (.bl true)) : (m__law_whole [oI o]).wp P E := by
  unfold m__law_whole b__law_whole
  cases o with
  | none =>
    rw [show oI none = D.non from rfl]
    walk_at "run"
    exact q
  | some x =>
    rw [show oI (some x) = D.int x from rfl]
    walk_at "run"
    exact q
theorem law_true (ns : List Int) (h : ns.length ≤ 63) : m_law [.scr ns] = .ok (.bl true) := by
  rw [← wp_ok_iff]
  unfold m_law b_law
  walk_at "go"
  refine cell_ok ns 3 _ _ fun c3 => ?_
  walk_at "go"
  have hl : (D.int c3 :: List.map D.int (cut ns (some 4) (some 24))) = ((c3 :: cut ns (some 4) (some 24)).map D.int) := rfl
  have cl : (cut ns (some 4) (some 24)).length ≤ 20 := by
    unfold cut
    rw [show (some (4 : Int)) = some ((4 : Nat) : Int) from rfl, show (some (24 : Int)) = some ((24 : Nat) : Int) from rfl, HT.sIx_nat, HT.sIx_nat, List.length_take]
    omega
  walk_at "sides"
  rw [hl]
  refine parts_ok _ (by simp; omega) _ _ fun ws wl hw => ?_
  have w0 : ws ≠ [] := fun z => by rw [z] at wl; simp at wl
  have wl2 : ws.length ≤ 21 := by rw [wl]; simp; omega
  have hW := WS_drawn w0 (by omega) hw
  have hll := hW.2.2.2
  have hsl := sl_len ws
  walk_at "go"
  with_reducible refine wp_lc lenF ?_
  walk_at "go"
  refine ⟨fun d hd => ?_, ?_⟩
  · obtain ⟨r, hr, rfl⟩ := List.mem_map.mp hd
    simp only [wipeR]
    walk_at "go"
    exact ⟨rfl, rfl⟩
  refine maxlen_ok w0 _ _ fun m m2 m3 => ?_
  have mm : m ≤ 30 := by
    obtain ⟨w, hw1, rfl⟩ := m2
    exact (hw w hw1).2.1
  walk_at "go"
  refine cell_ok ns 0 _ _ fun c0 => ?_
  walk_at "go"
  refine cell_ok ns 1 _ _ fun c1 => ?_
  walk_at "go"
  have m0 := Int.emod_nonneg c0 (show (100 : Int) ≠ 0 by omega)
  have m1 := Int.emod_lt_of_pos c0 (show (0 : Int) < 100 by omega)
  by_cases zc : 0 < c1 % 3
  case' pos =>
    rw [if_pos zc]
    walk_at "go"
    refine cell_ok ns 0 _ _ fun c0' => ?_
    walk_at "go"
    have n0 := Int.emod_nonneg c0' (show (21 : Int) ≠ 0 by omega)
    have n1 := Int.emod_lt_of_pos c0' (show (0 : Int) < 21 by omega)
    obtain ⟨wide, hwide, v0, v1⟩ : ∃ wide : Int, (m : Int) + c0' % 21 = wide ∧ 0 ≤ wide ∧ wide ≤ 1000 := ⟨_, rfl, by omega, by omega⟩
  case' neg =>
    rw [if_neg zc]
    obtain ⟨wide, hwide, v0, v1⟩ : ∃ wide : Int, 1 + c0 % 100 = wide ∧ 0 ≤ wide ∧ wide ≤ 1000 := ⟨_, rfl, by omega, by omega⟩
  all_goals
    rw [hwide]
    walk_at "go"
    refine cell_ok ns 2 _ _ fun c2 => ?_
    walk_at "go"
    obtain ⟨y, hy, y1⟩ : ∃ y : Nat, 1 + c2 % 5 = ((y + 1 : Nat) : Int) ∧ y + 1 ≤ 5 := ⟨(c2 % 5).toNat, by omega, by omega⟩
    rw [hy, hsl]
    walk_at "go"
    rw [show ((ws.length : Int)).toNat = ws.length by omega]
    have z0 : D.int 0 :: (List.replicate ws.length [D.non]).flatten = OL ws.length lev0 := ol_zero ws.length
    have zl : (List.replicate ws.length [D.non]).flatten.length = ws.length := by rw [rep_flat]; simp
    rw [zl, z0]
    refine ⟨by omega, ?_⟩
    walk_at "go"
    with_reducible refine ws_forR ?_
    walk_at "go"
    refine ⟨0, ((y + 1 : Nat) : Int), rfl, fun k r => ∃ lev o6, Levels (coP ws wide) (SP ws wide) k lev ∧ (∀ i, i ≤ k → Lb (10 ^ 9 * (i : Int)) (lev i)) ∧ r = [some (.scr ns), some (.lst (SL ws)), some (.int m), some (.int wide), some (.int ((y + 1 : Nat) : Int)), some (.lst (TBL ws.length lev k)), o6, none, none, none, none], ⟨fun _ => lev0, _, ⟨rfl, fun k hk => by omega⟩, fun i hi j c hc => ?_, rfl⟩, ?_, ?_⟩
    · have hc : lev0 j = some c := hc
      unfold lev0 at hc
      by_cases z : j = 0
      · rw [if_pos z] at hc
        cases hc
        omega
      · rw [if_neg z] at hc
        cases hc
    · rintro r ⟨lev, o6, h1, h2, rfl⟩
      rw [show (((y + 1 : Nat) : Int) - 0).toNat = y + 1 by omega] at h1 h2 ⊢
      walk_at "go"
      refine jn_ok (by omega) (by omega) ?_
      walk_at "go"
      refine tableD_ok hW v0 v1 (by omega) _ _ fun lev2 g1 g2 => ?_
      rw [tbl_same g1 h1]
      walk_at "run"
      refine wp_neR (shal_tbl _ _ _ 9) ?_
      walk_at "run"
      with_reducible refine ws_forM (fun k : Nat => .lst (OL ws.length (lev k))) ?_
      walk_at "go"
      refine ⟨List.range (y + 1 + 1), rfl, fun dn r => ∃ o8 o10, r = [some (.scr ns), some (.lst (SL ws)), some (.int m), some (.int wide), some (.int ((y + 1 : Nat) : Int)), some (.lst (TBL ws.length lev (y + 1))), o6, some (.lst (TBL ws.length lev (y + 1))), o8, none, o10], ⟨_, _, rfl⟩, ?_, ?_⟩
      · rintro r ⟨o8, o10, rfl⟩
        have hc6 : ∀ x : Option D, chkT [true, true, true, true, true, true, true, true, false, true, false] [some (.scr ns), some (.lst (SL ws)), some (.int m), some (.int wide), some (.int ((y + 1 : Nat) : Int)), some (.lst (TBL ws.length lev (y + 1))), x, some (.lst (TBL ws.length lev (y + 1))), none, none, none] [some (.scr ns), some (.lst (SL ws)), some (.int m), some (.int wide), some (.int ((y + 1 : Nat) : Int)), some (.lst (TBL ws.length lev (y + 1))), x, some (.lst (TBL ws.length lev (y + 1))), o8, none, o10] = true := fun x => by cases x <;> rfl
        refine ⟨hc6 o6, ?_⟩
        walk_at "go"
        refine wp_kIxO (x := .lst (OL ws.length (lev 0))) ⟨by omega, by rw [tbl_len]; omega⟩ (tbl_at (by omega)) ?_
        walk_at "go"
        refine wp_setO (by rw [ol_len]; omega) ?_
        rw [setP_lst (tbl_at (Nat.zero_le _))]
        walk_at "go"
        have hm1 : ∀ z : D, ((TBL ws.length lev (y + 1)).set 0 z)[((y + 1 : Nat) : Int).toNat]? = some (.lst (OL ws.length (lev (y + 1)))) := fun z => by
          rw [show (((y + 1 : Nat) : Int)).toNat = y + 1 by omega, List.getElem?_set_ne (by omega)]
          exact tbl_at (Nat.le_refl _)
        refine wp_kidL ⟨by omega, by rw [List.length_set, tbl_len]; omega⟩ (hm1 _) ?_
        walk_at "go"
        rw [ol_len]
        refine ⟨by omega, ?_⟩
        walk_at "go"
        refine jn_ok (by omega) (by omega) ?_
        walk_at "go"
        refine tableD_ok hW v0 v1 (by omega) _ _ fun lev3 k1 k2 => ?_
        rw [tbl_same k1 h1]
        refine wp_eqR (shal_tbl _ _ _ 9) ?_
        rfl
      · rintro dn k t r e ⟨o8, o10, rfl⟩
        unfold l_law_2
        walk_at "run"
        with_reducible refine wp_lc (fun _ => .bl true) ?_
        walk_at "go"
        rw [ol_len]
        walk_at "sides"
        refine ⟨fun d hd => ?_, ?_⟩
        · unfold OL at hd
          obtain ⟨u, _, rfl⟩ := List.mem_map.mp hd
          simp only [wipeR]
          walk_at "go"
          exact ⟨rfl, whole_ok _ _ _ rfl⟩
        · rw [show (OL ws.length (lev k)).map (fun _ => D.bl true) = ((OL ws.length (lev k)).map fun _ => true).map D.bl by rw [List.map_map]; rfl]
          walk_at "go"
          rw [show ((OL ws.length (lev k)).map fun _ => true).all id = true by simp]
          walk_at "run"
          exact ⟨_, _, rfl⟩
    · rintro k r hk ⟨lev, o6, h1, h2, rfl⟩
      unfold l_law_1
      walk_at "go"
      refine ix_TBL (v := k) (by omega) (by omega) _ _ ?_
      with_reducible refine lnext_ok hW v0 v1 (h2 k (by omega)) (by omega) _ _ fun fo hb => ?_
      walk_at "go"
      rw [tbl_len, tbl_snoc]
      refine ⟨by omega, _, _, h1.grow hb, fun i hi => ?_, rfl⟩
      by_cases z : i = k + 1
      · subst z
        rw [upd_at]
        intro j c hc
        obtain ⟨i', c', e1, e2, rfl⟩ := hb.a j c hc
        have a1 := h2 k (by omega) i' c' e2
        have a2 := coP_le hll v0 v1 i' j
        omega
      · rw [upd_ne z]
        exact h2 i (by omega)

structure Txt (K : PySem.W.Frag) (mg : Str → Option Value) (ctab itab : Nat → Option Addr) (a_break_price a_row_price a_rows_from a_next_list a_parting_table a__law_cell_at a__law_mixed a__law_word a__law_parts a__law_cost a__law_next a__law_whole a_law : Addr) : Prop where
  all : mg "all" = none
  bool : mg "bool" = none
  int : mg "int" = none
  isinstance : mg "isinstance" = none
  len : mg "len" = none
  list : mg "list" = none
  max : mg "max" = none
  range : mg "range" = none
  g_ENDS : ∃ t, mg "ENDS" = some (.str (tx [46, 33, 63]) t)
  g_PAUSES : ∃ t, mg "PAUSES" = some (.str (tx [44, 59, 58]) t)
  g_break_price : mg "break_price" = some (.ref a_break_price)
  k_break_price : PySem.W.keepIn K (.ref a_break_price) = true
  g_row_price : mg "row_price" = some (.ref a_row_price)
  k_row_price : PySem.W.keepIn K (.ref a_row_price) = true
  g_rows_from : mg "rows_from" = some (.ref a_rows_from)
  k_rows_from : PySem.W.keepIn K (.ref a_rows_from) = true
  g_next_list : mg "next_list" = some (.ref a_next_list)
  k_next_list : PySem.W.keepIn K (.ref a_next_list) = true
  g_parting_table : mg "parting_table" = some (.ref a_parting_table)
  k_parting_table : PySem.W.keepIn K (.ref a_parting_table) = true
  g__law_cell_at : mg "_law_cell_at" = some (.ref a__law_cell_at)
  k__law_cell_at : PySem.W.keepIn K (.ref a__law_cell_at) = true
  g__law_mixed : mg "_law_mixed" = some (.ref a__law_mixed)
  k__law_mixed : PySem.W.keepIn K (.ref a__law_mixed) = true
  g__law_word : mg "_law_word" = some (.ref a__law_word)
  k__law_word : PySem.W.keepIn K (.ref a__law_word) = true
  g__law_parts : mg "_law_parts" = some (.ref a__law_parts)
  k__law_parts : PySem.W.keepIn K (.ref a__law_parts) = true
  g__law_cost : mg "_law_cost" = some (.ref a__law_cost)
  k__law_cost : PySem.W.keepIn K (.ref a__law_cost) = true
  g__law_next : mg "_law_next" = some (.ref a__law_next)
  k__law_next : PySem.W.keepIn K (.ref a__law_next) = true
  g__law_whole : mg "_law_whole" = some (.ref a__law_whole)
  k__law_whole : PySem.W.keepIn K (.ref a__law_whole) = true
  g_law : mg "law" = some (.ref a_law)
  k_law : PySem.W.keepIn K (.ref a_law) = true
section
variable {P : Program} {w : World} {K : PySem.W.Frag} {mg : Str → Option Value} {base : Heap} {a_break_price a_row_price a_rows_from a_next_list a_parting_table a__law_cell_at a__law_mixed a__law_word a__law_parts a__law_cost a__law_next a__law_whole a_law : Addr}
theorem sc_break_price : FnScope ["row"] ["row"] (defScope s_break_price) := ⟨rfl, rfl, rfl, by decide +kernel, rfl, by decide +kernel, by decide +kernel⟩
theorem ok_break_price {ctab itab : Nat → Option Addr} {fd : FuncData} (T : Txt K mg ctab itab a_break_price a_row_price a_rows_from a_next_list a_parting_table a__law_cell_at a__law_mixed a__law_word a__law_parts a__law_cost a__law_next a__law_whole a_law) (F : Fun K "break_price" "break_price" s_break_price a_break_price fd) : FnOk P w K mg base (CXb false P w) 1 a_break_price fd ["row"] (spP ⟨K, ctab, itab⟩ 1 m_break_price false) :=
  pu_def 1 1 gm_break_price_0 gm_break_price_0 b_break_price rfl rfl rfl F sc_break_price rfl rfl (lowFrz rfl) (fun h => nomatch h) (fun cdv A outer s H E hr Jc_ wv_ ge_ Jx_ =>
   (pub_cons (pus_if Jx_ (PuC.T (pu_in Jx_ (pu_ix Jx_ (pu_var 0) (pu_neg pu_int)) (pu_gstr [46, 33, 63] T.g_ENDS)))
    (pub_one (pus_ret Jx_ pu_int))
    pub_nil)
    (pub_cons (pus_if Jx_ (PuC.T (pu_in Jx_ (pu_ix Jx_ (pu_var 0) (pu_neg pu_int)) (pu_gstr [44, 59, 58] T.g_PAUSES)))
    (pub_one (pus_ret Jx_ pu_int))
    pub_nil)
    (pub_one (pus_ret Jx_ pu_int)))))
theorem sc_row_price : FnScope ["row", "wide", "is_last", "lacks"] ["row", "wide", "is_last"] (defScope s_row_price) := ⟨rfl, rfl, rfl, by decide +kernel, rfl, by decide +kernel, by decide +kernel⟩
theorem ok_row_price {ctab itab : Nat → Option Addr} {fd : FuncData} (T : Txt K mg ctab itab a_break_price a_row_price a_rows_from a_next_list a_parting_table a__law_cell_at a__law_mixed a__law_word a__law_parts a__law_cost a__law_next a__law_whole a_law) (F : Fun K "row_price" "row_price" s_row_price a_row_price fd) {fd_break_price : FuncData} (O_break_price : FnOk P w K mg base (CXb false P w) 1 a_break_price fd_break_price ["row"] (spP ⟨K, ctab, itab⟩ 1 m_break_price false)) (B_break_price : Binds K fd_break_price ["row"] []) : FnOk P w K mg base (CXb false P w) 2 a_row_price fd ["row", "wide", "is_last"] (spP ⟨K, ctab, itab⟩ 3 m_row_price false) :=
  pu_def 4 3 gm_row_price_0 gm_row_price_0 b_row_price rfl rfl rfl F sc_row_price rfl rfl (lowFrz rfl) (fun h => nomatch h) (fun cdv A outer s H E hr Jc_ wv_ ge_ Jx_ =>
   (pub_cons (pus_set 3 Jx_ (pu_sub (pu_var 1) (pu_len Jx_ (pua_cons (PuE.vw (pu_var 0)) pua_nil) T.len)))
    (pub_cons (pus_if Jx_ (pu_truth Jx_ (pu_var 2))
    (pub_one (pus_ret Jx_ (pu_mulI (pu_var 3) (pu_var 3))))
    pub_nil)
    (pub_one (pus_ret Jx_ (pu_add Jx_ (pu_mulI (pu_var 3) (pu_var 3)) (pu_call (ro := false) Jx_ O_break_price (hr.mono (by decide)) T.g_break_price T.k_break_price B_break_price (pua_cons (pu_var 0) pua_nil))))))))
theorem sc_rows_from : FnScope ["parts", "wide", "start", "found", "row", "j"] ["parts", "wide", "start"] (defScope s_rows_from) := ⟨rfl, rfl, rfl, by decide +kernel, rfl, by decide +kernel, by decide +kernel⟩
theorem ok_rows_from {ctab itab : Nat → Option Addr} {fd : FuncData} (T : Txt K mg ctab itab a_break_price a_row_price a_rows_from a_next_list a_parting_table a__law_cell_at a__law_mixed a__law_word a__law_parts a__law_cost a__law_next a__law_whole a_law) (F : Fun K "rows_from" "rows_from" s_rows_from a_rows_from fd) {fd_row_price : FuncData} (O_row_price : FnOk P w K mg base (CXb false P w) 2 a_row_price fd_row_price ["row", "wide", "is_last"] (spP ⟨K, ctab, itab⟩ 3 m_row_price false)) (B_row_price : Binds K fd_row_price ["row", "wide", "is_last"] []) : FnOk P w K mg base (CXb false P w) 3 a_rows_from fd ["parts", "wide", "start"] (spP ⟨K, ctab, itab⟩ 3 m_rows_from true) :=
  pu_def 6 3 gm_rows_from_0 gm_rows_from_1 b_rows_from rfl rfl rfl F sc_rows_from rfl rfl (lowFrz rfl) (fun _ => nx_rows_from) (fun cdv A outer s H E hr Jc_ wv_ ge_ Jx_ =>
   (pub_cons (pus_setOG (G1 := gm_rows_from_1) 3 Jx_ (pu_lst pua_nil) (Eqx.at .own))
    (pub_cons (pus_set 4 Jx_ (pu_str []))
    (pub_cons (pus_for Jx_ Jc_ (pui_range2 (pua_cons (PuE.vw (pu_var 2)) (pua_cons (PuE.vw (pu_len Jx_ (pua_cons (PuE.vw (pu_var 0)) pua_nil) T.len)) pua_nil)) T.range) (pug_name 5 Jx_) ((pub_cons (pus_if Jx_ (PuC.T (pu_ne Jx_ hr (pu_var 4) (pu_str [])))
    (pub_one (pus_set 4 Jx_ (pu_add Jx_ (pu_var 4) (pu_str [32]))))
    pub_nil)
    (pub_cons (pus_set 4 Jx_ (pu_add Jx_ (pu_var 4) (pu_ix Jx_ (pu_var 0) (pu_var 5))))
    (pub_cons (pus_if Jx_ (PuC.T (pu_gt (pu_len Jx_ (pua_cons (PuE.vw (pu_var 4)) pua_nil) T.len) (pu_var 1)))
    (pub_one pus_break)
    pub_nil)
    (pub_one (pus_append 3 Jx_ (pua_cons (pu_tup (pua_cons (pu_add Jx_ (pu_var 5) pu_int) (pua_cons (pu_call (ro := false) Jx_ O_row_price (hr.mono (by decide)) T.g_row_price T.k_row_price B_row_price (pua_cons (pu_var 4) (pua_cons (pu_var 1) (pua_cons (PuC.E (pu_eq Jx_ hr (pu_var 5) (pu_sub (pu_len Jx_ (pua_cons (PuE.vw (pu_var 0)) pua_nil) T.len) pu_int))) pua_nil)))) pua_nil))) pua_nil))))))))
    (pub_one (pus_retV 3))))))
theorem sc_next_list : FnScope ["parts", "wide", "ahead", "found", "start", "j", "cost"] ["parts", "wide", "ahead"] (defScope s_next_list) := ⟨rfl, rfl, rfl, by decide +kernel, rfl, by decide +kernel, by decide +kernel⟩
theorem ok_next_list {ctab itab : Nat → Option Addr} {fd : FuncData} (T : Txt K mg ctab itab a_break_price a_row_price a_rows_from a_next_list a_parting_table a__law_cell_at a__law_mixed a__law_word a__law_parts a__law_cost a__law_next a__law_whole a_law) (F : Fun K "next_list" "next_list" s_next_list a_next_list fd) {fd_rows_from : FuncData} (O_rows_from : FnOk P w K mg base (CXb false P w) 3 a_rows_from fd_rows_from ["parts", "wide", "start"] (spP ⟨K, ctab, itab⟩ 3 m_rows_from true)) (B_rows_from : Binds K fd_rows_from ["parts", "wide", "start"] []) : FnOk P w K mg base (CXb false P w) 4 a_next_list fd ["parts", "wide", "ahead"] (spP ⟨K, ctab, itab⟩ 3 m_next_list true) :=
  pu_def 7 3 gm_next_list_0 gm_next_list_1 b_next_list rfl rfl rfl F sc_next_list rfl rfl (lowFrz rfl) (fun _ => nx_next_list) (fun cdv A outer s H E hr Jc_ wv_ ge_ Jx_ =>
   (pub_cons (pus_setOG (G1 := gm_next_list_1) 3 Jx_ (pu_rep (pu_lst (pua_cons pu_non pua_nil)) (pu_add Jx_ (pu_len Jx_ (pua_cons (PuE.vw (pu_var 0)) pua_nil) T.len) pu_int)) (Eqx.at .own))
    (pub_cons (pus_for Jx_ Jc_ (pui_range1 (pua_cons (PuE.vw (pu_len Jx_ (pua_cons (PuE.vw (pu_var 0)) pua_nil) T.len)) pua_nil) T.range) (pug_name 4 Jx_) ((pub_one (pus_if Jx_ (PuC.T (pu_notN (pu_ix Jx_ (pu_var 2) (pu_var 4)) pu_non))
    (pub_one (pus_for Jx_ Jc_ (pui_any Jx_ (PuE.frz (pu_call (ro := true) Jx_ O_rows_from (hr.mono (by decide)) T.g_rows_from T.k_rows_from B_rows_from (pua_cons (pu_var 0) (pua_cons (pu_var 1) (pua_cons (pu_var 4) pua_nil)))))) (pug_tup Jc_.calm (pugs_cons (pug_name 5 Jx_) (pugs_cons (pug_name 6 Jx_) pugs_nil))) ((pub_one (pus_if Jx_ (PuW.pt (pu_or (PuC.T (pu_isN (pu_ix Jx_ (pu_view 3) (pu_var 5)) pu_non)) (pu_or1 (PuC.T (pu_lt Jx_ hr (pu_add Jx_ (pu_ix Jx_ (pu_var 2) (pu_var 4)) (pu_var 6)) (pu_ix Jx_ (pu_view 3) (pu_var 5)))))))
    (pub_one (pus_put 3 Jx_ (pu_var 5) (pu_add Jx_ (pu_ix Jx_ (pu_var 2) (pu_var 4)) (pu_var 6))))
    pub_nil)))))
    pub_nil))))
    (pub_one (pus_retV 3)))))
theorem sc_parting_table : FnScope ["words", "wide", "most", "parts", "table", "k"] ["words", "wide", "most"] (defScope s_parting_table) := ⟨rfl, rfl, rfl, by decide +kernel, rfl, by decide +kernel, by decide +kernel⟩
theorem ok_parting_table {ctab itab : Nat → Option Addr} {fd : FuncData} (T : Txt K mg ctab itab a_break_price a_row_price a_rows_from a_next_list a_parting_table a__law_cell_at a__law_mixed a__law_word a__law_parts a__law_cost a__law_next a__law_whole a_law) (F : Fun K "parting_table" "parting_table" s_parting_table a_parting_table fd) {fd_next_list : FuncData} (O_next_list : FnOk P w K mg base (CXb false P w) 4 a_next_list fd_next_list ["parts", "wide", "ahead"] (spP ⟨K, ctab, itab⟩ 3 m_next_list true)) (B_next_list : Binds K fd_next_list ["parts", "wide", "ahead"] []) : FnOk P w K mg base (CXb false P w) 5 a_parting_table fd ["words", "wide", "most"] (spD ⟨K, ctab, itab⟩ 3 m_parting_table (.node fun _ => .node fun _ => .leaf)) :=
  pu_defDp 6 3 gm_parting_table_0 gm_parting_table_1 b_parting_table rfl rfl rfl F sc_parting_table rfl rfl (lowFrz rfl) nx_parting_table (fun cdv A outer s H E hr Jc_ wv_ ge_ Jx_ =>
   (pub_cons (pus_set 3 Jx_ (PuE.frz (pu_split (pu_var 0) (pu_str [32]))))
    (pub_cons (pus_setD (G1 := gm_parting_table_1) 4 Jx_ (pud_lst (pudl_cons (pud_own (pu_addL (pu_lst (pua_cons pu_int pua_nil)) (pu_rep (pu_lst (pua_cons pu_non pua_nil)) (pu_len Jx_ (pua_cons (PuE.vw (pu_var 3)) pua_nil) T.len)))) pudl_nil)) (Eqx.at (.deep (.node fun _ => .node fun _ => .leaf) none)) rfl)
    (pub_cons (pus_for Jx_ Jc_ (pui_range1 (pua_cons (PuE.vw (pu_var 2)) pua_nil) T.range) (pug_name 5 Jx_) ((pub_one (pus_kApp Jx_ (pk_nm 4) (pud_peekO (let Jx_ := Jx.peek (show Jx _ _ gm_parting_table_1 _ from Jx_); (pu_call (ro := true) Jx_ O_next_list (hr.mono (by decide)) T.g_next_list T.k_next_list B_next_list (pua_cons (pu_var 3) (pua_cons (pu_var 1) (pua_cons (pu_ix Jx_ (pu_var 4) (pu_var 5)) pua_nil))))))))))
    (pub_one (pus_retN 4 rfl))))))
theorem sc__law_cell_at : FnScope ["_law_script", "_law_k"] ["_law_script", "_law_k"] (defScope s__law_cell_at) := ⟨rfl, rfl, rfl, by decide +kernel, rfl, by decide +kernel, by decide +kernel⟩
theorem ok__law_cell_at {ctab itab : Nat → Option Addr} {fd : FuncData} (T : Txt K mg ctab itab a_break_price a_row_price a_rows_from a_next_list a_parting_table a__law_cell_at a__law_mixed a__law_word a__law_parts a__law_cost a__law_next a__law_whole a_law) (F : Fun K "_law_cell_at" "_law_cell_at" s__law_cell_at a__law_cell_at fd) : FnOk P w K mg base (CXb false P w) 1 a__law_cell_at fd ["_law_script", "_law_k"] (spP ⟨K, ctab, itab⟩ 2 m__law_cell_at false) :=
  pu_def 2 2 gm__law_cell_at_0 gm__law_cell_at_0 b__law_cell_at rfl rfl rfl F sc__law_cell_at rfl rfl (lowFrz rfl) (fun h => nomatch h) (fun cdv A outer s H E hr Jc_ wv_ ge_ Jx_ =>
   (pub_cons (pus_if Jx_ (PuC.T (pu_lt Jx_ hr (pu_var 1) (pu_len Jx_ (pua_cons (PuE.vw (pu_var 0)) pua_nil) T.len)))
    (pub_one (pus_ret Jx_ (pu_ix Jx_ (pu_var 0) (pu_var 1))))
    pub_nil)
    (pub_one (pus_ret Jx_ pu_int))))
theorem sc__law_mixed : FnScope ["_law_cell", "_law_by"] ["_law_cell", "_law_by"] (defScope s__law_mixed) := ⟨rfl, rfl, rfl, by decide +kernel, rfl, by decide +kernel, by decide +kernel⟩
theorem ok__law_mixed {ctab itab : Nat → Option Addr} {fd : FuncData} (T : Txt K mg ctab itab a_break_price a_row_price a_rows_from a_next_list a_parting_table a__law_cell_at a__law_mixed a__law_word a__law_parts a__law_cost a__law_next a__law_whole a_law) (F : Fun K "_law_mixed" "_law_mixed" s__law_mixed a__law_mixed fd) : FnOk P w K mg base (CXb false P w) 1 a__law_mixed fd ["_law_cell", "_law_by"] (spP ⟨K, ctab, itab⟩ 2 m__law_mixed false) :=
  pu_def 2 2 gm__law_mixed_0 gm__law_mixed_0 b__law_mixed rfl rfl rfl F sc__law_mixed rfl rfl (lowFrz rfl) (fun h => nomatch h) (fun cdv A outer s H E hr Jc_ wv_ ge_ Jx_ =>
   (pub_one (pus_ret Jx_ (pu_mod (pu_mulI (pu_mod (pu_var 0) pu_int) (pu_var 1)) pu_int))))
theorem sc__law_word : FnScope ["_law_number", "_law_size", "_law_some", "_law_word_here", "_law_k"] ["_law_number", "_law_size"] (defScope s__law_word) := ⟨rfl, rfl, rfl, by decide +kernel, rfl, by decide +kernel, by decide +kernel⟩
theorem ok__law_word {ctab itab : Nat → Option Addr} {fd : FuncData} (T : Txt K mg ctab itab a_break_price a_row_price a_rows_from a_next_list a_parting_table a__law_cell_at a__law_mixed a__law_word a__law_parts a__law_cost a__law_next a__law_whole a_law) (F : Fun K "_law_word" "_law_word" s__law_word a__law_word fd) : FnOk P w K mg base (CXb false P w) 1 a__law_word fd ["_law_number", "_law_size"] (spP ⟨K, ctab, itab⟩ 2 m__law_word false) :=
  pu_def 5 2 gm__law_word_0 gm__law_word_0 b__law_word rfl rfl rfl F sc__law_word rfl rfl (lowFrz rfl) (fun h => nomatch h) (fun cdv A outer s H E hr Jc_ wv_ ge_ Jx_ =>
   (pub_cons (pus_set 2 Jx_ (pu_str [33, 34, 35, 36, 38, 39, 40, 41, 42, 43, 44, 45, 46, 47, 48, 49, 50, 51, 52, 53, 54, 55, 56, 57, 58, 59, 60, 61, 62, 63, 64, 65, 66, 67, 68, 69, 70, 71, 72, 73, 74, 75, 76, 77, 78, 79, 80, 81, 82, 83, 84, 85, 86, 87, 88, 89, 90]))
    (pub_cons (pus_set 2 Jx_ (pu_add Jx_ (pu_var 2) (pu_str [91, 92, 93, 94, 95, 96, 97, 98, 99, 100, 101, 102, 103, 104, 105, 106, 107, 108, 109, 110, 111, 112, 113, 114, 115, 116, 117, 118, 119, 120, 121, 122, 123, 124, 125, 126])))
    (pub_cons (pus_set 3 Jx_ (pu_str []))
    (pub_cons (pus_for Jx_ Jc_ (pui_range1 (pua_cons (PuE.vw (pu_var 1)) pua_nil) T.range) (pug_name 4 Jx_) ((pub_cons (pus_set 0 Jx_ (pu_mod (pu_add Jx_ (pu_mulI (pu_var 0) pu_int) pu_int) pu_int))
    (pub_one (pus_set 3 Jx_ (pu_add Jx_ (pu_var 3) (pu_ix Jx_ (pu_var 2) (pu_mod (pu_var 0) pu_int))))))))
    (pub_one (pus_ret Jx_ (pu_var 3))))))))
theorem sc__law_parts : FnScope ["_law_cells", "_law_parts_here", "_law_total", "_law_cell", "_law_number", "_law_size", "_law_word_here"] ["_law_cells"] (defScope s__law_parts) := ⟨rfl, rfl, rfl, by decide +kernel, rfl, by decide +kernel, by decide +kernel⟩
theorem ok__law_parts {ctab itab : Nat → Option Addr} {fd : FuncData} (T : Txt K mg ctab itab a_break_price a_row_price a_rows_from a_next_list a_parting_table a__law_cell_at a__law_mixed a__law_word a__law_parts a__law_cost a__law_next a__law_whole a_law) (F : Fun K "_law_parts" "_law_parts" s__law_parts a__law_parts fd) {fd__law_mixed : FuncData} (O__law_mixed : FnOk P w K mg base (CXb false P w) 1 a__law_mixed fd__law_mixed ["_law_cell", "_law_by"] (spP ⟨K, ctab, itab⟩ 2 m__law_mixed false)) (B__law_mixed : Binds K fd__law_mixed ["_law_cell", "_law_by"] []) {fd__law_word : FuncData} (O__law_word : FnOk P w K mg base (CXb false P w) 1 a__law_word fd__law_word ["_law_number", "_law_size"] (spP ⟨K, ctab, itab⟩ 2 m__law_word false)) (B__law_word : Binds K fd__law_word ["_law_number", "_law_size"] []) : FnOk P w K mg base (CXb false P w) 2 a__law_parts fd ["_law_cells"] (spP ⟨K, ctab, itab⟩ 1 m__law_parts true) :=
  pu_def 7 1 gm__law_parts_0 gm__law_parts_1 b__law_parts rfl rfl rfl F sc__law_parts rfl rfl (lowFrz rfl) (fun _ => nx__law_parts) (fun cdv A outer s H E hr Jc_ wv_ ge_ Jx_ =>
   (pub_cons (pus_setOG (G1 := gm__law_parts_1) 1 Jx_ (pu_lst pua_nil) (Eqx.at .own))
    (pub_cons (pus_set 2 Jx_ pu_int)
    (pub_cons (pus_for Jx_ Jc_ (pui_any Jx_ (pu_var 0)) (pug_name 3 Jx_) ((pub_cons (pus_set 4 Jx_ (pu_call (ro := false) Jx_ O__law_mixed (hr.mono (by decide)) T.g__law_mixed T.k__law_mixed B__law_mixed (pua_cons (pu_var 3) (pua_cons pu_int pua_nil))))
    (pub_cons (pus_set 5 Jx_ (pu_add Jx_ pu_int (pu_mod (pu_var 4) pu_int)))
    (pub_cons (pus_if Jx_ (PuW.pt (pu_and (PuC.T (pu_eq Jx_ hr (pu_mod (pu_fdiv (pu_var 4) pu_int) pu_int) pu_int)) (pu_and1 (PuC.T (pu_lt Jx_ hr (pu_var 2) pu_int)))))
    (pub_one (pus_set 5 Jx_ (pu_add Jx_ pu_int (pu_mod (pu_fdiv (pu_var 4) pu_int) pu_int))))
    pub_nil)
    (pub_cons (pus_set 6 Jx_ (pu_call (ro := false) Jx_ O__law_word (hr.mono (by decide)) T.g__law_word T.k__law_word B__law_word (pua_cons (pu_call (ro := false) Jx_ O__law_mixed (hr.mono (by decide)) T.g__law_mixed T.k__law_mixed B__law_mixed (pua_cons (pu_var 3) (pua_cons pu_int pua_nil))) (pua_cons (pu_var 5) pua_nil))))
    (pub_cons (pus_if Jx_ (PuC.T (pu_eq Jx_ hr (pu_mod (pu_fdiv (pu_var 4) pu_int) pu_int) pu_int))
    (pub_one (pus_set 6 Jx_ (pu_add Jx_ (pu_cut Jx_ (pu_var 6) puo_none (puo_some (pu_neg pu_int))) (pu_ix Jx_ (pu_str [46, 33, 63, 44, 59, 58]) (pu_mod (pu_fdiv (pu_var 4) pu_int) pu_int)))))
    pub_nil)
    (pub_cons (pus_set 2 Jx_ (pu_add Jx_ (pu_var 2) (pu_var 5)))
    (pub_one (pus_append 1 Jx_ (pua_cons (pu_var 6) pua_nil)))))))))))
    (pub_one (pus_retV 1))))))
theorem sc__law_cost : FnScope ["_law_parts_here", "_law_wide", "_law_i", "_law_j", "_law_length", "_law_cost_here", "_law_last"] ["_law_parts_here", "_law_wide", "_law_i", "_law_j"] (defScope s__law_cost) := ⟨rfl, rfl, rfl, by decide +kernel, rfl, by decide +kernel, by decide +kernel⟩
theorem ok__law_cost {ctab itab : Nat → Option Addr} {fd : FuncData} (T : Txt K mg ctab itab a_break_price a_row_price a_rows_from a_next_list a_parting_table a__law_cell_at a__law_mixed a__law_word a__law_parts a__law_cost a__law_next a__law_whole a_law) (F : Fun K "_law_cost" "_law_cost" s__law_cost a__law_cost fd) : FnOk P w K mg base (CXb false P w) 1 a__law_cost fd ["_law_parts_here", "_law_wide", "_law_i", "_law_j"] (spP ⟨K, ctab, itab⟩ 4 m__law_cost false) :=
  pu_def 7 4 gm__law_cost_0 gm__law_cost_0 b__law_cost rfl rfl rfl F sc__law_cost rfl rfl (lowFrz rfl) (fun h => nomatch h) (fun cdv A outer s H E hr Jc_ wv_ ge_ Jx_ =>
   (pub_cons (pus_set 4 Jx_ (pu_len Jx_ (pua_cons (PuE.vw (pu_join Jx_ (pu_str [32]) (pu_cut Jx_ (pu_var 0) (puo_some (pu_var 2)) (puo_some (pu_var 3))))) pua_nil) T.len))
    (pub_cons (pus_if Jx_ (PuC.T (pu_gt (pu_var 4) (pu_var 1)))
    (pub_one (pus_ret Jx_ pu_non))
    pub_nil)
    (pub_cons (pus_set 5 Jx_ (pu_pow (pu_sub (pu_var 1) (pu_var 4)) pu_int))
    (pub_cons (pus_set 6 Jx_ (pu_ix Jx_ (pu_ix Jx_ (pu_var 0) (pu_sub (pu_var 3) pu_int)) (pu_neg pu_int)))
    (pub_cons (pus_if Jx_ (PuW.pt (pu_or (PuC.T (pu_eq Jx_ hr (pu_var 3) (pu_len Jx_ (pua_cons (PuE.vw (pu_var 0)) pua_nil) T.len))) (pu_or1 (PuC.T (pu_in Jx_ (pu_var 6) (pu_str [46, 33, 63]))))))
    (pub_one (pus_ret Jx_ (pu_var 5)))
    pub_nil)
    (pub_one (pus_ret Jx_ (pu_add Jx_ (pu_var 5) (pu_ix Jx_ (pu_lst (pua_cons pu_int (pua_cons pu_int pua_nil))) (pu_intS (pua_cons (PuE.vw (PuC.E (pu_in Jx_ (pu_var 6) (pu_str [44, 59, 58])))) pua_nil) T.int)))))))))))
theorem sc__law_next : FnScope ["_law_parts_here", "_law_wide", "_law_ahead", "_law_due", "_law_j", "_law_least", "_law_i", "_law_cost_here"] ["_law_parts_here", "_law_wide", "_law_ahead"] (defScope s__law_next) := ⟨rfl, rfl, rfl, by decide +kernel, rfl, by decide +kernel, by decide +kernel⟩
theorem ok__law_next {ctab itab : Nat → Option Addr} {fd : FuncData} (T : Txt K mg ctab itab a_break_price a_row_price a_rows_from a_next_list a_parting_table a__law_cell_at a__law_mixed a__law_word a__law_parts a__law_cost a__law_next a__law_whole a_law) (F : Fun K "_law_next" "_law_next" s__law_next a__law_next fd) {fd__law_cost : FuncData} (O__law_cost : FnOk P w K mg base (CXb false P w) 1 a__law_cost fd__law_cost ["_law_parts_here", "_law_wide", "_law_i", "_law_j"] (spP ⟨K, ctab, itab⟩ 4 m__law_cost false)) (B__law_cost : Binds K fd__law_cost ["_law_parts_here", "_law_wide", "_law_i", "_law_j"] []) : FnOk P w K mg base (CXb false P w) 2 a__law_next fd ["_law_parts_here", "_law_wide", "_law_ahead"] (spP ⟨K, ctab, itab⟩ 3 m__law_next true) :=
  pu_def 8 3 gm__law_next_0 gm__law_next_1 b__law_next rfl rfl rfl F sc__law_next rfl rfl (lowFrz rfl) (fun _ => nx__law_next) (fun cdv A outer s H E hr Jc_ wv_ ge_ Jx_ =>
   (pub_cons (pus_setOG (G1 := gm__law_next_1) 3 Jx_ (pu_lst (pua_cons pu_non pua_nil)) (Eqx.at .own))
    (pub_cons (pus_for Jx_ Jc_ (pui_range2 (pua_cons (PuE.vw pu_int) (pua_cons (PuE.vw (pu_add Jx_ (pu_len Jx_ (pua_cons (PuE.vw (pu_var 0)) pua_nil) T.len) pu_int)) pua_nil)) T.range) (pug_name 4 Jx_) ((pub_cons (pus_set 5 Jx_ pu_non)
    (pub_cons (pus_for Jx_ Jc_ (pui_range2 (pua_cons (PuE.vw (pu_max2 Jc_.calm (pua_cons (PuE.vw pu_int) (pua_cons (PuE.vw (pu_sub (pu_var 4) (pu_var 1))) pua_nil)) T.max)) (pua_cons (PuE.vw (pu_var 4)) pua_nil)) T.range) (pug_name 6 Jx_) ((pub_cons (pus_set 7 Jx_ (pu_call (ro := false) Jx_ O__law_cost (hr.mono (by decide)) T.g__law_cost T.k__law_cost B__law_cost (pua_cons (pu_var 0) (pua_cons (pu_var 1) (pua_cons (pu_var 6) (pua_cons (pu_var 4) pua_nil))))))
    (pub_one (pus_if Jx_ (PuW.pt (pu_and (PuC.T (pu_notN (pu_ix Jx_ (pu_var 2) (pu_var 6)) pu_non)) (pu_and (PuC.T (pu_notN (pu_var 7) pu_non)) (pu_and1 (PuW.pt (pu_or (PuC.T (pu_isN (pu_var 5) pu_non)) (pu_or1 (PuC.T (pu_lt Jx_ hr (pu_add Jx_ (pu_ix Jx_ (pu_var 2) (pu_var 6)) (pu_var 7)) (pu_var 5))))))))))
    (pub_one (pus_set 5 Jx_ (pu_add Jx_ (pu_ix Jx_ (pu_var 2) (pu_var 6)) (pu_var 7))))
    pub_nil)))))
    (pub_one (pus_append 3 Jx_ (pua_cons (pu_var 5) pua_nil)))))))
    (pub_one (pus_retV 3)))))
theorem sc__law_whole : FnScope ["_law_found"] ["_law_found"] (defScope s__law_whole) := ⟨rfl, rfl, rfl, by decide +kernel, rfl, by decide +kernel, by decide +kernel⟩
theorem ok__law_whole {ctab itab : Nat → Option Addr} {fd : FuncData} (T : Txt K mg ctab itab a_break_price a_row_price a_rows_from a_next_list a_parting_table a__law_cell_at a__law_mixed a__law_word a__law_parts a__law_cost a__law_next a__law_whole a_law) (F : Fun K "_law_whole" "_law_whole" s__law_whole a__law_whole fd) : FnOk P w K mg base (CXb false P w) 1 a__law_whole fd ["_law_found"] (spP ⟨K, ctab, itab⟩ 1 m__law_whole false) :=
  pu_def 1 1 gm__law_whole_0 gm__law_whole_0 b__law_whole rfl rfl rfl F sc__law_whole rfl rfl (lowFrz rfl) (fun h => nomatch h) (fun cdv A outer s H E hr Jc_ wv_ ge_ Jx_ =>
   (pub_one (pus_ret Jx_ (pu_orE (PuC.E (pu_isN (pu_var 0) pu_non)) (pu_oneE (pu_andE (pu_isins Jx_ .int (pu_var 0) T.isinstance T.int bt_int) (pu_oneE (pu_notE Jx_ (pu_isins Jx_ .bool (pu_var 0) T.isinstance T.bool bt_bool)))))))))
theorem sc_law : FnScope ["_law_script", "_law_parts_here", "_law_longest", "_law_wide", "_law_most", "_law_due", "_law_k", "_law_found", "_law_some", "_law_part", "_law_one"] ["_law_script"] (defScope s_law) := ⟨rfl, rfl, rfl, by decide +kernel, rfl, by decide +kernel, by decide +kernel⟩
theorem ok_law {ctab itab : Nat → Option Addr} {fd : FuncData} (T : Txt K mg ctab itab a_break_price a_row_price a_rows_from a_next_list a_parting_table a__law_cell_at a__law_mixed a__law_word a__law_parts a__law_cost a__law_next a__law_whole a_law) (F : Fun K "law" "law" s_law a_law fd) {fd__law_parts : FuncData} (O__law_parts : FnOk P w K mg base (CXb false P w) 2 a__law_parts fd__law_parts ["_law_cells"] (spP ⟨K, ctab, itab⟩ 1 m__law_parts true)) (B__law_parts : Binds K fd__law_parts ["_law_cells"] []) {fd__law_cell_at : FuncData} (O__law_cell_at : FnOk P w K mg base (CXb false P w) 1 a__law_cell_at fd__law_cell_at ["_law_script", "_law_k"] (spP ⟨K, ctab, itab⟩ 2 m__law_cell_at false)) (B__law_cell_at : Binds K fd__law_cell_at ["_law_script", "_law_k"] []) {fd__law_next : FuncData} (O__law_next : FnOk P w K mg base (CXb false P w) 2 a__law_next fd__law_next ["_law_parts_here", "_law_wide", "_law_ahead"] (spP ⟨K, ctab, itab⟩ 3 m__law_next true)) (B__law_next : Binds K fd__law_next ["_law_parts_here", "_law_wide", "_law_ahead"] []) {fd_parting_table : FuncData} (O_parting_table : FnOk P w K mg base (CXb false P w) 5 a_parting_table fd_parting_table ["words", "wide", "most"] (spD ⟨K, ctab, itab⟩ 3 m_parting_table (.node fun _ => .node fun _ => .leaf))) (B_parting_table : Binds K fd_parting_table ["words", "wide", "most"] []) {fd__law_whole : FuncData} (O__law_whole : FnOk P w K mg base (CXb false P w) 1 a__law_whole fd__law_whole ["_law_found"] (spP ⟨K, ctab, itab⟩ 1 m__law_whole false)) (B__law_whole : Binds K fd__law_whole ["_law_found"] []) : FnOk P w K mg base (CXb false P w) 6 a_law fd ["_law_script"] (spP ⟨K, ctab, itab⟩ 1 m_law false) :=
  pu_def 11 1 gm_law_0 gm_law_0 b_law rfl rfl rfl F sc_law rfl rfl (lowFrz rfl) (fun h => nomatch h) (fun cdv A outer s H E hr Jc_ wv_ ge_ Jx_ =>
   (pub_cons (pus_set 1 Jx_ (PuE.frz (pu_call (ro := true) Jx_ O__law_parts (hr.mono (by decide)) T.g__law_parts T.k__law_parts B__law_parts (pua_cons (PuE.frz (pu_addL (pu_lst (pua_cons (pu_call (ro := false) Jx_ O__law_cell_at (hr.mono (by decide)) T.g__law_cell_at T.k__law_cell_at B__law_cell_at (pua_cons (pu_var 0) (pua_cons pu_int pua_nil))) pua_nil)) (pu_cut Jx_ (pu_var 0) (puo_some pu_int) (puo_some pu_int)))) pua_nil))))
    (pub_cons (pus_set 2 Jx_ (pu_max Jx_ Jc_.calm (pua_cons (PuE.vw (pu_lc [("_law_part", 9)] Jx_ Jc_ (PuI.s (pui_any Jx_ (pu_var 1))) (fun s_ H_ C_ cl_ fp_ => let Jx_ := Jx.blk (show Jx _ _ gm_law_0 _ from Jx_) s_ H_ _ (compEnvC _ cl_ C_ _) fp_; (pug_name 9 Jx_)) (fun s_ H_ C_ cl_ fp_ => puts_nil) (fun s_ H_ C_ cl_ fp_ => let Jx_ := Jx.blk (show Jx _ _ gm_law_0 _ from Jx_) s_ H_ _ (compEnvC _ cl_ C_ _) fp_; (pu_len Jx_ (pua_cons (PuE.vw (pu_var 9)) pua_nil) T.len)) (by show blkC ["_law_script", "_law_parts_here", "_law_longest", "_law_wide", "_law_most", "_law_due", "_law_k", "_law_found", "_law_some", "_law_part", "_law_one"] (defScope s_law) _ _ = true; decide +kernel) (by decide))) pua_nil) T.max))
    (pub_cons (pus_set 3 Jx_ (pu_add Jx_ pu_int (pu_mod (pu_call (ro := false) Jx_ O__law_cell_at (hr.mono (by decide)) T.g__law_cell_at T.k__law_cell_at B__law_cell_at (pua_cons (pu_var 0) (pua_cons pu_int pua_nil))) pu_int)))
    (pub_cons (pus_if Jx_ (PuC.T (pu_gt (pu_mod (pu_call (ro := false) Jx_ O__law_cell_at (hr.mono (by decide)) T.g__law_cell_at T.k__law_cell_at B__law_cell_at (pua_cons (pu_var 0) (pua_cons pu_int pua_nil))) pu_int) pu_int))
    (pub_one (pus_set 3 Jx_ (pu_add Jx_ (pu_var 2) (pu_mod (pu_call (ro := false) Jx_ O__law_cell_at (hr.mono (by decide)) T.g__law_cell_at T.k__law_cell_at B__law_cell_at (pua_cons (pu_var 0) (pua_cons pu_int pua_nil))) pu_int))))
    pub_nil)
    (pub_cons (pus_set 4 Jx_ (pu_add Jx_ pu_int (pu_mod (pu_call (ro := false) Jx_ O__law_cell_at (hr.mono (by decide)) T.g__law_cell_at T.k__law_cell_at B__law_cell_at (pua_cons (pu_var 0) (pua_cons pu_int pua_nil))) pu_int)))
    (pub_cons (pus_setOG (G1 := gm_law_1) 5 Jx_ (pu_lst (pua_cons (PuE.frz (pu_addL (pu_lst (pua_cons pu_int pua_nil)) (pu_rep (pu_lst (pua_cons pu_non pua_nil)) (pu_len Jx_ (pua_cons (PuE.vw (pu_var 1)) pua_nil) T.len)))) pua_nil)) (Eqx.at .own))
    (pub_cons (pus_for Jx_ Jc_ (pui_range1 (pua_cons (PuE.vw (pu_var 4)) pua_nil) T.range) (pug_name 6 Jx_) ((pub_one (pus_append 5 Jx_ (pua_cons (PuE.frz (pu_call (ro := true) Jx_ O__law_next (hr.mono (by decide)) T.g__law_next T.k__law_next B__law_next (pua_cons (pu_var 1) (pua_cons (pu_var 3) (pua_cons (pu_ix Jx_ (pu_view 5) (pu_var 6)) pua_nil))))) pua_nil)))))
    (pub_freeze (G1 := gm_law_0) 5 (Eqx.at .frz) (pub_cons (pus_setD (G1 := gm_law_2) 7 Jx_ (pud_call Jx_ O_parting_table (hr.mono (by decide)) T.g_parting_table T.k_parting_table B_parting_table (pua_cons (pu_join Jx_ (pu_str [32]) (pu_var 1)) (pua_cons (pu_var 3) (pua_cons (pu_var 4) pua_nil)))) (Eqx.at (.deep (.node fun _ => .node fun _ => .leaf) none)) rfl)
    (pub_cons (pus_if Jx_ (pt_peek (let Jx_ := Jx.peek (show Jx _ _ gm_law_2 _ from Jx_); (PuW.pt (pu_or (pu_not (pu_truth Jx_ (pu_isins Jx_ .list (pu_var 7) T.isinstance T.list bt_list))) (pu_or1 (PuC.T (pu_ne Jx_ hr (pu_var 7) (pu_var 5))))))))
    (pub_freezeD (G1 := gm_law_0) 7 (Eqx.at .frz) rfl (pub_one (pus_ret Jx_ pu_bl)))
    pub_nil)
    (pub_cons (pus_thaw [true, true, true, true, true, true, true, true, false, true, false] (fun vs_ => (pus_for Jx_ Jc_ (pui_any Jx_ (pu_varC 7)) (pug_name 8 Jx_) ((pub_one (pus_if Jx_ (PuW.pt (pu_or (pu_not (pu_truth Jx_ (pu_isins Jx_ .list (pu_var 8) T.isinstance T.list bt_list))) (pu_or1 (pu_not (pu_truth Jx_ (pu_all Jx_ Jc_.calm (pua_cons (PuE.vw (pu_lc [("_law_one", 10)] Jx_ Jc_ (PuI.s (pui_any Jx_ (pu_var 8))) (fun s_ H_ C_ cl_ fp_ => let Jx_ := Jx.blk (show Jx _ _ (cstG vs_ 0 gm_law_2 [true, true, true, true, true, true, true, true, false, true, false]) _ from Jx_) s_ H_ _ (compEnvC _ cl_ C_ _) fp_; (pug_name 10 Jx_)) (fun s_ H_ C_ cl_ fp_ => puts_nil) (fun s_ H_ C_ cl_ fp_ => let Jx_ := Jx.blk (show Jx _ _ (cstG vs_ 0 gm_law_2 [true, true, true, true, true, true, true, true, false, true, false]) _ from Jx_) s_ H_ _ (compEnvC _ cl_ C_ _) fp_; (pu_call (ro := false) Jx_ O__law_whole (hr.mono (by decide)) T.g__law_whole T.k__law_whole B__law_whole (pua_cons (pu_var 10) pua_nil))) (by show blkC ["_law_script", "_law_parts_here", "_law_longest", "_law_wide", "_law_most", "_law_due", "_law_k", "_law_found", "_law_some", "_law_part", "_law_one"] (defScope s_law) _ _ = true; decide +kernel) (by decide))) pua_nil) T.all))))))
    (pub_one (pus_ret Jx_ pu_bl))
    pub_nil))))))
    (pub_cons (pus_kPut Jx_ (pk_ix (pk_nm 7) pu_int) pu_int pu_int)
    (pub_cons (pus_appendP 7 Jx_ (pu_var 4) (pua_cons pu_non pua_nil))
    (pub_freezeD (G1 := gm_law_0) 7 (Eqx.at .frz) rfl (pub_one (pus_ret Jx_ (PuC.E (pu_eq Jx_ hr (PuD.frz (pud_call Jx_ O_parting_table (hr.mono (by decide)) T.g_parting_table T.k_parting_table B_parting_table (pua_cons (pu_join Jx_ (pu_str [32]) (pu_var 1)) (pua_cons (pu_var 3) (pua_cons (pu_var 4) pua_nil))))) (pu_var 5))))))))))))))))))))
end
theorem all_mk {l : PySem.W.OpenLaw} {w : World} {K : PySem.W.Frag} {h : Heap} {mg : Str → Option Value} {fa a_break_price a_row_price a_rows_from a_next_list a_parting_table a__law_cell_at a__law_mixed a__law_word a__law_parts a__law_cost a__law_next a__law_whole a_law : Addr} (X : K.In h) (G : h.Ns mainGlobals mg) (hfa : mg "law" = some (.ref fa))
    {od0 an0 : Option Addr} {sl0 : Array (Option Value)} {oc0 kV0 dc0 pm0 cd0 ct0 : Value}
    {od1 an1 : Option Addr} {sl1 : Array (Option Value)} {oc1 kV1 dc1 pm1 cd1 ct1 : Value}
    {od2 an2 : Option Addr} {sl2 : Array (Option Value)} {oc2 kV2 dc2 pm2 cd2 ct2 : Value}
    {od3 an3 : Option Addr} {sl3 : Array (Option Value)} {oc3 kV3 dc3 pm3 cd3 ct3 : Value}
    {od4 an4 : Option Addr} {sl4 : Array (Option Value)} {oc4 kV4 dc4 pm4 cd4 ct4 : Value}
    {od5 an5 : Option Addr} {sl5 : Array (Option Value)} {oc5 kV5 dc5 pm5 cd5 ct5 : Value}
    {od6 an6 : Option Addr} {sl6 : Array (Option Value)} {oc6 kV6 dc6 pm6 cd6 ct6 : Value}
    {od7 an7 : Option Addr} {sl7 : Array (Option Value)} {oc7 kV7 dc7 pm7 cd7 ct7 : Value}
    {od8 an8 : Option Addr} {sl8 : Array (Option Value)} {oc8 kV8 dc8 pm8 cd8 ct8 : Value}
    {od9 an9 : Option Addr} {sl9 : Array (Option Value)} {oc9 kV9 dc9 pm9 cd9 ct9 : Value}
    {od10 an10 : Option Addr} {sl10 : Array (Option Value)} {oc10 kV10 dc10 pm10 cd10 ct10 : Value}
    {od11 an11 : Option Addr} {sl11 : Array (Option Value)} {oc11 kV11 dc11 pm11 cd11 ct11 : Value}
    {od12 an12 : Option Addr} {sl12 : Array (Option Value)} {oc12 kV12 dc12 pm12 cd12 ct12 : Value}
    {ty0 : Tok}
    {ty1 : Tok}
    (x0 : PySem.W.nsIn K mainGlobals "break_price" = some (some (.ref a_break_price)))
    (l0 : K.lookup a_break_price = some ⟨oc0, od0, .func (PySem.W.fnOf "break_price" "break_price" (defArgs s_break_price) (defBody s_break_price) (defScope s_break_price) .none kV0 dc0 pm0 an0 cd0 ct0), sl0⟩)
    (c0 : PySem.W.codeIn K cd0 "break_price" = true)
    (k0 : PySem.W.keepIn K (.ref a_break_price) = true)
    (x1 : PySem.W.nsIn K mainGlobals "row_price" = some (some (.ref a_row_price)))
    (l1 : K.lookup a_row_price = some ⟨oc1, od1, .func (PySem.W.fnOf "row_price" "row_price" (defArgs s_row_price) (defBody s_row_price) (defScope s_row_price) .none kV1 dc1 pm1 an1 cd1 ct1), sl1⟩)
    (c1 : PySem.W.codeIn K cd1 "row_price" = true)
    (k1 : PySem.W.keepIn K (.ref a_row_price) = true)
    (x2 : PySem.W.nsIn K mainGlobals "rows_from" = some (some (.ref a_rows_from)))
    (l2 : K.lookup a_rows_from = some ⟨oc2, od2, .func (PySem.W.fnOf "rows_from" "rows_from" (defArgs s_rows_from) (defBody s_rows_from) (defScope s_rows_from) .none kV2 dc2 pm2 an2 cd2 ct2), sl2⟩)
    (c2 : PySem.W.codeIn K cd2 "rows_from" = true)
    (k2 : PySem.W.keepIn K (.ref a_rows_from) = true)
    (x3 : PySem.W.nsIn K mainGlobals "next_list" = some (some (.ref a_next_list)))
    (l3 : K.lookup a_next_list = some ⟨oc3, od3, .func (PySem.W.fnOf "next_list" "next_list" (defArgs s_next_list) (defBody s_next_list) (defScope s_next_list) .none kV3 dc3 pm3 an3 cd3 ct3), sl3⟩)
    (c3 : PySem.W.codeIn K cd3 "next_list" = true)
    (k3 : PySem.W.keepIn K (.ref a_next_list) = true)
    (x4 : PySem.W.nsIn K mainGlobals "parting_table" = some (some (.ref a_parting_table)))
    (l4 : K.lookup a_parting_table = some ⟨oc4, od4, .func (PySem.W.fnOf "parting_table" "parting_table" (defArgs s_parting_table) (defBody s_parting_table) (defScope s_parting_table) .none kV4 dc4 pm4 an4 cd4 ct4), sl4⟩)
    (c4 : PySem.W.codeIn K cd4 "parting_table" = true)
    (k4 : PySem.W.keepIn K (.ref a_parting_table) = true)
    (x5 : PySem.W.nsIn K mainGlobals "_law_cell_at" = some (some (.ref a__law_cell_at)))
    (l5 : K.lookup a__law_cell_at = some ⟨oc5, od5, .func (PySem.W.fnOf "_law_cell_at" "_law_cell_at" (defArgs s__law_cell_at) (defBody s__law_cell_at) (defScope s__law_cell_at) .none kV5 dc5 pm5 an5 cd5 ct5), sl5⟩)
    (c5 : PySem.W.codeIn K cd5 "_law_cell_at" = true)
    (k5 : PySem.W.keepIn K (.ref a__law_cell_at) = true)
    (x6 : PySem.W.nsIn K mainGlobals "_law_mixed" = some (some (.ref a__law_mixed)))
    (l6 : K.lookup a__law_mixed = some ⟨oc6, od6, .func (PySem.W.fnOf "_law_mixed" "_law_mixed" (defArgs s__law_mixed) (defBody s__law_mixed) (defScope s__law_mixed) .none kV6 dc6 pm6 an6 cd6 ct6), sl6⟩)
    (c6 : PySem.W.codeIn K cd6 "_law_mixed" = true)
    (k6 : PySem.W.keepIn K (.ref a__law_mixed) = true)
    (x7 : PySem.W.nsIn K mainGlobals "_law_word" = some (some (.ref a__law_word)))
    (l7 : K.lookup a__law_word = some ⟨oc7, od7, .func (PySem.W.fnOf "_law_word" "_law_word" (defArgs s__law_word) (defBody s__law_word) (defScope s__law_word) .none kV7 dc7 pm7 an7 cd7 ct7), sl7⟩)
    (c7 : PySem.W.codeIn K cd7 "_law_word" = true)
    (k7 : PySem.W.keepIn K (.ref a__law_word) = true)
    (x8 : PySem.W.nsIn K mainGlobals "_law_parts" = some (some (.ref a__law_parts)))
    (l8 : K.lookup a__law_parts = some ⟨oc8, od8, .func (PySem.W.fnOf "_law_parts" "_law_parts" (defArgs s__law_parts) (defBody s__law_parts) (defScope s__law_parts) .none kV8 dc8 pm8 an8 cd8 ct8), sl8⟩)
    (c8 : PySem.W.codeIn K cd8 "_law_parts" = true)
    (k8 : PySem.W.keepIn K (.ref a__law_parts) = true)
    (x9 : PySem.W.nsIn K mainGlobals "_law_cost" = some (some (.ref a__law_cost)))
    (l9 : K.lookup a__law_cost = some ⟨oc9, od9, .func (PySem.W.fnOf "_law_cost" "_law_cost" (defArgs s__law_cost) (defBody s__law_cost) (defScope s__law_cost) .none kV9 dc9 pm9 an9 cd9 ct9), sl9⟩)
    (c9 : PySem.W.codeIn K cd9 "_law_cost" = true)
    (k9 : PySem.W.keepIn K (.ref a__law_cost) = true)
    (x10 : PySem.W.nsIn K mainGlobals "_law_next" = some (some (.ref a__law_next)))
    (l10 : K.lookup a__law_next = some ⟨oc10, od10, .func (PySem.W.fnOf "_law_next" "_law_next" (defArgs s__law_next) (defBody s__law_next) (defScope s__law_next) .none kV10 dc10 pm10 an10 cd10 ct10), sl10⟩)
    (c10 : PySem.W.codeIn K cd10 "_law_next" = true)
    (k10 : PySem.W.keepIn K (.ref a__law_next) = true)
    (x11 : PySem.W.nsIn K mainGlobals "_law_whole" = some (some (.ref a__law_whole)))
    (l11 : K.lookup a__law_whole = some ⟨oc11, od11, .func (PySem.W.fnOf "_law_whole" "_law_whole" (defArgs s__law_whole) (defBody s__law_whole) (defScope s__law_whole) .none kV11 dc11 pm11 an11 cd11 ct11), sl11⟩)
    (c11 : PySem.W.codeIn K cd11 "_law_whole" = true)
    (k11 : PySem.W.keepIn K (.ref a__law_whole) = true)
    (x12 : PySem.W.nsIn K mainGlobals "law" = some (some (.ref a_law)))
    (l12 : K.lookup a_law = some ⟨oc12, od12, .func (PySem.W.fnOf "law" "law" (defArgs s_law) (defBody s_law) (defScope s_law) .none kV12 dc12 pm12 an12 cd12 ct12), sl12⟩)
    (c12 : PySem.W.codeIn K cd12 "law" = true)
    (k12 : PySem.W.keepIn K (.ref a_law) = true)
    (z0 : PySem.W.nsIn K mainGlobals "all" = some none)
    (z1 : PySem.W.nsIn K mainGlobals "bool" = some none)
    (z2 : PySem.W.nsIn K mainGlobals "int" = some none)
    (z3 : PySem.W.nsIn K mainGlobals "isinstance" = some none)
    (z4 : PySem.W.nsIn K mainGlobals "len" = some none)
    (z5 : PySem.W.nsIn K mainGlobals "list" = some none)
    (z6 : PySem.W.nsIn K mainGlobals "max" = some none)
    (z7 : PySem.W.nsIn K mainGlobals "range" = some none)
    (y0 : PySem.W.nsIn K mainGlobals "ENDS" = some (some (.str (tx [46, 33, 63]) ty0)))
    (y1 : PySem.W.nsIn K mainGlobals "PAUSES" = some (some (.str (tx [44, 59, 58]) ty1))) :
    ∃ (fd : FuncData) (ct ci : Nat → Option Addr), (∀ (s : Shared) (v : Value), BindsTo s fd ⟨[v], []⟩ [("_law_script", v)]) ∧ ∀ base : Heap, K.In base → base.Ns mainGlobals mg → FnOk l.prog w K mg base (L2.CX l.prog w) 6 fa fd ["_law_script"] (spP ⟨K, ct, ci⟩ 1 m_law false) := by
  have e := hfa.symm.trans (PySem.W.mg_of X G x12)
  cases e
  have T : Txt K mg (ctl []) (ctl []) a_break_price a_row_price a_rows_from a_next_list a_parting_table a__law_cell_at a__law_mixed a__law_word a__law_parts a__law_cost a__law_next a__law_whole fa := ⟨PySem.W.mg_none_of X G z0,
    PySem.W.mg_none_of X G z1,
    PySem.W.mg_none_of X G z2,
    PySem.W.mg_none_of X G z3,
    PySem.W.mg_none_of X G z4,
    PySem.W.mg_none_of X G z5,
    PySem.W.mg_none_of X G z6,
    PySem.W.mg_none_of X G z7,
    ⟨ty0, PySem.W.mg_of X G y0⟩,
    ⟨ty1, PySem.W.mg_of X G y1⟩,
    PySem.W.mg_of X G x0,
    k0,
    PySem.W.mg_of X G x1,
    k1,
    PySem.W.mg_of X G x2,
    k2,
    PySem.W.mg_of X G x3,
    k3,
    PySem.W.mg_of X G x4,
    k4,
    PySem.W.mg_of X G x5,
    k5,
    PySem.W.mg_of X G x6,
    k6,
    PySem.W.mg_of X G x7,
    k7,
    PySem.W.mg_of X G x8,
    k8,
    PySem.W.mg_of X G x9,
    k9,
    PySem.W.mg_of X G x10,
    k10,
    PySem.W.mg_of X G x11,
    k11,
    PySem.W.mg_of X G x12,
    k12⟩
  have F0 := fun_mk (st := s_break_price) l0 c0 k0
  have b0 := F0.binds (ps := ["row"]) fun _ _ _ _ _ _ us hl => match us, hl with | [_], _ => rfl
  have F1 := fun_mk (st := s_row_price) l1 c1 k1
  have b1 := F1.binds (ps := ["row", "wide", "is_last"]) fun _ _ _ _ _ _ us hl => match us, hl with | [_, _, _], _ => rfl
  have F2 := fun_mk (st := s_rows_from) l2 c2 k2
  have b2 := F2.binds (ps := ["parts", "wide", "start"]) fun _ _ _ _ _ _ us hl => match us, hl with | [_, _, _], _ => rfl
  have F3 := fun_mk (st := s_next_list) l3 c3 k3
  have b3 := F3.binds (ps := ["parts", "wide", "ahead"]) fun _ _ _ _ _ _ us hl => match us, hl with | [_, _, _], _ => rfl
  have F4 := fun_mk (st := s_parting_table) l4 c4 k4
  have b4 := F4.binds (ps := ["words", "wide", "most"]) fun _ _ _ _ _ _ us hl => match us, hl with | [_, _, _], _ => rfl
  have F5 := fun_mk (st := s__law_cell_at) l5 c5 k5
  have b5 := F5.binds (ps := ["_law_script", "_law_k"]) fun _ _ _ _ _ _ us hl => match us, hl with | [_, _], _ => rfl
  have F6 := fun_mk (st := s__law_mixed) l6 c6 k6
  have b6 := F6.binds (ps := ["_law_cell", "_law_by"]) fun _ _ _ _ _ _ us hl => match us, hl with | [_, _], _ => rfl
  have F7 := fun_mk (st := s__law_word) l7 c7 k7
  have b7 := F7.binds (ps := ["_law_number", "_law_size"]) fun _ _ _ _ _ _ us hl => match us, hl with | [_, _], _ => rfl
  have F8 := fun_mk (st := s__law_parts) l8 c8 k8
  have b8 := F8.binds (ps := ["_law_cells"]) fun _ _ _ _ _ _ us hl => match us, hl with | [_], _ => rfl
  have F9 := fun_mk (st := s__law_cost) l9 c9 k9
  have b9 := F9.binds (ps := ["_law_parts_here", "_law_wide", "_law_i", "_law_j"]) fun _ _ _ _ _ _ us hl => match us, hl with | [_, _, _, _], _ => rfl
  have F10 := fun_mk (st := s__law_next) l10 c10 k10
  have b10 := F10.binds (ps := ["_law_parts_here", "_law_wide", "_law_ahead"]) fun _ _ _ _ _ _ us hl => match us, hl with | [_, _, _], _ => rfl
  have F11 := fun_mk (st := s__law_whole) l11 c11 k11
  have b11 := F11.binds (ps := ["_law_found"]) fun _ _ _ _ _ _ us hl => match us, hl with | [_], _ => rfl
  have F12 := fun_mk (st := s_law) l12 c12 k12
  refine ⟨PySem.W.fnOf "law" "law" (defArgs s_law) (defBody s_law) (defScope s_law) .none kV12 dc12 pm12 an12 cd12 ct12, (ctl []), (ctl []), fun s v => .of_eq rfl, fun base _ _ => ?_⟩
  have O6 := ok__law_mixed (P := l.prog) (w := w) (base := base) T F6
  have O7 := ok__law_word (P := l.prog) (w := w) (base := base) T F7
  have O8 := ok__law_parts (P := l.prog) (w := w) (base := base) T F8 O6 b6 O7 b7
  have O5 := ok__law_cell_at (P := l.prog) (w := w) (base := base) T F5
  have O9 := ok__law_cost (P := l.prog) (w := w) (base := base) T F9
  have O10 := ok__law_next (P := l.prog) (w := w) (base := base) T F10 O9 b9
  have O0 := ok_break_price (P := l.prog) (w := w) (base := base) T F0
  have O1 := ok_row_price (P := l.prog) (w := w) (base := base) T F1 O0 b0
  have O2 := ok_rows_from (P := l.prog) (w := w) (base := base) T F2 O1 b1
  have O3 := ok_next_list (P := l.prog) (w := w) (base := base) T F3 O2 b2
  have O4 := ok_parting_table (P := l.prog) (w := w) (base := base) T F4 O3 b3
  have O11 := ok__law_whole (P := l.prog) (w := w) (base := base) T F11
  have O12 := ok_law (P := l.prog) (w := w) (base := base) T F12 O8 b8 O5 b5 O10 b10 O4 b4 O11 b11
  exact O12
end Lw
open PySem PySem.W PyProof.Rows
set_option maxRecDepth 100000 in
set_option maxHeartbeats 0 in
theorem PySem.Challenge.cw_cuetimer_k48_the_table_holds : PySem.Challenge.rw_cuetimer_k48_the_table.Holds := by
  w_on; o_law; k_head; (case hw => w_witness2)
  k_fill
  refine L2.walk_of (l := PySem.Challenge.rw_cuetimer_k48_the_table) (n := 63) (k := 6) (x := "_law_script") (CX := fun w => L2.CX PySem.Challenge.rw_cuetimer_k48_the_table.prog w) (sp := fun w => Pu.spX _ 1 Lw.m_law false) rfl (by decide) rfl ⟨rfl, by decide, by decide⟩ (fun w h Y => PySem.W.kIn_of Y) ?F (fun _ _ a ns hl _ hS => Pu.law_endX hS (Lw.law_true ns hl)) (fun _ _ _ _ _ h => Pu.noCX h)
  case F =>
    intro w mg fa h KX G hmg
    refine' Pu.lift_fn (Lw.all_mk KX G hmg ?x0 ?l0 ?c0 ?k0 ?x1 ?l1 ?c1 ?k1 ?x2 ?l2 ?c2 ?k2 ?x3 ?l3 ?c3 ?k3 ?x4 ?l4 ?c4 ?k4 ?x5 ?l5 ?c5 ?k5 ?x6 ?l6 ?c6 ?k6 ?x7 ?l7 ?c7 ?k7 ?x8 ?l8 ?c8 ?k8 ?x9 ?l9 ?c9 ?k9 ?x10 ?l10 ?c10 ?k10 ?x11 ?l11 ?c11 ?k11 ?x12 ?l12 ?c12 ?k12 ?z0 ?z1 ?z2 ?z3 ?z4 ?z5 ?z6 ?z7 ?y0 ?y1)
    (case x0 => k_is)
    (case l0 => k_is)
    (case c0 => k_is)
    (case k0 => k_is)
    (case x1 => k_is)
    (case l1 => k_is)
    (case c1 => k_is)
    (case k1 => k_is)
    (case x2 => k_is)
    (case l2 => k_is)
    (case c2 => k_is)
    (case k2 => k_is)
    (case x3 => k_is)
    (case l3 => k_is)
    (case c3 => k_is)
    (case k3 => k_is)
    (case x4 => k_is)
    (case l4 => k_is)
    (case c4 => k_is)
    (case k4 => k_is)
    (case x5 => k_is)
    (case l5 => k_is)
    (case c5 => k_is)
    (case k5 => k_is)
    (case x6 => k_is)
    (case l6 => k_is)
    (case c6 => k_is)
    (case k6 => k_is)
    (case x7 => k_is)
    (case l7 => k_is)
    (case c7 => k_is)
    (case k7 => k_is)
    (case x8 => k_is)
    (case l8 => k_is)
    (case c8 => k_is)
    (case k8 => k_is)
    (case x9 => k_is)
    (case l9 => k_is)
    (case c9 => k_is)
    (case k9 => k_is)
    (case x10 => k_is)
    (case l10 => k_is)
    (case c10 => k_is)
    (case k10 => k_is)
    (case x11 => k_is)
    (case l11 => k_is)
    (case c11 => k_is)
    (case k11 => k_is)
    (case x12 => k_is)
    (case l12 => k_is)
    (case c12 => k_is)
    (case k12 => k_is)
    (case z0 => k_is)
    (case z1 => k_is)
    (case z2 => k_is)
    (case z3 => k_is)
    (case z4 => k_is)
    (case z5 => k_is)
    (case z6 => k_is)
    (case z7 => k_is)
    (case y0 => k_is)
    (case y1 => k_is)
