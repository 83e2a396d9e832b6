import PyProof.Rows.All
import Wide.All
import OpenK.AllK
import Wide.FinOn
import HandS.ForMost
import HandS.ForExc
import HandS.Flow
import HandS.Zip
import HandS.TupLe
import HandS.Strs
import HandS.SortInts
import HandS.Wide
import HandS.IsInst
import HandS.Conv
import HandS.Style
import HandS.RevTup
import HandS.TupAny
import HandS.TupMul
import HandS.Defaults
import HandS.RaiseMore
import HandS.Keys
import HandS.Deep
import HandS.Star
import HandS.FStr
import HandS.StrMore
import HandS.TryOnly
import HandS.ExcIs
import HandS.ExcOwn
import HandS.EndBits
import HandS.Head0
import HandS.Head1
import HandS.Head2
import HandS.HeadEnd
import HandS.HeadHook1
import HandS.HeadHook2
import PySem.Challenge.RW_rideplans_k62_texts_of_journeys
set_option Elab.async false
set_option linter.all false
set_option maxRecDepth 100000
/-! RpA: plain data, slots, outcomes, the small language and what its pieces mean (no heap here). -/
namespace Rp
open PySem

/-- plain data: what a value holds, by content (scr: the law's own script, read only) -/
inductive D where
  | non
  | bl (b : Bool)
  | int (i : Int)
  | str (x : Str)
  | lst (xs : List D)
  | tup (xs : List D)
  | dct (ks vs : List D)
  | dctT (ks vs : List D)
  | obj (c : Nat) (vs : List D)
  | scr (xs : List D)
  deriving Inhabited

mutual
def D.py : D → PyData
  | .non => .none
  | .bl b => .bool b
  | .int i => .int i
  | .str x => .str x
  | .lst xs => .list (D.pys xs)
  | .tup xs => .tuple (D.pys xs)
  | .dct _ _ => .dict []
  | .dctT _ _ => .dict []
  | .obj _ _ => .dict []
  | .scr _ => .dict []
def D.pys : List D → List PyData
  | [] => []
  | x :: xs => x.py :: D.pys xs
end

/-- a local name: nothing yet; a value that nobody changes; a list, dict, object that this def alone changes (par: it is the caller's); one that is lent; an own one while a loop walks it -/
inductive Slot where
  | no
  | val (d : D)
  | own (par : Bool) (d : D)
  | lck (d : D)
  | lkd (par : Bool) (d : D)
  deriving Inhabited

abbrev Env := List Slot

inductive Out (α : Type) where
  | ok (a : α) (e : Env)
  | exc (x : D) (e : Env)
  | bad

def Out.bind {α β : Type} (o : Out α) (f : α → Env → Out β) : Out β :=
  match o with
  | .ok a e => f a e
  | .exc x e => .exc x e
  | .bad => .bad
def Out.of {α : Type} (o : Option α) (e : Env) : Out α :=
  match o with
  | some a => .ok a e
  | none => .bad

/-- an operand: a value, or what a lent name holds when the operation comes -/
inductive Opd where
  | v (d : D)
  | s (i : Nat)

def Env.get (e : Env) (i : Nat) : Slot := e.getD i .no
def Slot.look : Slot → Option D
  | .val d => some d
  | .own _ d => some d
  | .lck d => some d
  | .lkd _ d => some d
  | .no => none
def Slot.isLk : Slot → Bool
  | .lck _ => true
  | .lkd _ _ => true
  | _ => false
def deref (o : Opd) (e : Env) : Option D :=
  match o with
  | .v d => some d
  | .s i => (e.get i).look

/-- what a statement leads to -/
inductive Res where
  | nx (e : Env)
  | rt (d : D) (fresh : Bool) (e : Env)
  | bk (e : Env)
  | exc (x : D) (e : Env)
  | bad
end Rp
set_option Elab.async false
set_option linter.all false
set_option maxRecDepth 100000
/-! RpB: how plain data stands in the heap; what an expression's meaning says of its run. -/
namespace Rp
open PySem PySem.Spec PyProof.Rows L2

/-! ### keys -/
def keyD : Key → D
  | .inl i => .int i
  | .inr x => .str x
def keyT (k : List Key) : D := .tup (k.map keyD)

/-! ### data in the heap -/
def KL (K : PySem.W.Frag) (a : Addr) (xs : List V) : Prop :=
  ∃ (o : Obj) (its : Array Value) (n : Nat), K.lookup a = some o ∧ o.cls = .type "list" ∧ o.dict = none ∧ o.data = .seq its n ∧ its.size ≤ sizeLine ∧ Vals xs its.toList
def KT (K : PySem.W.Frag) (a : Addr) (xs : List V) : Prop :=
  ∃ (o : Obj) (its : Array Value) (n : Nat), K.lookup a = some o ∧ o.cls = .type "tuple" ∧ o.data = .seq its n ∧ its.size ≤ sizeLine ∧ Vals xs its.toList

mutual
inductive Rep (K : PySem.W.Frag) (H : Hp) (S : Addr → Prop) : V → D → Prop where
  | non : Rep K H S .non .non
  | bl (b : Bool) : Rep K H S (.bl b) (.bl b)
  | int (i : Int) : Rep K H S (.int i) (.int i)
  | str (x : Str) : Rep K H S (.str x) (.str x)
  | lst {a : Addr} {vs : List V} {ds : List D} : H a = some (.lst vs) → ¬ S a → Reps K H S vs ds → Rep K H S (.ref a) (.lst ds)
  | scr {a : Addr} {vs : List V} {ds : List D} : ((Rd H a (.lst vs) ∧ ¬ S a) ∨ KL K a vs) → Reps K H S vs ds → Rep K H S (.ref a) (.scr ds)
  | tup {a : Addr} {vs : List V} {ds : List D} : ((Rd H a (.tup vs) ∧ ¬ S a) ∨ KT K a vs) → Reps K H S vs ds → Rep K H S (.ref a) (.tup ds)
  | dctK {a : Addr} {kvs : List (Key × V)} {vs : List D} : Rd H a (.dK kvs) → ¬ S a → Reps K H S (kvs.map (·.2)) vs → Rep K H S (.ref a) (.dct (kvs.map fun p => keyD p.1) vs)
  | dctT {a : Addr} {kvs : List (List Key × V)} {vs : List D} : Rd H a (.dT kvs) → ¬ S a → Reps K H S (kvs.map (·.2)) vs → Rep K H S (.ref a) (.dctT (kvs.map fun p => keyT p.1) vs)
inductive Reps (K : PySem.W.Frag) (H : Hp) (S : Addr → Prop) : List V → List D → Prop where
  | nil : Reps K H S [] []
  | cons {v : V} {vs : List V} {d : D} {ds : List D} : Rep K H S v d → Reps K H S vs ds → Reps K H S (v :: vs) (d :: ds)
end

/-- what may be read outside W may be read as before; a list stays as it is -/
def FrR (W : Addr → Prop) (H H' : Hp) : Prop := (∀ a u, Rd H a u → ¬ W a → Rd H' a u) ∧ ∀ a xs, H a = some (.lst xs) → ¬ W a → H' a = some (.lst xs)
theorem FrR.sq {K : PySem.W.Frag} {W : Addr → Prop} {H H' : Hp} (f : FrR W H H') {a : Addr} {xs : List V} (h : SqL K H a xs) (n : ¬ W a) : SqL K H' a xs := h.elim (fun z => .inl (f.1 _ _ z n)) .inr
/-- W may be written; all else stays, and nothing is forgotten -/
structure Fr (W : Addr → Prop) (H H' : Hp) : Prop where
  eq : ∀ a u, H a = some u → ¬ W a → H' a = some u
  dom : ∀ a, H a ≠ none → H' a ≠ none
theorem Fr.rd {W : Addr → Prop} {H H' : Hp} (f : Fr W H H') : FrR W H H' := ⟨fun a u r n => by
  rcases r with r | ⟨o, r⟩
  · exact .inl (f.eq _ _ r n)
  · exact .inr ⟨o, f.eq _ _ r n⟩, fun a xs h n => f.eq _ _ h n⟩
theorem Fr.refl {W : Addr → Prop} {H : Hp} : Fr W H H := ⟨fun _ _ h _ => h, fun _ h => h⟩
theorem Fr.trans {W : Addr → Prop} {H H1 H2 : Hp} (a : Fr W H H1) (b : Fr W H1 H2) : Fr W H H2 :=
  ⟨fun c u h n => b.eq c u (a.eq c u h n) n, fun c h => b.dom c (a.dom c h)⟩
theorem Fr.mono {W W' : Addr → Prop} {H H' : Hp} (a : Fr W H H') (h : ∀ x, W x → W' x) : Fr W' H H' :=
  ⟨fun c u r n => a.eq c u r fun z => n (h c z), a.dom⟩
/-- the second part may also write what is new since H -/
theorem Fr.then {W W1 : Addr → Prop} {H H1 H2 : Hp} (a : Fr W H H1) (b : Fr W1 H1 H2) (h : ∀ p, W1 p → W p ∨ H p = none) : Fr W H H2 :=
  ⟨fun c u q n => b.eq c u (a.eq c u q n) fun z => (h c z).elim n fun e => (by rw [q] at e; cases e), fun c h => b.dom c (a.dom c h)⟩
theorem rd_some {H : Hp} {a : Addr} {u : HO} (r : Rd H a u) : H a ≠ none := by
  rcases r with r | ⟨o, r⟩ <;> rw [r] <;> simp
theorem Fr.new {W : Addr → Prop} {H : Hp} {p : Addr} {o : HO} (h : H p = none) : Fr W H (upd H p o) := by
  refine ⟨fun a u r _ => ?_, fun a n => ?_⟩
  · have ne : a ≠ p := fun e => by rw [e, h] at r; cases r
    rw [upd_ne ne]; exact r
  · have ne : a ≠ p := fun e => n (e ▸ h)
    rw [upd_ne ne]; exact n
theorem Fr.same {W : Addr → Prop} {H H' : Hp} (h : Same H H') : Fr W H H' := by
  refine ⟨fun a u r _ => h _ _ r, fun a n => ?_⟩
  cases q : H a with
  | none => exact absurd q n
  | some o => rw [h _ _ q]; simp
theorem Fr.write {W : Addr → Prop} {H : Hp} {p : Addr} {o : HO} (h : W p) : Fr W H (upd H p o) := by
  refine ⟨fun a u r n => ?_, fun a n => ?_⟩
  · have ne : a ≠ p := fun e => n (e ▸ h)
    rw [upd_ne ne]; exact r
  · by_cases e : a = p
    · subst e; rw [upd_same]; simp
    · rw [upd_ne e]; exact n

section
variable {K : PySem.W.Frag} {H H' : Hp} {S S' W : Addr → Prop}
mutual
theorem Rep.fr (f : FrR W H H') (hw : ∀ a, W a → S a) : ∀ {v : V} {d : D}, Rep K H S v d → Rep K H' S v d
  | _, _, .non => .non
  | _, _, .bl b => .bl b
  | _, _, .int i => .int i
  | _, _, .str x => .str x
  | _, _, .lst h n r => .lst (f.2 _ _ h fun z => n (hw _ z)) n (Reps.fr f hw r)
  | _, _, .scr h r => .scr (h.elim (fun ⟨h1, h2⟩ => .inl ⟨f.1 _ _ h1 fun z => h2 (hw _ z), h2⟩) .inr) (Reps.fr f hw r)
  | _, _, .tup h r => .tup (h.elim (fun ⟨h1, h2⟩ => .inl ⟨f.1 _ _ h1 fun z => h2 (hw _ z), h2⟩) .inr) (Reps.fr f hw r)
  | _, _, .dctK h n r => .dctK (f.1 _ _ h fun z => n (hw _ z)) n (Reps.fr f hw r)
  | _, _, .dctT h n r => .dctT (f.1 _ _ h fun z => n (hw _ z)) n (Reps.fr f hw r)
theorem Reps.fr (f : FrR W H H') (hw : ∀ a, W a → S a) : ∀ {vs : List V} {ds : List D}, Reps K H S vs ds → Reps K H' S vs ds
  | _, _, .nil => .nil
  | _, _, .cons r t => .cons (Rep.fr f hw r) (Reps.fr f hw t)
end
mutual
theorem Rep.mono (h : ∀ a, S' a → S a) : ∀ {v : V} {d : D}, Rep K H S v d → Rep K H S' v d
  | _, _, .non => .non
  | _, _, .bl b => .bl b
  | _, _, .int i => .int i
  | _, _, .str x => .str x
  | _, _, .lst q n r => .lst q (fun z => n (h _ z)) (Reps.mono h r)
  | _, _, .scr q r => .scr (q.elim (fun ⟨h1, h2⟩ => .inl ⟨h1, fun z => h2 (h _ z)⟩) .inr) (Reps.mono h r)
  | _, _, .tup q r => .tup (q.elim (fun ⟨h1, h2⟩ => .inl ⟨h1, fun z => h2 (h _ z)⟩) .inr) (Reps.mono h r)
  | _, _, .dctK q n r => .dctK q (fun z => n (h _ z)) (Reps.mono h r)
  | _, _, .dctT q n r => .dctT q (fun z => n (h _ z)) (Reps.mono h r)
theorem Reps.mono (h : ∀ a, S' a → S a) : ∀ {vs : List V} {ds : List D}, Reps K H S vs ds → Reps K H S' vs ds
  | _, _, .nil => .nil
  | _, _, .cons r t => .cons (Rep.mono h r) (Reps.mono h t)
end
mutual
theorem Rep.free {p : Addr} (hp : H p = none) (hs : ∀ a, S' a → S a ∨ a = p) : ∀ {v : V} {d : D}, Rep K H S v d → Rep K H S' v d
  | _, _, .non => .non
  | _, _, .bl b => .bl b
  | _, _, .int i => .int i
  | _, _, .str x => .str x
  | _, _, .lst q n r => .lst q (fun z => (hs _ z).elim n fun e => by rw [e, hp] at q; cases q) (Reps.free hp hs r)
  | _, _, .scr q r => .scr (q.elim (fun ⟨h1, h2⟩ => .inl ⟨h1, fun z => (hs _ z).elim h2 fun e => rd_some h1 (e ▸ hp)⟩) .inr) (Reps.free hp hs r)
  | _, _, .tup q r => .tup (q.elim (fun ⟨h1, h2⟩ => .inl ⟨h1, fun z => (hs _ z).elim h2 fun e => rd_some h1 (e ▸ hp)⟩) .inr) (Reps.free hp hs r)
  | _, _, .dctK q n r => .dctK q (fun z => (hs _ z).elim n fun e => rd_some q (e ▸ hp)) (Reps.free hp hs r)
  | _, _, .dctT q n r => .dctT q (fun z => (hs _ z).elim n fun e => rd_some q (e ▸ hp)) (Reps.free hp hs r)
theorem Reps.free {p : Addr} (hp : H p = none) (hs : ∀ a, S' a → S a ∨ a = p) : ∀ {vs : List V} {ds : List D}, Reps K H S vs ds → Reps K H S' vs ds
  | _, _, .nil => .nil
  | _, _, .cons r t => .cons (Rep.free hp hs r) (Reps.free hp hs t)
end
theorem Reps.length : ∀ {vs : List V} {ds : List D}, Reps K H S vs ds → vs.length = ds.length
  | _, _, .nil => rfl
  | _, _, .cons _ t => by simp [Reps.length t]
theorem Reps.append : ∀ {vs ws : List V} {ds es : List D}, Reps K H S vs ds → Reps K H S ws es → Reps K H S (vs ++ ws) (ds ++ es)
  | _, _, _, _, .nil, q => q
  | _, _, _, _, .cons r t, q => .cons r (Reps.append t q)
theorem Reps.get : ∀ {vs : List V} {ds : List D} {i : Nat} {d : D}, Reps K H S vs ds → ds[i]? = some d → ∃ v, vs[i]? = some v ∧ Rep K H S v d
  | _, _, _, _, .nil, e => by simp at e
  | _, _, 0, _, .cons r _, e => ⟨_, rfl, by simp at e; subst e; exact r⟩
  | _, _, i + 1, _, .cons _ t, e => by
    obtain ⟨v, h1, h2⟩ := Reps.get (i := i) t (by simpa using e)
    exact ⟨v, by simpa using h1, h2⟩
theorem Reps.getV : ∀ {vs : List V} {ds : List D} {i : Nat} {v : V}, Reps K H S vs ds → vs[i]? = some v → ∃ d, ds[i]? = some d ∧ Rep K H S v d
  | _, _, _, _, .nil, e => by simp at e
  | _, _, 0, _, .cons r _, e => ⟨_, rfl, by simp at e; subst e; exact r⟩
  | _, _, i + 1, _, .cons _ t, e => by
    obtain ⟨d, h1, h2⟩ := Reps.getV (i := i) t (by simpa using e)
    exact ⟨d, by simpa using h1, h2⟩
theorem Reps.set {v : V} {d : D} (r : Rep K H S v d) : ∀ {vs : List V} {ds : List D} (i : Nat), Reps K H S vs ds → Reps K H S (vs.set i v) (ds.set i d)
  | _, _, _, .nil => .nil
  | _, _, 0, .cons _ t => .cons r t
  | _, _, i + 1, .cons q t => .cons q (Reps.set r i t)
theorem Reps.take : ∀ {vs : List V} {ds : List D} (n : Nat), Reps K H S vs ds → Reps K H S (vs.take n) (ds.take n)
  | _, _, 0, _ => .nil
  | _, _, _ + 1, .nil => .nil
  | _, _, n + 1, .cons r t => .cons r (Reps.take n t)
theorem Reps.drop : ∀ {vs : List V} {ds : List D} (n : Nat), Reps K H S vs ds → Reps K H S (vs.drop n) (ds.drop n)
  | _, _, 0, r => r
  | _, _, _ + 1, .nil => .nil
  | _, _, n + 1, .cons _ t => Reps.drop n t
theorem Reps.replicate {v : V} {d : D} (r : Rep K H S v d) : ∀ n, Reps K H S (List.replicate n v) (List.replicate n d)
  | 0 => .nil
  | n + 1 => .cons r (Reps.replicate r n)
theorem Reps.reverse {vs : List V} {ds : List D} (r : Reps K H S vs ds) : Reps K H S vs.reverse ds.reverse := by
  induction r using Reps.rec (motive_1 := fun _ _ _ => True) with
  | nil => exact .nil
  | cons r t _ ih => rw [List.reverse_cons, List.reverse_cons]; exact Reps.append ih (.cons r .nil)
  | _ => trivial
end

/-! ### what a lent or owned thing holds: its first layer is not asked to be out of reach -/
def OwnRep (K : PySem.W.Frag) (H : Hp) (S : Addr → Prop) (p : Addr) (d : D) : Prop :=
  (∃ vs ds, d = .lst ds ∧ H p = some (.lst vs) ∧ Reps K H S vs ds) ∨
  (∃ kvs vs, d = .dct (kvs.map fun q => keyD q.1) vs ∧ H p = some (.dK kvs) ∧ Reps K H S (kvs.map (·.2)) vs) ∨
  (∃ kvs vs, d = .dctT (kvs.map fun q => keyT q.1) vs ∧ H p = some (.dT kvs) ∧ Reps K H S (kvs.map (·.2)) vs)
/-- readable now, by the first layer -/
inductive RepB (K : PySem.W.Frag) (H : Hp) (S : Addr → Prop) : V → D → Prop where
  | non : RepB K H S .non .non
  | bl (b : Bool) : RepB K H S (.bl b) (.bl b)
  | int (i : Int) : RepB K H S (.int i) (.int i)
  | str (x : Str) : RepB K H S (.str x) (.str x)
  | lst {a : Addr} {vs : List V} {ds : List D} : H a = some (.lst vs) → Reps K H S vs ds → RepB K H S (.ref a) (.lst ds)
  | scr {a : Addr} {vs : List V} {ds : List D} : SqL K H a vs → Reps K H S vs ds → RepB K H S (.ref a) (.scr ds)
  | tup {a : Addr} {vs : List V} {ds : List D} : ((Rd H a (.tup vs) ∧ ¬ S a) ∨ KT K a vs) → Reps K H S vs ds → RepB K H S (.ref a) (.tup ds)
  | dctK {a : Addr} {kvs : List (Key × V)} {vs : List D} : Rd H a (.dK kvs) → Reps K H S (kvs.map (·.2)) vs → RepB K H S (.ref a) (.dct (kvs.map fun p => keyD p.1) vs)
  | dctT {a : Addr} {kvs : List (List Key × V)} {vs : List D} : Rd H a (.dT kvs) → Reps K H S (kvs.map (·.2)) vs → RepB K H S (.ref a) (.dctT (kvs.map fun p => keyT p.1) vs)
section
variable {K : PySem.W.Frag} {H H' : Hp} {S S' W : Addr → Prop}
theorem Rep.b {v : V} {d : D} (r : Rep K H S v d) : RepB K H S v d := by
  cases r with
  | non => exact .non
  | bl b => exact .bl b
  | int i => exact .int i
  | str x => exact .str x
  | lst h n r => exact .lst h r
  | scr h r => exact .scr (h.elim (fun z => .inl z.1) .inr) r
  | tup h r => exact .tup h r
  | dctK h n r => exact .dctK h r
  | dctT h n r => exact .dctT h r
theorem sqT_of {a : Addr} {vs : List V} (h : (Rd H a (.tup vs) ∧ ¬ S a) ∨ KT K a vs) : SqT K H a vs := h.elim (fun z => .inl z.1) .inr
theorem OwnRep.b {p : Addr} {d : D} (r : OwnRep K H S p d) : RepB K H S (.ref p) d := by
  rcases r with ⟨vs, ds, rfl, h, r⟩ | ⟨kvs, vs, rfl, h, r⟩ | ⟨kvs, vs, rfl, h, r⟩
  · exact .lst h r
  · exact .dctK (.inl h) r
  · exact .dctT (.inl h) r
theorem OwnRep.rep {p : Addr} {d : D} (r : OwnRep K H S p d) (n : ¬ S p) : Rep K H S (.ref p) d := by
  rcases r with ⟨vs, ds, rfl, h, r⟩ | ⟨kvs, vs, rfl, h, r⟩ | ⟨kvs, vs, rfl, h, r⟩
  · exact .lst h n r
  · exact .dctK (.inl h) n r
  · exact .dctT (.inl h) n r
theorem OwnRep.mono {p : Addr} {d : D} (h : ∀ a, S' a → S a) (r : OwnRep K H S p d) : OwnRep K H S' p d := by
  rcases r with ⟨vs, ds, rfl, q, r⟩ | ⟨kvs, vs, rfl, q, r⟩ | ⟨kvs, vs, rfl, q, r⟩
  · exact .inl ⟨vs, ds, rfl, q, Reps.mono h r⟩
  · exact .inr (.inl ⟨kvs, vs, rfl, q, Reps.mono h r⟩)
  · exact .inr (.inr ⟨kvs, vs, rfl, q, Reps.mono h r⟩)
theorem OwnRep.free {p q : Addr} {d : D} (hp : H p = none) (hs : ∀ a, S' a → S a ∨ a = p) (r : OwnRep K H S q d) : OwnRep K H S' q d := by
  rcases r with ⟨vs, ds, rfl, q, r⟩ | ⟨kvs, vs, rfl, q, r⟩ | ⟨kvs, vs, rfl, q, r⟩
  · exact .inl ⟨vs, ds, rfl, q, Reps.free hp hs r⟩
  · exact .inr (.inl ⟨kvs, vs, rfl, q, Reps.free hp hs r⟩)
  · exact .inr (.inr ⟨kvs, vs, rfl, q, Reps.free hp hs r⟩)
/-- .. while a loop walks it: a dict may be locked -/
def OwnR (K : PySem.W.Frag) (H : Hp) (S : Addr → Prop) (p : Addr) (d : D) : Prop :=
  (∃ vs ds, d = .lst ds ∧ H p = some (.lst vs) ∧ Reps K H S vs ds) ∨
  (∃ kvs vs, d = .dct (kvs.map fun q => keyD q.1) vs ∧ Rd H p (.dK kvs) ∧ Reps K H S (kvs.map (·.2)) vs) ∨
  (∃ kvs vs, d = .dctT (kvs.map fun q => keyT q.1) vs ∧ Rd H p (.dT kvs) ∧ Reps K H S (kvs.map (·.2)) vs)
theorem OwnRep.r {p : Addr} {d : D} (r : OwnRep K H S p d) : OwnR K H S p d := by
  rcases r with ⟨vs, ds, rfl, h, r⟩ | ⟨kvs, vs, rfl, h, r⟩ | ⟨kvs, vs, rfl, h, r⟩
  · exact .inl ⟨_, _, rfl, h, r⟩
  · exact .inr (.inl ⟨_, _, rfl, .inl h, r⟩)
  · exact .inr (.inr ⟨_, _, rfl, .inl h, r⟩)
theorem OwnR.b {p : Addr} {d : D} (r : OwnR K H S p d) : RepB K H S (.ref p) d := by
  rcases r with ⟨vs, ds, rfl, h, r⟩ | ⟨kvs, vs, rfl, h, r⟩ | ⟨kvs, vs, rfl, h, r⟩
  · exact .lst h r
  · exact .dctK h r
  · exact .dctT h r
theorem OwnR.mono {p : Addr} {d : D} (h : ∀ a, S' a → S a) (r : OwnR K H S p d) : OwnR K H S' p d := by
  rcases r with ⟨vs, ds, rfl, q, r⟩ | ⟨kvs, vs, rfl, q, r⟩ | ⟨kvs, vs, rfl, q, r⟩
  · exact .inl ⟨vs, ds, rfl, q, Reps.mono h r⟩
  · exact .inr (.inl ⟨kvs, vs, rfl, q, Reps.mono h r⟩)
  · exact .inr (.inr ⟨kvs, vs, rfl, q, Reps.mono h r⟩)
theorem OwnR.fr {p : Addr} {d : D} (r : OwnR K H S p d) (f : FrR W H H') (hw : ∀ a, W a → S a) (hp : ¬ W p) : OwnR K H' S p d := by
  rcases r with ⟨vs, ds, rfl, q, r⟩ | ⟨kvs, vs, rfl, q, r⟩ | ⟨kvs, vs, rfl, q, r⟩
  · exact .inl ⟨vs, ds, rfl, f.2 _ _ q hp, Reps.fr f hw r⟩
  · exact .inr (.inl ⟨kvs, vs, rfl, f.1 _ _ q hp, Reps.fr f hw r⟩)
  · exact .inr (.inr ⟨kvs, vs, rfl, f.1 _ _ q hp, Reps.fr f hw r⟩)
/-- .. and what was to be changed before may be changed again -/
theorem OwnR.own {p : Addr} {d : D} {u : HO} (r : OwnR K H S p d) (h : H p = some u) (m : Mut (some u)) : OwnRep K H S p d := by
  rcases r with ⟨vs, ds, rfl, q, r⟩ | ⟨kvs, vs, rfl, q, r⟩ | ⟨kvs, vs, rfl, q, r⟩
  · exact .inl ⟨vs, ds, rfl, q, r⟩
  · rcases q with q | ⟨o, q⟩
    · exact .inr (.inl ⟨kvs, vs, rfl, q, r⟩)
    · rw [h] at q; cases q; exact m.elim
  · rcases q with q | ⟨o, q⟩
    · exact .inr (.inr ⟨kvs, vs, rfl, q, r⟩)
    · rw [h] at q; cases q; exact m.elim
theorem rd_plain {H : Hp} {a : Addr} {u : HO} (h : H a = some u) : Rd H a u := .inl h
end
end Rp
set_option Elab.async false
set_option linter.all false
set_option maxRecDepth 100000
/-! RpC: what an expression's meaning says of its run: the frame's names, the judgements, the first rules. -/
namespace Rp
open PySem PySem.Spec PyProof.Rows L2

abbrev Own := Nat → Option Addr
def Oset (O : Own) (a : Addr) : Prop := ∃ i, O i = some a
def Sx (S0 : Addr → Prop) (O : Own) (a : Addr) : Prop := S0 a ∨ Oset O a
def Sub (O' O : Own) : Prop := ∀ i, O' i = O i ∨ O' i = none
theorem Sub.refl {O : Own} : Sub O O := fun _ => .inl rfl
theorem Sub.trans {O O1 O2 : Own} (a : Sub O2 O1) (b : Sub O1 O) : Sub O2 O := fun i => by
  rcases a i with h | h
  · rw [h]; exact b i
  · exact .inr h
theorem Sub.set {O' O : Own} (a : Sub O' O) {p : Addr} (h : Oset O' p) : Oset O p := by
  obtain ⟨i, e⟩ := h
  rcases a i with q | q
  · exact ⟨i, q ▸ e⟩
  · rw [q] at e; cases e
theorem Sub.sx {O' O : Own} (a : Sub O' O) {S0 : Addr → Prop} {p : Addr} (h : Sx S0 O' p) : Sx S0 O p := h.elim .inl fun z => .inr (a.set z)

/-- what stays through a body: the places that others hold (S0), the callers' things by slot (P), what is lent by slot (L), the heap at the def's entry (H0) -/
structure Fx where
  S0 : Addr → Prop
  P : Own
  L : Own
  H0 : Hp
def SlotOk (K : PySem.W.Frag) (F : Fx) (S : Addr → Prop) (Oi Pi Li : Option Addr) (H : Hp) (c : Option V) : Slot → Prop
  | .no => Oi = none
  | .val d => Oi = none ∧ ∃ v, c = some v ∧ Rep K H S v d
  | .own par d => ∃ p, Oi = some p ∧ c = some (.ref p) ∧ OwnRep K H S p d ∧ (par = true → F.S0 p ∧ Pi = some p) ∧ (par = false → ¬ F.S0 p ∧ F.H0 p = none)
  | .lck d => Oi = none ∧ ∃ v, c = some v ∧ (Rep K H S v d ∨ ∃ p, v = .ref p ∧ Li = some p ∧ F.S0 p ∧ RepB K H S (.ref p) d)
  | .lkd par d => Oi = none ∧ ∃ p, c = some (.ref p) ∧ Li = some p ∧ F.S0 p ∧ OwnR K H S p d ∧ (par = true → Pi = some p)

structure Good (K : PySem.W.Frag) (F : Fx) (O : Own) (σ : L2.St) (H : Hp) (e : Env) : Prop where
  len : e.length = σ.length
  s0 : ∀ a, F.S0 a → H a ≠ none
  d0 : ∀ a, F.H0 a ≠ none → H a ≠ none
  inj : ∀ i j p, O i = some p → O j = some p → i = j
  lo : ∀ i j p, F.L i = some p → O j = some p → False
  ls : ∀ i p, F.L i = some p → F.S0 p
  ps : ∀ i p, F.P i = some p → F.S0 p
  ln : ∀ i p, F.L i = some p → (e.get i).isLk = true
  slot : ∀ i, SlotOk K F (Sx F.S0 O) (O i) (F.P i) (F.L i) H (σ.getD i none) (e.get i)

section
variable {K : PySem.W.Frag} {F : Fx} {S S' W : Addr → Prop} {O O' : Own} {σ : L2.St} {H H' : Hp} {e e' : Env} {i : Nat} {d : D} {par : Bool} {v : V}
theorem RepB.fr {v : V} {d : D} (r : RepB K H S v d) (f : FrR W H H') (hw : ∀ a, W a → S a) (h0 : ∀ a, v = .ref a → ¬ W a) : RepB K H' S v d := by
  cases r with
  | non => exact .non
  | bl b => exact .bl b
  | int i => exact .int i
  | str x => exact .str x
  | lst h r => exact .lst (f.2 _ _ h (h0 _ rfl)) (Reps.fr f hw r)
  | scr h r => exact .scr (f.sq h (h0 _ rfl)) (Reps.fr f hw r)
  | tup h r => exact .tup (h.elim (fun z => .inl ⟨f.1 _ _ z.1 (h0 _ rfl), z.2⟩) .inr) (Reps.fr f hw r)
  | dctK h r => exact .dctK (f.1 _ _ h (h0 _ rfl)) (Reps.fr f hw r)
  | dctT h r => exact .dctT (f.1 _ _ h (h0 _ rfl)) (Reps.fr f hw r)
theorem RepB.mono {v : V} {d : D} (h : ∀ a, S' a → S a) (r : RepB K H S v d) : RepB K H S' v d := by
  cases r with
  | non => exact .non
  | bl b => exact .bl b
  | int i => exact .int i
  | str x => exact .str x
  | lst q r => exact .lst q (Reps.mono h r)
  | scr q r => exact .scr q (Reps.mono h r)
  | tup q r => exact .tup (q.elim (fun ⟨h1, h2⟩ => .inl ⟨h1, fun z => h2 (h _ z)⟩) .inr) (Reps.mono h r)
  | dctK q r => exact .dctK q (Reps.mono h r)
  | dctT q r => exact .dctT q (Reps.mono h r)
theorem RepB.free {p : Addr} {v : V} {d : D} (hp : H p = none) (hs : ∀ a, S' a → S a ∨ a = p) (r : RepB K H S v d) : RepB K H S' v d := by
  cases r with
  | non => exact .non
  | bl b => exact .bl b
  | int i => exact .int i
  | str x => exact .str x
  | lst q r => exact .lst q (Reps.free hp hs r)
  | scr q r => exact .scr q (Reps.free hp hs r)
  | tup q r => exact .tup (q.elim (fun ⟨h1, h2⟩ => .inl ⟨h1, fun z => (hs _ z).elim h2 fun e => rd_some h1 (e ▸ hp)⟩) .inr) (Reps.free hp hs r)
  | dctK q r => exact .dctK q (Reps.free hp hs r)
  | dctT q r => exact .dctT q (Reps.free hp hs r)
theorem OwnRep.fr {p : Addr} {d : D} (r : OwnRep K H S p d) (f : FrR W H H') (hw : ∀ a, W a → S a) (he : ∀ u, H p = some u → H' p = some u) : OwnRep K H' S p d := by
  rcases r with ⟨vs, ds, rfl, q, r⟩ | ⟨kvs, vs, rfl, q, r⟩ | ⟨kvs, vs, rfl, q, r⟩
  · exact .inl ⟨vs, ds, rfl, he _ q, Reps.fr f hw r⟩
  · exact .inr (.inl ⟨kvs, vs, rfl, he _ q, Reps.fr f hw r⟩)
  · exact .inr (.inr ⟨kvs, vs, rfl, he _ q, Reps.fr f hw r⟩)
theorem OwnRep.mut {p : Addr} {d : D} (r : OwnRep K H S p d) : ∃ u, H p = some u ∧ Mut (some u) := by
  rcases r with ⟨vs, ds, rfl, q, r⟩ | ⟨kvs, vs, rfl, q, r⟩ | ⟨kvs, vs, rfl, q, r⟩
  · exact ⟨_, q, trivial⟩
  · exact ⟨_, q, trivial⟩
  · exact ⟨_, q, trivial⟩

theorem Good.at (g : Good K F O σ H e) {s : Slot} (h : e.get i = s) : SlotOk K F (Sx F.S0 O) (O i) (F.P i) (F.L i) H (σ.getD i none) s := h ▸ g.slot i
theorem Good.own (g : Good K F O σ H e) {p : Addr} (h : O i = some p) : ∃ par d, e.get i = .own par d ∧ σ.getD i none = some (.ref p) ∧ OwnRep K H (Sx F.S0 O) p d := by
  have q := g.slot i
  cases c : e.get i with
  | no => rw [c] at q; rw [show O i = none from q] at h; cases h
  | val d => rw [c] at q; rw [q.1] at h; cases h
  | lck d => rw [c] at q; rw [q.1] at h; cases h
  | lkd par d => rw [c] at q; rw [q.1] at h; cases h
  | own par d =>
    rw [c] at q
    obtain ⟨p', e1, e2, r, _⟩ := q
    rw [h] at e1; cases e1
    exact ⟨par, d, rfl, e2, r⟩
theorem Good.dom (g : Good K F O σ H e) {p : Addr} (h : Sx F.S0 O p) : H p ≠ none := by
  rcases h with h | ⟨i, h⟩
  · exact g.s0 _ h
  · obtain ⟨_, _, _, _, r⟩ := g.own h
    obtain ⟨u, q, _⟩ := r.mut
    rw [q]; simp
/-- only new places, and places outside everything held here, are written -/
theorem Good.fr (g : Good K F O σ H e) (f : Fr W H H') (h : ∀ a, W a → ¬ Sx F.S0 O a) (h2 : ∀ a, W a → H a = none) : Good K F O σ H' e := by
  refine ⟨g.len, fun a z => f.dom a (g.s0 a z), fun a z => f.dom a (g.d0 a z), g.inj, g.lo, g.ls, g.ps, g.ln, fun i => ?_⟩
  have hf : FrR (fun _ => False) H H' := ⟨fun a u r _ => f.rd.1 a u r fun z => rd_some r (h2 a z), fun a xs q _ => f.eq a _ q fun z => by rw [h2 a z] at q; cases q⟩
  have q := g.slot i
  cases c : e.get i with
  | no => rw [c] at q; exact q
  | val d =>
    rw [c] at q
    obtain ⟨q1, v, q2, q3⟩ := q
    exact ⟨q1, v, q2, Rep.fr hf (fun _ z => z.elim) q3⟩
  | own par d =>
    rw [c] at q
    obtain ⟨p, q1, q2, q3, q4⟩ := q
    exact ⟨p, q1, q2, q3.fr hf (fun _ z => z.elim) (fun u e => f.eq _ _ e fun z => h _ z (.inr ⟨i, q1⟩)), q4⟩
  | lck d =>
    rw [c] at q
    obtain ⟨q1, v, q2, q3⟩ := q
    refine ⟨q1, v, q2, q3.elim (fun z => .inl (Rep.fr hf (fun _ z => z.elim) z)) fun ⟨p, z1, z2, z3, z4⟩ => .inr ⟨p, z1, z2, z3, z4.fr hf (fun _ z => z.elim) (fun _ _ z => z.elim)⟩⟩
  | lkd par d =>
    rw [c] at q
    obtain ⟨q1, p, q2, q3, q4, q5, q6⟩ := q
    exact ⟨q1, p, q2, q3, q4, q5.fr hf (fun _ z => z.elim) (fun z => z.elim), q6⟩
theorem Good.new (g : Good K F O σ H e) {p : Addr} {o : HO} (h : H p = none) : Good K F O σ (upd H p o) e :=
  g.fr (W := fun _ => False) (Fr.new h) (fun _ z => z.elim) (fun _ z => z.elim)
theorem Good.same (g : Good K F O σ H e) (h : Same H H') : Good K F O σ H' e :=
  g.fr (W := fun _ => False) (Fr.same h) (fun _ z => z.elim) (fun _ z => z.elim)
end

/-! ### what is wanted behind an expression -/
/-- how an exception lies: its class by name, no fields of its own -/
def XRep (mg : Str → Option Value) (cls : Value) (dx : Option Addr) (x : D) : Prop :=
  ∃ (nm : Str) (C : Addr), x = .str nm ∧ mg nm = some (.ref C) ∧ cls = .ref C ∧ dx = none

def Pst (K : PySem.W.Frag) (mg : Str → Option Value) (Wx : WX) (F : Fx) (O : Own) (σ : L2.St) (H : Hp) {β α : Type} (R : Hp → (Addr → Prop) → β → α → Prop) (Q : β → Hp → Prop) : Out α → Prop
  | .ok d e' => ∀ v H' O', Sub O' O → Fr (Oset O) H H' → Good K F O' σ H' e' → R H' (Sx F.S0 O') v d → Q v H'
  | .exc x e' => ∀ cls dx H' O', Sub O' O → Fr (Oset O) H H' → Good K F O' σ H' e' → XRep mg cls dx x → Wx cls dx σ H'
  | .bad => False

section
variable {K : PySem.W.Frag} {mg : Str → Option Value} {Wx : WX} {F : Fx} {O O1 : Own} {σ : L2.St} {H H1 : Hp} {α β γ δ : Type}
/-- from a later place the same is wanted -/
theorem Pst.step {R : Hp → (Addr → Prop) → β → α → Prop} {Q : β → Hp → Prop} {o : Out α} (h : Pst K mg Wx F O σ H R Q o) (s : Sub O1 O) (f : Fr (Oset O) H H1) : Pst K mg Wx F O1 σ H1 R Q o := by
  cases o with
  | ok d e' => exact fun v H' O' s' f' g r => h v H' O' (s'.trans s) (f.trans (f'.mono fun _ z => s.set z)) g r
  | exc x e' => exact fun cls dx H' O' s' f' g r => h cls dx H' O' (s'.trans s) (f.trans (f'.mono fun _ z => s.set z)) g r
  | bad => exact h
/-- what is wanted of a part, from what is wanted of the whole -/
theorem Pst.bind {R : Hp → (Addr → Prop) → β → α → Prop} {R1 : Hp → (Addr → Prop) → δ → γ → Prop} {Q : β → Hp → Prop} {Q1 : δ → Hp → Prop} {o : Out γ} {f : γ → Env → Out α}
    (h : Pst K mg Wx F O σ H R Q (o.bind f))
    (k : ∀ d e1 v H1 O1, Sub O1 O → Fr (Oset O) H H1 → Good K F O1 σ H1 e1 → R1 H1 (Sx F.S0 O1) v d → Pst K mg Wx F O1 σ H1 R Q (f d e1) → Q1 v H1) : Pst K mg Wx F O σ H R1 Q1 o := by
  cases o with
  | ok d e' => exact fun v H' O' s' f' g r => k d e' v H' O' s' f' g r (Pst.step h s' f')
  | exc x e' => exact h
  | bad => exact h
theorem Pst.ok {R : Hp → (Addr → Prop) → β → α → Prop} {Q : β → Hp → Prop} {d : α} {e : Env} {v : β} (h : Pst K mg Wx F O σ H R Q (.ok d e)) (g : Good K F O σ H e) (r : R H (Sx F.S0 O) v d) : Q v H :=
  h v H O .refl .refl g r
theorem Pst.okN {R : Hp → (Addr → Prop) → β → α → Prop} {Q : β → Hp → Prop} {d : α} {e : Env} {v : β} {H' : Hp} (h : Pst K mg Wx F O σ H R Q (.ok d e)) (g : Good K F O σ H e) (s : Same H H') (r : R H' (Sx F.S0 O) v d) : Q v H' :=
  h v H' O .refl (Fr.same s) (g.same s) r
end

/-! ### the judgements -/
def TE.of (X : Cx) (e : Expr) : TE := fun σ H Q => ∀ pins s, Inv X pins σ H s → wpAny (model X.prog X.w) X.A (eval e X.env) (EP X pins σ Q) X.xe s
theorem pe_of {X : Cx} {e : Expr} : PE X e (TE.of X e) := ⟨fun pins s _ _ _ I h => h pins s I⟩
theorem TE.by {X : Cx} {e : Expr} {t : TE} (h : PE X e t) {σ : L2.St} {H : Hp} {Q : VK} (q : t σ H Q) : TE.of X e σ H Q := fun pins s I => h.run pins s σ H Q I q
def TT.of (X : Cx) (e : Expr) : TT := fun σ H Q => ∀ pins s, Inv X pins σ H s → wpAny (model X.prog X.w) X.A (isTrue e X.env (eval e X.env)) (TP X pins σ Q) X.xe s
theorem pt_of {X : Cx} {e : Expr} : PT X e (TT.of X e) := ⟨fun pins s _ _ _ I h => h pins s I⟩
theorem TT.by {X : Cx} {e : Expr} {t : TT} (h : PT X e t) {σ : L2.St} {H : Hp} {Q : Bool → Hp → Prop} (q : t σ H Q) : TT.of X e σ H Q := fun pins s I => h.run pins s σ H Q I q
def TA.of (X : Cx) (es : List Expr) : TA := fun σ H Q => ∀ (pos : Pos) pins s, Inv X pins σ H s → wpAny (model X.prog X.w) X.A (spliced (backTo pos (starEach es X.env))) (AP X pins σ Q) X.xe s
theorem pa_of {X : Cx} {es : List Expr} : PA X es (TA.of X es) := ⟨fun pos pins s _ _ _ I h => h pos pins s I⟩
theorem TA.by {X : Cx} {es : List Expr} {t : TA} (h : PA X es t) {σ : L2.St} {H : Hp} {Q : List V → Hp → Prop} (q : t σ H Q) : TA.of X es σ H Q := fun pos pins s I => h.run pos pins s σ H Q I q

/-- an operand's value -/
def RepO (K : PySem.W.Frag) (σ : L2.St) (H : Hp) (S : Addr → Prop) (v : V) : Opd → Prop
  | .v d => Rep K H S v d
  | .s i => σ[i]? = some (some v)
def ReposO (K : PySem.W.Frag) (σ : L2.St) (H : Hp) (S : Addr → Prop) : List V → List Opd → Prop
  | [], [] => True
  | v :: vs, o :: os => RepO K σ H S v o ∧ ReposO K σ H S vs os
  | _, _ => False
theorem getD_of {σ : L2.St} {i : Nat} {v : V} (h : σ[i]? = some (some v)) : σ.getD i none = some v := by
  rw [List.getD_eq_getElem?_getD, h]; rfl
theorem of_getD {σ : L2.St} {i : Nat} {v : V} (h : σ.getD i none = some v) : σ[i]? = some (some v) := by
  rw [List.getD_eq_getElem?_getD] at h
  cases q : σ[i]? with
  | none => rw [q] at h; cases h
  | some o => rw [q] at h; simp at h; rw [h]
section
variable {K : PySem.W.Frag} {F : Fx} {S S' W : Addr → Prop} {O : Own} {σ : L2.St} {H H' : Hp} {e : Env}
theorem Good.deref (g : Good K F O σ H e) {o : Opd} {v : V} {d : D} (r : RepO K σ H (Sx F.S0 O) v o) (h : deref o e = some d) : RepB K H (Sx F.S0 O) v d := by
  cases o with
  | v d' => cases h; exact Rep.b r
  | s i =>
    have hv := getD_of (show σ[i]? = some (some v) from r)
    have q := g.slot i
    rw [hv] at q
    cases c : e.get i with
    | no => rw [Rp.deref, c] at h; cases h
    | val d' =>
      rw [Rp.deref, c] at h; cases h; rw [c] at q
      obtain ⟨_, w, e1, r⟩ := q
      cases e1; exact r.b
    | own par d' =>
      rw [Rp.deref, c] at h; cases h; rw [c] at q
      obtain ⟨p, _, e1, r', _⟩ := q
      cases e1; exact r'.b
    | lck d' =>
      rw [Rp.deref, c] at h; cases h; rw [c] at q
      obtain ⟨_, w, e1, r⟩ := q
      cases e1
      rcases r with r | ⟨p, rfl, _, _, r⟩
      · exact r.b
      · exact r
    | lkd par d' =>
      rw [Rp.deref, c] at h; cases h; rw [c] at q
      obtain ⟨_, p, e1, _, _, r', _⟩ := q
      cases e1; exact r'.b
theorem RepO.fr {o : Opd} {v : V} (r : RepO K σ H S v o) (f : FrR W H H') (hw : ∀ a, W a → S a) : RepO K σ H' S v o := by
  cases o with
  | v d => exact Rep.fr f hw r
  | s i => exact r
theorem RepO.mono {o : Opd} {v : V} (r : RepO K σ H S v o) (h : ∀ a, S' a → S a) : RepO K σ H S' v o := by
  cases o with
  | v d => exact Rep.mono h r
  | s i => exact r
theorem ReposO.fr (f : FrR W H H') (hw : ∀ a, W a → S a) : ∀ {vs : List V} {os : List Opd}, ReposO K σ H S vs os → ReposO K σ H' S vs os
  | [], [], _ => trivial
  | _ :: _, _ :: _, h => ⟨h.1.fr f hw, ReposO.fr f hw h.2⟩
theorem ReposO.mono (h : ∀ a, S' a → S a) : ∀ {vs : List V} {os : List Opd}, ReposO K σ H S vs os → ReposO K σ H S' vs os
  | [], [], _ => trivial
  | _ :: _, _ :: _, r => ⟨r.1.mono h, ReposO.mono h r.2⟩
end

def SE (X : Cx) (e : Expr) (f : Env → Out D) : Prop :=
  ∀ Wx, Takes X Wx → ∀ F O σ H env, Good X.K F O σ H env → ∀ Q : VK, Pst X.K X.mg Wx F O σ H (Rep X.K) Q (f env) → TE.of X e σ H Q
def SO (X : Cx) (e : Expr) (f : Env → Out Opd) : Prop :=
  ∀ Wx, Takes X Wx → ∀ F O σ H env, Good X.K F O σ H env → ∀ Q : VK, Pst X.K X.mg Wx F O σ H (RepO X.K σ) Q (f env) → TE.of X e σ H Q
def SA (X : Cx) (es : List Expr) (f : Env → Out (List Opd)) : Prop :=
  ∀ Wx, Takes X Wx → ∀ F O σ H env, Good X.K F O σ H env → ∀ Q : List V → Hp → Prop, Pst X.K X.mg Wx F O σ H (ReposO X.K σ) Q (f env) → TA.of X es σ H Q
def ST (X : Cx) (e : Expr) (f : Env → Out Bool) : Prop :=
  ∀ Wx, Takes X Wx → ∀ F O σ H env, Good X.K F O σ H env → ∀ Q : Bool → Hp → Prop, Pst X.K X.mg Wx F O σ H (fun _ _ b c => b = c) Q (f env) → TT.of X e σ H Q

/-! ### operands -/
def asV (f : Env → Out D) : Env → Out Opd := fun env => (f env).bind fun d e => .ok (.v d) e
theorem SE.opd {X : Cx} {e : Expr} {f : Env → Out D} (h : SE X e f) : SO X e (asV f) := by
  intro Wx tk F O σ H env g Q p
  refine h Wx tk F O σ H env g Q (Pst.bind p fun d e1 v H1 O1 s f g1 r p1 => ?_)
  exact p1.ok g1 r
theorem so_bor {X : Cx} {i : Nat} {x : Str} {pos : Pos} (hN : X.N[i]? = some x) (hv : Vis X.env.scope x) (hd : (x == ("__debug__" : Str)) = false) (hcd : (x == ("__classdict__" : Str)) = false) :
    SO X (.Name x pos) (fun env => (Out.of ((env.get i).look) env).bind fun _ e => .ok (.s i) e) := by
  intro Wx tk F O σ H env g Q p
  refine TE.by (pe_var hN hv hd hcd) ?_
  have q := g.slot i
  have key : ∀ v, σ.getD i none = some v → ∃ w, σ[i]? = some (some w) ∧ Pst X.K X.mg Wx F O σ H (RepO X.K σ) Q (.ok (.s i) env) → ∃ w, σ[i]? = some (some w) ∧ Q w H := by
    intro v hv
    refine ⟨v, fun ⟨e1, p⟩ => ⟨v, e1, p.ok g e1⟩⟩
  cases c : env.get i with
  | no => simp only [c] at p; exact p.elim
  | val d =>
    simp only [c] at p; rw [c] at q
    obtain ⟨_, v, e1, _⟩ := q
    exact ⟨v, of_getD e1, p.ok g (show σ[i]? = some (some v) from of_getD e1)⟩
  | own par d =>
    simp only [c] at p; rw [c] at q
    obtain ⟨v, _, e1, _⟩ := q
    exact ⟨.ref v, of_getD e1, p.ok g (show σ[i]? = some (some (.ref v)) from of_getD e1)⟩
  | lck d =>
    simp only [c] at p; rw [c] at q
    obtain ⟨_, v, e1, _⟩ := q
    exact ⟨v, of_getD e1, p.ok g (show σ[i]? = some (some v) from of_getD e1)⟩
  | lkd par d =>
    simp only [c] at p; rw [c] at q
    obtain ⟨_, v, e1, _⟩ := q
    exact ⟨.ref v, of_getD e1, p.ok g (show σ[i]? = some (some (.ref v)) from of_getD e1)⟩

/-! ### two operands, an operation by values -/
/-- what a two-place operation gives, by data: new objects at most -/
def OpS (X : Cx) (f : Value → Value → Sem Value) (g : D → D → Option D) : Prop :=
  ∀ S x y H d1 d2 d, RepB X.K H S x d1 → RepB X.K H S y d2 → g d1 d2 = some d →
    ∃ r, OpR X f r ∧ ∀ Q : VK, (∀ v H', Same H H' → ((∀ a, S a → H a ≠ none) → Rep X.K H' S v d) → Q v H') → r x y H Q
def bin2 (g : D → D → Option D) (fa fb : Env → Out Opd) : Env → Out D := fun env =>
  (fa env).bind fun a e1 => (fb e1).bind fun b e2 => Out.of (do let x ← deref a e2; let y ← deref b e2; g x y) e2
theorem SO.two {X : Cx} {a b : Expr} {fa fb : Env → Out Opd} {g : D → D → Option D} (ha : SO X a fa) (hb : SO X b fb) {Wx : WX} (tk : Takes X Wx) {F : Fx} {O : Own} {σ : L2.St} {H : Hp} {env : Env} (gd : Good X.K F O σ H env) {Q : VK}
    (p : Pst X.K X.mg Wx F O σ H (Rep X.K) Q (bin2 g fa fb env)) {M : V → V → Hp → Prop}
    (k : ∀ x y H2 O2 e2 d1 d2 d, Good X.K F O2 σ H2 e2 → RepB X.K H2 (Sx F.S0 O2) x d1 → RepB X.K H2 (Sx F.S0 O2) y d2 → g d1 d2 = some d → (∀ v H', Same H2 H' → Rep X.K H' (Sx F.S0 O2) v d → Q v H') → M x y H2) :
    TE.of X a σ H fun x H1 => TE.of X b σ H1 fun y H2 => M x y H2 := by
  refine ha Wx tk F O σ H env gd _ (Pst.bind p fun o1 e1 x H1 O1 s1 f1 g1 r1 p1 => ?_)
  refine hb Wx tk F O1 σ H1 e1 g1 _ (Pst.bind p1 fun o2 e2 y H2 O2 s2 f2 g2 r2 p2 => ?_)
  cases q1 : deref o1 e2 with
  | none => simp only [q1] at p2; exact p2.elim
  | some d1 =>
    cases q2 : deref o2 e2 with
    | none => simp only [q1, q2] at p2; exact p2.elim
    | some d2 =>
      have p2' : Pst X.K X.mg Wx F O2 σ H2 (Rep X.K) Q (Out.of (g d1 d2) e2) := by
        simp only [q1, q2] at p2; exact p2
      cases q3 : g d1 d2 with
      | none => rw [q3] at p2'; exact p2'.elim
      | some d =>
        rw [q3] at p2'
        have r1' := (r1.fr f2.rd fun _ z => .inr z).mono (S' := Sx F.S0 O2) fun _ z => s2.sx z
        exact k x y H2 O2 e2 d1 d2 d g2 (g2.deref r1' q1) (g2.deref r2 q2) q3 fun v H' sm r => Pst.okN p2' g2 sm r
theorem se_op {X : Cx} {a b : Expr} {fa fb : Env → Out Opd} {op : Operator} {pos : Pos} {g : D → D → Option D} (ho : OpS X (binaryOp op) g) (ha : SO X a fa) (hb : SO X b fb) : SE X (.BinOp a op b pos) (bin2 g fa fb) := by
  intro Wx tk F O σ H env gd Q p
  have key : TE.of X a σ H fun x H1 => TE.of X b σ H1 fun y H2 => ∃ r, OpR X (binaryOp op) r ∧ r x y H2 Q := by
    refine SO.two ha hb tk gd p fun x y H2 O2 e2 d1 d2 d g2 r1 r2 e k => ?_
    obtain ⟨r, h1, h2⟩ := ho _ x y H2 d1 d2 d r1 r2 e
    exact ⟨r, h1, h2 Q fun v H' sm rep => k v H' sm (rep fun a z => g2.dom z)⟩
  refine TE.by (pe_op (r := fun x y H Q => ∃ r, OpR X (binaryOp op) r ∧ r x y H Q) ?_ pe_of pe_of) key
  intro pins s σ H x y v u Q I r1 r2 ⟨r, h1, h2⟩
  exact h1 pins s σ H x y v u Q I r1 r2 h2
end Rp
set_option Elab.async false
set_option linter.all false
set_option maxRecDepth 100000
/-! RpD: operations by values. -/
namespace Rp
open PySem PySem.Spec PyProof.Rows L2

/-! ### arithmetic by data -/
def mulOk (i j : Int) : Bool := (decide (-(2 ^ 64) < i) && decide (i < 2 ^ 64)) || (decide (-(2 ^ 64) < j) && decide (j < 2 ^ 64))
def powOk (i j : Int) : Bool := decide (0 ≤ j) && decide ((((Builtin.Int.intBits i : Nat) : Int) * j) ≤ 1000000)
def lenOk (n : Nat) : Bool := decide (n ≤ sizeLine)
def D.add : D → D → Option D
  | .int i, .int j => some (.int (i + j))
  | .str x, .str y => if lenOk (x.length + y.length) then some (.str (x ++ y)) else none
  | .lst xs, .lst ys => if lenOk (xs.length + ys.length) then some (.lst (xs ++ ys)) else none
  | .tup xs, .tup ys => if lenOk (xs.length + ys.length) then some (.tup (xs ++ ys)) else none
  | _, _ => none
def D.sub : D → D → Option D
  | .int i, .int j => some (.int (i - j))
  | _, _ => none
def repOk (n : Nat) (k : Int) : Bool := decide (0 ≤ k) && decide (k ≤ 1000000) && decide (n * k.toNat ≤ sizeLine)
def D.mul : D → D → Option D
  | .int i, .int j => if mulOk i j then some (.int (i * j)) else none
  | .lst xs, .int k => if repOk xs.length k then some (.lst (List.replicate k.toNat xs).flatten) else none
  | .tup xs, .int k => if decide (xs ≠ []) && decide (2 ≤ k) && decide (k ≤ 1000) && decide (xs.length ≤ 1000) then some (.tup (List.replicate k.toNat xs).flatten) else none
  | _, _ => none
def D.fdiv : D → D → Option D
  | .int i, .int j => if decide (0 < j) && decide (j.natAbs.log2 < 9000) then some (.int (i / j)) else none
  | _, _ => none
def D.mod : D → D → Option D
  | .int i, .int j => if decide (0 < j) then some (.int (i % j)) else none
  | _, _ => none
def D.pow : D → D → Option D
  | .int i, .int j => if powOk i j then some (.int (i ^ j.toNat)) else none
  | _, _ => none

/-- a new list -/
structure FreshR (K : PySem.W.Frag) (S : Addr → Prop) (H H' : Hp) (v : V) (d : D) : Prop where
  ex : ∃ p vs ds, v = .ref p ∧ d = .lst ds ∧ H p = none ∧ H' p = some (.lst vs) ∧ Reps K H' (fun a => S a ∨ a = p) vs ds
section
variable {K : PySem.W.Frag} {S : Addr → Prop} {H H' : Hp} {v : V} {d : D} {p : Addr} {vs : List V} {ds : List D}
theorem FreshR.rep (f : FreshR K S H H' v d) (h : ∀ a, S a → H a ≠ none) : Rep K H' S v d := by
  obtain ⟨p, vs, ds, rfl, rfl, e, e', r⟩ := f.ex
  exact .lst e' (fun z => h _ z e) (Reps.mono (fun _ z => .inl z) r)
theorem FreshR.mk' (h : H p = none) (r : Reps K H S vs ds) : FreshR K S H (upd H p (.lst vs)) (.ref p) (.lst ds) :=
  ⟨p, vs, ds, rfl, rfl, h, upd_same, Reps.fr (W := fun _ => False) (Fr.new h).rd (fun _ z => z.elim) (Reps.free h (fun _ z => z) r)⟩
theorem FreshR.mono {H0 : Hp} (f : FreshR K S H H' v d) (h : ∀ a, H a = none → H0 a = none) : FreshR K S H0 H' v d := by
  obtain ⟨p, vs, ds, e1, e2, e, e', r⟩ := f.ex
  exact ⟨p, vs, ds, e1, e2, h _ e, e', r⟩
theorem tup_new (h : H p = none) (hs : ∀ a, S a → H a ≠ none) (r : Reps K H S vs ds) : Rep K (upd H p (.tup vs)) S (.ref p) (.tup ds) :=
  .tup (.inl ⟨.inl upd_same, fun z => hs _ z h⟩) (Reps.fr (W := fun _ => False) (Fr.new h).rd (fun _ z => z.elim) r)
theorem same_new {o : HO} (h : H p = none) : Same H (upd H p o) := fun b x e => by
  rw [upd_ne (ne_of_none e h)]
  exact e
end

/-- .. and its list is new, where it is a list -/
def OpF (X : Cx) (f : Value → Value → Sem Value) (g : D → D → Option D) : Prop :=
  ∀ S x y H d1 d2 d, RepB X.K H S x d1 → RepB X.K H S y d2 → g d1 d2 = some d → (∃ ds, d = .lst ds) →
    ∃ r, OpR X f r ∧ ∀ Q : VK, (∀ v H', Same H H' → FreshR X.K S H H' v d → Q v H') → r x y H Q
section
variable {X : Cx}
theorem opS_int {f : Value → Value → Sem Value} {C : Int → Int → Prop} {h : Int → Int → V} {g : D → D → Option D} (ho : OpR X f (rI C h))
    (hg : ∀ d1 d2 d, g d1 d2 = some d → ∃ i j, d1 = .int i ∧ d2 = .int j ∧ C i j ∧ ((∃ k, h i j = .int k ∧ d = .int k) ∨ ∃ k, h i j = .bl k ∧ d = .bl k)) : OpS X f g := by
  intro S x y H d1 d2 d r1 r2 e
  obtain ⟨i, j, rfl, rfl, c, q⟩ := hg d1 d2 d e
  cases r1; cases r2
  refine ⟨_, ho, fun Q k => ⟨i, j, rfl, rfl, c, ?_⟩⟩
  rcases q with ⟨n, e1, rfl⟩ | ⟨n, e1, rfl⟩
  · rw [e1]; exact k _ _ (fun _ _ h => h) fun _ => .int n
  · rw [e1]; exact k _ _ (fun _ _ h => h) fun _ => .bl n
theorem opr_rI0 {f : Value → Value → Sem Value} {h : Int → Int → V} (ho : OpR X f (rI0 h)) : OpR X f (rI (fun _ _ => True) h) := by
  intro pins s σ H x y v u Q I r1 r2 ⟨i, j, e1, e2, _, q⟩
  exact ho pins s σ H x y v u Q I r1 r2 ⟨i, j, e1, e2, q⟩
theorem s_sub : OpS X (binaryOp .Sub) D.sub := by
  refine opS_int (opr_rI0 op_sub) fun d1 d2 d e => ?_
  cases d1 <;> cases d2 <;> simp only [D.sub] at e <;> first | (cases e; done) | skip
  injection e with e; subst e
  exact ⟨_, _, rfl, rfl, trivial, .inl ⟨_, rfl, rfl⟩⟩
theorem s_fdiv : OpS X (binaryOp .FloorDiv) D.fdiv := by
  refine opS_int op_fdivW fun d1 d2 d e => ?_
  cases d1 <;> cases d2 <;> simp only [D.fdiv] at e <;> first | (cases e; done) | skip
  split at e
  · rename_i h
    injection e with e; subst e
    rw [Bool.and_eq_true, decide_eq_true_eq, decide_eq_true_eq] at h
    exact ⟨_, _, rfl, rfl, h, .inl ⟨_, rfl, rfl⟩⟩
  · cases e
theorem s_mod : OpS X (binaryOp .Mod) D.mod := by
  refine opS_int op_mod fun d1 d2 d e => ?_
  cases d1 <;> cases d2 <;> simp only [D.mod] at e <;> first | (cases e; done) | skip
  split at e
  · rename_i h
    injection e with e; subst e
    exact ⟨_, _, rfl, rfl, of_decide_eq_true h, .inl ⟨_, rfl, rfl⟩⟩
  · cases e
/-- a power of any base, by its size -/
theorem op_powW : OpR X (binaryOp .Pow) (rI (fun i j => powOk i j = true) fun i j => .int (i ^ j.toNat)) := by
  refine opI fun i j t u s Q E hc q => ?_
  have h := hc
  simp only [powOk, Bool.and_eq_true, decide_eq_true_eq] at h
  obtain ⟨h0, h1⟩ := h
  by_cases hj : j = 0
  · subst hj
    refine AutoIntOps.pow_0 (by omega) rfl ?_
    show Q (.int 1 s.toks) _
    have e : i ^ (0 : Int).toNat = 1 := by simp
    rw [e] at q; exact q
  by_cases h01 : (i == 0 || i == 1) = true
  · refine AutoIntOps.pow_1 (by omega) (by simpa using hj) h01 ?_
    show Q (.int i s.toks) _
    have e : i ^ j.toNat = i := by
      have hn : j.toNat ≠ 0 := by omega
      rcases (Bool.or_eq_true _ _).mp h01 with z | z
      · have : i = 0 := by simpa using z
        subst this; exact Int.zero_pow hn
      · have : i = 1 := by simpa using z
        subst this; exact Int.one_pow
    rw [e] at q; exact q
  by_cases hm : (i == -1) = true
  · refine AutoIntOps.pow_2 (by omega) (by simpa using hj) h01 hm ?_
    show Q (.int _ s.toks) _
    have hi : i = -1 := by simpa using hm
    subst hi
    have e : (-1 : Int) ^ j.toNat = if (j % 2 == 0) = true then 1 else -1 := by
      have key : ∀ n : Nat, (-1 : Int) ^ n = if n % 2 = 0 then 1 else -1 := by
        intro n
        induction n with
        | zero => rfl
        | succ n ih =>
          rw [Int.pow_succ, ih]
          by_cases hn : n % 2 = 0
          · rw [if_pos hn, if_neg (by omega)]; rfl
          · rw [if_neg hn, if_pos (by omega)]; rfl
      rw [key]
      by_cases hn : j.toNat % 2 = 0
      · rw [if_pos hn, if_pos (by simp; omega)]
      · rw [if_neg hn, if_neg (by simp; omega)]
    rw [e] at q; exact q
  · refine AutoIntOps.pow_4 (by omega) (by simpa using hj) h01 hm ?_ q
    unfold Builtin.Int.intTooBig
    have e : (bitsLine : Nat) = 134217728 := by decide
    rw [e]
    intro z
    have z2 := of_decide_eq_true z
    omega
theorem s_pow : OpS X (binaryOp .Pow) D.pow := by
  refine opS_int op_powW fun d1 d2 d e => ?_
  cases d1 <;> cases d2 <;> simp only [D.pow] at e <;> first | (cases e; done) | skip
  split at e
  · rename_i h
    injection e with e; subst e
    exact ⟨_, _, rfl, rfl, h, .inl ⟨_, rfl, rfl⟩⟩
  · cases e
theorem f_add : OpF X (binaryOp .Add) D.add := by
  intro S x y H d1 d2 d r1 r2 e hl
  cases d1 <;> cases d2 <;> simp only [D.add] at e <;> first | (cases e; done) | skip
  · injection e with e; subst e; obtain ⟨_, h⟩ := hl; cases h
  · split at e
    · injection e with e; subst e; obtain ⟨_, h⟩ := hl; cases h
    · cases e
  · split at e
    · rename_i h
      injection e with e; subst e
      cases r1 with
      | lst h1 q1 =>
        cases r2 with
        | lst h2 q2 =>
          refine ⟨_, op_cat, fun Q k => ⟨_, _, _, _, rfl, rfl, h1, h2, ?_, fun p hp => k _ _ (same_new hp) (.mk' hp (q1.append q2))⟩⟩
          rw [q1.length, q2.length]; exact of_decide_eq_true h
    · cases e
  · split at e
    · injection e with e; subst e; obtain ⟨_, h⟩ := hl; cases h
    · cases e
theorem s_add : OpS X (binaryOp .Add) D.add := by
  intro S x y H d1 d2 d r1 r2 e
  have hF := @f_add X S x y H d1 d2 d r1 r2 e
  cases d1 <;> cases d2 <;> simp only [D.add] at e <;> first | (cases e; done) | skip
  · injection e with e; subst e
    cases r1; cases r2
    exact ⟨_, op_add, fun Q k => ⟨_, _, rfl, rfl, k _ _ (fun _ _ h => h) fun _ => .int _⟩⟩
  · split at e
    · rename_i h
      injection e with e; subst e
      cases r1; cases r2
      exact ⟨_, op_add_str, fun Q k => ⟨_, _, rfl, rfl, of_decide_eq_true h, k _ _ (fun _ _ h => h) fun _ => .str _⟩⟩
    · cases e
  · split at e
    · injection e with e; subst e
      obtain ⟨r, h1, h2⟩ := hF ⟨_, rfl⟩
      exact ⟨r, h1, fun Q k => h2 Q fun v H' sm fr => k v H' sm fr.rep⟩
    · cases e
  · split at e
    · rename_i h
      injection e with e; subst e
      cases r1 with
      | tup h1 q1 =>
        cases r2 with
        | tup h2 q2 =>
          refine ⟨_, op_catA, fun Q k => ⟨_, _, _, _, rfl, rfl, sqT_of h1, sqT_of h2, ?_, fun z => ?_, fun _ z => ?_, fun _ _ p hp => k _ _ (same_new hp) fun hs => tup_new hp hs (q1.append q2)⟩⟩
          · rw [q1.length, q2.length]; exact of_decide_eq_true h
          · subst z; cases q1
            exact k _ _ (fun _ _ h => h) fun _ => .tup h2 q2
          · subst z; cases q2
            rw [List.append_nil] at k
            exact k _ _ (fun _ _ h => h) fun _ => .tup h1 q1
    · cases e
/-! ### times -/
theorem f_mul : OpF X (binaryOp .Mult) D.mul := by
  intro S x y H d1 d2 d r1 r2 e hl
  cases d1 <;> cases d2 <;> simp only [D.mul] at e <;> first | (cases e; done) | skip
  · split at e
    · injection e with e; subst e; obtain ⟨_, h⟩ := hl; cases h
    · cases e
  · split at e
    · rename_i h
      injection e with e; subst e
      simp only [repOk, Bool.and_eq_true, decide_eq_true_eq] at h
      cases r2
      cases r1 with
      | lst h1 q1 =>
        refine ⟨_, op_rep, fun Q k => ⟨_, _, _, rfl, rfl, h1, by omega, by omega, by rw [q1.length]; exact h.2, fun p hp => k _ _ (same_new hp) (.mk' hp ?_)⟩⟩
        have key : ∀ n : Nat, Reps X.K H S (List.replicate n _).flatten (List.replicate n _).flatten := fun n => by
          induction n with
          | zero => exact .nil
          | succ n ih => rw [List.replicate_succ, List.replicate_succ, List.flatten_cons, List.flatten_cons]; exact q1.append ih
        exact key _
    · cases e
  · split at e
    · injection e with e; subst e; obtain ⟨_, h⟩ := hl; cases h
    · cases e
theorem s_mul : OpS X (binaryOp .Mult) D.mul := by
  intro S x y H d1 d2 d r1 r2 e
  have hF := @f_mul X S x y H d1 d2 d r1 r2 e
  cases d1 <;> cases d2 <;> simp only [D.mul] at e <;> first | (cases e; done) | skip
  · split at e
    · rename_i h
      injection e with e; subst e
      cases r1; cases r2
      refine ⟨_, op_mul, fun Q k => ⟨_, _, rfl, rfl, ?_, k _ _ (fun _ _ h => h) fun _ => .int _⟩⟩
      show CMul _ _
      unfold CMul
      simp only [mulOk, Bool.or_eq_true, Bool.and_eq_true, decide_eq_true_eq] at h
      exact h
    · cases e
  · split at e
    · injection e with e; subst e
      obtain ⟨r, h1, h2⟩ := hF ⟨_, rfl⟩
      exact ⟨r, h1, fun Q k => h2 Q fun v H' sm fr => k v H' sm fr.rep⟩
    · cases e
  · split at e
    · rename_i h
      injection e with e; subst e
      simp only [Bool.and_eq_true, decide_eq_true_eq] at h
      obtain ⟨⟨⟨g1, g2⟩, g3⟩, g4⟩ := h
      cases r2
      cases r1 with
      | tup h1 q1 =>
        refine ⟨_, op_repT, fun Q k => ⟨_, _, _, rfl, rfl, sqT_of h1, fun z => ?_, g2, g3, by rw [q1.length]; exact g4, fun p hp => k _ _ (same_new hp) fun hs => tup_new hp hs ?_⟩⟩
        · subst z; cases q1; exact g1 rfl
        · have key : ∀ n : Nat, Reps X.K H S (List.replicate n _).flatten (List.replicate n _).flatten := fun n => by
            induction n with
            | zero => exact .nil
            | succ n ih => rw [List.replicate_succ, List.replicate_succ, List.flatten_cons, List.flatten_cons]; exact q1.append ih
          exact key _
    · cases e
end
end Rp
set_option Elab.async false
set_option linter.all false
set_option maxRecDepth 100000
/-! RpE: comparisons, truth, subscripts, slices, by values. -/
namespace Rp
open PySem PySem.Spec PyProof.Rows L2

/-! ### data that == can compare -/
def D.shp (d : D) : Bool := SeqAt.shaped d.py
def D.eqq (a b : D) : Bool := PyData.eqv a.py b.py
section
variable {K : PySem.W.Frag} {H : Hp} {S : Addr → Prop}
mutual
theorem Rep.dp : ∀ {v : V} {d : D}, Rep K H S v d → d.py.canLay0 = true → Dp K H v d.py
  | _, _, .non, _ => .non
  | _, _, .bl b, _ => .bl b
  | _, _, .int i, _ => .int i
  | _, _, .str x, _ => .str x
  | _, _, .lst h n r, c => .lst (.inl (.inl h)) (Reps.dp r (by simpa [D.py, PyData.canLay0] using c))
  | _, _, .scr h r, c => by simp [D.py, PyData.canLay0] at c
  | _, _, .tup h r, c => .tup (sqT_of h) (Reps.dp r (by simpa [D.py, PyData.canLay0] using c))
  | _, _, .dctK h n r, c => by simp [D.py, PyData.canLay0] at c
  | _, _, .dctT h n r, c => by simp [D.py, PyData.canLay0] at c
theorem Reps.dp : ∀ {vs : List V} {ds : List D}, Reps K H S vs ds → PyData.canLayAll0 (D.pys ds) = true → DpAll K H vs (D.pys ds)
  | _, _, .nil, _ => .nil
  | _, _, .cons r t, c => by
    simp only [D.pys, PyData.canLayAll0, Bool.and_eq_true] at c
    exact .cons (Rep.dp r c.1) (Reps.dp t c.2)
end
theorem RepB.dp {v : V} {d : D} (r : RepB K H S v d) (c : d.py.canLay0 = true) : Dp K H v d.py := by
  cases r with
  | non => exact .non
  | bl b => exact .bl b
  | int i => exact .int i
  | str x => exact .str x
  | lst h r => exact .lst (.inl (.inl h)) (Reps.dp r (by simpa [D.py, PyData.canLay0] using c))
  | scr h r => simp [D.py, PyData.canLay0] at c
  | tup h r => exact .tup (sqT_of h) (Reps.dp r (by simpa [D.py, PyData.canLay0] using c))
  | dctK h r => simp [D.py, PyData.canLay0] at c
  | dctT h r => simp [D.py, PyData.canLay0] at c
end
def D.eqD (a b : D) : Option D := if a.shp && b.shp then some (.bl (a.eqq b)) else none
def D.neD (a b : D) : Option D := if a.shp && b.shp then some (.bl (!a.eqq b)) else none
def D.ltD : D → D → Option D
  | .int i, .int j => some (.bl (decide (i < j)))
  | _, _ => none
def D.leD : D → D → Option D
  | .int i, .int j => some (.bl (decide (i ≤ j)))
  | _, _ => none
def D.gtD : D → D → Option D
  | .int i, .int j => some (.bl (decide (j < i)))
  | _, _ => none
def D.geD : D → D → Option D
  | .int i, .int j => some (.bl (decide (j ≤ i)))
  | _, _ => none
def D.isN : D → Bool
  | .non => true
  | _ => false
def D.isD : D → D → Option D
  | a, .non => some (.bl a.isN)
  | .bl a, .bl b => some (.bl (decide (a = b)))
  | _, _ => none
def D.isnD : D → D → Option D
  | a, .non => some (.bl (!a.isN))
  | .bl a, .bl b => some (.bl (!decide (a = b)))
  | _, _ => none
def D.flat : D → Bool
  | .non => true
  | .bl _ => true
  | .int _ => true
  | .str _ => true
  | _ => false
def D.inB (x : D) (ys : List D) : Bool := ys.any fun y => y.eqq x
def D.inD (x : D) : D → Option D
  | .lst ys => if x.flat && ys.all D.flat then some (.bl (x.inB ys)) else if x.shp && (D.lst ys).shp then some (.bl (x.inB ys)) else none
  | .tup ys => if x.flat && ys.all D.flat then some (.bl (x.inB ys)) else none
  | .str z => match x with
    | .str y => (match y.cps.toList with | [c] => some (.bl (decide (c ∈ z.cps.toList))) | _ => none)
    | _ => none
  | _ => none
def D.ninD (x : D) (c : D) : Option D := match x.inD c with
  | some (.bl b) => some (.bl (!b))
  | _ => none
def cmpD : CmpOp → D → D → Option D
  | .Eq => D.eqD
  | .NotEq => D.neD
  | .Lt => D.ltD
  | .LtE => D.leD
  | .Gt => D.gtD
  | .GtE => D.geD
  | .Is => D.isD
  | .IsNot => D.isnD
  | .In => D.inD
  | .NotIn => D.ninD
def binD : Operator → D → D → Option D
  | .Add => D.add
  | .Sub => D.sub
  | .Mult => D.mul
  | .FloorDiv => D.fdiv
  | .Mod => D.mod
  | .Pow => D.pow
  | _ => fun _ _ => none

section
variable {X : Cx}
theorem s_cmpI {f : Value → Value → Sem Value} {p : Int → Int → Bool} {g : D → D → Option D} (ho : OpR X f (rI0 fun i j => .bl (p i j)))
    (hg : ∀ d1 d2 d, g d1 d2 = some d → ∃ i j, d1 = .int i ∧ d2 = .int j ∧ d = .bl (p i j)) : OpS X f g := by
  intro S x y H d1 d2 d r1 r2 e
  obtain ⟨i, j, rfl, rfl, rfl⟩ := hg d1 d2 d e
  cases r1; cases r2
  exact ⟨_, ho, fun Q k => ⟨i, j, rfl, rfl, k _ _ (fun _ _ h => h) fun _ => .bl _⟩⟩
theorem s_lt : OpS X (compareOp .Lt) D.ltD := by
  refine s_cmpI op_lt fun d1 d2 d e => ?_
  cases d1 <;> cases d2 <;> simp only [D.ltD] at e <;> first | (cases e; done) | skip
  injection e with e; exact ⟨_, _, rfl, rfl, e.symm⟩
theorem s_le : OpS X (compareOp .LtE) D.leD := by
  refine s_cmpI op_le fun d1 d2 d e => ?_
  cases d1 <;> cases d2 <;> simp only [D.leD] at e <;> first | (cases e; done) | skip
  injection e with e; exact ⟨_, _, rfl, rfl, e.symm⟩
theorem s_gt : OpS X (compareOp .Gt) D.gtD := by
  refine s_cmpI op_gt fun d1 d2 d e => ?_
  cases d1 <;> cases d2 <;> simp only [D.gtD] at e <;> first | (cases e; done) | skip
  injection e with e; exact ⟨_, _, rfl, rfl, e.symm⟩
theorem s_ge : OpS X (compareOp .GtE) D.geD := by
  refine s_cmpI op_ge fun d1 d2 d e => ?_
  cases d1 <;> cases d2 <;> simp only [D.geD] at e <;> first | (cases e; done) | skip
  injection e with e; exact ⟨_, _, rfl, rfl, e.symm⟩
theorem s_eq (hu : X.A.units + 64 < cLine) : OpS X (compareOp .Eq) D.eqD := by
  intro S x y H d1 d2 d r1 r2 e
  unfold D.eqD at e
  split at e
  · rename_i h
    injection e with e; subst e
    rw [Bool.and_eq_true] at h
    exact ⟨_, op_eqD hu, fun Q k => ⟨_, _, r1.dp (SeqAt.canLay_of_shaped h.1), r2.dp (SeqAt.canLay_of_shaped h.2), h.1, h.2, k _ _ (fun _ _ h => h) fun _ => .bl _⟩⟩
  · cases e
theorem s_ne (hu : X.A.units + 64 < cLine) : OpS X (compareOp .NotEq) D.neD := by
  intro S x y H d1 d2 d r1 r2 e
  unfold D.neD at e
  split at e
  · rename_i h
    injection e with e; subst e
    rw [Bool.and_eq_true] at h
    exact ⟨_, op_neD hu, fun Q k => ⟨_, _, r1.dp (SeqAt.canLay_of_shaped h.1), r2.dp (SeqAt.canLay_of_shaped h.2), h.1, h.2, k _ _ (fun _ _ h => h) fun _ => .bl _⟩⟩
  · cases e
theorem RepB.isN {K : PySem.W.Frag} {H : Hp} {S : Addr → Prop} {v : V} {d : D} (r : RepB K H S v d) : decide (v = .non) = d.isN := by
  cases r <;> simp [D.isN]
theorem s_is : OpS X (compareOp .Is) D.isD := by
  intro S x y H d1 d2 d r1 r2 e
  cases r2 with
  | non =>
    have e' : d = .bl d1.isN := by cases d1 <;> simp only [D.isD] at e <;> (injection e with e; exact e.symm)
    subst e'
    exact ⟨_, op_isN, fun Q k => ⟨rfl, by rw [r1.isN]; exact k _ _ (fun _ _ h => h) fun _ => .bl _⟩⟩
  | bl b =>
    cases r1 <;> simp only [D.isD] at e <;> first | (cases e; done) | skip
    injection e with e; subst e
    exact ⟨_, op_is_bl, fun Q k => ⟨_, _, rfl, rfl, k _ _ (fun _ _ h => h) fun _ => .bl _⟩⟩
  | _ => cases d1 <;> simp only [D.isD] at e <;> cases e
theorem s_isn : OpS X (compareOp .IsNot) D.isnD := by
  intro S x y H d1 d2 d r1 r2 e
  cases r2 with
  | non =>
    have e' : d = .bl (!d1.isN) := by cases d1 <;> simp only [D.isnD] at e <;> (injection e with e; exact e.symm)
    subst e'
    exact ⟨_, op_notN, fun Q k => ⟨rfl, by rw [r1.isN]; exact k _ _ (fun _ _ h => h) fun _ => .bl _⟩⟩
  | bl b =>
    cases r1 <;> simp only [D.isnD] at e <;> first | (cases e; done) | skip
    injection e with e; subst e
    exact ⟨_, op_isnot_bl, fun Q k => ⟨_, _, rfl, rfl, k _ _ (fun _ _ h => h) fun _ => .bl _⟩⟩
  | _ => cases d1 <;> simp only [D.isnD] at e <;> cases e

/-! ### in -/
theorem flat_rep {K : PySem.W.Frag} {H : Hp} {S : Addr → Prop} {v : V} {d : D} (r : Rep K H S v d) (f : d.flat = true) : flatV v = true ∧ ∀ w c, Rep K H S w c → c.flat = true → eqV v w = d.eqq c := by
  cases r with
  | non => exact ⟨rfl, fun w c r2 f2 => by cases r2 <;> simp [D.flat] at f2 <;> simp [eqV, D.eqq, D.py, PyData.eqv]⟩
  | bl b => exact ⟨rfl, fun w c r2 f2 => by cases r2 <;> simp [D.flat] at f2 <;> simp [eqV, D.eqq, D.py, PyData.eqv]⟩
  | int i => exact ⟨rfl, fun w c r2 f2 => by cases r2 <;> simp [D.flat] at f2 <;> simp [eqV, D.eqq, D.py, PyData.eqv]⟩
  | str x => exact ⟨rfl, fun w c r2 f2 => by cases r2 <;> simp [D.flat] at f2 <;> simp [eqV, D.eqq, D.py, PyData.eqv]⟩
  | _ => simp [D.flat] at f
theorem flat_reps {K : PySem.W.Frag} {H : Hp} {S : Addr → Prop} {x : V} {dx : D} (rx : Rep K H S x dx) (fx : dx.flat = true) : ∀ {vs : List V} {ds : List D}, Reps K H S vs ds → ds.all D.flat = true → vs.all flatV = true ∧ inV x vs = dx.inB ds
  | _, _, .nil, _ => ⟨rfl, rfl⟩
  | _, _, .cons r t, f => by
    rw [List.all_cons, Bool.and_eq_true] at f
    obtain ⟨h1, h2⟩ := flat_rep r f.1
    obtain ⟨g1, g2⟩ := flat_reps rx fx t f.2
    refine ⟨by rw [List.all_cons, h1, g1]; rfl, ?_⟩
    unfold inV D.inB at g2 ⊢
    rw [List.any_cons, List.any_cons, h2 _ _ rx fx, g2]
theorem any_pys (x : D) : ∀ ys : List D, ((D.pys ys).any fun z => PyData.eqv z x.py) = x.inB ys
  | [] => rfl
  | y :: ys => by
    have := any_pys x ys
    unfold D.inB at this ⊢
    rw [D.pys, List.any_cons, List.any_cons, this]
    rfl
theorem RepB.flat {K : PySem.W.Frag} {H : Hp} {S : Addr → Prop} {v : V} {d : D} (r : RepB K H S v d) (f : d.flat = true) : Rep K H S v d := by
  cases r with
  | non => exact .non
  | bl b => exact .bl b
  | int i => exact .int i
  | str x => exact .str x
  | _ => simp [D.flat] at f
theorem op_notIn_of {r : R2} (h : OpR X (compareOp .In) r) : True := trivial
theorem s_in (hu : X.A.units + 65 < cLine) : OpS X (compareOp .In) D.inD := by
  intro S x y H d1 d2 d r1 r2 e
  cases r2 with
  | lst h2 q2 =>
    simp only [D.inD] at e
    split at e
    · rename_i hf
      injection e with e; subst e
      rw [Bool.and_eq_true] at hf
      obtain ⟨g1, g2⟩ := flat_reps (r1.flat hf.1) hf.1 q2 hf.2
      exact ⟨_, op_in_seq, fun Q k => ⟨_, _, rfl, .inl (.inl (.inl h2)), (flat_rep (r1.flat hf.1) hf.1).1, g1, by rw [if_neg Bool.false_ne_true, g2]; exact k _ _ (fun _ _ h => h) fun _ => .bl _⟩⟩
    · split at e
      · rename_i hs
        injection e with e; subst e
        rw [Bool.and_eq_true] at hs
        have c2 := SeqAt.canLay_of_shaped hs.2
        refine ⟨_, op_inD hu, fun Q k => ⟨_, _, r1.dp (SeqAt.canLay_of_shaped hs.1), (RepB.lst h2 q2).dp c2, hs.1, hs.2, ?_⟩⟩
        rw [any_pys]; exact k _ _ (fun _ _ h => h) fun _ => .bl _
      · cases e
  | tup h2 q2 =>
    simp only [D.inD] at e
    split at e
    · rename_i hf
      injection e with e; subst e
      rw [Bool.and_eq_true] at hf
      obtain ⟨g1, g2⟩ := flat_reps (r1.flat hf.1) hf.1 q2 hf.2
      exact ⟨_, op_in_seq, fun Q k => ⟨_, _, rfl, .inr (sqT_of h2), (flat_rep (r1.flat hf.1) hf.1).1, g1, by rw [if_neg Bool.false_ne_true, g2]; exact k _ _ (fun _ _ h => h) fun _ => .bl _⟩⟩
    · cases e
  | str z =>
    cases r1 with
    | str x =>
      simp only [D.inD] at e
      split at e
      · rename_i c hc
        injection e with e; subst e
        refine ⟨_, op_in_sign, fun Q k => ⟨c, z, ?_, rfl, k _ _ (fun _ _ h => h) fun _ => .bl _⟩⟩
        have : x.cps = #[c] := by apply Array.toList_inj.mp; rw [hc]
        cases x; simp at this; rw [this]
      · cases e
    | _ => simp only [D.inD] at e; cases e
  | _ => simp only [D.inD] at e; cases e
theorem s_nin (hu : X.A.units + 65 < cLine) : OpS X (compareOp .NotIn) D.ninD := by
  intro S x y H d1 d2 d r1 r2 e
  unfold D.ninD at e
  cases r2 with
  | lst h2 q2 =>
    simp only [D.inD] at e
    split at e
    · rename_i b eb
      injection e with e; subst e
      split at eb
      · rename_i hf
        injection eb with eb; injection eb with eb; subst eb
        rw [Bool.and_eq_true] at hf
        obtain ⟨g1, g2⟩ := flat_reps (r1.flat hf.1) hf.1 q2 hf.2
        exact ⟨_, op_notIn_seq, fun Q k => ⟨_, _, rfl, .inl (.inl (.inl h2)), (flat_rep (r1.flat hf.1) hf.1).1, g1, by rw [if_pos rfl, g2]; exact k _ _ (fun _ _ h => h) fun _ => .bl _⟩⟩
      · split at eb
        · rename_i hs
          injection eb with eb; injection eb with eb; subst eb
          rw [Bool.and_eq_true] at hs
          have c2 := SeqAt.canLay_of_shaped hs.2
          refine ⟨_, op_notInD hu, fun Q k => ⟨_, _, r1.dp (SeqAt.canLay_of_shaped hs.1), (RepB.lst h2 q2).dp c2, hs.1, hs.2, ?_⟩⟩
          rw [any_pys]; exact k _ _ (fun _ _ h => h) fun _ => .bl _
        · cases eb
    · cases e
  | tup h2 q2 =>
    simp only [D.inD] at e
    split at e
    · rename_i b eb
      injection e with e; subst e
      split at eb
      · rename_i hf
        injection eb with eb; injection eb with eb; subst eb
        rw [Bool.and_eq_true] at hf
        obtain ⟨g1, g2⟩ := flat_reps (r1.flat hf.1) hf.1 q2 hf.2
        exact ⟨_, op_notIn_seq, fun Q k => ⟨_, _, rfl, .inr (sqT_of h2), (flat_rep (r1.flat hf.1) hf.1).1, g1, by rw [if_pos rfl, g2]; exact k _ _ (fun _ _ h => h) fun _ => .bl _⟩⟩
      · cases eb
    · cases e
  | str z =>
    cases r1 with
    | str x =>
      simp only [D.inD] at e
      split at e
      · rename_i b eb
        injection e with e; subst e
        split at eb
        · rename_i c hc
          injection eb with eb; injection eb with eb; subst eb
          refine ⟨_, op_notIn_sign, fun Q k => ⟨c, z, ?_, rfl, k _ _ (fun _ _ h => h) fun _ => .bl _⟩⟩
          have : x.cps = #[c] := by apply Array.toList_inj.mp; rw [hc]
          cases x; simp at this; rw [this]
        · cases eb
      · cases e
    | _ => simp [D.inD] at e
  | _ => simp [D.inD] at e
theorem s_bin (op : Operator) : OpS X (binaryOp op) (binD op) := by
  cases op
  case Add => exact s_add
  case Sub => exact s_sub
  case Mult => exact s_mul
  case FloorDiv => exact s_fdiv
  case Mod => exact s_mod
  case Pow => exact s_pow
  all_goals (intro S x y H d1 d2 d r1 r2 e; simp [binD] at e)
theorem s_cmp (hu : X.A.units + 65 < cLine) (op : CmpOp) : OpS X (compareOp op) (cmpD op) := by
  cases op
  case Eq => exact s_eq (by omega)
  case NotEq => exact s_ne (by omega)
  case Lt => exact s_lt
  case LtE => exact s_le
  case Gt => exact s_gt
  case GtE => exact s_ge
  case Is => exact s_is
  case IsNot => exact s_isn
  case In => exact s_in hu
  case NotIn => exact s_nin hu

/-! ### truth -/
def D.truth : D → Option Bool
  | .non => some false
  | .bl b => some b
  | .int i => some (i != 0)
  | .str x => if lenOk x.length then some ((x.length : Int) != 0) else none
  | .lst xs => some (!xs.isEmpty)
  | .tup xs => some (!xs.isEmpty)
  | .scr xs => some (!xs.isEmpty)
  | _ => none
theorem Reps.empty {K : PySem.W.Frag} {H : Hp} {S : Addr → Prop} {vs : List V} {ds : List D} (r : Reps K H S vs ds) : vs.isEmpty = ds.isEmpty := by
  cases r <;> rfl
theorem RepB.tru {K : PySem.W.Frag} {H : Hp} {S : Addr → Prop} {v : V} {d : D} {b : Bool} (r : RepB K H S v d) (e : d.truth = some b) : TruV K v H b := by
  cases r with
  | non => simp only [D.truth] at e; injection e with e; exact e.symm
  | bl b => simp only [D.truth] at e; injection e with e; exact e.symm
  | int i => simp only [D.truth] at e; injection e with e; exact e.symm
  | str x =>
    simp only [D.truth] at e
    split at e
    · rename_i h; injection e with e; exact ⟨of_decide_eq_true h, e.symm⟩
    · cases e
  | lst h r => simp only [D.truth] at e; injection e with e; exact .inl ⟨_, .inl (.inl h), by rw [← e, r.empty]⟩
  | scr h r => simp only [D.truth] at e; injection e with e; exact .inl ⟨_, h, by rw [← e, r.empty]⟩
  | tup h r => simp only [D.truth] at e; injection e with e; exact .inr (.inl ⟨_, sqT_of h, by rw [← e, r.empty]⟩)
  | dctK h r => simp [D.truth] at e
  | dctT h r => simp [D.truth] at e

/-! ### subscripts -/
def D.idx : D → D → Option D
  | .lst xs, .int i => atI xs i
  | .scr xs, .int i => atI xs i
  | .tup xs, .int i => atI xs i
  | .str x, .int i => if lenOk x.length then (atI x.cps.toList i).map fun c => .str ⟨#[c]⟩ else none
  | _, _ => none
def IxS (X : Cx) (g : D → D → Option D) : Prop :=
  ∀ S x y H d1 d2 d, RepB X.K H S x d1 → RepB X.K H S y d2 → g d1 d2 = some d →
    ∃ r, IxR X r ∧ ∀ Q : VK, (∀ v, Rep X.K H S v d → Q v H) → r x y H Q
theorem Reps.at {K : PySem.W.Frag} {H : Hp} {S : Addr → Prop} {vs : List V} {ds : List D} {i : Int} {d : D} (r : Reps K H S vs ds) (e : atI ds i = some d) : ∃ v, atI vs i = some v ∧ Rep K H S v d := by
  unfold atI at e ⊢
  rw [r.length]
  cases q : ixN ds.length i with
  | none => rw [q] at e; cases e
  | some j =>
    rw [q] at e
    obtain ⟨v, h1, h2⟩ := r.get (i := j) e
    exact ⟨v, h1, h2⟩
theorem s_idx : IxS X D.idx := by
  intro S x y H d1 d2 d r1 r2 e
  cases r2 with
  | int i =>
    cases r1 with
    | lst h r =>
      obtain ⟨v, h1, h2⟩ := r.at (show atI _ i = some d from e)
      exact ⟨_, ix_list, fun Q k => ⟨_, _, _, v, rfl, rfl, .inl (.inl h), h1, k v h2⟩⟩
    | scr h r =>
      obtain ⟨v, h1, h2⟩ := r.at (show atI _ i = some d from e)
      exact ⟨_, ix_list, fun Q k => ⟨_, _, _, v, rfl, rfl, h, h1, k v h2⟩⟩
    | tup h r =>
      obtain ⟨v, h1, h2⟩ := r.at (show atI _ i = some d from e)
      exact ⟨_, ix_tup, fun Q k => ⟨_, _, _, v, rfl, rfl, sqT_of h, h1, k v h2⟩⟩
    | str z =>
      simp only [D.idx] at e
      split at e
      · rename_i hz
        cases q : atI z.cps.toList i with
        | none => rw [q] at e; cases e
        | some c =>
          rw [q] at e; injection e with e; subst e
          exact ⟨_, ix_str, fun Q k => ⟨_, _, c, rfl, rfl, of_decide_eq_true hz, q, k _ (.str _)⟩⟩
      · cases e
    | _ => simp only [D.idx] at e; cases e
  | _ => cases d1 <;> simp only [D.idx] at e <;> cases e
end
end Rp
set_option Elab.async false
set_option linter.all false
set_option maxRecDepth 100000
/-! RpF: the forms of expressions. -/
namespace Rp
open PySem PySem.Spec PyProof.Rows L2

section
variable {X : Cx}

/-! ### names, constants -/
def D.flatS (d : D) : Bool := d.flat
theorem flat_any {K : PySem.W.Frag} {H H' : Hp} {S S' : Addr → Prop} {v : V} {d : D} (r : RepB K H S v d) (f : d.flat = true) : Rep K H' S' v d := by
  cases r with
  | non => exact .non
  | bl b => exact .bl b
  | int i => exact .int i
  | str x => exact .str x
  | _ => simp [D.flat] at f
def rdVar (i : Nat) : Env → Out D := fun env => match env.get i with
  | .val d => .ok d env
  | .own false d => .ok d (env.set i (.val d))
  | .lck d => if d.flat then .ok d env else .bad
  | _ => .bad
theorem get_set_self {e : Env} {i : Nat} {s : Slot} (h : i < e.length) : Env.get (e.set i s) i = s := by
  unfold Env.get; rw [List.getD_eq_getElem?_getD, List.getElem?_set_self h]; rfl
theorem get_set_ne {e : Env} {i j : Nat} {s : Slot} (h : i ≠ j) : Env.get (e.set i s) j = e.get j := by
  unfold Env.get; rw [List.getD_eq_getElem?_getD, List.getD_eq_getElem?_getD, List.getElem?_set_ne h]
theorem get_lt {e : Env} {i : Nat} (h : e.get i ≠ .no) : i < e.length := by
  apply Decidable.byContradiction; intro n
  exact h (by unfold Env.get; rw [List.getD_eq_getElem?_getD, List.getElem?_eq_none (by omega)]; rfl)
def Own.drop (O : Own) (i : Nat) : Own := fun j => if j = i then none else O j
theorem Own.drop_sub {O : Own} {i : Nat} : Sub (O.drop i) O := fun j => by unfold Own.drop; split; exact .inr rfl; exact .inl rfl
/-- a slot is let go of, its thing stays as a value -/
theorem Good.freeze {K : PySem.W.Frag} {F : Fx} {O : Own} {σ : L2.St} {H : Hp} {e : Env} {i : Nat} {d : D} (g : Good K F O σ H e) (h : e.get i = .own false d) :
    ∃ p, σ[i]? = some (some (.ref p)) ∧ Good K F (O.drop i) σ H (e.set i (.val d)) ∧ Rep K H (Sx F.S0 (O.drop i)) (.ref p) d := by
  have q := g.at h
  obtain ⟨p, q1, q2, q3, _, q4⟩ := q
  have hn : ¬ Sx F.S0 (O.drop i) p := by
    rintro (z | ⟨j, z⟩)
    · exact (q4 rfl).1 z
    · unfold Own.drop at z
      split at z
      · cases z
      · rename_i ne; exact ne (g.inj _ _ _ z q1)
  have hm : ∀ a, Sx F.S0 (O.drop i) a → Sx F.S0 O a := fun a z => Own.drop_sub.sx z
  have r := (q3.mono hm).rep hn
  refine ⟨p, of_getD q2, ⟨by rw [List.length_set]; exact g.len, g.s0, g.d0, fun a b c h1 h2 => ?_, fun a b c h1 h2 => g.lo a b c h1 (by unfold Own.drop at h2; split at h2; cases h2; exact h2), g.ls, g.ps, fun j a z => ?_, fun j => ?_⟩, r⟩
  · refine g.inj a b c ?_ ?_
    · unfold Own.drop at h1; split at h1; cases h1; exact h1
    · unfold Own.drop at h2; split at h2; cases h2; exact h2
  · have := g.ln j a z
    by_cases hj : j = i
    · subst hj; rw [h] at this; cases this
    · rw [get_set_ne (Ne.symm hj)]; exact this
  · by_cases hj : j = i
    · subst hj
      rw [get_set_self (get_lt (by rw [h]; simp))]
      exact ⟨by unfold Own.drop; rw [if_pos rfl], _, q2, r⟩
    · rw [get_set_ne (Ne.symm hj)]
      have qj := g.slot j
      have ej : (O.drop i) j = O j := by unfold Own.drop; rw [if_neg hj]
      rw [ej]
      cases c : e.get j with
      | no => rw [c] at qj; exact qj
      | val d' => rw [c] at qj; obtain ⟨a1, v, a2, a3⟩ := qj; exact ⟨a1, v, a2, Rep.mono hm a3⟩
      | own par d' => rw [c] at qj; obtain ⟨p', a1, a2, a3, a4⟩ := qj; exact ⟨p', a1, a2, a3.mono hm, a4⟩
      | lck d' =>
        rw [c] at qj; obtain ⟨a1, v, a2, a3⟩ := qj
        exact ⟨a1, v, a2, a3.elim (fun z => .inl (Rep.mono hm z)) fun ⟨p', z1, z2, z3, z4⟩ => .inr ⟨p', z1, z2, z3, z4.mono hm⟩⟩
      | lkd par d' =>
        rw [c] at qj; obtain ⟨a1, p', a2, a3, a4, a5, a6⟩ := qj
        exact ⟨a1, p', a2, a3, a4, a5.mono hm, a6⟩
theorem se_var {i : Nat} {x : Str} {pos : Pos} (hN : X.N[i]? = some x) (hv : Vis X.env.scope x) (hd : (x == ("__debug__" : Str)) = false) (hcd : (x == ("__classdict__" : Str)) = false) : SE X (.Name x pos) (rdVar i) := by
  intro Wx tk F O σ H env g Q p
  refine TE.by (pe_var hN hv hd hcd) ?_
  have q := g.slot i
  unfold rdVar at p
  cases c : env.get i with
  | no => rw [c] at p; exact p.elim
  | val d =>
    rw [c] at p q
    obtain ⟨_, v, e1, r⟩ := q
    exact ⟨v, of_getD e1, p.ok g r⟩
  | own par d =>
    cases par with
    | true => rw [c] at p; exact p.elim
    | false =>
      rw [c] at p
      obtain ⟨a, e1, g', r⟩ := g.freeze c
      exact ⟨_, e1, p _ H _ Own.drop_sub .refl g' r⟩
  | lck d =>
    rw [c] at p q
    obtain ⟨_, v, e1, r⟩ := q
    have p' : Pst X.K X.mg Wx F O σ H (Rep X.K) Q (if d.flat = true then .ok d env else .bad) := p
    split at p'
    · rename_i f
      refine ⟨v, of_getD e1, p'.ok g ?_⟩
      rcases r with r | ⟨a, rfl, _, _, r⟩
      · exact r
      · exact flat_any r f
    · exact p'.elim
  | lkd par d => rw [c] at p; exact p.elim
/-- a written constant -/
def constD : Const → Option D
  | .none => some .non
  | .bool b => some (.bl b)
  | .int i => some (.int i)
  | .str x => some (.str x)
  | _ => none
def pureD (d : D) : Env → Out D := fun env => .ok d env
theorem se_const {c : Const} {d : D} {j : Nat} {pos : Pos} (h : constD c = some d) : SE X (.Constant c j pos) (pureD d) := by
  intro Wx tk F O σ H env g Q p
  cases c <;> simp only [constD] at h <;> first | (cases h; done) | (injection h with h; subst h)
  · exact TE.by pe_non (p.ok g .non)
  · exact TE.by pe_bl (p.ok g (.bl _))
  · exact TE.by pe_int (p.ok g (.int _))
  · exact TE.by pe_str (p.ok g (.str _))
/-- a constant of the module -/
def scalV : D → Option V
  | .non => some .non
  | .bl b => some (.bl b)
  | .int i => some (.int i)
  | .str x => some (.str x)
  | _ => none
theorem se_glb {x : Str} {d : D} {v : V} {u : Value} {pos : Pos} (hg : Gl X x) (hm : X.mg x = some u) (r : RelV v u) (h : scalV d = some v) (hd : (x == ("__debug__" : Str)) = false) : SE X (.Name x pos) (pureD d) := by
  intro Wx tk F O σ H env g Q p
  refine TE.by (pe_glob hg hm r hd) ?_
  cases d <;> simp only [scalV] at h <;> first | (cases h; done) | (injection h with h; subst h)
  · exact p.ok g .non
  · exact p.ok g (.bl _)
  · exact p.ok g (.int _)
  · exact p.ok g (.str _)

/-! ### comparisons -/
theorem oprX {f : Value → Value → Sem Value} : OpR X f (fun x y H Q => ∃ r, OpR X f r ∧ r x y H Q) := by
  intro pins s σ H x y v u Q I r1 r2 ⟨r, h1, h2⟩
  exact h1 pins s σ H x y v u Q I r1 r2 h2
variable {a b c : Expr} {fa fb fc : Env → Out Opd} {pos : Pos}
theorem se_cmp {op : CmpOp} (hu : X.A.units + 65 < cLine) (ha : SO X a fa) (hb : SO X b fb) (hm : behindInMarks op b = false) : SE X (.Compare a [op] [b] pos) (bin2 (cmpD op) fa fb) := by
  intro Wx tk F O σ H env gd Q p
  refine TE.by (pe_cmpR oprX pe_of pe_of hm) ?_
  refine SO.two ha hb tk gd p fun x y H2 O2 e2 d1 d2 d g2 r1 r2 e k => ?_
  obtain ⟨r, h1, h2⟩ := s_cmp hu op _ x y H2 d1 d2 d r1 r2 e
  exact ⟨r, h1, h2 Q fun v H' sm rep => k v H' sm (rep fun a z => g2.dom z)⟩
def asB : D → Option Bool
  | .bl b => some b
  | _ => none
def chain3 (op op2 : CmpOp) (fa fb fc : Env → Out Opd) : Env → Out D := fun env =>
  (fa env).bind fun a e1 => (fb e1).bind fun b e2 =>
    match (do let x ← deref a e2; let y ← deref b e2; (cmpD op x y).bind asB) with
    | some true => (fc e2).bind fun c e3 => Out.of (do let y ← deref b e3; let z ← deref c e3; cmpD op2 y z) e3
    | some false => .ok (.bl false) e2
    | none => .bad
abbrev RX (X : Cx) (op : CmpOp) : R2 := fun x y H Q => ∃ r, OpR X (compareOp op) r ∧ r x y H Q
theorem chain_key {op op2 : CmpOp} (hu : X.A.units + 65 < cLine) (ha : SO X a fa) (hb : SO X b fb) (hc : SO X c fc) {Wx : WX} (tk : Takes X Wx) {F : Fx} {O : Own} {σ : L2.St} {H : Hp} {env : Env} (gd : Good X.K F O σ H env) {Q : VK}
    (p : Pst X.K X.mg Wx F O σ H (Rep X.K) Q (chain3 op op2 fa fb fc env)) : tChain (RX X op) (RX X op2) (TE.of X a) (TE.of X b) (TE.of X c) σ H Q := by
  refine ha Wx tk F O σ H env gd _ (Pst.bind p fun o1 e1 x H1 O1 s1 f1 g1 r1 p1 => ?_)
  refine hb Wx tk F O1 σ H1 e1 g1 _ (Pst.bind p1 fun o2 e2 y H2 O2 s2 f2 g2 r2 p2 => ?_)
  have r1' := (r1.fr f2.rd fun _ z => .inr z).mono (S' := Sx F.S0 O2) fun _ z => s2.sx z
  cases q1 : deref o1 e2 with
  | none => simp only [q1] at p2; exact p2.elim
  | some d1 =>
    cases q2 : deref o2 e2 with
    | none => simp only [q1, q2] at p2; exact p2.elim
    | some d2 =>
      have b1 := g2.deref r1' q1
      have b2 := g2.deref r2 q2
      have p2' : Pst X.K X.mg Wx F O2 σ H2 (Rep X.K) Q (match (cmpD op d1 d2).bind asB with
        | some true => (fc e2).bind fun c e3 => Out.of (do let y ← deref o2 e3; let z ← deref c e3; cmpD op2 y z) e3
        | some false => .ok (.bl false) e2
        | none => .bad) := by simp only [q1, q2] at p2; exact p2
      cases q3 : cmpD op d1 d2 with
      | none => rw [q3] at p2'; exact p2'.elim
      | some d =>
        rw [q3] at p2'
        obtain ⟨r, h1, h2⟩ := s_cmp hu op _ x y H2 d1 d2 d b1 b2 q3
        refine ⟨r, h1, h2 _ fun v H' sm rep => ?_⟩
        have rep' := rep fun a z => g2.dom z
        cases rep' with
        | bl k =>
          refine ⟨k, rfl, ?_⟩
          have g3 := g2.same sm
          have p3 := p2'.step .refl (Fr.same sm)
          cases k with
          | false => exact p3.ok g3 (.bl false)
          | true =>
            rw [if_pos rfl]
            have r2' : RepO X.K σ H' (Sx F.S0 O2) y o2 := r2.fr (W := fun _ => False) (Fr.same sm).rd fun _ z => z.elim
            refine hc Wx tk F O2 σ H' e2 g3 _ (Pst.bind p3 fun o3 e3 z H3 O3 s3 f3 g4 r3 p4 => ?_)
            have r2'' := (r2'.fr f3.rd fun _ z => .inr z).mono (S' := Sx F.S0 O3) fun _ z => s3.sx z
            cases q4 : deref o2 e3 with
            | none => simp only [q4] at p4; exact p4.elim
            | some d2' =>
              cases q5 : deref o3 e3 with
              | none => simp only [q4, q5] at p4; exact p4.elim
              | some d3 =>
                have p4' : Pst X.K X.mg Wx F O3 σ H3 (Rep X.K) Q (Out.of (cmpD op2 d2' d3) e3) := by simp only [q4, q5] at p4; exact p4
                cases q6 : cmpD op2 d2' d3 with
                | none => rw [q6] at p4'; exact p4'.elim
                | some d' =>
                  rw [q6] at p4'
                  obtain ⟨r', h1', h2'⟩ := s_cmp hu op2 _ y z H3 d2' d3 d' (g4.deref r2'' q4) (g4.deref r3 q5) q6
                  exact ⟨r', h1', h2' Q fun v H' sm rep => p4'.okN g4 sm (rep fun a z => g4.dom z)⟩
        | _ => exact p2'.elim

theorem se_chain {op op2 : CmpOp} (hu : X.A.units + 65 < cLine) (ha : SO X a fa) (hb : SO X b fb) (hc : SO X c fc) (hm : lastMarks [op, op2] [b, c] = false) : SE X (.Compare a [op, op2] [b, c] pos) (chain3 op op2 fa fb fc) := by
  intro Wx tk F O σ H env gd Q p
  exact TE.by (pe_chain oprX oprX pe_of pe_of pe_of hm) (chain_key hu ha hb hc tk gd p)

/-! ### tests -/
def truB (f : Env → Out Opd) : Env → Out Bool := fun env => (f env).bind fun o e => Out.of ((deref o e).bind D.truth) e
theorem st_val (ha : SO X a fa) (he : ∀ whole, isTrue a X.env whole = (do let v ← whole; standAt a.pos; holding [v] (truthy v))) : ST X a (truB fa) := by
  intro Wx tk F O σ H env g Q p
  refine TT.by (pt_truth pe_of he) ?_
  refine ha Wx tk F O σ H env g _ (Pst.bind p fun o e1 v H1 O1 s f1 g1 r1 p1 => ?_)
  cases q1 : deref o e1 with
  | none => simp only [q1] at p1; exact p1.elim
  | some d =>
    have p1' : Pst X.K X.mg Wx F O1 σ H1 (fun _ _ b c => b = c) Q (Out.of d.truth e1) := by simp only [q1] at p1; exact p1
    cases q2 : d.truth with
    | none => rw [q2] at p1'; exact p1'.elim
    | some b => rw [q2] at p1'; exact ⟨b, (g1.deref r1 q1).tru q2, p1'.ok g1 rfl⟩
/-- a comparison, as a test -/
def bB (f : Env → Out D) : Env → Out Bool := fun env => (f env).bind fun d e => Out.of (asB d) e
theorem st_cmp {op : CmpOp} (hu : X.A.units + 65 < cLine) (ha : SO X a fa) (hb : SO X b fb) (hm : behindInMarks op b = false) : ST X (.Compare a [op] [b] pos) (bB (bin2 (cmpD op) fa fb)) := by
  intro Wx tk F O σ H env gd Q p
  refine TT.by (pt_cmpR oprX pe_of pe_of hm) ?_
  have key := Pst.bind (R1 := Rep X.K) (Q1 := fun v H => ∃ k, v = .bl k ∧ Q k H) p fun d e1 v H1 O1 s f1 g1 r1 p1 => ?_
  · show TE.of X a σ H fun x H1 => TE.of X b σ H1 fun y H2 => _
    refine SO.two ha hb tk gd key fun x y H2 O2 e2 d1 d2 d g2 r1 r2 e k => ?_
    obtain ⟨r, h1, h2⟩ := s_cmp hu op _ x y H2 d1 d2 d r1 r2 e
    exact ⟨r, h1, h2 _ fun v H' sm rep => k v H' sm (rep fun a z => g2.dom z)⟩
  · cases r1 with
    | bl k => exact ⟨k, rfl, p1.ok g1 rfl⟩
    | _ => exact p1.elim
theorem st_chain {op op2 : CmpOp} (hu : X.A.units + 65 < cLine) (ha : SO X a fa) (hb : SO X b fb) (hc : SO X c fc) (hm : lastMarks [op, op2] [b, c] = false) : ST X (.Compare a [op, op2] [b, c] pos) (bB (chain3 op op2 fa fb fc)) := by
  intro Wx tk F O σ H env gd Q p
  have key := Pst.bind (R1 := Rep X.K) (Q1 := fun v H => ∃ k, v = .bl k ∧ Q k H) p fun d e1 v H1 O1 s f1 g1 r1 p1 => ?_
  · exact TT.by (pt_chain oprX oprX pe_of pe_of pe_of hm) (chain_key hu ha hb hc tk gd key)
  · cases r1 with
    | bl k => exact ⟨k, rfl, p1.ok g1 rfl⟩
    | _ => exact p1.elim
def notB (f : Env → Out Bool) : Env → Out Bool := fun env => (f env).bind fun b e => .ok (!b) e
theorem st_not {f : Env → Out Bool} (ha : ST X a f) : ST X (.UnaryOp .Not a pos) (notB f) := by
  intro Wx tk F O σ H env g Q p
  refine TT.by (pt_not pt_of) ?_
  refine ha Wx tk F O σ H env g _ (Pst.bind p fun b e1 v H1 O1 s f1 g1 r1 p1 => ?_)
  cases r1
  exact p1.ok g1 rfl
theorem se_not (ha : SO X a fa) : SE X (.UnaryOp .Not a pos) (fun env => (notB (truB fa) env).bind fun b e => .ok (.bl b) e) := by
  intro Wx tk F O σ H env g Q p
  refine TE.by (pe_notT pe_of) ?_
  have p1 := Pst.bind (R1 := fun _ _ b c => b = c) (Q1 := fun b H => Q (.bl b) H) p fun d e1 v H1 O1 s f1 g1 r1 p1 => by cases r1; exact p1.ok g1 (.bl _)
  have p2 := Pst.bind (R1 := fun _ _ b c => b = c) (Q1 := fun b H => Q (.bl !b) H) p1 fun d e1 v H1 O1 s f1 g1 r1 p1 => by cases r1; exact p1.ok g1 rfl
  refine ha Wx tk F O σ H env g _ (Pst.bind p2 fun o e1 v H1 O1 s f1 g1 r1 p1 => ?_)
  cases q1 : deref o e1 with
  | none => simp only [q1] at p1; exact p1.elim
  | some d =>
    have p1' : Pst X.K X.mg Wx F O1 σ H1 (fun _ _ b c => b = c) (fun b H => Q (.bl !b) H) (Out.of d.truth e1) := by simp only [q1] at p1; exact p1
    cases q2 : d.truth with
    | none => rw [q2] at p1'; exact p1'.elim
    | some b => rw [q2] at p1'; exact ⟨b, (g1.deref r1 q1).tru q2, p1'.ok g1 rfl⟩
/-! ### and, or -/
def andB (f g : Env → Out Bool) : Env → Out Bool := fun env => (f env).bind fun c e => if c then g e else .ok false e
def orB (f g : Env → Out Bool) : Env → Out Bool := fun env => (f env).bind fun c e => if c then .ok true e else g e
variable {rest : List Expr} {f g : Env → Out Bool} {h : Env → Out D}
theorem pw_of {op : BoolOp} {vs : List Expr} : PW X (.BoolOp op vs pos) (TT.of X (.BoolOp op vs pos)) := ⟨fun _ pins s _ _ _ I h => h pins s I⟩
theorem st_one {op : BoolOp} (ha : ST X a f) : ST X (.BoolOp op [a] pos) f := by
  intro Wx tk F O σ H env g Q p
  cases op with
  | And => exact TT.by (pw_and1 pt_of).pt (ha Wx tk F O σ H env g Q p)
  | Or => exact TT.by (pw_or1 pt_of).pt (ha Wx tk F O σ H env g Q p)
theorem st_and (ha : ST X a f) (hb : ST X (.BoolOp .And (b :: rest) pos) g) : ST X (.BoolOp .And (a :: b :: rest) pos) (andB f g) := by
  intro Wx tk F O σ H env gd Q p
  refine TT.by (pw_and pt_of pw_of).pt ?_
  refine ha Wx tk F O σ H env gd _ (Pst.bind p fun c e1 v H1 O1 s f1 g1 r1 p1 => ?_)
  cases r1
  cases c with
  | true => rw [if_pos rfl]; exact hb Wx tk F O1 σ H1 e1 g1 _ p1
  | false => rw [if_neg Bool.false_ne_true]; exact p1.ok g1 rfl
theorem st_or (ha : ST X a f) (hb : ST X (.BoolOp .Or (b :: rest) pos) g) : ST X (.BoolOp .Or (a :: b :: rest) pos) (orB f g) := by
  intro Wx tk F O σ H env gd Q p
  refine TT.by (pw_or pt_of pw_of).pt ?_
  refine ha Wx tk F O σ H env gd _ (Pst.bind p fun c e1 v H1 O1 s f1 g1 r1 p1 => ?_)
  cases r1
  cases c with
  | true => rw [if_pos rfl]; exact p1.ok g1 rfl
  | false => rw [if_neg Bool.false_ne_true]; exact hb Wx tk F O1 σ H1 e1 g1 _ p1
def andV (f h : Env → Out D) : Env → Out D := fun env => (f env).bind fun d e => match d.truth with
  | some true => h e
  | some false => .ok d e
  | none => .bad
def orV (f h : Env → Out D) : Env → Out D := fun env => (f env).bind fun d e => match d.truth with
  | some true => .ok d e
  | some false => h e
  | none => .bad
variable {va : Env → Out D}
theorem se_one {op : BoolOp} (ha : SE X a va) : SE X (.BoolOp op [a] pos) va := fun Wx tk F O σ H env g Q p => TE.by (pe_one pe_of) (ha Wx tk F O σ H env g Q p)
theorem se_and (ha : SE X a va) (hb : SE X (.BoolOp .And (b :: rest) pos) h) : SE X (.BoolOp .And (a :: b :: rest) pos) (andV va h) := by
  intro Wx tk F O σ H env gd Q p
  refine TE.by (pe_andT pe_of pe_of) ?_
  refine ha Wx tk F O σ H env gd _ (Pst.bind p fun d e1 v H1 O1 s f1 g1 r1 p1 => ?_)
  cases q : d.truth with
  | none => simp only [q] at p1; exact p1.elim
  | some k =>
    cases k with
    | true => simp only [q] at p1; exact ⟨true, r1.b.tru q, by rw [if_pos rfl]; exact hb Wx tk F O1 σ H1 e1 g1 _ p1⟩
    | false => simp only [q] at p1; exact ⟨false, r1.b.tru q, by rw [if_neg Bool.false_ne_true]; exact p1.ok g1 r1⟩
theorem se_or (ha : SE X a va) (hb : SE X (.BoolOp .Or (b :: rest) pos) h) : SE X (.BoolOp .Or (a :: b :: rest) pos) (orV va h) := by
  intro Wx tk F O σ H env gd Q p
  refine TE.by (pe_orT pe_of pe_of) ?_
  refine ha Wx tk F O σ H env gd _ (Pst.bind p fun d e1 v H1 O1 s f1 g1 r1 p1 => ?_)
  cases q : d.truth with
  | none => simp only [q] at p1; exact p1.elim
  | some k =>
    cases k with
    | true => simp only [q] at p1; exact ⟨true, r1.b.tru q, by rw [if_pos rfl]; exact p1.ok g1 r1⟩
    | false => simp only [q] at p1; exact ⟨false, r1.b.tru q, by rw [if_neg Bool.false_ne_true]; exact hb Wx tk F O1 σ H1 e1 g1 _ p1⟩
/-- a if c else b -/
def iteV {α : Type} (f : Env → Out Bool) (u v : Env → Out α) : Env → Out α := fun env => (f env).bind fun c e => if c then u e else v e
theorem se_ite {u v : Env → Out D} (hc : ST X c f) (ha : SE X a u) (hb : SE X b v) : SE X (.IfExp c a b pos) (iteV f u v) := by
  intro Wx tk F O σ H env gd Q p
  refine TE.by (pe_ifExp pt_of pe_of pe_of) ?_
  refine hc Wx tk F O σ H env gd _ (Pst.bind p fun k e1 v H1 O1 s f1 g1 r1 p1 => ?_)
  cases r1
  cases k with
  | true => rw [if_pos rfl]; exact ha Wx tk F O1 σ H1 e1 g1 _ p1
  | false => rw [if_neg Bool.false_ne_true]; exact hb Wx tk F O1 σ H1 e1 g1 _ p1
/-- -a -/
def negD : D → Option D
  | .int i => some (.int (-i))
  | _ => none
theorem se_neg (ha : SE X a va) : SE X (.UnaryOp .USub a pos) (fun env => (va env).bind fun d e => Out.of (negD d) e) := by
  intro Wx tk F O σ H env gd Q p
  refine TE.by (pe_un un_neg pe_of) ?_
  refine ha Wx tk F O σ H env gd _ (Pst.bind p fun d e1 v H1 O1 s f1 g1 r1 p1 => ?_)
  cases r1 with
  | int i => exact ⟨i, rfl, p1.ok g1 (.int _)⟩
  | _ => exact p1.elim

/-! ### lists of arguments, displays -/
def nilA : Env → Out (List Opd) := fun env => .ok [] env
def consA (f : Env → Out Opd) (fs : Env → Out (List Opd)) : Env → Out (List Opd) := fun env => (f env).bind fun o e => (fs e).bind fun os e2 => .ok (o :: os) e2
variable {es : List Expr} {fs : Env → Out (List Opd)}
theorem sa_nil : SA X [] nilA := fun Wx tk F O σ H env g Q p => TA.by pa_nil (p.ok g trivial)
theorem starEach_plain {e : Expr} (h : PySem.W.isStarred e = false) (env : PySem.Env) : starEach (e :: es) env = (false, eval e env) :: starEach es env := by
  cases e <;> first | rfl | (simp [PySem.W.isStarred] at h)
theorem sa_cons (hs : PySem.W.isStarred a = false) (ha : SO X a fa) (hr : SA X es fs) : SA X (a :: es) (consA fa fs) := by
  intro Wx tk F O σ H env gd Q p
  refine TA.by (pa_cons pe_of pa_of (starEach_plain hs _)) ?_
  refine ha Wx tk F O σ H env gd _ (Pst.bind p fun o e1 v H1 O1 s f1 g1 r1 p1 => ?_)
  refine hr Wx tk F O1 σ H1 e1 g1 _ (Pst.bind p1 fun os e2 vs H2 O2 s2 f2 g2 r2 p2 => ?_)
  exact p2.ok g2 ⟨(r1.fr f2.rd fun _ z => .inr z).mono fun _ z => s2.sx z, r2⟩
/-- *a: the items of a list or a tuple -/
def itemsD : D → Option (List D)
  | .lst xs => some xs
  | .tup xs => some xs
  | .scr xs => some xs
  | _ => none
def starA (f : Env → Out Opd) (fs : Env → Out (List Opd)) : Env → Out (List Opd) := fun env => (f env).bind fun o e => match (deref o e).bind itemsD with
  | some xs => (fs e).bind fun os e2 => .ok (xs.map .v ++ os) e2
  | none => .bad
theorem reposO_append {K : PySem.W.Frag} {σ : L2.St} {H : Hp} {S : Addr → Prop} : ∀ {vs : List V} {ds : List D} {ws : List V} {os : List Opd}, Reps K H S vs ds → ReposO K σ H S ws os → ReposO K σ H S (vs ++ ws) (ds.map .v ++ os)
  | _, _, _, _, .nil, h => h
  | _, _, _, _, .cons r t, h => ⟨r, reposO_append t h⟩
theorem sa_star {ps : Pos} (ha : SO X a fa) (hr : SA X es fs) : SA X (.Starred a ps :: es) (starA fa fs) := by
  intro Wx tk F O σ H env gd Q p
  refine TA.by (StX.pa_star pe_of pa_of) ?_
  refine ha Wx tk F O σ H env gd _ (Pst.bind p fun o e1 v H1 O1 s f1 g1 r1 p1 => ?_)
  cases q1 : deref o e1 with
  | none => simp only [q1] at p1; exact p1.elim
  | some d =>
    have b1 := g1.deref r1 q1
    cases q2 : itemsD d with
    | none => simp only [q1, Option.bind_some, q2] at p1; exact p1.elim
    | some xs =>
      simp only [q1, Option.bind_some, q2] at p1
      have key : ∃ p vs, v = .ref p ∧ (SqT X.K H1 p vs ∨ SqL X.K H1 p vs) ∧ Reps X.K H1 (Sx F.S0 O1) vs xs := by
        cases b1 <;> simp only [itemsD] at q2 <;> first | (cases q2; done) | (injection q2 with q2; subst q2)
        · rename_i h r; exact ⟨_, _, rfl, .inr (.inl (.inl h)), r⟩
        · rename_i h r; exact ⟨_, _, rfl, .inr h, r⟩
        · rename_i h r; exact ⟨_, _, rfl, .inl (sqT_of h), r⟩
      obtain ⟨q, vs, rfl, hq, rv⟩ := key
      refine ⟨q, vs, rfl, hq, ?_⟩
      refine hr Wx tk F O1 σ H1 e1 g1 _ (Pst.bind p1 fun os e2 ws H2 O2 s2 f2 g2 r2 p2 => ?_)
      exact p2.ok g2 (reposO_append (Reps.mono (fun _ z => s2.sx z) (Reps.fr f2.rd (fun _ z => .inr z) rv)) r2)
def valsO : List Opd → Option (List D)
  | [] => some []
  | .v d :: os => (valsO os).map (d :: ·)
  | .s _ :: _ => none
theorem valsO_reps {K : PySem.W.Frag} {σ : L2.St} {H : Hp} {S : Addr → Prop} : ∀ {vs : List V} {os : List Opd} {ds : List D}, ReposO K σ H S vs os → valsO os = some ds → Reps K H S vs ds
  | [], [], _, _, e => by cases e; exact .nil
  | _ :: _, .v d :: os, _, h, e => by
    simp only [valsO] at e
    cases q : valsO os with
    | none => rw [q] at e; cases e
    | some ds => rw [q] at e; injection e with e; subst e; exact .cons h.1 (valsO_reps h.2 q)
  | _ :: _, .s _ :: _, _, _, e => by cases e
def dispD (f : List D → D) (fs : Env → Out (List Opd)) : Env → Out D := fun env => (fs env).bind fun os e => match valsO os with
  | some ds => if lenOk ds.length then .ok (f ds) e else .bad
  | none => .bad
theorem se_tup {k : Nat} (h : SA X es fs) : SE X (.Tuple es k pos) (dispD .tup fs) := by
  intro Wx tk F O σ H env gd Q p
  refine TE.by (pe_tup pa_of) ?_
  refine h Wx tk F O σ H env gd _ (Pst.bind p fun os e1 vs H1 O1 s f1 g1 r1 p1 => ?_)
  cases q : valsO os with
  | none => simp only [q] at p1; exact p1.elim
  | some ds =>
    simp only [q] at p1
    have r := valsO_reps r1 q
    have p1' : Pst X.K X.mg Wx F O1 σ H1 (Rep X.K) Q (if lenOk ds.length then .ok (.tup ds) e1 else .bad) := p1
    split at p1'
    · rename_i hl
      exact ⟨by rw [r.length]; exact of_decide_eq_true hl, fun a ha => p1'.okN g1 (same_new ha) (tup_new ha (fun z hz => g1.dom hz) r)⟩
    · exact p1'.elim

/-! ### new lists -/
/-- as a value; and as a list that nobody else holds -/
def FreshV (K : PySem.W.Frag) (H0 : Hp) (H : Hp) (S : Addr → Prop) (v : V) (d : D) : Prop := Rep K H S v d ∧ (∀ ds, d = .lst ds → ∃ p vs, v = .ref p ∧ H0 p = none ∧ H p = some (.lst vs) ∧ Reps K H (fun a => S a ∨ a = p) vs ds)
/-- the frame with one thing more that is held elsewhere -/
def Fx.more (F : Fx) (D : Addr) : Fx := { F with S0 := fun a => F.S0 a ∨ a = D }
theorem Good.moreS {K : PySem.W.Frag} {F : Fx} {O : Own} {σ : L2.St} {H H' : Hp} {e : Env} {D0 : Addr} (g : Good K F O σ H e) (h : H D0 = none) (sm : Same H H') (h' : H' D0 ≠ none) : Good K (F.more D0) O σ H' e := by
  have hS : ∀ a, Sx (F.more D0).S0 O a → Sx F.S0 O a ∨ a = D0 := by
    rintro a ((z | z) | z)
    · exact .inl (.inl z)
    · exact .inr z
    · exact .inl (.inr z)
  have f : Fr (fun _ => False) H H' := Fr.same sm
  refine ⟨g.len, ?_, fun a z => f.dom a (g.d0 a z), g.inj, g.lo, fun i p z => .inl (g.ls i p z), fun i p z => .inl (g.ps i p z), g.ln, fun i => ?_⟩
  · rintro a (z | rfl)
    · exact f.dom a (g.s0 a z)
    · exact h'
  · have q := g.slot i
    cases c : e.get i with
    | no => rw [c] at q; exact q
    | val d => rw [c] at q; obtain ⟨q1, v, q2, q3⟩ := q; exact ⟨q1, v, q2, Rep.fr f.rd (fun _ z => z.elim) (Rep.free h hS q3)⟩
    | own par d =>
      rw [c] at q; obtain ⟨p, q1, q2, q3, q4, q5⟩ := q
      have hp : p ≠ D0 := fun z => g.dom (.inr ⟨i, q1⟩) (z ▸ h)
      refine ⟨p, q1, q2, (q3.free h hS).fr f.rd (fun _ z => z.elim) (fun u z => f.eq _ _ z fun w => w), fun hq => ⟨.inl (q4 hq).1, (q4 hq).2⟩, fun hq => ⟨?_, (q5 hq).2⟩⟩
      rintro (z | z)
      · exact (q5 hq).1 z
      · exact hp z
    | lck d =>
      rw [c] at q; obtain ⟨q1, v, q2, q3⟩ := q
      exact ⟨q1, v, q2, q3.elim (fun z => .inl (Rep.fr f.rd (fun _ z => z.elim) (Rep.free h hS z))) fun ⟨p, z1, z2, z3, z4⟩ => .inr ⟨p, z1, z2, .inl z3, (z4.free h hS).fr f.rd (fun _ z => z.elim) (fun _ _ z => z.elim)⟩⟩
    | lkd par d =>
      rw [c] at q; obtain ⟨q1, p, q2, q3, q4, q5, q6⟩ := q
      refine ⟨q1, p, q2, q3, .inl q4, ?_, q6⟩
      rcases q5 with ⟨xs, ds, rfl, w, r⟩ | ⟨xs, ds, rfl, w, r⟩ | ⟨xs, ds, rfl, w, r⟩
      · exact .inl ⟨_, _, rfl, f.eq _ _ w fun z => z, Reps.fr f.rd (fun _ z => z.elim) (Reps.free h hS r)⟩
      · exact .inr (.inl ⟨_, _, rfl, f.rd.1 _ _ w fun z => z, Reps.fr f.rd (fun _ z => z.elim) (Reps.free h hS r)⟩)
      · exact .inr (.inr ⟨_, _, rfl, f.rd.1 _ _ w fun z => z, Reps.fr f.rd (fun _ z => z.elim) (Reps.free h hS r)⟩)
theorem Fr.none {W : Addr → Prop} {H H' : Hp} (f : Fr W H H') {a : Addr} (h : H' a = none) : H a = none := by
  cases q : H a with
  | none => rfl
  | some o => exact absurd h (f.dom a (by rw [q]; simp))
/-- wanted behind an expression that may give a new list -/
def PstF (K : PySem.W.Frag) (mg : Str → Option Value) (Wx : WX) (F : Fx) (O : Own) (σ : L2.St) (H : Hp) (Q : VK) : Out D → Prop
  | .ok d e' => ∀ v H' O', Sub O' O → Fr (Oset O) H H' → Good K F O' σ H' e' → FreshV K H H' (Sx F.S0 O') v d → (∀ ds, d = .lst ds → ∀ p, v = .ref p → Good K (F.more p) O' σ H' e') → Q v H'
  | .exc x e' => ∀ cls dx H' O', Sub O' O → Fr (Oset O) H H' → Good K F O' σ H' e' → XRep mg cls dx x → Wx cls dx σ H'
  | .bad => False
section
variable {K : PySem.W.Frag} {mg : Str → Option Value} {Wx : WX} {F : Fx} {O O1 : Own} {σ : L2.St} {H H1 : Hp} {α β γ δ : Type} {Q : VK}
theorem PstF.step {o : Out D} (h : PstF K mg Wx F O σ H Q o) (s : Sub O1 O) (f : Fr (Oset O) H H1) : PstF K mg Wx F O1 σ H1 Q o := by
  cases o with
  | ok d e' => exact fun v H' O' s' f' g r k => h v H' O' (s'.trans s) (f.trans (f'.mono fun _ z => s.set z)) g ⟨r.1, fun ds e => by
      obtain ⟨p, vs, a1, a2, a3, a4⟩ := r.2 ds e
      exact ⟨p, vs, a1, f.none a2, a3, a4⟩⟩ k
  | exc x e' => exact fun cls dx H' O' s' f' g r => h cls dx H' O' (s'.trans s) (f.trans (f'.mono fun _ z => s.set z)) g r
  | bad => exact h
theorem PstF.bind {R1 : Hp → (Addr → Prop) → δ → γ → Prop} {Q1 : δ → Hp → Prop} {o : Out γ} {f : γ → Env → Out D}
    (h : PstF K mg Wx F O σ H Q (o.bind f))
    (k : ∀ d e1 v H1 O1, Sub O1 O → Fr (Oset O) H H1 → Good K F O1 σ H1 e1 → R1 H1 (Sx F.S0 O1) v d → PstF K mg Wx F O1 σ H1 Q (f d e1) → Q1 v H1) : Pst K mg Wx F O σ H R1 Q1 o := by
  cases o with
  | ok d e' => exact fun v H' O' s' f' g r => k d e' v H' O' s' f' g r (PstF.step h s' f')
  | exc x e' => exact h
  | bad => exact h
theorem PstF.okN {d : D} {e : Env} {v : V} {H' : Hp} (h : PstF K mg Wx F O σ H Q (.ok d e)) (g : Good K F O σ H e) (s : Same H H') (r : FreshV K H H' (Sx F.S0 O) v d) : Q v H' :=
  h v H' O .refl (Fr.same s) (g.same s) r fun ds e p e1 => by
    obtain ⟨p', vs, a1, a2, a3, a4⟩ := r.2 ds e
    rw [a1] at e1; cases e1
    exact g.moreS a2 s (by rw [a3]; simp)
theorem Pst.fv {o : Out D} (h : Pst K mg Wx F O σ H (Rep K) Q o) : PstF K mg Wx F O σ H Q o := by
  cases o with
  | ok d e => exact fun v H' O' s f g r k => h v H' O' s f g r.1
  | exc x e => exact h
  | bad => exact h
end
def SF (X : Cx) (e : Expr) (f : Env → Out D) : Prop :=
  ∀ Wx, Takes X Wx → ∀ F O σ H env, Good X.K F O σ H env → ∀ Q : VK, PstF X.K X.mg Wx F O σ H Q (f env) → TE.of X e σ H Q
theorem SF.se {e : Expr} {f : Env → Out D} (h : SF X e f) : SE X e f := fun Wx tk F O σ H env g Q p => h Wx tk F O σ H env g Q (Pst.fv p)
theorem SE.sf {e : Expr} {f : Env → Out D} (h : SE X e f) (n : ∀ env d e', f env = .ok d e' → ∀ ds, d ≠ .lst ds) : SF X e f := by
  intro Wx tk F O σ H env g Q p
  refine h Wx tk F O σ H env g Q ?_
  cases q : f env with
  | ok d e' =>
    rw [q] at p
    exact fun v H' O' s fr gd r => p v H' O' s fr gd ⟨r, fun ds e => absurd e (n env d e' q ds)⟩ fun ds e => absurd e (n env d e' q ds)
  | exc x e' => rw [q] at p; exact p
  | bad => rw [q] at p; exact p
theorem FreshR.freshV {K : PySem.W.Frag} {S : Addr → Prop} {H0 H H' : Hp} {v : V} {d : D} (f : FreshR K S H H' v d) (h : ∀ a, S a → H a ≠ none) (d0 : ∀ a, H a = none → H0 a = none) : FreshV K H0 H' S v d := by
  refine ⟨f.rep h, fun ds e => ?_⟩
  obtain ⟨p, vs, ds', e1, e2, e3, e4, r⟩ := f.ex
  rw [e] at e2; cases e2
  exact ⟨p, vs, e1, d0 _ e3, e4, r⟩
theorem sf_lst (h : SA X es fs) : SF X (.List es pos) (dispD .lst fs) := by
  intro Wx tk F O σ H env gd Q p
  refine TE.by (pe_lst pa_of) ?_
  refine h Wx tk F O σ H env gd _ (PstF.bind p fun os e1 vs H1 O1 s f1 g1 r1 p1 => ?_)
  cases q : valsO os with
  | none => simp only [q] at p1; exact p1.elim
  | some ds =>
    simp only [q] at p1
    have r := valsO_reps r1 q
    have p1' : PstF X.K X.mg Wx F O1 σ H1 Q (if lenOk ds.length then .ok (.lst ds) e1 else .bad) := p1
    split at p1'
    · rename_i hl
      exact ⟨by rw [r.length]; exact of_decide_eq_true hl, fun a ha => p1'.okN g1 (same_new ha) ((FreshR.mk' ha r).freshV (fun z hz => g1.dom hz) fun z hz => hz)⟩
    · exact p1'.elim
theorem sf_op {op : Operator} (ho : OpF X (binaryOp op) (binD op)) (ha : SO X a fa) (hb : SO X b fb) : SF X (.BinOp a op b pos) (bin2 (binD op) fa fb) := by
  intro Wx tk F O σ H env gd Q p
  refine TE.by (pe_op oprX pe_of pe_of) ?_
  refine ha Wx tk F O σ H env gd _ (PstF.bind p fun o1 e1 x H1 O1 s1 f1 g1 r1 p1 => ?_)
  refine hb Wx tk F O1 σ H1 e1 g1 _ (PstF.bind p1 fun o2 e2 y H2 O2 s2 f2 g2 r2 p2 => ?_)
  have r1' := (r1.fr f2.rd fun _ z => .inr z).mono (S' := Sx F.S0 O2) fun _ z => s2.sx z
  cases q1 : deref o1 e2 with
  | none => simp only [q1] at p2; exact p2.elim
  | some d1 =>
    cases q2 : deref o2 e2 with
    | none => simp only [q1, q2] at p2; exact p2.elim
    | some d2 =>
      have p2' : PstF X.K X.mg Wx F O2 σ H2 Q (Out.of (binD op d1 d2) e2) := by
        simp only [q1, q2] at p2; exact p2
      cases q3 : binD op d1 d2 with
      | none => rw [q3] at p2'; exact p2'.elim
      | some d =>
        rw [q3] at p2'
        by_cases hl : ∃ ds, d = .lst ds
        · obtain ⟨r, h1, h2⟩ := ho _ x y H2 d1 d2 d (g2.deref r1' q1) (g2.deref r2 q2) q3 hl
          exact ⟨r, h1, h2 Q fun v H' sm fr => p2'.okN g2 sm (fr.freshV (fun z hz => g2.dom hz) fun z hz => hz)⟩
        · obtain ⟨r, h1, h2⟩ := s_bin op _ x y H2 d1 d2 d (g2.deref r1' q1) (g2.deref r2 q2) q3
          exact ⟨r, h1, h2 Q fun v H' sm rep => p2'.okN g2 sm ⟨rep fun z hz => g2.dom hz, fun ds e => absurd ⟨ds, e⟩ hl⟩⟩

/-! ### subscripts, slices -/
theorem se_idx (hs : PlainIx b) (ha : SO X a fa) (hb : SO X b fb) : SE X (.Subscript a b pos) (bin2 D.idx fa fb) := by
  intro Wx tk F O σ H env gd Q p
  refine TE.by (pe_ix (r := fun x y H Q => ∃ r, IxR X r ∧ r x y H Q) ?_ pe_of pe_of hs) ?_
  · intro v0 sl pins s σ H x y v u Q I r1 r2 ⟨r, h1, h2⟩ hh
    exact h1 v0 sl pins s σ H x y v u Q I r1 r2 h2 hh
  · refine SO.two ha hb tk gd p fun x y H2 O2 e2 d1 d2 d g2 r1 r2 e k => ?_
    obtain ⟨r, h1, h2⟩ := s_idx _ x y H2 d1 d2 d r1 r2 e
    exact ⟨r, h1, h2 Q fun v rep => k v H2 (fun _ _ h => h) rep⟩
end
end Rp
set_option Elab.async false
set_option linter.all false
set_option maxRecDepth 100000
/-! RpG: slices, calls of built-ins. -/
namespace Rp
open PySem PySem.Spec PyProof.Rows L2

section
variable {X : Cx} {a b c : Expr} {fa fb fc : Env → Out Opd} {va vb vc : Env → Out D} {pos : Pos}
/-! ### slices -/
def cutL {α : Type} (xs : List α) (lo hi : Option Int) : List α := (xs.drop (HT.sIx xs.length 0 lo)).take (HT.sIx xs.length xs.length hi - HT.sIx xs.length 0 lo)
def D.cut : D → Option Int → Option Int → Option D
  | .lst xs, lo, hi => some (.lst (cutL xs lo hi))
  | .tup xs, lo, hi => some (.tup (cutL xs lo hi))
  | .str x, lo, hi => if lenOk x.length then some (.str (cutS x lo hi)) else none
  | _, _, _ => none
theorem Reps.cut {K : PySem.W.Frag} {H : Hp} {S : Addr → Prop} {vs : List V} {ds : List D} (r : Reps K H S vs ds) (lo hi : Option Int) : Reps K H S (cutV vs lo hi) (cutL ds lo hi) := by
  unfold cutV cutL
  rw [r.length]
  exact (r.drop _).take _
theorem sIx_le' (n : Nat) (o : Option Int) : HT.sIx n 0 o ≤ n := HT.sIx_le n 0 (Nat.zero_le _) o
/-- a slice's part: left out, or an int -/
def SP (X : Cx) (e : Option Expr) (f : Env → Out (Option Int)) : Prop :=
  ∀ Wx, Takes X Wx → ∀ F O σ H env, Good X.K F O σ H env → ∀ Q : Option Int → Hp → Prop, Pst X.K X.mg Wx F O σ H (fun _ _ b c => b = c) Q (f env) → ∃ t, PO X e t ∧ t σ H Q
def gapP : Env → Out (Option Int) := fun env => .ok none env
def asI : D → Option Int
  | .int i => some i
  | _ => none
def partP (f : Env → Out D) : Env → Out (Option Int) := fun env => (f env).bind fun d e => match asI d with
  | some i => .ok (some i) e
  | none => .bad
theorem sp_gap : SP X none gapP := fun Wx tk F O σ H env g Q p => ⟨_, po_none, p.ok g rfl⟩
theorem sp_part (ha : SE X a va) : SP X (some a) (partP va) := by
  intro Wx tk F O σ H env g Q p
  refine ⟨_, po_some pe_of, ?_⟩
  refine ha Wx tk F O σ H env g _ (Pst.bind p fun d e1 v H1 O1 s f1 g1 r1 p1 => ?_)
  cases r1 with
  | int i => exact ⟨i, rfl, p1.ok g1 rfl⟩
  | _ => exact p1.elim
def TO.of (X : Cx) (e : Option Expr) : TO := fun σ H Q => ∃ t, PO X e t ∧ t σ H Q
theorem po_of {e : Option Expr} : PO X e (TO.of X e) := ⟨fun pins s σ H Q I ⟨t, h, q⟩ => h.run pins s σ H Q I q⟩
def SlS (X : Cx) : Prop := ∀ S x H d1 lo hi d, RepB X.K H S x d1 → D.cut d1 lo hi = some d →
    ∃ r, SlR X r ∧ ∀ Q : VK, (∀ v H', Same H H' → ((∀ a, S a → H a ≠ none) → FreshV X.K H H' S v d) → Q v H') → r x lo hi H Q
theorem s_slice : SlS X := by
  intro S x H d1 lo hi d r1 e
  cases r1 with
  | lst h r =>
    simp only [D.cut] at e; injection e with e; subst e
    exact ⟨_, sl_list, fun Q k => ⟨_, _, rfl, .inl (.inl h), fun p hp => k _ _ (same_new hp) fun hs => (FreshR.mk' hp (r.cut lo hi)).freshV hs fun _ z => z⟩⟩
  | tup h r =>
    simp only [D.cut] at e; injection e with e; subst e
    refine ⟨_, sl_tupA, fun Q k => ⟨_, _, rfl, sqT_of h, fun hw => ?_, fun hw p hp => k _ _ (same_new hp) fun hs => ⟨tup_new hp hs (r.cut lo hi), fun _ e => by cases e⟩⟩⟩
    refine k _ _ (fun _ _ h => h) fun hs => ⟨?_, fun _ e => by cases e⟩
    have e2 : cutL _ lo hi = _ := show cutL _ lo hi = _ by
      unfold cutL
      rw [← r.length, hw.1, hw.2, List.drop_zero, Nat.sub_zero, r.length, List.take_length]
    rw [e2]
    exact .tup h r
  | str z =>
    simp only [D.cut] at e
    split at e
    · rename_i hz
      injection e with e; subst e
      exact ⟨_, sl_str, fun Q k => ⟨_, rfl, of_decide_eq_true hz, k _ _ (fun _ _ h => h) fun _ => ⟨.str _, fun _ e => by cases e⟩⟩⟩
    · cases e
  | _ => simp only [D.cut] at e; cases e
def sliceD (fa : Env → Out Opd) (flo fhi : Env → Out (Option Int)) : Env → Out D := fun env =>
  (fa env).bind fun o e1 => (flo e1).bind fun lo e2 => (fhi e2).bind fun hi e3 => Out.of ((deref o e3).bind fun d => d.cut lo hi) e3
theorem sf_slice {lo hi : Option Expr} {flo fhi : Env → Out (Option Int)} {p2 : Pos} (ha : SO X a fa) (hl : SP X lo flo) (hh : SP X hi fhi) : SF X (.Subscript a (.Slice lo hi none p2) pos) (sliceD fa flo fhi) := by
  intro Wx tk F O σ H env gd Q p
  refine TE.by (pe_slice (r := fun x lo hi H Q => ∃ r, SlR X r ∧ r x lo hi H Q) ?_ pe_of po_of po_of) ?_
  · intro pins s σ H x v vl vu lo hi sl Q I r1 h1 h2 h3 ⟨r, q1, q2⟩
    exact q1 pins s σ H x v vl vu lo hi sl Q I r1 h1 h2 h3 q2
  refine ha Wx tk F O σ H env gd _ (PstF.bind p fun o1 e1 x H1 O1 s1 f1 g1 r1 p1 => ?_)
  refine hl Wx tk F O1 σ H1 e1 g1 _ (PstF.bind p1 fun l e2 l' H2 O2 s2 f2 g2 r2 p2 => ?_)
  cases r2
  refine hh Wx tk F O2 σ H2 e2 g2 _ (PstF.bind p2 fun u e3 u' H3 O3 s3 f3 g3 r3 p3 => ?_)
  cases r3
  have r1' := ((r1.fr f2.rd fun _ z => .inr z).mono (S' := Sx F.S0 O2) fun _ z => s2.sx z)
  have r1'' := ((r1'.fr f3.rd fun _ z => .inr z).mono (S' := Sx F.S0 O3) fun _ z => s3.sx z)
  cases q1 : deref o1 e3 with
  | none => simp only [q1] at p3; exact p3.elim
  | some d1 =>
    have p3' : PstF X.K X.mg Wx F O3 σ H3 Q (Out.of (d1.cut l u) e3) := by simp only [q1] at p3; exact p3
    cases q2 : d1.cut l u with
    | none => rw [q2] at p3'; exact p3'.elim
    | some d =>
      rw [q2] at p3'
      obtain ⟨r, h1, h2⟩ := s_slice _ x H3 d1 l u d (g3.deref r1'' q1) q2
      refine ⟨r, h1, h2 Q fun v H' sm fr => p3'.okN g3 sm (fr fun z hz => g3.dom hz)⟩

/-! ### calls of built-ins by name -/
def RepBs (K : PySem.W.Frag) (H : Hp) (S : Addr → Prop) : List V → List D → Prop
  | [], [] => True
  | v :: vs, d :: ds => RepB K H S v d ∧ RepBs K H S vs ds
  | _, _ => False
def derefs : List Opd → Env → Option (List D)
  | [], _ => some []
  | o :: os, e => (deref o e).bind fun d => (derefs os e).map (d :: ·)
theorem Good.derefs {K : PySem.W.Frag} {F : Fx} {O : Own} {σ : L2.St} {H : Hp} {e : Env} (g : Good K F O σ H e) : ∀ {os : List Opd} {vs : List V} {ds : List D}, ReposO K σ H (Sx F.S0 O) vs os → Rp.derefs os e = some ds → RepBs K H (Sx F.S0 O) vs ds
  | [], [], _, _, h => by cases h; trivial
  | o :: os, v :: vs, _, r, h => by
    simp only [Rp.derefs] at h
    cases q1 : Rp.deref o e with
    | none => rw [q1] at h; cases h
    | some d =>
      cases q2 : Rp.derefs os e with
      | none => rw [q1, q2] at h; cases h
      | some ds =>
        rw [q1, q2] at h; injection h with h; subst h
        exact ⟨g.deref r.1 q1, g.derefs r.2 q2⟩
  | [], _ :: _, _, r, _ => r.elim
  | _ :: _, [], _, r, _ => r.elim
def CallS (X : Cx) (f : Value) (g : List D → Option D) : Prop :=
  ∀ S xs H ds d, RepBs X.K H S xs ds → g ds = some d →
    ∃ r, CallR X f r ∧ ∀ Q : VK, (∀ v H', Same H H' → ((∀ a, S a → H a ≠ none) → FreshV X.K H H' S v d) → Q v H') → r xs H Q
theorem callX {f : Value} : CallR X f (fun xs H Q => ∃ r, CallR X f r ∧ r xs H Q) := by
  intro pins s σ H xs us Q I rv ⟨r, h1, h2⟩
  exact h1 pins s σ H xs us Q I rv h2
def callD (g : List D → Option D) (fs : Env → Out (List Opd)) : Env → Out D := fun env => (fs env).bind fun os e => Out.of ((derefs os e).bind g) e
variable {es : List Expr} {fs : Env → Out (List Opd)} {x : Str} {pf : Pos}
theorem SA.call {f : Value} {g : List D → Option D} (hc : CallS X f g) (h : SA X es fs) {Wx : WX} (tk : Takes X Wx) {F : Fx} {O : Own} {σ : L2.St} {H : Hp} {env : Env} (gd : Good X.K F O σ H env) {Q : VK}
    (p : PstF X.K X.mg Wx F O σ H Q (callD g fs env)) : TA.of X es σ H fun vs H1 => ∃ r, CallR X f r ∧ r vs H1 Q := by
  refine h Wx tk F O σ H env gd _ (PstF.bind p fun os e1 vs H1 O1 s f1 g1 r1 p1 => ?_)
  cases q1 : derefs os e1 with
  | none => simp only [q1] at p1; exact p1.elim
  | some ds =>
    have p1' : PstF X.K X.mg Wx F O1 σ H1 Q (Out.of (g ds) e1) := by simp only [q1] at p1; exact p1
    cases q2 : g ds with
    | none => rw [q2] at p1'; exact p1'.elim
    | some d =>
      rw [q2] at p1'
      obtain ⟨r, h1, h2⟩ := hc _ vs H1 ds d (g1.derefs r1 q1) q2
      refine ⟨r, h1, h2 Q fun v H' sm fr => p1'.okN g1 sm (fr fun z hz => g1.dom hz)⟩
theorem pl_of (h : es.all (fun e => !PySem.W.isStarred e) = true) (pos : Pos) (env : PySem.Env) : (backTo pos (starEach es env)).any (·.1) = false := by
  have key : ∀ es : List Expr, es.all (fun e => !PySem.W.isStarred e) = true → (starEach es env).any (·.1) = false := by
    intro es
    induction es with
    | nil => intro _; rfl
    | cons e r ih =>
      intro h
      rw [List.all_cons, Bool.and_eq_true] at h
      rw [starEach_plain (by simpa using h.1), List.any_cons, ih h.2]
      rfl
  unfold backTo
  rw [List.any_map]
  exact key es h
theorem sf_callB {id : String} {g : List D → Option D} (hc : CallS X (.builtin id) g) (hg : Gl X x) (hm : X.mg x = none) (hv : bootBuiltins x = some (.builtin id)) (hn : x ≠ "__name__") (hdb : (x == ("__debug__" : Str)) = false)
    (hst : (a :: es).all (fun e => !PySem.W.isStarred e) = true) (h : SA X (a :: es) fs) : SF X (.Call (.Name x pf) (a :: es) [] pos) (callD g fs) := by
  intro Wx tk F O σ H env gd Q p
  rw [List.all_cons, Bool.and_eq_true] at hst
  exact TE.by (pe_callB callX hg hm hv pa_of hn hdb (starEach_plain (by simpa using hst.1) _) (pl_of hst.2 _ _)) (SA.call hc h tk gd p)
theorem sf_callTy {T : String} {g : List D → Option D} (hc : CallS X (.type T) g) (hg : Gl X x) (hm : X.mg x = none) (hv : bootBuiltins x = some (.type T)) (hn : x ≠ "__name__") (hdb : (x == ("__debug__" : Str)) = false)
    (hst : (a :: es).all (fun e => !PySem.W.isStarred e) = true) (h : SA X (a :: es) fs) : SF X (.Call (.Name x pf) (a :: es) [] pos) (callD g fs) := by
  intro Wx tk F O σ H env gd Q p
  rw [List.all_cons, Bool.and_eq_true] at hst
  exact TE.by (pe_callTy callX hg hm hv pa_of hn hdb (starEach_plain (by simpa using hst.1) _) (pl_of hst.2 _ _)) (SA.call hc h tk gd p)
end
end Rp
set_option Elab.async false
set_option linter.all false
set_option maxRecDepth 100000
/-! RpH: the built-ins, by data. -/
namespace Rp
open PySem PySem.Spec PyProof.Rows L2

section
variable {X : Cx}
theorem fv_flat {K : PySem.W.Frag} {H0 H : Hp} {S : Addr → Prop} {v : V} {d : D} (r : Rep K H S v d) (n : ∀ ds, d ≠ .lst ds) : FreshV K H0 H S v d := ⟨r, fun ds e => absurd e (n ds)⟩
def lenD : List D → Option D
  | [.lst xs] => some (.int xs.length)
  | [.tup xs] => some (.int xs.length)
  | [.scr xs] => some (.int xs.length)
  | [.str x] => if lenOk x.length then some (.int x.length) else none
  | _ => none
theorem rb1 {K : PySem.W.Frag} {H : Hp} {S : Addr → Prop} {xs : List V} {d : D} (r : RepBs K H S xs [d]) : ∃ v, xs = [v] ∧ RepB K H S v d := by
  match xs, r with
  | [v], r => exact ⟨v, rfl, r.1⟩
  | [], r => exact r.elim
  | _ :: _ :: _, r => exact r.2.elim
theorem rb2 {K : PySem.W.Frag} {H : Hp} {S : Addr → Prop} {xs : List V} {d d' : D} (r : RepBs K H S xs [d, d']) : ∃ v v', xs = [v, v'] ∧ RepB K H S v d ∧ RepB K H S v' d' := by
  match xs, r with
  | [v, w], r => exact ⟨v, w, rfl, r.1, r.2.1⟩
  | [], r => exact r.elim
  | [_], r => exact r.2.elim
  | _ :: _ :: _ :: _, r => exact r.2.2.elim
theorem c_len : CallS X (.builtin "len") lenD := by
  intro S xs H ds d r e
  unfold lenD at e
  split at e
  · injection e with e; subst e
    obtain ⟨v, rfl, r'⟩ := rb1 r
    cases r' with
    | lst h r => exact ⟨_, call_len, fun Q k => ⟨_, _, rfl, .inl ⟨_, .inl (.inl h), rfl⟩, by rw [r.length]; exact k _ _ (fun _ _ h => h) fun _ => fv_flat (.int _) (by intros; simp)⟩⟩
  · injection e with e; subst e
    obtain ⟨v, rfl, r'⟩ := rb1 r
    cases r' with
    | tup h r => exact ⟨_, call_len, fun Q k => ⟨_, _, rfl, .inr ⟨_, sqT_of h, rfl⟩, by rw [r.length]; exact k _ _ (fun _ _ h => h) fun _ => fv_flat (.int _) (by intros; simp)⟩⟩
  · injection e with e; subst e
    obtain ⟨v, rfl, r'⟩ := rb1 r
    cases r' with
    | scr h r => exact ⟨_, call_len, fun Q k => ⟨_, _, rfl, .inl ⟨_, h, rfl⟩, by rw [r.length]; exact k _ _ (fun _ _ h => h) fun _ => fv_flat (.int _) (by intros; simp)⟩⟩
  · split at e
    · rename_i hz
      injection e with e; subst e
      obtain ⟨v, rfl, r'⟩ := rb1 r
      cases r' with
      | str x => exact ⟨_, call_len, fun Q k => ⟨_, _, rfl, ⟨of_decide_eq_true hz, rfl⟩, k _ _ (fun _ _ h => h) fun _ => fv_flat (.int _) (by intros; simp)⟩⟩
    · cases e
  · cases e
def absD : List D → Option D
  | [.int i] => some (.int (if i < 0 then -i else i))
  | _ => none
theorem c_abs : CallS X (.builtin "abs") absD := by
  intro S xs H ds d r e
  unfold absD at e
  split at e
  · injection e with e; subst e
    obtain ⟨v, rfl, r'⟩ := rb1 r
    cases r'
    exact ⟨_, call_abs, fun Q k => ⟨_, rfl, k _ _ (fun _ _ h => h) fun _ => fv_flat (.int _) (by intros; simp)⟩⟩
  · cases e
/-- ints of a list -/
def intsD : List D → Option (List Int)
  | [] => some []
  | .int i :: ds => (intsD ds).map (i :: ·)
  | _ :: _ => none
theorem intsD_reps {K : PySem.W.Frag} {H : Hp} {S : Addr → Prop} : ∀ {vs : List V} {ds : List D} {ns : List Int}, Reps K H S vs ds → intsD ds = some ns → vs = ns.map V.int
  | _, _, _, .nil, e => by cases e; rfl
  | _, _, _, .cons r t, e => by
    cases r <;> simp only [intsD] at e <;> first | (cases e; done) | skip
    rename_i i
    cases q : intsD _ with
    | none => rw [q] at e; cases e
    | some ns => rw [q] at e; injection e with e; subst e; rw [intsD_reps t q]; rfl
def maxL : List Int → Option Int
  | [] => none
  | x :: xs => some (xs.foldl (fun m y => if y > m then y else m) x)
def minL : List Int → Option Int
  | [] => none
  | x :: xs => some (xs.foldl (fun m y => if y < m then y else m) x)
theorem maxL_is {ns : List Int} (h : 0 < ns.length) : ∃ m, maxL ns = some m ∧ m ∈ ns ∧ ∀ y ∈ ns, y ≤ m := by
  cases ns with
  | nil => simp at h
  | cons x xs =>
    refine ⟨_, rfl, ?_⟩
    clear h
    induction xs generalizing x with
    | nil => simp
    | cons y ys ih =>
      simp only [List.foldl_cons]
      by_cases c : y > x
      · rw [if_pos c]
        obtain ⟨h1, h2⟩ := ih y
        have hy := h2 y (by simp)
        refine ⟨List.mem_cons_of_mem _ h1, fun z hz => ?_⟩
        rcases List.mem_cons.mp hz with rfl | hz
        · omega
        · exact h2 z hz
      · rw [if_neg c]
        obtain ⟨h1, h2⟩ := ih x
        have hx := h2 x (by simp)
        refine ⟨?_, fun z hz => ?_⟩
        · rcases List.mem_cons.mp h1 with e | e
          · rw [e]; simp
          · exact List.mem_cons_of_mem _ (List.mem_cons_of_mem _ e)
        · rcases List.mem_cons.mp hz with rfl | hz
          · exact hx
          · rcases List.mem_cons.mp hz with rfl | hz
            · omega
            · exact h2 z (List.mem_cons_of_mem _ hz)
theorem minL_is {ns : List Int} (h : 0 < ns.length) : ∃ m, minL ns = some m ∧ m ∈ ns ∧ ∀ y ∈ ns, m ≤ y := by
  cases ns with
  | nil => simp at h
  | cons x xs =>
    refine ⟨_, rfl, ?_⟩
    clear h
    induction xs generalizing x with
    | nil => simp
    | cons y ys ih =>
      simp only [List.foldl_cons]
      by_cases c : y < x
      · rw [if_pos c]
        obtain ⟨h1, h2⟩ := ih y
        have hy := h2 y (by simp)
        refine ⟨List.mem_cons_of_mem _ h1, fun z hz => ?_⟩
        rcases List.mem_cons.mp hz with rfl | hz
        · omega
        · exact h2 z hz
      · rw [if_neg c]
        obtain ⟨h1, h2⟩ := ih x
        have hx := h2 x (by simp)
        refine ⟨?_, fun z hz => ?_⟩
        · rcases List.mem_cons.mp h1 with e | e
          · rw [e]; simp
          · exact List.mem_cons_of_mem _ (List.mem_cons_of_mem _ e)
        · rcases List.mem_cons.mp hz with rfl | hz
          · exact hx
          · rcases List.mem_cons.mp hz with rfl | hz
            · omega
            · exact h2 z (List.mem_cons_of_mem _ hz)
def maxD : List D → Option D
  | [.int i, .int j] => some (.int (if j > i then j else i))
  | [.lst xs] => ((intsD xs).bind maxL).map .int
  | _ => none
def minD : List D → Option D
  | [.int i, .int j] => some (.int (if j < i then j else i))
  | [.lst xs] => ((intsD xs).bind minL).map .int
  | _ => none
theorem maxL_pos {ns : List Int} {m : Int} (h : maxL ns = some m) : 0 < ns.length := by
  cases ns with
  | nil => cases h
  | cons => simp
theorem minL_pos {ns : List Int} {m : Int} (h : minL ns = some m) : 0 < ns.length := by
  cases ns with
  | nil => cases h
  | cons => simp
theorem c_max (hc : X.calm = true) : CallS X (.builtin "max") maxD := by
  intro S xs H ds d r e
  unfold maxD at e
  split at e
  · injection e with e; subst e
    obtain ⟨v, w, rfl, r1, r2⟩ := rb2 r
    cases r1; cases r2
    exact ⟨_, call_max2 hc, fun Q k => ⟨_, _, rfl, k _ _ (fun _ _ h => h) fun _ => fv_flat (.int _) (by intros; simp)⟩⟩
  · obtain ⟨v, rfl, r'⟩ := rb1 r
    cases r' with
    | lst h r =>
      cases q : intsD _ with
      | none => rw [q] at e; cases e
      | some bs =>
        rw [q] at e
        cases q2 : maxL bs with
        | none => simp [q2] at e
        | some m =>
          simp [q2] at e; subst e
          rw [intsD_reps r q] at h
          refine ⟨_, cr_max hc, fun Q k => ⟨_, bs, rfl, .inl (.inl h), maxL_pos q2, fun m' h1 h2 => ?_⟩⟩
          obtain ⟨m2, e1, h3, h4⟩ := maxL_is (maxL_pos q2)
          rw [q2] at e1; cases e1
          have : m' = m := Int.le_antisymm (h4 _ h1) (h2 _ h3)
          subst this
          exact k _ _ (fun _ _ h => h) fun _ => fv_flat (.int _) (by intros; simp)
  · cases e
theorem c_min (hc : X.calm = true) : CallS X (.builtin "min") minD := by
  intro S xs H ds d r e
  unfold minD at e
  split at e
  · injection e with e; subst e
    obtain ⟨v, w, rfl, r1, r2⟩ := rb2 r
    cases r1; cases r2
    exact ⟨_, call_min2 hc, fun Q k => ⟨_, _, rfl, k _ _ (fun _ _ h => h) fun _ => fv_flat (.int _) (by intros; simp)⟩⟩
  · obtain ⟨v, rfl, r'⟩ := rb1 r
    cases r' with
    | lst h r =>
      cases q : intsD _ with
      | none => rw [q] at e; cases e
      | some bs =>
        rw [q] at e
        cases q2 : minL bs with
        | none => simp [q2] at e
        | some m =>
          simp [q2] at e; subst e
          rw [intsD_reps r q] at h
          refine ⟨_, cr_min hc, fun Q k => ⟨_, bs, rfl, .inl (.inl h), minL_pos q2, fun m' h1 h2 => ?_⟩⟩
          obtain ⟨m2, e1, h3, h4⟩ := minL_is (minL_pos q2)
          rw [q2] at e1; cases e1
          have : m' = m := Int.le_antisymm (h2 _ h3) (h4 _ h1)
          subst this
          exact k _ _ (fun _ _ h => h) fun _ => fv_flat (.int _) (by intros; simp)
  · cases e
def bolsD : List D → Option (List Bool)
  | [] => some []
  | .bl b :: ds => (bolsD ds).map (b :: ·)
  | _ :: _ => none
theorem bolsD_reps {K : PySem.W.Frag} {H : Hp} {S : Addr → Prop} : ∀ {vs : List V} {ds : List D} {ns : List Bool}, Reps K H S vs ds → bolsD ds = some ns → vs = ns.map V.bl
  | _, _, _, .nil, e => by cases e; rfl
  | _, _, _, .cons r t, e => by
    cases r <;> simp only [bolsD] at e <;> first | (cases e; done) | skip
    rename_i i
    cases q : bolsD _ with
    | none => rw [q] at e; cases e
    | some ns => rw [q] at e; injection e with e; subst e; rw [bolsD_reps t q]; rfl
def allD : List D → Option D
  | [.lst xs] => (bolsD xs).map fun bs => .bl (bs.all id)
  | _ => none
theorem c_all (hc : X.calm = true) : CallS X (.builtin "all") allD := by
  intro S xs H ds d r e
  unfold allD at e
  split at e
  · obtain ⟨v, rfl, r'⟩ := rb1 r
    cases r' with
    | lst h r =>
      cases q : bolsD _ with
      | none => rw [q] at e; cases e
      | some bs =>
        rw [q] at e; injection e with e; subst e
        rw [bolsD_reps r q] at h
        exact ⟨_, cr_all hc, fun Q k => ⟨_, bs, rfl, .inl (.inl h), k _ _ (fun _ _ h => h) fun _ => fv_flat (.bl _) (by intros; simp)⟩⟩
  · cases e
def anyD : List D → Option D
  | [.lst xs] => (bolsD xs).map fun bs => .bl (bs.any id)
  | _ => none
theorem c_any (hc : X.calm = true) : CallS X (.builtin "any") anyD := by
  intro S xs H ds d r e
  unfold anyD at e
  split at e
  · obtain ⟨v, rfl, r'⟩ := rb1 r
    cases r' with
    | lst h r =>
      cases q : bolsD _ with
      | none => rw [q] at e; cases e
      | some bs =>
        rw [q] at e; injection e with e; subst e
        rw [bolsD_reps r q] at h
        exact ⟨_, cr_any hc, fun Q k => ⟨_, bs, rfl, .inl (.inl h), k _ _ (fun _ _ h => h) fun _ => fv_flat (.bl _) (by intros; simp)⟩⟩
  · cases e
def sumD : List D → Option D
  | [.lst xs] => (intsD xs).map fun ns => .int ns.sum
  | _ => none
theorem c_sum (hc : X.calm = true) : CallS X (.builtin "sum") sumD := by
  intro S xs H ds d r e
  unfold sumD at e
  split at e
  · obtain ⟨v, rfl, r'⟩ := rb1 r
    cases r' with
    | lst h r =>
      cases q : intsD _ with
      | none => rw [q] at e; cases e
      | some bs =>
        rw [q] at e; injection e with e; subst e
        rw [intsD_reps r q] at h
        exact ⟨_, cr_sum hc, fun Q k => ⟨_, bs, rfl, .inl (.inl h), k _ _ (fun _ _ h => h) fun _ => fv_flat (.int _) (by intros; simp)⟩⟩
  · cases e
def tupleD : List D → Option D
  | [.lst xs] => some (.tup xs)
  | [.tup xs] => some (.tup xs)
  | _ => none
theorem c_tuple : CallS X (.type "tuple") tupleD := by
  intro S xs H ds d r e
  unfold tupleD at e
  split at e
  · obtain ⟨v, rfl, r'⟩ := rb1 r
    injection e with e; subst e
    cases r' with
    | lst h r => exact ⟨_, call_tuple_of, fun Q k => ⟨_, _, rfl, .inl ⟨.inl (.inl h), fun l hl => k _ _ (same_new hl) fun hs => fv_flat (tup_new hl hs r) (by intros; simp)⟩⟩⟩
  · obtain ⟨v, rfl, r'⟩ := rb1 r
    injection e with e; subst e
    cases r' with
    | tup h r => exact ⟨_, call_tuple_of, fun Q k => ⟨_, _, rfl, .inr ⟨sqT_of h, k _ _ (fun _ _ h => h) fun _ => fv_flat (.tup h r) (by intros; simp)⟩⟩⟩
  · cases e
def listD : List D → Option D
  | [.lst xs] => some (.lst xs)
  | [.tup xs] => some (.lst xs)
  | [.scr xs] => some (.lst xs)
  | _ => none
theorem c_list : CallS X (.type "list") listD := by
  intro S xs H ds d r e
  unfold listD at e
  split at e
  · obtain ⟨v, rfl, r'⟩ := rb1 r
    injection e with e; subst e
    cases r' with
    | lst h r => exact ⟨_, call_list_of, fun Q k => ⟨_, _, rfl, .inl (.inl (.inl h)), fun l hl => k _ _ (same_new hl) fun hs => (FreshR.mk' hl r).freshV hs fun _ z => z⟩⟩
  · obtain ⟨v, rfl, r'⟩ := rb1 r
    injection e with e; subst e
    cases r' with
    | tup h r => exact ⟨_, call_list_of, fun Q k => ⟨_, _, rfl, .inr (sqT_of h), fun l hl => k _ _ (same_new hl) fun hs => (FreshR.mk' hl r).freshV hs fun _ z => z⟩⟩
  · obtain ⟨v, rfl, r'⟩ := rb1 r
    injection e with e; subst e
    cases r' with
    | scr h r => exact ⟨_, call_list_of, fun Q k => ⟨_, _, rfl, .inl h, fun l hl => k _ _ (same_new hl) fun hs => (FreshR.mk' hl r).freshV hs fun _ z => z⟩⟩
  · cases e
def intD : List D → Option D
  | [.int i] => some (.int i)
  | [.bl b] => some (.int (if b then 1 else 0))
  | [.str x] => if decide (x.length ≤ 640) then (PySem.intText? x).map .int else none
  | _ => none
theorem c_int : CallS X (.type "int") intD := by
  intro S xs H ds d r e
  unfold intD at e
  split at e
  · obtain ⟨v, rfl, r'⟩ := rb1 r
    injection e with e; subst e
    cases r'
    exact ⟨_, call_int1, fun Q k => .inl ⟨_, rfl, k _ _ (fun _ _ h => h) fun _ => fv_flat (.int _) (by intros; simp)⟩⟩
  · obtain ⟨v, rfl, r'⟩ := rb1 r
    injection e with e; subst e
    cases r'
    exact ⟨_, call_int1, fun Q k => .inr ⟨_, rfl, k _ _ (fun _ _ h => h) fun _ => fv_flat (.int _) (by intros; simp)⟩⟩
  · split at e
    · rename_i hz
      obtain ⟨v, rfl, r'⟩ := rb1 r
      cases r'
      cases q : PySem.intText? _ with
      | none => rw [q] at e; cases e
      | some n =>
        rw [q] at e; injection e with e; subst e
        exact ⟨_, call_int_str, fun Q k => ⟨_, n, rfl, q, of_decide_eq_true hz, k _ _ (fun _ _ h => h) fun _ => fv_flat (.int _) (by intros; simp)⟩⟩
    · cases e
  · cases e
def strD : List D → Option D
  | [.int i] => if decide (i.natAbs.log2 < 1920) then some (.str (toString i)) else none
  | _ => none
theorem c_str : CallS X (.type "str") strD := by
  intro S xs H ds d r e
  unfold strD at e
  split at e
  · split at e
    · rename_i hz
      obtain ⟨v, rfl, r'⟩ := rb1 r
      injection e with e; subst e
      cases r'
      exact ⟨_, call_str_int, fun Q k => ⟨_, rfl, of_decide_eq_true hz, k _ _ (fun _ _ h => h) fun _ => fv_flat (.str _) (by intros; simp)⟩⟩
    · cases e
  · cases e
end
end Rp
set_option Elab.async false
set_option linter.all false
set_option maxRecDepth 100000
/-! RpI: methods of texts, f-strings, isinstance. -/
namespace Rp
open PySem PySem.Spec PyProof.Rows L2

section
variable {X : Cx} {a b c : Expr} {fa fb fc : Env → Out Opd} {va vb vc : Env → Out D} {pos apos : Pos}
/-! ### methods of texts with one argument -/
def MtS (X : Cx) (id : String) (g : Str → D → Option D) : Prop :=
  ∀ S y H z d2 d, RepB X.K H S y d2 → g z d2 = some d →
    ∃ r, MtR X id r ∧ ∀ Q : VK, (∀ v H', Same H H' → ((∀ a, S a → H a ≠ none) → FreshV X.K H H' S v d) → Q v H') → r (.str z) [y] H Q
theorem mtX {id : String} : MtR X id (fun x xs H Q => ∃ r, MtR X id r ∧ r x xs H Q) := by
  intro pins s σ H x xs v us Q I r1 rv ⟨r, h1, h2⟩
  exact h1 pins s σ H x xs v us Q I r1 rv h2
def isStr : D → Option Str
  | .str z => some z
  | _ => none
def strM (g : Str → D → Option D) (fa fb : Env → Out Opd) : Env → Out D := fun env => (fa env).bind fun o e1 => match (deref o e1).bind isStr with
  | some z => (fb e1).bind fun o2 e2 => Out.of ((deref o2 e2).bind (g z)) e2
  | none => .bad
theorem isStr_of {K : PySem.W.Frag} {H : Hp} {S : Addr → Prop} {v : V} {d : D} {z : Str} (r : RepB K H S v d) (e : isStr d = some z) : v = .str z := by
  cases r <;> simp only [isStr] at e <;> first | (cases e; done) | (injection e with e; subst e; rfl)
theorem sf_m1 {id : String} {name : Str} {g : Str → D → Option D} (slot : PySem.Slot "str" name id) (ty : typeOf (.builtin id) = pure (.type "method_descriptor")) (hm : MtS X id g) (hst : PySem.W.isStarred b = false)
    (hbase : attributeBase a name X.env (eval a X.env) = eval a X.env) (hline : (apos.endLine == pos.line) = true) (ha : SO X a fa) (hb : SO X b fb) : SF X (.Call (.Attribute a name apos) [b] [] pos) (strM g fa fb) := by
  intro Wx tk F O σ H env gd Q p
  refine TE.by (pe_m1 slot ty mtX pe_of pe_of (starEach_plain hst _) hbase hline) ?_
  refine ha Wx tk F O σ H env gd _ (PstF.bind p fun o1 e1 x H1 O1 s1 f1 g1 r1 p1 => ?_)
  cases q1 : deref o1 e1 with
  | none => simp only [q1] at p1; exact p1.elim
  | some d1 =>
    cases q2 : isStr d1 with
    | none => simp only [q1, Option.bind_some, q2] at p1; exact p1.elim
    | some z =>
      simp only [q1, Option.bind_some, q2] at p1
      have ex := isStr_of (g1.deref r1 q1) q2
      subst ex
      refine ⟨⟨z, rfl⟩, ?_⟩
      refine hb Wx tk F O1 σ H1 e1 g1 _ (PstF.bind p1 fun o2 e2 y H2 O2 s2 f2 g2 r2 p2 => ?_)
      cases q3 : deref o2 e2 with
      | none => simp only [q3] at p2; exact p2.elim
      | some d2 =>
        have p2' : PstF X.K X.mg Wx F O2 σ H2 Q (Out.of (g z d2) e2) := by simp only [q3] at p2; exact p2
        cases q4 : g z d2 with
        | none => rw [q4] at p2'; exact p2'.elim
        | some d =>
          rw [q4] at p2'
          obtain ⟨r, h1, h2⟩ := hm _ y H2 z d2 d (g2.deref r2 q3) q4
          refine ⟨r, h1, h2 Q fun v H' sm fr => p2'.okN g2 sm (fr fun z hz => g2.dom hz)⟩
def findD (z : Str) : D → Option D
  | .str y => some (.int (Txt.find z y))
  | _ => none
theorem m_find : MtS X "str.find" findD := by
  intro S y H z d2 d r e
  cases r <;> simp only [findD] at e <;> first | (cases e; done) | skip
  injection e with e; subst e
  exact ⟨_, mt_find, fun Q k => ⟨_, _, rfl, rfl, k _ _ (fun _ _ h => h) fun _ => fv_flat (.int _) (by intros; simp)⟩⟩
def countD (z : Str) : D → Option D
  | .str y => some (.int (Txt.count z y))
  | _ => none
theorem m_count : MtS X "str.count" countD := by
  intro S y H z d2 d r e
  cases r <;> simp only [countD] at e <;> first | (cases e; done) | skip
  injection e with e; subst e
  exact ⟨_, mt_count, fun Q k => ⟨_, _, rfl, rfl, k _ _ (fun _ _ h => h) fun _ => fv_flat (.int _) (by intros; simp)⟩⟩
def stripD (z : Str) : D → Option D
  | .str y => if lenOk z.length then some (.str (Txt.stripChars z y)) else none
  | _ => none
theorem m_strip : MtS X "str.strip" stripD := by
  intro S y H z d2 d r e
  cases r <;> simp only [stripD] at e <;> first | (cases e; done) | skip
  split at e
  · rename_i hz
    injection e with e; subst e
    exact ⟨_, mt_stripChars, fun Q k => ⟨_, _, rfl, rfl, of_decide_eq_true hz, k _ _ (fun _ _ h => h) fun _ => fv_flat (.str _) (by intros; simp)⟩⟩
  · cases e
def splitD (z : Str) : D → Option D
  | .str y => if !(y.length == 0) && lenOk (z.length + 2) then some (.lst ((Txt.split z y).map .str)) else none
  | _ => none
theorem reps_strs {K : PySem.W.Frag} {H : Hp} {S : Addr → Prop} : ∀ ys : List Str, Reps K H S (ys.map V.str) (ys.map D.str)
  | [] => .nil
  | y :: ys => .cons (.str y) (reps_strs ys)
theorem m_split : MtS X "str.split" splitD := by
  intro S y H z d2 d r e
  cases r <;> simp only [splitD] at e <;> first | (cases e; done) | skip
  split at e
  · rename_i hz
    injection e with e; subst e
    rw [Bool.and_eq_true] at hz
    refine ⟨_, mt_split, fun Q k => ⟨_, _, rfl, rfl, by simpa using hz.1, of_decide_eq_true hz.2, fun p hp => k _ _ (same_new hp) fun hs => (FreshR.mk' hp (reps_strs _)).freshV hs fun _ z => z⟩⟩
  · cases e
def strsD : List D → Option (List Str)
  | [] => some []
  | .str x :: ds => (strsD ds).map (x :: ·)
  | _ :: _ => none
theorem strsD_reps {K : PySem.W.Frag} {H : Hp} {S : Addr → Prop} : ∀ {vs : List V} {ds : List D} {ns : List Str}, Reps K H S vs ds → strsD ds = some ns → vs = ns.map V.str
  | _, _, _, .nil, e => by cases e; rfl
  | _, _, _, .cons r t, e => by
    cases r <;> simp only [strsD] at e <;> first | (cases e; done) | skip
    rename_i i
    cases q : strsD _ with
    | none => rw [q] at e; cases e
    | some ns => rw [q] at e; injection e with e; subst e; rw [strsD_reps t q]; rfl
def joinD (z : Str) : D → Option D
  | .lst xs => match strsD xs with
    | some ys => if decide ((ys.map (·.length)).sum + ys.length * z.length ≤ 16777216) then some (.str (Txt.join z ys)) else none
    | none => none
  | _ => none
theorem m_join : MtS X "str.join" joinD := by
  intro S y H z d2 d r e
  cases r <;> simp only [joinD] at e <;> first | (cases e; done) | skip
  rename_i h r
  cases q : strsD _ with
  | none => rw [q] at e; cases e
  | some ys =>
    rw [q] at e
    simp only at e
    split at e
    · rename_i hz
      injection e with e; subst e
      rw [strsD_reps r q] at h
      exact ⟨_, mt_join, fun Q k => ⟨_, _, ys, rfl, rfl, .inl (.inl (.inl h)), of_decide_eq_true hz, k _ _ (fun _ _ h => h) fun _ => fv_flat (.str _) (by intros; simp)⟩⟩
    · cases e

/-! ### f-strings -/
def fmtD : D → Option Str
  | .str y => if lenOk y.length then some y else none
  | .int i => if decide (i.natAbs.log2 < 1920) then some (toString i) else none
  | _ => none
/-- the pieces, one behind the other -/
def SJ (X : Cx) (es : List Expr) (f : Str → Env → Out Str) : Prop :=
  ∃ ts, PJ X es ts ∧ ∀ Wx, Takes X Wx → ∀ F O σ H env, Good X.K F O σ H env → ∀ acc (Q : Str → Hp → Prop), Pst X.K X.mg Wx F O σ H (fun _ _ b c => b = c) Q (f acc env) → tJs ts acc σ H Q
theorem sj_nil : SJ X [] (fun acc env => .ok acc env) := ⟨_, .nil, fun Wx tk F O σ H env g acc Q p => p.ok g rfl⟩
theorem sj_const {x : Str} {j : Nat} {es : List Expr} {f : Str → Env → Out Str} (h : SJ X es f) : SJ X (.Constant (.str x) j pos :: es) (fun acc env => if lenOk (acc ++ x).length then f (acc ++ x) env else .bad) := by
  obtain ⟨ts, h1, h2⟩ := h
  refine ⟨_, .cons pe_str h1, fun Wx tk F O σ H env g acc Q p => ?_⟩
  have p' : Pst X.K X.mg Wx F O σ H (fun _ _ b c => b = c) Q (if lenOk (acc ++ x).length then f (acc ++ x) env else .bad) := p
  split at p'
  · rename_i hl
    exact ⟨x, rfl, of_decide_eq_true hl, h2 Wx tk F O σ H env g _ Q p'⟩
  · exact p'.elim
theorem sj_fmt {es : List Expr} {f : Str → Env → Out Str} (ha : SE X a va) (h : SJ X es f) : SJ X (.FormattedValue a (-1) none pos :: es)
    (fun acc env => (va env).bind fun d e => match fmtD d with | some y => if lenOk (acc ++ y).length then f (acc ++ y) e else .bad | none => .bad) := by
  obtain ⟨ts, h1, h2⟩ := h
  refine ⟨_, .cons (pe_fmt pe_of) h1, fun Wx tk F O σ H env g acc Q p => ?_⟩
  refine ha Wx tk F O σ H env g _ (Pst.bind p fun d e1 v H1 O1 s f1 g1 r1 p1 => ?_)
  cases q : fmtD d with
  | none => simp only [q] at p1; exact p1.elim
  | some y =>
    simp only [q] at p1
    have p' : Pst X.K X.mg Wx F O1 σ H1 (fun _ _ b c => b = c) Q (if lenOk (acc ++ y).length then f (acc ++ y) e1 else .bad) := p1
    split at p'
    · rename_i hl
      have fin : ∃ y' : Str, V.str y = .str y' ∧ (acc ++ y').length ≤ sizeLine ∧ tJs ts (acc ++ y') σ H1 Q := ⟨y, rfl, of_decide_eq_true hl, (fun t => h2 Wx tk F O1 σ H1 e1 g1 _ Q t) p'⟩
      cases r1 <;> simp only [fmtD] at q <;> first | (cases q; done) | skip
      · split at q
        · rename_i hi; injection q with q; subst q; exact .inr ⟨_, rfl, of_decide_eq_true hi, fin⟩
        · cases q
      · split at q
        · rename_i hi; injection q with q; subst q; exact .inl ⟨_, rfl, of_decide_eq_true hi, fin⟩
        · cases q
    · exact p'.elim
def joinF (f : Str → Env → Out Str) : Env → Out D := fun env => (f Str.empty env).bind fun z e => .ok (.str z) e
theorem se_joined {es : List Expr} {f : Str → Env → Out Str} (h : SJ X (a :: b :: es) f) : SE X (.JoinedStr (a :: b :: es) pos) (joinF f) := by
  obtain ⟨ts, h1, h2⟩ := h
  intro Wx tk F O σ H env g Q p
  refine TE.by (pe_joined h1) ?_
  exact h2 Wx tk F O σ H env g _ _ (Pst.bind p fun d e1 v H1 O1 s f1 g1 r1 p1 => by subst r1; exact p1.ok g1 (.str _))

/-! ### isinstance against built-in types -/
def D.tyN : D → Option String
  | .non => some "NoneType"
  | .bl _ => some "bool"
  | .int _ => some "int"
  | .str _ => some "str"
  | .lst _ => some "list"
  | .tup _ => some "tuple"
  | .dct _ _ => some "dict"
  | .dctT _ _ => none
  | .scr _ => some "list"
  | .obj _ _ => none
theorem RepB.ty {K : PySem.W.Frag} {H : Hp} {S : Addr → Prop} {v : V} {d : D} {t : String} (r : RepB K H S v d) (e : d.tyN = some t) : TyX K H v (.type t) := by
  cases r <;> simp only [D.tyN] at e <;> first | (cases e; done) | (injection e with e; subst e)
  · exact .base .non
  · exact .base (.bl _)
  · exact .base (.int _)
  · exact .base (.str _)
  · rename_i h _; exact .base (.lst h)
  · rename_i h _
    rcases h with (h | ⟨o, h⟩) | ⟨o, its, n, h1, h2, _⟩
    · exact .base (.lst h)
    · exact .base (.frz h)
    · exact .kList h1 h2
  · rename_i h _
    rcases h with ⟨h | ⟨o, h⟩, _⟩ | ⟨o, its, n, h1, h2, _⟩
    · exact .base (.tup h)
    · exact .fTuple h
    · exact .kTuple h1 h2
  · rename_i h _
    rcases h with h | ⟨o, h⟩
    · exact .base (.dK h)
    · exact .fDict h
/-- the answer by type names: T (int takes bools) -/
def isTy (t : String) : List String → Option Bool
  | [] => some false
  | T :: Ts => match kitB t T with
    | some true => some true
    | some false => isTy t Ts
    | none => none
theorem isTy_any {K : PySem.W.Frag} {t : String} : ∀ {Ts : List String} {b : Bool}, isTy t Ts = some b → PySem.W.kitAny K (.type t) (Ts.map Value.type) = some b
  | [], b, e => by cases e; rfl
  | T :: Ts, b, e => by
    simp only [isTy] at e
    cases q : kitB t T with
    | none => rw [q] at e; cases e
    | some k =>
      rw [q] at e
      cases k with
      | true => injection e with e; subst e; exact kitAny_cons (kit_ty q) (fun h => by cases h) fun _ => rfl
      | false => exact kitAny_cons (kit_ty q) (fun _ => isTy_any e) fun h => by cases h
def isiD (Ts : List String) (fa : Env → Out Opd) : Env → Out D := fun env => (fa env).bind fun o e => Out.of ((((deref o e).bind D.tyN).bind fun t => isTy t Ts).map .bl) e
/-- a built-in type's name -/
structure TyName (X : Cx) (x : Str) (T : String) : Prop where
  gl : Gl X x
  mg : X.mg x = none
  bt : bootBuiltins x = some (.type T)
  nn : x ≠ "__name__"
  db : (x == ("__debug__" : Str)) = false
theorem TyName.pe {x : Str} {T : String} (h : TyName X x T) {pos : Pos} : PE X (.Name x pos) (tC (.ty T)) := pe_bltn h.gl h.mg h.bt rfl h.nn h.db
variable {pf px ps : Pos}
theorem isiD_cases {Ts : List String} {o1 : Opd} {e1 : Env} {K : PySem.W.Frag} {mg : Str → Option Value} {Wx : WX} {F : Fx} {O1 : Own} {σ : L2.St} {H1 : Hp} {Q : VK} (p1 : Pst K mg Wx F O1 σ H1 (Rep K) Q (Out.of ((((deref o1 e1).bind D.tyN).bind fun t => isTy t Ts).map .bl) e1)) :
    ∃ d t k, deref o1 e1 = some d ∧ d.tyN = some t ∧ isTy t Ts = some k ∧ Pst K mg Wx F O1 σ H1 (Rep K) Q (.ok (.bl k) e1) := by
  cases q1 : deref o1 e1 with
  | none => simp only [q1] at p1; exact p1.elim
  | some d =>
    cases q2 : d.tyN with
    | none => simp only [q1, Option.bind_some, q2] at p1; exact p1.elim
    | some t =>
      cases q3 : isTy t Ts with
      | none => simp only [q1, Option.bind_some, q2, q3] at p1; exact p1.elim
      | some k => simp only [q1, Option.bind_some, q2, q3] at p1; exact ⟨d, t, k, rfl, q2, q3, p1⟩
theorem se_isi {fx x : Str} {T : String} (hg : Gl X fx) (hm : X.mg fx = none) (hv : bootBuiltins fx = some (.builtin "isinstance")) (hn : fx ≠ "__name__") (hdb : (fx == ("__debug__" : Str)) = false)
    (hst : PySem.W.isStarred a = false) (ht : TyName X x T) (ha : SO X a fa) : SE X (.Call (.Name fx pf) [a, .Name x px] [] pos) (isiD [T] fa) := by
  intro Wx tk F O σ H env gd Q p
  refine TE.by (pe_callB call_isi hg hm hv (pa_cons pe_of (pa_cons ht.pe pa_nil) (starEach_plain hst _)) hn hdb (starEach_plain hst _) rfl) ?_
  refine ha Wx tk F O σ H env gd _ (Pst.bind p fun o1 e1 v H1 O1 s1 f1 g1 r1 p1 => ?_)
  obtain ⟨d, t, k, q1, q2, q3, p1⟩ := isiD_cases p1
  refine ⟨v, .ty T, .type t, .type T, k, rfl, .ty T, (g1.deref r1 q1).ty q2, kit_ty ?_, p1.ok g1 (.bl _)⟩
  simp only [isTy] at q3
  cases q : kitB t T with
  | none => rw [q] at q3; cases q3
  | some b => rw [q] at q3; cases b <;> (injection q3 with q3; rw [← q3])
theorem paired_ty : ∀ Ts : List String, Paired ClsV (Ts.map V.ty) (Ts.map Value.type)
  | [] => .nil
  | T :: Ts => .cons (.ty T) (paired_ty Ts)
/-- names of built-in types, as a tuple's items -/
inductive TyNames (X : Cx) : List Expr → List String → Prop where
  | nil : TyNames X [] []
  | cons {x : Str} {T : String} {px : Pos} {es : List Expr} {Ts : List String} (h : TyName X x T) (r : TyNames X es Ts) : TyNames X (.Name x px :: es) (T :: Ts)
theorem TyNames.pa : ∀ {es : List Expr} {Ts : List String}, TyNames X es Ts → PA X es (fun σ H Q => Q (Ts.map V.ty) H)
  | _, _, .nil => pa_nil
  | _, _, .cons h r => pa_cons h.pe r.pa
theorem TyNames.len : ∀ {es : List Expr} {Ts : List String}, TyNames X es Ts → es.length = Ts.length
  | _, _, .nil => rfl
  | _, _, .cons _ r => by simp [r.len]
theorem se_isiT {fx : Str} {es : List Expr} {Ts : List String} {kk : Nat} (hg : Gl X fx) (hm : X.mg fx = none) (hv : bootBuiltins fx = some (.builtin "isinstance")) (hn : fx ≠ "__name__") (hdb : (fx == ("__debug__" : Str)) = false)
    (hst : PySem.W.isStarred a = false) (ht : TyNames X es Ts) (hl : Ts.length ≤ sizeLine) (ha : SO X a fa) : SE X (.Call (.Name fx pf) [a, .Tuple es kk px] [] pos) (isiD Ts fa) := by
  intro Wx tk F O σ H env gd Q p
  refine TE.by (pe_callB call_isiT hg hm hv (pa_cons pe_of (pa_cons (pe_tup ht.pa) pa_nil) (starEach_plain hst _)) hn hdb (starEach_plain hst _) rfl) ?_
  refine ha Wx tk F O σ H env gd _ (Pst.bind p fun o1 e1 v H1 O1 s1 f1 g1 r1 p1 => ?_)
  obtain ⟨d, t, k, q1, q2, q3, p1⟩ := isiD_cases p1
  refine ⟨by simpa using hl, fun q hq => ?_⟩
  have sm := same_new (o := HO.tup (Ts.map V.ty)) hq
  have b1 := (g1.deref r1 q1).fr (W := fun _ => False) (Fr.same sm).rd (fun _ z => z.elim) (fun _ _ z => z)
  exact ⟨v, q, Ts.map V.ty, .type t, Ts.map Value.type, k, rfl, upd_same, paired_ty Ts, b1.ty q2, isTy_any q3, p1.okN g1 sm (.bl _)⟩
end
end Rp
set_option Elab.async false
set_option linter.all false
set_option maxRecDepth 100000
/-! RpJ: targets; what a loop walks. -/
namespace Rp
open PySem PySem.Spec PyProof.Rows L2

section
variable {X : Cx}
/-! ### a name is stored -/
theorem getD_set_self {σ : L2.St} {i : Nat} {x : Option V} (h : i < σ.length) : (σ.set i x).getD i none = x := by
  rw [List.getD_eq_getElem?_getD, List.getElem?_set_self h]; rfl
theorem getD_set_ne {σ : L2.St} {i j : Nat} {x : Option V} (h : i ≠ j) : (σ.set i x).getD j none = σ.getD j none := by
  rw [List.getD_eq_getElem?_getD, List.getD_eq_getElem?_getD, List.getElem?_set_ne h]
theorem SlotOk.mono {K : PySem.W.Frag} {F : Fx} {S S' : Addr → Prop} {Oi Pi Li : Option Addr} {H : Hp} {c : Option V} {s : Slot} (h : ∀ a, S' a → S a) (q : SlotOk K F S Oi Pi Li H c s) : SlotOk K F S' Oi Pi Li H c s := by
  cases s with
  | no => exact q
  | val d => obtain ⟨a1, v, a2, a3⟩ := q; exact ⟨a1, v, a2, Rep.mono h a3⟩
  | own par d => obtain ⟨p, a1, a2, a3, a4⟩ := q; exact ⟨p, a1, a2, a3.mono h, a4⟩
  | lck d => obtain ⟨a1, v, a2, a3⟩ := q; exact ⟨a1, v, a2, a3.elim (fun z => .inl (Rep.mono h z)) fun ⟨p', z1, z2, z3, z4⟩ => .inr ⟨p', z1, z2, z3, z4.mono h⟩⟩
  | lkd par d => obtain ⟨a1, p', a2, a3, a4, a5, a6⟩ := q; exact ⟨a1, p', a2, a3, a4, a5.mono h, a6⟩
theorem Good.setVal {K : PySem.W.Frag} {F : Fx} {O : Own} {σ : L2.St} {H : Hp} {e : Env} {i : Nat} {d : D} {v : V} (g : Good K F O σ H e) (r : Rep K H (Sx F.S0 O) v d) (h : i < e.length) (hk : (e.get i).isLk = false) :
    Good K F (O.drop i) (σ.set i (some v)) H (e.set i (.val d)) := by
  have hm : ∀ a, Sx F.S0 (O.drop i) a → Sx F.S0 O a := fun a z => Own.drop_sub.sx z
  refine ⟨by rw [List.length_set, List.length_set]; exact g.len, g.s0, g.d0, fun a b c h1 h2 => ?_, fun a b c h1 h2 => g.lo a b c h1 (by unfold Own.drop at h2; split at h2; cases h2; exact h2), g.ls, g.ps, fun j a z => ?_, fun j => ?_⟩
  · refine g.inj a b c ?_ ?_
    · unfold Own.drop at h1; split at h1; cases h1; exact h1
    · unfold Own.drop at h2; split at h2; cases h2; exact h2
  · have := g.ln j a z
    by_cases hj : j = i
    · subst hj; rw [hk] at this; cases this
    · rw [get_set_ne (Ne.symm hj)]; exact this
  · by_cases hj : j = i
    · subst hj
      rw [get_set_self h, getD_set_self (by rw [← g.len]; exact h)]
      exact ⟨by unfold Own.drop; rw [if_pos rfl], v, rfl, Rep.mono hm r⟩
    · rw [get_set_ne (Ne.symm hj), getD_set_ne (Ne.symm hj)]
      have ej : (O.drop i) j = O j := by unfold Own.drop; rw [if_neg hj]
      rw [ej]
      exact (g.slot j).mono hm

/-! ### targets -/
def TG.of (X : Cx) (tg : Expr) : TG := fun v σ H Q => ∀ pins s u, Inv X pins σ H s → RelV v u → wpAny (model X.prog X.w) X.A (assign tg X.env u) (fun _ s' => ∃ σ' H', Inv X pins σ' H' s' ∧ Q σ' H') X.xe s
theorem pg_of {tg : Expr} : PG X tg (TG.of X tg) := ⟨fun pins s _ _ _ u _ I r h => h pins s u I r⟩
theorem TG.by {tg : Expr} {t : TG} (h : PG X tg t) {v : V} {σ : L2.St} {H : Hp} {Q : L2.St → Hp → Prop} (q : t v σ H Q) : TG.of X tg v σ H Q := fun pins s u I r => h.run pins s σ H v u Q I r q
/-- the target stores d, in the slots is alone -/
def SG (X : Cx) (tg : Expr) (is : List Nat) (g : D → Env → Option Env) : Prop :=
  ∀ F O σ H env v d env', Good X.K F O σ H env → Rep X.K H (Sx F.S0 O) v d → g d env = some env' → ∀ Q : L2.St → Hp → Prop,
    (∀ σ' O', Sub O' O → σ'.length = σ.length → (∀ j, j ∉ is → σ'[j]? = σ[j]?) → Good X.K F O' σ' H env' → Q σ' H) → TG.of X tg v σ H Q
def setN (i : Nat) : D → Env → Option Env := fun d e => if decide (i < e.length) && !(e.get i).isLk then some (e.set i (.val d)) else none
theorem sg_name {i : Nat} {x : Str} {pos : Pos} (hN : X.N.Nodup) (hi : X.N[i]? = some x) (hx : Loc X.env.scope x) (hf : X.fn x = true ∨ X.env.scope.names.lookup x = some .local) : SG X (.Name x pos) [i] (setN i) := by
  intro F O σ H env v d env' g r e Q k
  unfold setN at e
  split at e
  · rename_i hl
    rw [Bool.and_eq_true, decide_eq_true_eq] at hl
    injection e with e; subst e
    refine TG.by (pg_name hN hi hx hf) (k _ _ Own.drop_sub (by rw [List.length_set]) (fun j hj => ?_) (g.setVal r hl.1 (by simpa using hl.2)))
    rw [List.getElem?_set_ne (fun h => hj (by simp [h]))]
  · cases e
/-- several targets, one after another -/
def SGs (X : Cx) (ts : List Expr) (is : List Nat) (g : List D → Env → Option Env) : Prop :=
  ∃ t, PGs X ts t ∧ ∀ F O σ H env vs ds env', Good X.K F O σ H env → Reps X.K H (Sx F.S0 O) vs ds → g ds env = some env' → ∀ Q : L2.St → Hp → Prop,
    (∀ σ' O', Sub O' O → σ'.length = σ.length → (∀ j, j ∉ is → σ'[j]? = σ[j]?) → Good X.K F O' σ' H env' → Q σ' H) → t vs σ H Q
def gNilD : List D → Env → Option Env := fun ds e => if ds.isEmpty then some e else none
def gConsD (g : D → Env → Option Env) (gs : List D → Env → Option Env) : List D → Env → Option Env := fun ds e => match ds with
  | d :: ds => (g d e).bind fun e1 => gs ds e1
  | [] => none
theorem sgs_nil : SGs X [] [] gNilD := by
  refine ⟨_, pgs_nil, fun F O σ H env vs ds env' g r e Q k => ?_⟩
  cases r with
  | nil => simp [gNilD] at e; subst e; exact ⟨rfl, k σ O .refl rfl (fun _ _ => rfl) g⟩
  | cons => simp [gNilD] at e
theorem assignEach_plain {e : Expr} {es : List Expr} (h : PySem.W.isStarred e = false) (env : PySem.Env) : assignEach (e :: es) env = (false, assign e env) :: assignEach es env := by
  cases e <;> first | rfl | (simp [PySem.W.isStarred] at h)
theorem sgs_cons {e : Expr} {es : List Expr} {i1 i2 : List Nat} {g : D → Env → Option Env} {gs : List D → Env → Option Env} (hs : PySem.W.isStarred e = false) (h1 : SG X e i1 g) (h2 : SGs X es i2 gs) : SGs X (e :: es) (i1 ++ i2) (gConsD g gs) := by
  obtain ⟨t, p2, q2⟩ := h2
  refine ⟨_, pgs_cons pg_of p2 (by rw [assignEach_plain hs]; rfl), fun F O σ H env vs ds env' gd r he Q k => ?_⟩
  cases r with
  | nil => cases he
  | @cons v vs d ds r rs =>
    simp only [gConsD] at he
    cases q : g d env with
    | none => rw [q] at he; cases he
    | some e1 =>
      rw [q] at he
      refine ⟨v, vs, rfl, h1 F O σ H env v d e1 gd r q _ fun σ1 O1 s1 l1 k1 g1 => ?_⟩
      refine q2 F O1 σ1 H e1 vs ds env' g1 (Reps.mono (fun _ z => s1.sx z) rs) he Q fun σ2 O2 s2 l2 k2 g2 => ?_
      refine k σ2 O2 (s2.trans s1) (l2.trans l1) (fun j hj => ?_) g2
      rw [k2 j fun z => hj (List.mem_append_right _ z), k1 j fun z => hj (List.mem_append_left _ z)]
def tupD : D → Option (List D)
  | .tup ds => some ds
  | _ => none
def gTupD (n : Nat) (gs : List D → Env → Option Env) : D → Env → Option Env := fun d e => match tupD d with
  | some ds => if ds.length = n then gs ds e else none
  | none => none
theorem assignEach_all {es : List Expr} (h : es.all (fun e => !PySem.W.isStarred e) = true) (env : PySem.Env) : (assignEach es env).length = es.length ∧ (assignEach es env).findIdx? (·.1) = none := by
  induction es with
  | nil => exact ⟨rfl, rfl⟩
  | cons e r ih =>
    rw [List.all_cons, Bool.and_eq_true] at h
    obtain ⟨i1, i2⟩ := ih h.2
    rw [assignEach_plain (by simpa using h.1)]
    refine ⟨by simp [i1], ?_⟩
    rw [List.findIdx?_cons, if_neg (by simp)]
    rw [i2]; rfl
theorem sg_tup {es : List Expr} {kk : Nat} {pos : Pos} {is : List Nat} {gs : List D → Env → Option Env} (hc : X.calm = true) (hst : es.all (fun e => !PySem.W.isStarred e) = true) (h : SGs X es is gs) : SG X (.Tuple es kk pos) is (gTupD es.length gs) := by
  obtain ⟨t, p, q⟩ := h
  intro F O σ H env v d env' g r he Q k
  refine TG.by (pg_tup hc p (assignEach_all hst _).1 (assignEach_all hst _).2) ?_
  unfold gTupD at he
  cases r <;> simp only [tupD] at he <;> first | (cases he; done) | skip
  rename_i a vs ds h r
  split at he
  · rename_i hl
    exact ⟨a, vs, rfl, sqT_of h, by rw [r.length]; exact hl, q F O σ H env vs ds env' g r he Q k⟩
  · cases he

/-! ### items -/
/-- the walk gives the items one by one, while W alone is written -/
def Runs (K : PySem.W.Frag) (S W : Addr → Prop) (H0 : Hp) (J : It) (items : List D) : Prop :=
  ∀ n H2 S2, Fr W H0 H2 → (∀ a, S2 a → S a ∨ H0 a = none) → (∀ a, S2 a → H2 a ≠ none) →
    (n < items.length → J.go n H2 ∧ ∀ x H3, J.yld n H2 x H3 → Same H2 H3 ∧ ∀ d, items[n]? = some d → Rep K H3 S2 x d) ∧ (items.length ≤ n → J.stop n H2)
mutual
theorem Rep.freeS {K : PySem.W.Frag} {H : Hp} {S S' : Addr → Prop} (hs : ∀ a, S' a → S a ∨ H a = none) : ∀ {v : V} {d : D}, Rep K H S v d → Rep K H S' v d
  | _, _, .non => .non
  | _, _, .bl b => .bl b
  | _, _, .int i => .int i
  | _, _, .str x => .str x
  | _, _, .lst q n r => .lst q (fun z => (hs _ z).elim n fun e => by rw [e] at q; cases q) (Reps.freeS hs r)
  | _, _, .scr q r => .scr (q.elim (fun ⟨h1, h2⟩ => .inl ⟨h1, fun z => (hs _ z).elim h2 fun e => rd_some h1 e⟩) .inr) (Reps.freeS hs r)
  | _, _, .tup q r => .tup (q.elim (fun ⟨h1, h2⟩ => .inl ⟨h1, fun z => (hs _ z).elim h2 fun e => rd_some h1 e⟩) .inr) (Reps.freeS hs r)
  | _, _, .dctK q n r => .dctK q (fun z => (hs _ z).elim n fun e => rd_some q e) (Reps.freeS hs r)
  | _, _, .dctT q n r => .dctT q (fun z => (hs _ z).elim n fun e => rd_some q e) (Reps.freeS hs r)
theorem Reps.freeS {K : PySem.W.Frag} {H : Hp} {S S' : Addr → Prop} (hs : ∀ a, S' a → S a ∨ H a = none) : ∀ {vs : List V} {ds : List D}, Reps K H S vs ds → Reps K H S' vs ds
  | _, _, .nil => .nil
  | _, _, .cons r t => .cons (Rep.freeS hs r) (Reps.freeS hs t)
end
/-- the items of a thing, later -/
theorem Reps.later {K : PySem.W.Frag} {S S2 W : Addr → Prop} {H0 H2 : Hp} {vs : List V} {ds : List D} (r : Reps K H0 S vs ds) (hw : ∀ a, W a → S a) (f : Fr W H0 H2) (h : ∀ a, S2 a → S a ∨ H0 a = none) : Reps K H2 S2 vs ds :=
  Reps.mono (S := fun a => S a ∨ S2 a) (fun _ z => .inr z) (Reps.fr f.rd (fun a z => .inl (hw a z)) (Reps.freeS (fun a z => z.elim .inl (h a)) r))
theorem runs_list {K : PySem.W.Frag} {S W : Addr → Prop} {H0 : Hp} {a : Addr} {vs : List V} {ds : List D} (r : Reps K H0 S vs ds) (hw : ∀ a, W a → S a) (hq : ∀ H2, Fr W H0 H2 → SqL K H2 a vs) : Runs K S W H0 (Itl K a) ds := by
  intro n H2 S2 f h1 h2
  refine ⟨fun hn => ?_, fun hn => ⟨vs, hq H2 f, by rw [r.length]; exact hn⟩⟩
  have hv : n < vs.length := by rw [r.length]; exact hn
  refine ⟨⟨vs, vs[n], hq H2 f, by simp [hv]⟩, fun x H3 y => ?_⟩
  obtain ⟨rfl, y⟩ := y
  refine ⟨fun _ _ h => h, fun d hd => ?_⟩
  obtain ⟨v, e1, e2⟩ := (r.later hw f h1).get hd
  have := y vs (hq _ f)
  rw [e1] at this; cases this
  exact e2
theorem runs_tup {K : PySem.W.Frag} {S W : Addr → Prop} {H0 : Hp} {a : Addr} {vs : List V} {ds : List D} (r : Reps K H0 S vs ds) (hw : ∀ a, W a → S a) (hq : ∀ H2, Fr W H0 H2 → SqT K H2 a vs) : Runs K S W H0 (Itt K a) ds := by
  intro n H2 S2 f h1 h2
  refine ⟨fun hn => ?_, fun hn => ⟨vs, hq H2 f, by rw [r.length]; exact hn⟩⟩
  have hv : n < vs.length := by rw [r.length]; exact hn
  refine ⟨⟨vs, vs[n], hq H2 f, by simp [hv]⟩, fun x H3 y => ?_⟩
  obtain ⟨rfl, y⟩ := y
  refine ⟨fun _ _ h => h, fun d hd => ?_⟩
  obtain ⟨v, e1, e2⟩ := (r.later hw f h1).get hd
  have := y vs (hq _ f)
  rw [e1] at this; cases this
  exact e2
def rngL (lo : Int) (n : Nat) : List D := (List.range n).map fun i => .int (lo + (i : Nat))
theorem runs_rng {K : PySem.W.Frag} {S W : Addr → Prop} {H0 : Hp} {lo : Int} {n : Nat} : Runs K S W H0 (Itr lo n) (rngL lo n) := by
  intro i H2 S2 f h1 h2
  have hl : (rngL lo n).length = n := by simp [rngL]
  rw [hl]
  refine ⟨fun hn => ⟨hn, fun x H3 y => ?_⟩, fun hn => hn⟩
  obtain ⟨rfl, rfl⟩ := y
  refine ⟨fun _ _ h => h, fun d hd => ?_⟩
  have : d = .int (lo + (i : Nat)) := by
    unfold rngL at hd
    rw [List.getElem?_map, List.getElem?_range hn] at hd
    simpa using hd.symm
  subst this
  exact .int _
theorem runs_str {K : PySem.W.Frag} {S W : Addr → Prop} {H0 : Hp} {x : Str} : Runs K S W H0 (Its x) (x.cps.toList.map fun c => .str ⟨#[c]⟩) := by
  intro i H2 S2 f h1 h2
  simp only [List.length_map, Array.length_toList]
  refine ⟨fun hn => ⟨hn, fun v H3 y => ?_⟩, fun hn => hn⟩
  obtain ⟨rfl, c, hc, rfl⟩ := y
  refine ⟨fun _ _ h => h, fun d hd => ?_⟩
  rw [List.getElem?_map, Array.getElem?_toList, hc] at hd
  injection hd with hd; subst hd
  exact .str _

/-! ### what is walked -/
def Own.lockO (O : Own) : Option Nat → Own
  | none => O
  | some i => O.drop i
def TI.of (X : Cx) (tg iter : Expr) : TI := fun σ H R => ∀ pins s, Inv X pins σ H s → wpAny (model X.prog X.w) X.A (eval iter X.env) (fun v s1 => wpAny (model X.prog X.w) X.A (pyIter v) (PIE X pins σ tg R) X.xe s1) X.xe s
theorem pi_of {tg iter : Expr} : PI X tg iter (TI.of X tg iter) := ⟨fun pins s _ _ _ I h => h pins s I⟩
theorem TI.by {tg iter : Expr} {t : TI} (h : PI X tg iter t) {σ : L2.St} {H : Hp} {R : It → Hp → Prop} (q : t σ H R) : TI.of X tg iter σ H R := fun pins s I => h.run pins s σ H R I q
/-- the items, and the slot whose own thing is walked -/
abbrev ItD := List D × Option Nat
def SI (X : Cx) (tg iter : Expr) (f : Env → Out ItD) : Prop :=
  ∀ Wx, Takes X Wx → ∀ F O σ H env, Good X.K F O σ H env → ∀ R : It → Hp → Prop,
    (match f env with
      | .ok (items, lk) e' => ∀ J H' O', Sub O' O → Fr (Oset O) H H' → Good X.K F O' σ H' e' → (∀ i, lk = some i → ∃ par d, e'.get i = .own par d) → Runs X.K (Sx F.S0 O') (Oset (O'.lockO lk)) H' J items → R J H'
      | .exc x e' => ∀ cls dx H' O', Sub O' O → Fr (Oset O) H H' → Good X.K F O' σ H' e' → XRep X.mg cls dx x → Wx cls dx σ H'
      | .bad => False) → TI.of X tg iter σ H R
/-- what is wanted of an iterable -/
def PstI (K : PySem.W.Frag) (mg : Str → Option Value) (Wx : WX) (F : Fx) (O : Own) (σ : L2.St) (H : Hp) (R : It → Hp → Prop) : Out ItD → Prop
  | .ok (items, lk) e' => ∀ J H' O', Sub O' O → Fr (Oset O) H H' → Good K F O' σ H' e' → (∀ i, lk = some i → ∃ par d, e'.get i = .own par d) → Runs K (Sx F.S0 O') (Oset (O'.lockO lk)) H' J items → R J H'
  | .exc x e' => ∀ cls dx H' O', Sub O' O → Fr (Oset O) H H' → Good K F O' σ H' e' → XRep mg cls dx x → Wx cls dx σ H'
  | .bad => False
theorem SI.mk {tg iter : Expr} {f : Env → Out ItD} (h : ∀ Wx, Takes X Wx → ∀ F O σ H env, Good X.K F O σ H env → ∀ R, PstI X.K X.mg Wx F O σ H R (f env) → TI.of X tg iter σ H R) : SI X tg iter f := by
  intro Wx tk F O σ H env g R p
  refine h Wx tk F O σ H env g R ?_
  cases q : f env with
  | ok a e' => obtain ⟨items, lk⟩ := a; rw [q] at p; exact p
  | exc x e' => rw [q] at p; exact p
  | bad => rw [q] at p; exact p
theorem SI.use {tg iter : Expr} {f : Env → Out ItD} (h : SI X tg iter f) {Wx : WX} (tk : Takes X Wx) {F : Fx} {O : Own} {σ : L2.St} {H : Hp} {env : Env} (g : Good X.K F O σ H env) {R : It → Hp → Prop} (p : PstI X.K X.mg Wx F O σ H R (f env)) : TI.of X tg iter σ H R := by
  refine h Wx tk F O σ H env g R ?_
  cases q : f env with
  | ok a e' => obtain ⟨items, lk⟩ := a; rw [q] at p; exact p
  | exc x e' => rw [q] at p; exact p
  | bad => rw [q] at p; exact p
theorem PstI.step {K : PySem.W.Frag} {mg : Str → Option Value} {Wx : WX} {F : Fx} {O O1 : Own} {σ : L2.St} {H H1 : Hp} {R : It → Hp → Prop} {o : Out ItD} (h : PstI K mg Wx F O σ H R o) (s : Sub O1 O) (f : Fr (Oset O) H H1) : PstI K mg Wx F O1 σ H1 R o := by
  cases o with
  | ok a e' => obtain ⟨items, lk⟩ := a; exact fun J H' O' s' f' g l r => h J H' O' (s'.trans s) (f.trans (f'.mono fun _ z => s.set z)) g l r
  | exc x e' => exact fun cls dx H' O' s' f' g r => h cls dx H' O' (s'.trans s) (f.trans (f'.mono fun _ z => s.set z)) g r
  | bad => exact h
theorem PstI.bind {K : PySem.W.Frag} {mg : Str → Option Value} {Wx : WX} {F : Fx} {O : Own} {σ : L2.St} {H : Hp} {R : It → Hp → Prop} {δ γ : Type} {R1 : Hp → (Addr → Prop) → δ → γ → Prop} {Q1 : δ → Hp → Prop} {o : Out γ} {f : γ → Env → Out ItD}
    (h : PstI K mg Wx F O σ H R (o.bind f))
    (k : ∀ d e1 v H1 O1, Sub O1 O → Fr (Oset O) H H1 → Good K F O1 σ H1 e1 → R1 H1 (Sx F.S0 O1) v d → PstI K mg Wx F O1 σ H1 R (f d e1) → Q1 v H1) : Pst K mg Wx F O σ H R1 Q1 o := by
  cases o with
  | ok d e' => exact fun v H' O' s' f' g r => k d e' v H' O' s' f' g r (PstI.step h s' f')
  | exc x e' => exact h
  | bad => exact h
theorem PstI.ok {K : PySem.W.Frag} {mg : Str → Option Value} {Wx : WX} {F : Fx} {O : Own} {σ : L2.St} {H : Hp} {R : It → Hp → Prop} {items : List D} {lk : Option Nat} {e : Env} {J : It} (h : PstI K mg Wx F O σ H R (.ok (items, lk) e)) (g : Good K F O σ H e)
    (l : ∀ i, lk = some i → ∃ par d, e.get i = .own par d) (r : Runs K (Sx F.S0 O) (Oset (O.lockO lk)) H J items) : R J H := h J H O .refl .refl g l r
variable {tg a b c : Expr} {fa fb fc : Env → Out Opd} {va vb vc : Env → Out D} {pos : Pos}
/-- a list (of a value), a tuple -/
def seqI (va : Env → Out D) : Env → Out ItD := fun env => (va env).bind fun d e => match itemsD d with
  | some xs => .ok (xs, none) e
  | none => .bad
def isLst : D → Bool
  | .lst _ => true
  | .scr _ => true
  | _ => false
def lstI (va : Env → Out D) : Env → Out ItD := fun env => (va env).bind fun d e => match d with
  | .lst xs => .ok (xs, none) e
  | .scr xs => .ok (xs, none) e
  | _ => .bad
def tupI (va : Env → Out D) : Env → Out ItD := fun env => (va env).bind fun d e => match d with
  | .tup xs => .ok (xs, none) e
  | _ => .bad
def strI (va : Env → Out D) : Env → Out ItD := fun env => (va env).bind fun d e => match d with
  | .str x => .ok (x.cps.toList.map fun c => .str ⟨#[c]⟩, none) e
  | _ => .bad
theorem si_lst (ha : SE X a va) : SI X tg a (lstI va) := by
  refine SI.mk fun Wx tk F O σ H env g R p => TI.by (pi_list pe_of) ?_
  refine ha Wx tk F O σ H env g _ (PstI.bind p fun d e1 v H1 O1 s f g1 r1 p1 => ?_)
  cases r1 with
  | lst h n r =>
    exact ⟨_, rfl, ⟨_, .inl (.inl h)⟩, p1.ok g1 (fun i e => by cases e) (runs_list r (fun a z => .inr z) fun H2 f2 => .inl (.inl (f2.eq _ _ h fun z => n (.inr z))))⟩
  | scr h r =>
    have hq : SqL X.K H1 _ _ := h.elim (fun z => .inl z.1) .inr
    refine ⟨_, rfl, ⟨_, hq⟩, p1.ok g1 (fun i e => by cases e) (runs_list r (fun a z => .inr z) fun H2 f2 => ?_)⟩
    exact h.elim (fun z => .inl (f2.rd.1 _ _ z.1 fun w => z.2 (.inr w))) .inr
  | _ => exact p1.elim
theorem si_tup (ha : SE X a va) : SI X tg a (tupI va) := by
  refine SI.mk fun Wx tk F O σ H env g R p => TI.by (pi_tup pe_of) ?_
  refine ha Wx tk F O σ H env g _ (PstI.bind p fun d e1 v H1 O1 s f g1 r1 p1 => ?_)
  cases r1 with
  | tup h r =>
    refine ⟨_, rfl, ⟨_, sqT_of h⟩, p1.ok g1 (fun i e => by cases e) (runs_tup r (fun a z => .inr z) fun H2 f2 => ?_)⟩
    exact h.elim (fun z => .inl (f2.rd.1 _ _ z.1 fun w => z.2 (.inr w))) .inr
  | _ => exact p1.elim
theorem si_str (ha : SE X a va) : SI X tg a (strI va) := by
  refine SI.mk fun Wx tk F O σ H env g R p => TI.by (pi_str pe_of) ?_
  refine ha Wx tk F O σ H env g _ (PstI.bind p fun d e1 v H1 O1 s f g1 r1 p1 => ?_)
  cases r1 with
  | str x => exact ⟨x, rfl, p1.ok g1 (fun i e => by cases e) runs_str⟩
  | _ => exact p1.elim
/-- range(a), range(a, b): ends within 2^62 -/
def rOk (i : Int) : Bool := decide (-(2 ^ 62) ≤ i) && decide (i < 2 ^ 62)
def rng1I (fs : Env → Out (List Opd)) : Env → Out ItD := fun env => (fs env).bind fun os e => match valsO os with
  | some [.int j] => if rOk j then .ok (rngL 0 j.toNat, none) e else .bad
  | _ => .bad
def rng2I (fs : Env → Out (List Opd)) : Env → Out ItD := fun env => (fs env).bind fun os e => match valsO os with
  | some [.int i, .int j] => if rOk i && rOk j then .ok (rngL i (j - i).toNat, none) e else .bad
  | _ => .bad
theorem si_rng1 {pf : Pos} {fs : Env → Out (List Opd)} (hg : Gl X "range") (hm : X.mg "range" = none) (hst : PySem.W.isStarred a = false) (ha : SA X [a] fs) : SI X tg (.Call (.Name "range" pf) [a] [] pos) (rng1I fs) := by
  refine SI.mk fun Wx tk F O σ H env g R p => TI.by (pi_range1 hg hm pa_of (starEach_plain hst _)) ?_
  refine ha Wx tk F O σ H env g _ (PstI.bind p fun os e1 vs H1 O1 s f g1 r1 p1 => ?_)
  cases q : valsO os with
  | none => simp only [q] at p1; exact p1.elim
  | some ds =>
    have rv := valsO_reps r1 q
    simp only [q] at p1
    match ds, rv, p1 with
    | [.int j], rv, p1 =>
      cases rv with
      | cons r t =>
        cases t; cases r
        have p1' : PstI X.K X.mg Wx F O1 σ H1 R (if rOk j then .ok (rngL 0 j.toNat, none) e1 else .bad) := p1
        split at p1'
        · rename_i hj
          simp only [rOk, Bool.and_eq_true, decide_eq_true_eq] at hj
          exact ⟨j, rfl, hj.1, hj.2, p1'.ok g1 (fun i e => by cases e) runs_rng⟩
        · exact p1'.elim
theorem si_rng2 {pf : Pos} {fs : Env → Out (List Opd)} (hg : Gl X "range") (hm : X.mg "range" = none) (hst : PySem.W.isStarred a = false) (hst2 : PySem.W.isStarred b = false) (ha : SA X [a, b] fs) : SI X tg (.Call (.Name "range" pf) [a, b] [] pos) (rng2I fs) := by
  refine SI.mk fun Wx tk F O σ H env g R p => TI.by (pi_range2 hg hm pa_of (by rw [starEach_plain hst, starEach_plain hst2]; rfl) (starEach_plain hst2 _)) ?_
  refine ha Wx tk F O σ H env g _ (PstI.bind p fun os e1 vs H1 O1 s f g1 r1 p1 => ?_)
  cases q : valsO os with
  | none => simp only [q] at p1; exact p1.elim
  | some ds =>
    have rv := valsO_reps r1 q
    simp only [q] at p1
    match ds, rv, p1 with
    | [.int i, .int j], rv, p1 =>
      cases rv with
      | cons r t =>
        cases t with
        | cons r2 t =>
          cases t; cases r; cases r2
          have p1' : PstI X.K X.mg Wx F O1 σ H1 R (if rOk i && rOk j then .ok (rngL i (j - i).toNat, none) e1 else .bad) := p1
          split at p1'
          · rename_i hj
            simp only [rOk, Bool.and_eq_true, decide_eq_true_eq] at hj
            exact ⟨i, j, rfl, ⟨hj.1.1, hj.1.2, hj.2.1, hj.2.2⟩, p1'.ok g1 (fun i e => by cases e) runs_rng⟩
          · exact p1'.elim
end
end Rp
set_option Elab.async false
set_option linter.all false
set_option maxRecDepth 100000
/-! RpK: an own thing walked; list comprehensions. -/
namespace Rp
open PySem PySem.Spec PyProof.Rows L2

section
variable {X : Cx} {tg a b c : Expr} {fa fb fc : Env → Out Opd} {va vb vc : Env → Out D} {pos : Pos}
/-- an own list by its name: nobody changes it meanwhile -/
def borI (i : Nat) : Env → Out ItD := fun env => match env.get i with
  | .own _ (.lst xs) => .ok (xs, some i) env
  | .lck (.lst xs) => .ok (xs, none) env
  | .lkd _ (.lst xs) => .ok (xs, none) env
  | .val (.lst xs) => .ok (xs, none) env
  | _ => .bad
theorem si_bor {i : Nat} {x : Str} (hN : X.N[i]? = some x) (hv : Vis X.env.scope x) (hd : (x == ("__debug__" : Str)) = false) (hcd : (x == ("__classdict__" : Str)) = false) : SI X tg (.Name x pos) (borI i) := by
  refine SI.mk fun Wx tk F O σ H env g R p => TI.by (pi_list (pe_var hN hv hd hcd)) ?_
  have q := g.slot i
  unfold borI at p
  split at p
  · rename_i par xs c
    rw [c] at q
    obtain ⟨a, q1, q2, q3, q4⟩ := q
    rcases q3 with ⟨vs, ds, e1, h, r⟩ | ⟨_, _, e1, _⟩ | ⟨_, _, e1, _⟩
    · cases e1
      refine ⟨.ref a, of_getD q2, a, rfl, ⟨_, .inl (.inl h)⟩, p.ok g (fun j e => by cases e; exact ⟨par, _, c⟩) (runs_list r (fun b z => .inr (Own.drop_sub.set z)) fun H2 f2 => .inl (.inl (f2.eq _ _ h fun ⟨j, z⟩ => ?_)))⟩
      have z' : (O.drop i) j = some a := z
      unfold Own.drop at z'
      split at z'
      · cases z'
      · rename_i ne; exact ne (g.inj _ _ _ z' q1)
    · cases e1
    · cases e1
  · rename_i xs c
    rw [c] at q
    obtain ⟨q0, v, q2, q3⟩ := q
    rcases q3 with r | ⟨a, rfl, q3, q4, r⟩
    · cases r with
      | lst h n r => exact ⟨_, of_getD q2, _, rfl, ⟨_, .inl (.inl h)⟩, p.ok g (fun i e => by cases e) (runs_list r (fun a z => .inr z) fun H2 f2 => .inl (.inl (f2.eq _ _ h fun z => n (.inr z))))⟩
    · cases r with
      | lst h r =>
        refine ⟨_, of_getD q2, _, rfl, ⟨_, .inl (.inl h)⟩, p.ok g (fun i e => by cases e) (runs_list r (fun a z => .inr z) fun H2 f2 => .inl (.inl (f2.eq _ _ h fun ⟨j, z⟩ => ?_)))⟩
        exact g.lo _ _ _ q3 z
  · rename_i par xs c
    rw [c] at q
    obtain ⟨q0, a, q2, q3, q4, r, q5⟩ := q
    have r' := r.b
    cases r' with
    | lst h r =>
      refine ⟨_, of_getD q2, _, rfl, ⟨_, .inl (.inl h)⟩, p.ok g (fun i e => by cases e) (runs_list r (fun a z => .inr z) fun H2 f2 => .inl (.inl (f2.eq _ _ h fun ⟨j, z⟩ => ?_)))⟩
      exact g.lo _ _ _ q3 z
  · rename_i xs c
    rw [c] at q
    obtain ⟨q0, v, q2, r⟩ := q
    cases r with
    | lst h n r => exact ⟨_, of_getD q2, _, rfl, ⟨_, .inl (.inl h)⟩, p.ok g (fun i e => by cases e) (runs_list r (fun a z => .inr z) fun H2 f2 => .inl (.inl (f2.eq _ _ h fun z => n (.inr z))))⟩
  · exact p.elim

/-! ### list comprehensions -/
theorem wipe_get {σ : L2.St} {vs : List Nat} {i : Nat} : (wipe σ vs)[i]? = if i ∈ vs then (if i < σ.length then some none else none) else σ[i]? := by
  induction vs with
  | nil => simp [wipe]
  | cons v vs ih =>
    show ((wipe σ vs).set v none)[i]? = _
    by_cases hv : v = i
    · subst hv
      rw [if_pos (by simp)]
      by_cases hl : v < σ.length
      · rw [List.getElem?_set_self (by rw [wipe_length]; exact hl), if_pos hl]
      · rw [List.getElem?_eq_none (by rw [List.length_set, wipe_length]; omega), if_neg hl]
    · rw [List.getElem?_set_ne hv, ih]
      by_cases hm : i ∈ vs
      · rw [if_pos hm, if_pos (show i ∈ v :: vs from List.mem_cons_of_mem _ hm)]
      · rw [if_neg hm, if_neg (show ¬ i ∈ v :: vs from fun z => (List.mem_cons.mp z).elim (fun z => hv z.symm) hm)]
/-- stores in vs alone are wiped away -/
theorem wipe_again {σ σ2 : L2.St} {vs is : List Nat} (hl : σ2.length = (wipe σ vs).length) (h : ∀ j, j ∉ is → σ2[j]? = (wipe σ vs)[j]?) (hs : ∀ j ∈ is, j ∈ vs) : wipe σ2 vs = wipe σ vs := by
  apply List.ext_getElem?
  intro i
  rw [wipe_get, wipe_get]
  by_cases hm : i ∈ vs
  · rw [if_pos hm, if_pos hm, hl, wipe_length]
  · rw [if_neg hm, if_neg hm, h i fun z => hm (hs i z), wipe_get, if_neg hm]
def wipeE (e : Env) : List Nat → Env
  | [] => e
  | v :: vs => (wipeE e vs).set v .no
theorem wipeE_length (e : Env) : ∀ vs, (wipeE e vs).length = e.length
  | [] => rfl
  | v :: vs => by rw [wipeE, List.length_set, wipeE_length e vs]
theorem wipeE_get {e : Env} {vs : List Nat} {i : Nat} : (wipeE e vs).get i = if i ∈ vs then .no else e.get i := by
  induction vs with
  | nil => simp [wipeE]
  | cons v vs ih =>
    show Env.get ((wipeE e vs).set v .no) i = _
    by_cases hv : v = i
    · subst hv
      rw [if_pos (by simp)]
      by_cases hl : v < (wipeE e vs).length
      · rw [get_set_self hl]
      · unfold Env.get
        rw [List.getD_eq_getElem?_getD, List.getElem?_eq_none (by rw [List.length_set]; omega)]; rfl
    · rw [get_set_ne hv, ih]
      by_cases hm : i ∈ vs
      · rw [if_pos hm, if_pos (by simp [hm])]
      · rw [if_neg hm, if_neg (by simp [hm, Ne.symm hv])]
/-- the slots vs as they were in e0 -/
def backE (e0 e : Env) : List Nat → Env
  | [] => e
  | v :: vs => (backE e0 e vs).set v (e0.get v)
theorem backE_length (e0 e : Env) : ∀ vs, (backE e0 e vs).length = e.length
  | [] => rfl
  | v :: vs => by rw [backE, List.length_set, backE_length e0 e vs]
theorem backE_get {e0 e : Env} {vs : List Nat} {i : Nat} (hl : e.length = e0.length) : (backE e0 e vs).get i = if i ∈ vs then e0.get i else e.get i := by
  induction vs with
  | nil => simp [backE]
  | cons v vs ih =>
    show Env.get ((backE e0 e vs).set v (e0.get v)) i = _
    by_cases hv : v = i
    · subst hv
      rw [if_pos (by simp)]
      by_cases hl' : v < (backE e0 e vs).length
      · rw [get_set_self hl']
      · have h0 : e0.get v = .no := by
          unfold Env.get
          rw [List.getD_eq_getElem?_getD, List.getElem?_eq_none (by rw [backE_length] at hl'; omega)]; rfl
        unfold Env.get at h0 ⊢
        rw [h0, List.getD_eq_getElem?_getD, List.getElem?_eq_none (by rw [List.length_set]; omega)]; rfl
    · rw [get_set_ne hv, ih]
      by_cases hm : i ∈ vs
      · rw [if_pos hm, if_pos (by simp [hm])]
      · rw [if_neg hm, if_neg (by simp [hm, Ne.symm hv])]
def plainS : Slot → Bool
  | .no => true
  | .val _ => true
  | _ => false
/-- the frame while the own thing p of slot i is walked -/
def Fx.lockF (F : Fx) (i : Nat) (p : Addr) : Fx := { F with S0 := fun a => F.S0 a ∨ a = p, L := fun j => if j = i then some p else F.L j }
def lockE (e : Env) (i : Nat) : Env := match e.get i with
  | .own par d => e.set i (.lkd par d)
  | _ => e
def unlockE (par : Bool) (e : Env) (i : Nat) : Option Env := match e.get i with
  | .lkd par' d => if par' = par then some (e.set i (.own par d)) else none
  | _ => none
theorem Good.lock {K : PySem.W.Frag} {F : Fx} {O : Own} {σ : L2.St} {H : Hp} {e : Env} {i : Nat} {par : Bool} {d : D} {p : Addr} (g : Good K F O σ H e) (h : e.get i = .own par d) (ho : O i = some p) :
    Good K (F.lockF i p) (O.drop i) σ H (lockE e i) := by
  have q := g.at h
  obtain ⟨p', q1, q2, q3, q4, q5⟩ := q
  rw [ho] at q1; cases q1
  have hdr : ∀ j a, (O.drop i) j = some a → O j = some a ∧ j ≠ i := fun j a z => by unfold Own.drop at z; split at z; cases z; rename_i ne; exact ⟨z, ne⟩
  have hS : ∀ a, Sx (F.lockF i p).S0 (O.drop i) a → Sx F.S0 O a := by
    rintro a ((z | rfl) | ⟨j, z⟩)
    · exact .inl z
    · exact .inr ⟨i, ho⟩
    · exact .inr ⟨j, (hdr j a z).1⟩
  have e1 : lockE e i = e.set i (.lkd par d) := by unfold lockE; rw [h]
  rw [e1]
  refine ⟨by rw [List.length_set]; exact g.len, ?_, g.d0, fun a b c h1 h2 => g.inj a b c (hdr _ _ h1).1 (hdr _ _ h2).1, ?_, ?_, fun j a z => .inl (g.ps j a z), fun j a z => ?_, fun j => ?_⟩
  · rintro a (z | rfl)
    · exact g.s0 a z
    · exact g.dom (.inr ⟨i, ho⟩)
  · intro a b c h1 h2
    have h2' := hdr _ _ h2
    have h1' : (if a = i then some p else F.L a) = some c := h1
    split at h1'
    · cases h1'; exact h2'.2 (g.inj _ _ _ h2'.1 ho)
    · exact g.lo a b c h1' h2'.1
  · intro a c h1
    have h1' : (if a = i then some p else F.L a) = some c := h1
    split at h1'
    · cases h1'; exact .inr rfl
    · exact .inl (g.ls a c h1')
  · by_cases hj : j = i
    · subst hj; rw [get_set_self (get_lt (by rw [h]; simp))]; rfl
    · have z' : (if j = i then some p else F.L j) = some a := z
      rw [if_neg hj] at z'
      rw [get_set_ne (Ne.symm hj)]; exact g.ln j a z'
  · by_cases hj : j = i
    · subst hj
      rw [get_set_self (get_lt (by rw [h]; simp))]
      refine ⟨by unfold Own.drop; rw [if_pos rfl], p, q2, ?_, .inr rfl, q3.r.mono hS, fun hp => (q4 hp).2⟩
      show (if j = j then some p else F.L j) = some p
      rw [if_pos rfl]
    · rw [get_set_ne (Ne.symm hj)]
      have qj := (g.slot j).mono hS
      have ej : (O.drop i) j = O j := by unfold Own.drop; rw [if_neg hj]
      have el : (F.lockF i p).L j = F.L j := by show (if j = i then some p else F.L j) = _; rw [if_neg hj]
      rw [ej, el]
      cases c : e.get j with
      | no => rw [c] at qj; exact qj
      | val d' => rw [c] at qj; exact qj
      | own par' d' =>
        rw [c] at qj; obtain ⟨p', a1, a2, a3, a4, a5⟩ := qj
        refine ⟨p', a1, a2, a3, fun hp => ⟨.inl (a4 hp).1, (a4 hp).2⟩, fun hp => ⟨?_, (a5 hp).2⟩⟩
        rintro (z | rfl)
        · exact (a5 hp).1 z
        · exact hj (g.inj _ _ _ a1 ho)
      | lck d' => rw [c] at qj; obtain ⟨a1, v, a2, a3⟩ := qj; exact ⟨a1, v, a2, a3.imp id fun ⟨p', z1, z2, z3, z4⟩ => ⟨p', z1, z2, .inl z3, z4⟩⟩
      | lkd par' d' => rw [c] at qj; obtain ⟨a1, p', a2, a3, a4, a5⟩ := qj; exact ⟨a1, p', a2, a3, .inl a4, a5⟩
/-- and back -/
theorem Good.unlockG {K : PySem.W.Frag} {F : Fx} {O2 : Own} {σ2 : L2.St} {H2 : Hp} {e2 e3 : Env} {i : Nat} {par : Bool} {p : Addr} {u : HO} (hu2 : H2 p = some u) (mu : Mut (some u))
    (q4 : par = true → F.S0 p ∧ F.P i = some p) (q5 : par = false → ¬ F.S0 p ∧ F.H0 p = none) (gls : ∀ i p, F.L i = some p → F.S0 p) (gps : ∀ i p, F.P i = some p → F.S0 p) (glo : ∀ a, F.L a ≠ some p) (gln : ∀ a, F.L i ≠ some a)
    (g2 : Good K (F.lockF i p) O2 σ2 H2 e2) (he : unlockE par e2 i = some e3) :
    Good K F (fun j => if j = i then some p else O2 j) σ2 H2 e3 := by
  unfold unlockE at he
  split at he
  · rename_i par2 d2 c2
    by_cases hpar : par2 = par
    case neg => rw [if_neg hpar] at he; cases he
    rw [if_pos hpar] at he
    subst hpar
    injection he with he; subst he
    have r := g2.at c2
    obtain ⟨r0, p2, r1, r2, r3, r4, r5⟩ := r
    have el : (F.lockF i p).L i = some p := by show (if i = i then some p else F.L i) = _; rw [if_pos rfl]
    rw [el] at r2; cases r2
    have hnp : ∀ j, O2 j ≠ some p := fun j z => g2.lo i j p el z
    have hS : ∀ a, Sx F.S0 (fun j => if j = i then some p else O2 j) a → Sx (F.lockF i p).S0 O2 a := by
      rintro a (z | ⟨j, z⟩)
      · exact .inl (.inl z)
      · have z' : (if j = i then some p else O2 j) = some a := z
        split at z'
        · cases z'; exact .inl (.inr rfl)
        · exact .inr ⟨j, z'⟩
    have own2 : OwnRep K H2 (Sx F.S0 (fun j => if j = i then some p else O2 j)) p d2 := (r4.mono hS).own hu2 mu
    refine ⟨by rw [List.length_set]; exact g2.len, fun a z => g2.s0 a (.inl z), g2.d0, ?_, ?_, gls, gps, fun j a z => ?_, fun j => ?_⟩
    · intro a b c h1 h2
      have h1' : (if a = i then some p else O2 a) = some c := h1
      have h2' : (if b = i then some p else O2 b) = some c := h2
      split at h1' <;> split at h2'
      · rename_i x y; rw [x, y]
      · cases h1'; exact absurd h2' (hnp b)
      · cases h2'; exact absurd h1' (hnp a)
      · exact g2.inj a b c h1' h2'
    · intro a b c h1 h2
      have h2' : (if b = i then some p else O2 b) = some c := h2
      split at h2'
      · cases h2'; exact glo a h1
      · rename_i nb
        by_cases ha : a = i
        · subst ha
          exact gln c h1
        · exact g2.lo a b c (show (if a = i then some p else F.L a) = some c by rw [if_neg ha]; exact h1) h2'
    · by_cases hj : j = i
      · subst hj; exact (gln a z).elim
      · rw [get_set_ne (Ne.symm hj)]
        exact g2.ln j a (show (if j = i then some p else F.L j) = some a by rw [if_neg hj]; exact z)
    · by_cases hj : j = i
      · subst hj
        rw [get_set_self (get_lt (by rw [c2]; simp))]
        exact ⟨p, by show (if j = j then some p else O2 j) = some p; rw [if_pos rfl], r1, own2, q4, q5⟩
      · rw [get_set_ne (Ne.symm hj)]
        have eo : (if j = i then some p else O2 j) = O2 j := if_neg hj
        have el : (F.lockF i p).L j = F.L j := by show (if j = i then some p else F.L j) = _; rw [if_neg hj]
        have qj := (g2.slot j).mono hS
        rw [el] at qj
        show SlotOk K F _ (if j = i then some p else O2 j) _ _ _ _ _
        rw [eo]
        cases c : e2.get j with
        | no => rw [c] at qj; exact qj
        | val d' => rw [c] at qj; exact qj
        | own par' d' =>
          rw [c] at qj; obtain ⟨p', a1, a2, a3, a4, a5⟩ := qj
          refine ⟨p', a1, a2, a3, fun hp => ⟨?_, (a4 hp).2⟩, fun hp => ⟨fun z => (a5 hp).1 (.inl z), (a5 hp).2⟩⟩
          rcases (a4 hp).1 with z | rfl
          · exact z
          · exact absurd a1 (hnp j)
        | lck d' =>
          rw [c] at qj; obtain ⟨a1, v, a2, a3⟩ := qj
          refine ⟨a1, v, a2, a3.imp id fun ⟨p', z1, z2, z3, z4⟩ => ⟨p', z1, z2, gls _ _ z2, z4⟩⟩
        | lkd par' d' =>
          rw [c] at qj; obtain ⟨a1, p', a2, a3, a4, a5⟩ := qj
          exact ⟨a1, p', a2, a3, gls _ _ a3, a5⟩
  · cases he
theorem Good.unlock {K : PySem.W.Frag} {F : Fx} {O O2 : Own} {σ σ2 : L2.St} {H H2 : Hp} {e e2 e3 : Env} {i : Nat} {par : Bool} {d : D} {p : Addr} (g : Good K F O σ H e) (h : e.get i = .own par d) (ho : O i = some p)
    (g2 : Good K (F.lockF i p) O2 σ2 H2 e2) (f : ∀ u, H p = some u → H2 p = some u) (he : unlockE par e2 i = some e3) :
    Good K F (fun j => if j = i then some p else O2 j) σ2 H2 e3 := by
  have q := g.at h
  obtain ⟨p', q1, q2, q3, q4, q5⟩ := q
  rw [ho] at q1; cases q1
  obtain ⟨u, hu, mu⟩ := q3.mut
  exact Good.unlockG (f u hu) mu q4 q5 g.ls g.ps (fun a z => g.lo a i p z ho) (fun a z => by have := g.ln i a z; rw [h] at this; cases this) g2 he
end
end Rp
set_option Elab.async false
set_option linter.all false
set_option maxRecDepth 100000
/-! RpL: list comprehensions. -/
namespace Rp
open PySem PySem.Spec PyProof.Rows L2

section
variable {K : PySem.W.Frag} {F : Fx} {O O0 O2 : Own} {σ : L2.St} {H H0 H2 : Hp} {e e0 e2 : Env} {vs : List Nat} {D0 : Addr}
theorem wipe_getD {σ : L2.St} {vs : List Nat} {i : Nat} (h : i ∉ vs) : (wipe σ vs).getD i none = σ.getD i none := by
  rw [List.getD_eq_getElem?_getD, List.getD_eq_getElem?_getD, wipe_get, if_neg h]
theorem Good.wipedO (g : Good K F O σ H e) (hv : ∀ i ∈ vs, O i = none ∧ F.L i = none) : Good K F O (wipe σ vs) H (wipeE e vs) := by
  refine ⟨by rw [wipeE_length, wipe_length]; exact g.len, g.s0, g.d0, g.inj, g.lo, g.ls, g.ps, fun i p z => ?_, fun i => ?_⟩
  · rw [wipeE_get]
    split
    · rename_i hm; rw [(hv i hm).2] at z; cases z
    · exact g.ln i p z
  · rw [wipeE_get]
    split
    · rename_i hm; exact (hv i hm).1
    · rename_i hm; rw [wipe_getD hm]; exact g.slot i
theorem Good.plain (g : Good K F O σ H e) {i : Nat} (h : plainS (e.get i) = true) : O i = none ∧ F.L i = none := by
  have q := g.slot i
  have l : ∀ p, F.L i = some p → False := fun p z => by
    have := g.ln i p z
    cases c : e.get i <;> rw [c] at h this <;> simp [Slot.isLk, plainS] at h this
  refine ⟨?_, ?_⟩
  · cases c : e.get i <;> rw [c] at h q <;> first | (simp [plainS] at h; done) | skip
    · exact q
    · exact q.1
  · cases c : F.L i with
    | none => rfl
    | some p => exact (l p c).elim
theorem Good.back (g0 : Good K F O0 σ H0 e0) (hv : ∀ i ∈ vs, plainS (e0.get i) = true) (g2 : Good K F O2 (wipe σ vs) H2 e2) (s : Sub O2 O0) {W : Addr → Prop} (f : Fr W H0 H2) (hw : ∀ a, W a → Sx F.S0 O0 a) : Good K F O2 σ H2 (backE e0 e2 vs) := by
  have hl : e2.length = e0.length := by rw [g2.len, wipe_length, g0.len]
  refine ⟨by rw [backE_length, g2.len, wipe_length], g2.s0, g2.d0, g2.inj, g2.lo, g2.ls, g2.ps, fun i p z => ?_, fun i => ?_⟩
  · rw [backE_get hl]
    split
    · exact g0.ln i p z
    · exact g2.ln i p z
  · rw [backE_get hl]
    split
    · rename_i hm
      have h := hv i hm
      have q := g0.slot i
      have hO : O0 i = none → O2 i = none := fun z => (s i).elim (fun w => w.trans z) id
      cases c : e0.get i <;> rw [c] at h q <;> first | (cases h; done) | skip
      · exact hO q
      · obtain ⟨q1, v, q2, q3⟩ := q
        exact ⟨hO q1, v, q2, Rep.mono (fun _ z => s.sx z) (Rep.fr f.rd hw q3)⟩
    · rename_i hm
      have q := g2.slot i
      rw [wipe_getD hm] at q; exact q
theorem Good.moreD (g : Good K F O σ H e) {o : HO} (h : H D0 = none) : Good K (F.more D0) O σ (upd H D0 o) e := by
  have hS : ∀ a, Sx (F.more D0).S0 O a → Sx F.S0 O a ∨ a = D0 := by
    rintro a ((z | z) | z)
    · exact .inl (.inl z)
    · exact .inr z
    · exact .inl (.inr z)
  have f : Fr (fun _ => False) H (upd H D0 o) := Fr.new h
  refine ⟨g.len, ?_, fun a z => f.dom a (g.d0 a z), g.inj, g.lo, fun i p z => .inl (g.ls i p z), fun i p z => .inl (g.ps i p z), g.ln, fun i => ?_⟩
  · rintro a (z | rfl)
    · exact f.dom a (g.s0 a z)
    · rw [upd_same]; simp
  · have q := g.slot i
    cases c : e.get i with
    | no => rw [c] at q; exact q
    | val d => rw [c] at q; obtain ⟨q1, v, q2, q3⟩ := q; exact ⟨q1, v, q2, Rep.fr f.rd (fun _ z => z.elim) (Rep.free h hS q3)⟩
    | own par d =>
      rw [c] at q; obtain ⟨p, q1, q2, q3, q4, q5⟩ := q
      have hp : p ≠ D0 := fun z => g.dom (.inr ⟨i, q1⟩) (z ▸ h)
      refine ⟨p, q1, q2, (q3.free h hS).fr f.rd (fun _ z => z.elim) (fun u z => by rw [upd_ne hp]; exact z), fun hq => ⟨.inl (q4 hq).1, (q4 hq).2⟩, fun hq => ⟨?_, (q5 hq).2⟩⟩
      rintro (z | z)
      · exact (q5 hq).1 z
      · exact hp z
    | lck d =>
      rw [c] at q; obtain ⟨q1, v, q2, q3⟩ := q
      exact ⟨q1, v, q2, q3.elim (fun z => .inl (Rep.fr f.rd (fun _ z => z.elim) (Rep.free h hS z))) fun ⟨p, z1, z2, z3, z4⟩ => .inr ⟨p, z1, z2, .inl z3, (z4.free h hS).fr f.rd (fun _ z => z.elim) (fun _ _ z => z.elim)⟩⟩
    | lkd par d =>
      rw [c] at q; obtain ⟨q1, p, q2, q3, q4, q5, q6⟩ := q
      refine ⟨q1, p, q2, q3, .inl q4, ?_, q6⟩
      rcases q5 with ⟨xs, ds, rfl, w, r⟩ | ⟨xs, ds, rfl, w, r⟩ | ⟨xs, ds, rfl, w, r⟩
      · exact .inl ⟨_, _, rfl, f.eq _ _ w fun z => z, Reps.fr f.rd (fun _ z => z.elim) (Reps.free h hS r)⟩
      · exact .inr (.inl ⟨_, _, rfl, f.rd.1 _ _ w fun z => z, Reps.fr f.rd (fun _ z => z.elim) (Reps.free h hS r)⟩)
      · exact .inr (.inr ⟨_, _, rfl, f.rd.1 _ _ w fun z => z, Reps.fr f.rd (fun _ z => z.elim) (Reps.free h hS r)⟩)
theorem Good.lessD (g : Good K (F.more D0) O σ H e) (hls : ∀ i p, F.L i = some p → F.S0 p) (hps : ∀ i p, F.P i = some p → F.S0 p) : Good K F O σ H e := by
  have hS : ∀ a, Sx F.S0 O a → Sx (F.more D0).S0 O a := fun a z => z.elim (fun z => .inl (.inl z)) .inr
  refine ⟨g.len, fun a z => g.s0 a (.inl z), g.d0, g.inj, g.lo, hls, hps, g.ln, fun i => ?_⟩
  have q := (g.slot i).mono hS
  cases c : e.get i with
  | no => rw [c] at q; exact q
  | val d => rw [c] at q; exact q
  | own par d => rw [c] at q; obtain ⟨p, q1, q2, q3, q4, q5⟩ := q; exact ⟨p, q1, q2, q3, fun hq => ⟨hps _ _ (q4 hq).2, (q4 hq).2⟩, fun hq => ⟨fun z => (q5 hq).1 (.inl z), (q5 hq).2⟩⟩
  | lck d => rw [c] at q; obtain ⟨q1, v, q2, q3⟩ := q; exact ⟨q1, v, q2, q3.imp id fun ⟨p, z1, z2, z3, z4⟩ => ⟨p, z1, z2, hls _ _ z2, z4⟩⟩
  | lkd par d => rw [c] at q; obtain ⟨q1, p, q2, q3, q4, q5⟩ := q; exact ⟨q1, p, q2, q3, hls _ _ q3, q5⟩
/-- the list at D0 is written -/
theorem Good.accD (g : Good K (F.more D0) O σ H e) {o : HO} (hL : ∀ i, F.L i ≠ some D0) (hP : ∀ i, F.P i ≠ some D0) : Good K (F.more D0) O σ (upd H D0 o) e := by
  have f : Fr (fun a => a = D0) H (upd H D0 o) := Fr.write (W := fun a => a = D0) rfl
  have hW : ∀ a, a = D0 → Sx (F.more D0).S0 O a := fun a z => .inl (.inr z)
  refine ⟨g.len, fun a z => f.dom a (g.s0 a z), fun a z => f.dom a (g.d0 a z), g.inj, g.lo, g.ls, g.ps, g.ln, fun i => ?_⟩
  have q := g.slot i
  cases c : e.get i with
  | no => rw [c] at q; exact q
  | val d => rw [c] at q; obtain ⟨q1, v, q2, q3⟩ := q; exact ⟨q1, v, q2, Rep.fr f.rd hW q3⟩
  | own par d =>
    rw [c] at q; obtain ⟨p, q1, q2, q3, q4, q5⟩ := q
    have hp : p ≠ D0 := by
      rintro rfl
      cases par with
      | true => exact hP i (q4 rfl).2
      | false => exact (q5 rfl).1 (.inr rfl)
    exact ⟨p, q1, q2, q3.fr f.rd hW (fun u z => by rw [upd_ne hp]; exact z), q4, q5⟩
  | lck d =>
    rw [c] at q; obtain ⟨q1, v, q2, q3⟩ := q
    exact ⟨q1, v, q2, q3.elim (fun z => .inl (Rep.fr f.rd hW z)) fun ⟨p, z1, z2, z3, z4⟩ => .inr ⟨p, z1, z2, z3, z4.fr f.rd hW (fun a e z => by cases e; exact hL i (z ▸ z2))⟩⟩
  | lkd par d =>
    rw [c] at q; obtain ⟨q1, p, q2, q3, q4, q5, q6⟩ := q
    exact ⟨q1, p, q2, q3, q4, q5.fr f.rd hW (fun z => hL i (z ▸ q3)), q6⟩
end

def noX {α : Type} : Out α → Out α
  | .ok a e => .ok a e
  | _ => .bad
/-- the elements one by one -/
def lcL (vs : List Nat) (g : D → Env → Option Env) (q : Env → Out Bool) (f : Env → Out D) : List D → Env → Out (List D)
  | [], e => .ok [] e
  | x :: xs, e => match g x e with
    | some e1 => (noX (q e1)).bind fun b e2 => if b then (noX (f e2)).bind fun d e3 => (lcL vs g q f xs (wipeE e3 vs)).bind fun ds e4 => .ok (d :: ds) e4 else lcL vs g q f xs (wipeE e2 vs)
    | none => .bad
theorem lcL_noX (vs : List Nat) (g : D → Env → Option Env) (q : Env → Out Bool) (f : Env → Out D) : ∀ (xs : List D) (e : Env), noX (lcL vs g q f xs e) = lcL vs g q f xs e
  | [], e => rfl
  | x :: xs, e => by
    simp only [lcL]
    cases g x e with
    | none => rfl
    | some e1 =>
      simp only
      cases q e1 with
      | ok b e2 =>
        simp only [noX, Out.bind]
        cases b with
        | true =>
          simp only [if_true]
          cases f e2 with
          | ok d e3 =>
            simp only
            have ih := lcL_noX vs g q f xs (wipeE e3 vs)
            cases h : lcL vs g q f xs (wipeE e3 vs) with
            | ok ds e4 => rfl
            | exc x e4 => rw [h] at ih; cases ih
            | bad => rfl
          | exc x e3 => rfl
          | bad => rfl
        | false => exact lcL_noX vs g q f xs (wipeE e2 vs)
      | exc x e2 => rfl
      | bad => rfl
def lcD (vs : List Nat) (it : Env → Out ItD) (g : D → Env → Option Env) (q : Env → Out Bool) (f : Env → Out D) : Env → Out D := fun env =>
  (it env).bind fun p e0 => if decide (p.1.length < sizeLine) && vs.all (fun i => plainS (e0.get i)) then
      match p.2 with
      | none => (lcL vs g q f p.1 (wipeE e0 vs)).bind fun ds e => .ok (.lst ds) (backE e0 e vs)
      | some i => match e0.get i with
        | .own par _ => (lcL vs g q f p.1 (wipeE (lockE e0 i) vs)).bind fun ds e => match unlockE par (backE (lockE e0 i) e vs) i with
          | some e' => .ok (.lst ds) e'
          | none => .bad
        | _ => .bad
    else .bad

section
variable {X : Cx} {tg iter elt : Expr} {scope : Scope} {pos : Pos}
/-- the block's contexts -/
abbrev Cx.bl (X : Cx) (scope : Scope) (s : Shared) (H : Hp) (C : Addr) (cl : List (Str × Addr)) (fp : List Addr) : Cx := X.blk s H scope (compEnvC scope cl C X.env) fp
abbrev AllB (X : Cx) (scope : Scope) (P : Cx → Prop) : Prop := ∀ (s : Shared) (H : Hp) (C : Addr) (cl : List (Str × Addr)) (fp : List Addr), P (X.blk s H scope (compEnvC scope cl C X.env) fp)
def STs (X : Cx) (ifs : List Expr) (f : Env → Out Bool) : Prop :=
  (ifs = [] ∧ f = fun env => .ok true env) ∨ ∃ c, ifs = [c] ∧ ST X c f
def TTs.of (X : Cx) (ifs : List Expr) : TT := fun σ H Q => ∀ pins s, Inv X pins σ H s → wpAny (model X.prog X.w) X.A (forIn ifs true fun c r => if r = true then do let ok ← isTrue c X.env (eval c X.env); pure (ForInStep.yield ok) else pure (ForInStep.yield r)) (TP X pins σ Q) X.xe s
theorem pts_of {ifs : List Expr} : PTs X ifs (TTs.of X ifs) := ⟨fun pins s _ _ _ I h => h pins s I⟩
theorem STs.run {ifs : List Expr} {f : Env → Out Bool} (h : STs X ifs f) {Wx : WX} (tk : Takes X Wx) {F : Fx} {O : Own} {σ : L2.St} {H : Hp} {env : Env} (g : Good X.K F O σ H env) {Q : Bool → Hp → Prop}
    (p : Pst X.K X.mg Wx F O σ H (fun _ _ b c => b = c) Q (f env)) : TTs.of X ifs σ H Q := by
  rcases h with ⟨rfl, rfl⟩ | ⟨c, rfl, h⟩
  · exact fun pins s I => pts_nil.run pins s σ H Q I (p.ok g rfl)
  · exact fun pins s I => (pts_one pt_of).run pins s σ H Q I (h Wx tk F O σ H env g Q p)
/-- the walk of a comprehension, from its items on -/
theorem lc_walk {K : PySem.W.Frag} {mg : Str → Option Value} {F : Fx} {O1 : Own} {σ : L2.St} {H1 : Hp} {e1 : Env} {vs is : List Nat} {g : D → Env → Option Env} {q : Env → Out Bool} {f : Env → Out D} {items : List D} {J : It} {D0 : Addr}
    {gg : TG} {tt : TT} {te : TE} {Q : VK} (hv : ∀ i ∈ vs, O1 i = none ∧ F.L i = none) (his : ∀ j ∈ is, j ∈ vs)
    (g1 : Good K F O1 (wipe σ vs) H1 e1) (hr : Runs K (Sx F.S0 O1) (Oset O1) H1 J items) (hn : items.length < sizeLine) (hD : H1 D0 = none)
    (hg : ∀ F O σ' H env v d env', Good K F O σ' H env → Rep K H (Sx F.S0 O) v d → g d env = some env' → ∀ Q : L2.St → Hp → Prop,
      (∀ σ2 O', Sub O' O → σ2.length = σ'.length → (∀ j, j ∉ is → σ2[j]? = σ'[j]?) → Good K F O' σ2 H env' → Q σ2 H) → gg v σ' H Q)
    (ht : ∀ F O σ' H env, Good K F O σ' H env → ∀ Q : Bool → Hp → Prop, Pst K mg (fun _ _ _ _ => False) F O σ' H (fun _ _ b c => b = c) Q (q env) → tt σ' H Q)
    (he : ∀ F O σ' H env, Good K F O σ' H env → ∀ Q : VK, Pst K mg (fun _ _ _ _ => False) F O σ' H (Rep K) Q (f env) → te σ' H Q)
    (fin : match lcL vs g q f items e1 with
      | .ok ds e' => ∀ H' O' acc, Good K (F.more D0) O' (wipe σ vs) H' e' → Sub O' O1 → Fr (Oset O1) H1 H' → H' D0 = some (.lst acc) → Reps K H' (Sx (F.more D0).S0 O') acc ds → Q (.ref D0) H'
      | _ => False) :
    ∃ W : Nat → Nat → Hp → Prop, (∃ m, W 0 m (upd H1 D0 (.lst []))) ∧ ∀ i m H, W i m H →
      (J.stop i H ∧ Q (.ref D0) H) ∨ (J.go i H ∧ ∃ Nx : Hp → Prop, (∀ H', Nx H' → ∃ m', m' < m ∧ W (i + 1) m' H') ∧ ∀ x H', J.yld i H x H' → gg x (wipe σ vs) H' fun σ2 H2 => wipe σ2 vs = wipe σ vs ∧ tt σ2 H2 fun b H3 =>
        if b = true then te σ2 H3 fun y H4 => ∃ acc, H4 D0 = some (.lst acc) ∧ acc.length < sizeLine ∧ Nx (upd H4 D0 (.lst (acc ++ [y]))) else Nx H3) := by
  have hLD : ∀ i, F.L i ≠ some D0 := fun i z => g1.s0 _ (g1.ls _ _ z) hD
  have hPD : ∀ i, F.P i ≠ some D0 := fun i z => g1.s0 _ (g1.ps _ _ z) hD
  have hOD : ¬ Oset O1 D0 := fun z => g1.dom (.inr z) hD
  let Inv' : Nat → Hp → Prop := fun i H => i ≤ items.length ∧ ∃ e O acc ds, Good K (F.more D0) O (wipe σ vs) H e ∧ Sub O O1 ∧ Fr (Oset O1) H1 H ∧ H D0 = some (.lst acc) ∧ Reps K H (Sx (F.more D0).S0 O) acc ds ∧ acc.length ≤ i ∧
    (match (lcL vs g q f (items.drop i) e).bind fun ds2 e' => .ok (ds ++ ds2) e' with
      | .ok ds e' => ∀ H' O' acc, Good K (F.more D0) O' (wipe σ vs) H' e' → Sub O' O1 → Fr (Oset O1) H1 H' → H' D0 = some (.lst acc) → Reps K H' (Sx (F.more D0).S0 O') acc ds → Q (.ref D0) H'
      | _ => False)
  refine ⟨fun i m H => m = items.length - i ∧ Inv' i H, ⟨items.length, by simp, Nat.zero_le _, e1, O1, [], [], g1.moreD hD, .refl, Fr.new hD, upd_same, .nil, Nat.le_refl _, ?_⟩, ?_⟩
  · rw [List.drop_zero]
    cases h : lcL vs g q f items e1 with
    | ok ds e' => rw [h] at fin; exact fin
    | exc x e' => rw [h] at fin; exact fin
    | bad => rw [h] at fin; exact fin
  rintro i m H ⟨rfl, hi, e, O, acc, ds, gd, s, fr, hacc, racc, lacc, rest⟩
  have hS2 : ∀ a, Sx (F.more D0).S0 O a → Sx F.S0 O1 a ∨ H1 a = none := by
    rintro a ((z | z) | z)
    · exact .inl (.inl z)
    · exact .inr (z ▸ hD)
    · exact .inl (.inr (s.set z))
  obtain ⟨r1, r2⟩ := hr i H (Sx (F.more D0).S0 O) fr hS2 fun a z => gd.dom z
  by_cases hlt : i < items.length
  · refine .inr ⟨(r1 hlt).1, fun H' => Inv' (i + 1) H', fun H' z => ⟨_, by omega, rfl, z⟩, fun x H' y => ?_⟩
    obtain ⟨sm, rep⟩ := (r1 hlt).2 x H' y
    have hx : items[i]? = some items[i] := by simp [hlt]
    have rx := rep _ hx
    have gd' := gd.same sm
    have hdrop : items.drop i = items[i] :: items.drop (i + 1) := List.drop_eq_getElem_cons hlt
    rw [hdrop] at rest
    simp only [lcL] at rest
    cases hg1 : g items[i] e with
    | none => rw [hg1] at rest; exact rest.elim
    | some ea =>
      rw [hg1] at rest
      simp only at rest
      refine hg _ O _ H' e x _ ea gd' rx hg1 _ fun σ2 Oa sa la ka ga => ⟨wipe_again la ka his, ?_⟩
      have hvO : ∀ O', Sub O' O → ∀ j ∈ vs, O' j = none ∧ (F.more D0).L j = none := fun O' s' j hj => ⟨((s'.trans s) j).elim (fun z => z.trans (hv j hj).1) id, (hv j hj).2⟩
      have fr' : Fr (Oset O1) H1 H' := fr.trans (Fr.same sm)
      have hacc' : H' D0 = some (.lst acc) := sm _ _ hacc
      have racc' : Reps K H' (Sx (F.more D0).S0 O) acc ds := Reps.fr (W := fun _ => False) (Fr.same sm).rd (fun _ z => z.elim) racc
      -- back to the wiped frame
      have wip : ∀ {O' H'' e''}, Sub O' O → Good K (F.more D0) O' σ2 H'' e'' → Good K (F.more D0) O' (wipe σ vs) H'' (wipeE e'' vs) := by
        intro O' H'' e'' s' g'
        have h1 := wipe_again la ka his
        have := g'.wipedO (vs := vs) (hvO O' s')
        rw [h1] at this; exact this
      have kn : ∀ {O' H''}, Sub O' O → Fr (Oset O) H' H'' → Fr (Oset O1) H1 H'' ∧ H'' D0 = some (.lst acc) ∧ Reps K H'' (Sx (F.more D0).S0 O') acc ds := by
        intro O' H'' s' f'
        refine ⟨fr'.trans (f'.mono fun a z => s.set z), f'.eq _ _ hacc' fun z => hOD (s.set z), Reps.mono (fun _ z => s'.sx z) (Reps.fr f'.rd (fun _ z => .inr z) racc')⟩
      cases hq1 : q ea with
      | exc x e2 => rw [hq1] at rest; exact rest.elim
      | bad => rw [hq1] at rest; exact rest.elim
      | ok b e2 =>
        rw [hq1] at rest
        refine ht _ Oa σ2 H' ea ga _ ?_
        rw [hq1]
        intro b' H3 O3 s3 f3 g3 rb
        subst rb
        have s3' := s3.trans sa
        have f3' := f3.mono fun a z => sa.set z
        cases b' with
        | false =>
          rw [if_neg Bool.false_ne_true]
          simp only [noX, Out.bind, Bool.false_eq_true, if_false] at rest
          obtain ⟨k1, k2, k3⟩ := kn s3' f3'
          exact ⟨hlt, _, O3, acc, ds, wip s3' g3, s3'.trans s, k1, k2, k3, by omega, rest⟩
        | true =>
          rw [if_pos rfl]
          simp only [noX, Out.bind, if_true] at rest
          cases hf1 : f e2 with
          | exc x e3 => rw [hf1] at rest; exact rest.elim
          | bad => rw [hf1] at rest; exact rest.elim
          | ok d e3 =>
            rw [hf1] at rest
            refine he _ O3 σ2 H3 e2 g3 _ ?_
            rw [hf1]
            intro y H4 O4 s4 f4 g4 ry
            have s4' := s4.trans s3'
            have f4' := f3'.trans (f4.mono fun a z => s3'.set z)
            obtain ⟨k1, k2, k3⟩ := kn s4' f4'
            refine ⟨acc, k2, by omega, hlt, wipeE e3 vs, O4, acc ++ [y], ds ++ [d], ?_, s4'.trans s, ?_, upd_same, ?_, by simp; omega, ?_⟩
            · exact (wip s4' g4).accD hLD hPD
            · exact ⟨fun a u w n => by
                have hne : a ≠ D0 := fun z => by rw [z, hD] at w; cases w
                rw [upd_ne hne]; exact k1.eq a u w n, fun a w => by
                by_cases z : a = D0
                · rw [z, upd_same]; simp
                · rw [upd_ne z]; exact k1.dom a w⟩
            · have fw : FrR (fun a => a = D0) H4 (upd H4 D0 (.lst (acc ++ [y]))) := (Fr.write (W := fun a => a = D0) rfl).rd
              exact Reps.append (Reps.fr fw (fun a z => .inl (.inr z)) k3) (.cons (Rep.fr fw (fun a z => .inl (.inr z)) ry) .nil)
            · simp only [noX, Out.bind] at rest ⊢
              cases hl : lcL vs g q f (items.drop (i + 1)) (wipeE e3 vs) with
              | ok ds' e' => rw [hl] at rest; simp only [Out.bind] at rest ⊢; rw [List.append_assoc]; exact rest
              | exc x e' => rw [hl] at rest; exact rest
              | bad => rw [hl] at rest; exact rest
  · have e : i = items.length := by omega
    subst e
    refine .inl ⟨r2 (Nat.le_refl _), ?_⟩
    rw [List.drop_length] at rest
    simp only [lcL, Out.bind, List.append_nil] at rest
    exact rest H O acc gd s fr hacc racc
end
end Rp
set_option Elab.async false
set_option linter.all false
set_option maxRecDepth 100000
/-! RpM: list comprehensions, as expressions and stored. -/
namespace Rp
open PySem PySem.Spec PyProof.Rows L2

section
variable {X : Cx} {tg iter elt : Expr} {scope : Scope} {pos : Pos}
theorem takes00 {X : Cx} : Takes X (fun _ _ _ _ => False) := fun _ _ x => by
  obtain ⟨_, _, _, _, _, _, _, _, _, _, _, _, _, _, _, _, w⟩ := x
  exact w.elim
def TG.bl (X : Cx) (scope : Scope) (tg : Expr) : TG := fun v σ H Q => ∀ (s : Shared) (H0 : Hp) (C : Addr) (cl : List (Str × Addr)) (fp : List Addr), TG.of (X.blk s H0 scope (compEnvC scope cl C X.env) fp) tg v σ H Q
def TTs.bl (X : Cx) (scope : Scope) (ifs : List Expr) : TT := fun σ H Q => ∀ (s : Shared) (H0 : Hp) (C : Addr) (cl : List (Str × Addr)) (fp : List Addr), TTs.of (X.blk s H0 scope (compEnvC scope cl C X.env) fp) ifs σ H Q
def TE.bl (X : Cx) (scope : Scope) (e : Expr) : TE := fun σ H Q => ∀ (s : Shared) (H0 : Hp) (C : Addr) (cl : List (Str × Addr)) (fp : List Addr), TE.of (X.blk s H0 scope (compEnvC scope cl C X.env) fp) e σ H Q
def TI.bl (X : Cx) (scope : Scope) (tg e : Expr) : TI := fun σ H Q => ∀ (s : Shared) (H0 : Hp) (C : Addr) (cl : List (Str × Addr)) (fp : List Addr), TI.of (X.blk s H0 scope (compEnvC scope cl C X.env) fp) tg e σ H Q
theorem pg_bl {s : Shared} {H : Hp} {C : Addr} {cl : List (Str × Addr)} {fp : List Addr} : PG (X.blk s H scope (compEnvC scope cl C X.env) fp) tg (TG.bl X scope tg) := ⟨fun pins s _ _ _ u _ I r h => pg_of.run pins s _ _ _ u _ I r (h _ _ _ _ _)⟩
theorem pts_bl {ifs : List Expr} {s : Shared} {H : Hp} {C : Addr} {cl : List (Str × Addr)} {fp : List Addr} : PTs (X.blk s H scope (compEnvC scope cl C X.env) fp) ifs (TTs.bl X scope ifs) := ⟨fun pins s _ _ _ I h => pts_of.run pins s _ _ _ I (h _ _ _ _ _)⟩
theorem pe_bl {e : Expr} {s : Shared} {H : Hp} {C : Addr} {cl : List (Str × Addr)} {fp : List Addr} : PE (X.blk s H scope (compEnvC scope cl C X.env) fp) e (TE.bl X scope e) := ⟨fun pins s _ _ _ I h => pe_of.run pins s _ _ _ I (h _ _ _ _ _)⟩
theorem pi_bl {e : Expr} {s : Shared} {H : Hp} {C : Addr} {cl : List (Str × Addr)} {fp : List Addr} : PI (X.blk s H scope (compEnvC scope cl C X.env) fp) tg e (TI.bl X scope tg e) := ⟨fun pins s _ _ _ I h => pi_of.run pins s _ _ _ I (h _ _ _ _ _)⟩

theorem Sub.drop {O O' : Own} {i : Nat} (s : Sub O' (O.drop i)) : Sub O' O := s.trans Own.drop_sub

theorem lockF_more {F : Fx} {i : Nat} {p D0 : Addr} : (F.lockF i p).more D0 = (F.more D0).lockF i p := by
  unfold Fx.lockF Fx.more
  simp only [Fx.mk.injEq, and_self, and_true]
  funext a
  exact propext or_right_comm
/-- behind a comprehension's walk the new list alone may stand otherwise -/
theorem fr_new {W : Addr → Prop} {H H' : Hp} {D0 : Addr} {o : HO} (f : Fr W H H') (h : H' D0 ≠ none) : Fr (fun a => W a ∨ a = D0) (upd H D0 o) H' := by
  refine ⟨fun a u w n => ?_, fun a w => ?_⟩
  · rw [upd_ne fun z => n (.inr z)] at w; exact f.eq a u w fun z => n (.inl z)
  · by_cases z : a = D0
    · exact z ▸ h
    · rw [upd_ne z] at w; exact f.dom a w
/-- the wanted end of a comprehension, in its terms -/
theorem lc_key {ifs : List Expr} {vs is : List Nat} {it : Env → Out ItD} {g : D → Env → Option Env} {q : Env → Out Bool} {f : Env → Out D} (his : ∀ j ∈ is, j ∈ vs)
    (hi : SI X tg iter it) (hg : AllB X scope fun B => SG B tg is g) (ht : AllB X scope fun B => STs B ifs q) (he : AllB X scope fun B => SE B elt f)
    {Wx : WX} (tk : Takes X Wx) {F : Fx} {O : Own} {σ : L2.St} {H : Hp} {env : Env} (gd : Good X.K F O σ H env) {Q : VK}
    (p : PstF X.K X.mg Wx F O σ H Q (lcD vs it g q f env)) :
    tLc (TI.of X tg iter) (TG.bl X scope tg) (TTs.bl X scope ifs) (TE.bl X scope elt) vs σ H Q := by
  unfold lcD at p
  refine hi Wx tk F O σ H env gd _ ?_
  cases ci : it env with
  | bad => rw [ci] at p; exact p.elim
  | exc x e' => rw [ci] at p; exact p
  | ok pr e0 =>
    obtain ⟨items, lk⟩ := pr
    rw [ci] at p
    intro J H1 O1 s1 f1 g1 hlk hr D0 hD
    simp only [Out.bind] at p
    split at p
    case isFalse => exact p.elim
    rename_i hb
    rw [Bool.and_eq_true, decide_eq_true_eq, List.all_eq_true] at hb
    obtain ⟨hlen, hpl⟩ := hb
    have hg' : ∀ (F : Fx) (O : Own) (σ' : L2.St) (H : Hp) (env : Env) (v : V) (d : D) (env' : Env), Good X.K F O σ' H env → Rep X.K H (Sx F.S0 O) v d → g d env = some env' → ∀ Q : L2.St → Hp → Prop,
      (∀ σ2 O', Sub O' O → σ2.length = σ'.length → (∀ j, j ∉ is → σ2[j]? = σ'[j]?) → Good X.K F O' σ2 H env' → Q σ2 H) → TG.bl X scope tg v σ' H Q := fun F O σ' H env v d env' a b c Q k s H0 C cl fp => hg s H0 C cl fp F O σ' H env v d env' a b c Q k
    have ht' : ∀ (F : Fx) (O : Own) (σ' : L2.St) (H : Hp) (env : Env), Good X.K F O σ' H env → ∀ Q : Bool → Hp → Prop, Pst X.K X.mg (fun _ _ _ _ => False) F O σ' H (fun _ _ b c => b = c) Q (q env) → TTs.bl X scope ifs σ' H Q := fun F O σ' H env a Q k s H0 C cl fp => (ht s H0 C cl fp).run takes00 a k
    have he' : ∀ (F : Fx) (O : Own) (σ' : L2.St) (H : Hp) (env : Env), Good X.K F O σ' H env → ∀ Q : VK, Pst X.K X.mg (fun _ _ _ _ => False) F O σ' H (Rep X.K) Q (f env) → TE.bl X scope elt σ' H Q := fun F O σ' H env a Q k s H0 C cl fp => he s H0 C cl fp _ takes00 F O σ' H env a Q k
    cases lk with
    | none =>
      simp only at p
      have hv : ∀ i ∈ vs, O1 i = none ∧ F.L i = none := fun i hm => g1.plain (hpl i hm)
      refine lc_walk (F := F) (e1 := wipeE e0 vs) hv his (g1.wipedO hv) hr hlen hD hg' ht' he' ?_
      have hx := lcL_noX vs g q f items (wipeE e0 vs)
      cases cl : lcL vs g q f items (wipeE e0 vs) with
      | bad => rw [cl] at p; exact p.elim
      | exc x e' => rw [cl] at hx; cases hx
      | ok ds e' =>
        rw [cl] at p
        intro H' O' acc g2 s2 f2 ha ra
        have hLD : ∀ i p, F.L i = some p → F.S0 p := g1.ls
        have g3 := (g2.lessD g1.ls g1.ps)
        have g4 : Good X.K F O' σ H' (backE e0 e' vs) := g1.back hpl g3 s2 f2 fun _ z => .inr z
        have hDn : H' D0 ≠ none := by rw [ha]; simp
        have g5 : Good X.K (F.more D0) O' σ H' (backE e0 e' vs) := (g1.moreD (o := .lst []) hD).back hpl g2 s2 (fr_new f2 hDn) fun a z => z.elim .inr fun w => .inl (.inr w)
        refine p (.ref D0) H' O' (s2.trans s1) (f1.trans (f2.mono fun a z => s1.set z)) g4 ⟨?_, ?_⟩ fun ds _ p e => by cases e; exact g5
        · have hn : ¬ Sx F.S0 O' D0 := by
            rintro (z | z)
            · exact g1.s0 _ z hD
            · exact g1.dom (.inr (s2.set z)) hD
          exact .lst ha hn (Reps.mono (fun a z => z.elim (fun z => .inl (.inl z)) .inr) ra)
        · intro ds' e1; cases e1
          refine ⟨D0, acc, rfl, f1.none hD, ha, Reps.mono (fun a z => ?_) ra⟩
          rcases z with (z | z) | z
          · exact .inl (.inl z)
          · exact .inr z
          · exact .inl (.inr z)
    | some i =>
      simp only at p
      obtain ⟨par, d, hown⟩ := hlk i rfl
      simp only [hown] at p
      obtain ⟨pp, q1, q2, q3, q4, q5⟩ := g1.at hown
      have gl := g1.lock hown q1
      have hpl' : ∀ j ∈ vs, plainS ((lockE e0 i).get j) = true := fun j hm => by
        unfold lockE; rw [hown]
        by_cases hj : i = j
        · subst hj; have := hpl i hm; rw [hown] at this; cases this
        · simp only; rw [get_set_ne hj]; exact hpl j hm
      have hv : ∀ j ∈ vs, (O1.drop i) j = none ∧ (F.lockF i pp).L j = none := fun j hm => gl.plain (hpl' j hm)
      have hr' : Runs X.K (Sx (F.lockF i pp).S0 (O1.drop i)) (Oset (O1.drop i)) H1 J items := by
        intro n H2 S2 h1 h2 h3
        refine hr n H2 S2 h1 (fun a z => (h2 a z).imp_left ?_) h3
        rintro ((z | rfl) | z)
        · exact .inl z
        · exact .inr ⟨i, q1⟩
        · exact .inr (Own.drop_sub.set z)
      refine lc_walk (F := F.lockF i pp) (e1 := wipeE (lockE e0 i) vs) hv his (gl.wipedO hv) hr' hlen hD hg' ht' he' ?_
      have hx := lcL_noX vs g q f items (wipeE (lockE e0 i) vs)
      cases cl : lcL vs g q f items (wipeE (lockE e0 i) vs) with
      | bad => rw [cl] at p; exact p.elim
      | exc x e' => rw [cl] at hx; cases hx
      | ok ds e' =>
        rw [cl] at p
        intro H' O' acc g2 s2 f2 ha ra
        have g3 := (g2.lessD gl.ls gl.ps)
        have g4 : Good X.K (F.lockF i pp) O' σ H' (backE (lockE e0 i) e' vs) := gl.back hpl' g3 s2 f2 fun _ z => .inr z
        have hDn : H' D0 ≠ none := by rw [ha]; simp
        have gl' := (g1.moreD (o := .lst []) hD).lock hown q1
        have g4' := gl'.back hpl' (lockF_more ▸ g2) s2 (fr_new f2 hDn) fun a z => z.elim .inr fun w => .inl (.inl (.inr w))
        have hop : ∀ a, Oset (O1.drop i) a → a ≠ pp := by
          rintro a ⟨j, z⟩ rfl
          unfold Own.drop at z; split at z
          · cases z
          · rename_i ne; exact ne (g1.inj _ _ _ z q1)
        have hDp : D0 ≠ pp := fun z => g1.dom (.inr ⟨i, q1⟩) (z ▸ hD)
        simp only at p
        cases cu : unlockE par (backE (lockE e0 i) e' vs) i with
        | none => rw [cu] at p; exact p.elim
        | some e'' =>
          rw [cu] at p
          have g5 := g1.unlock hown q1 g4 (fun u hu => f2.eq _ _ hu fun z => hop _ z rfl) cu
          have g5' := (g1.moreD (o := .lst []) hD).unlock hown q1 g4' (fun u hu => by rw [upd_ne hDp.symm] at hu; exact f2.eq _ _ hu fun z => hop _ z rfl) cu
          have s3 : Sub (fun j => if j = i then some pp else O' j) O1 := fun j => by
            by_cases hj : j = i
            · subst hj; left; simp only [if_true]; exact q1.symm
            · simp only [if_neg hj]
              rcases s2 j with z | z
              · left; rw [z]; unfold Own.drop; rw [if_neg hj]
              · exact .inr z
          have hS : ∀ a, Sx F.S0 (fun j => if j = i then some pp else O' j) a → Sx ((F.lockF i pp).more D0).S0 O' a := by
            rintro a (z | ⟨j, z⟩)
            · exact .inl (.inl (.inl z))
            · have z' : (if j = i then some pp else O' j) = some a := z
              split at z'
              · cases z'; exact .inl (.inl (.inr rfl))
              · exact .inr ⟨j, z'⟩
          refine p (.ref D0) H' _ (s3.trans s1) (f1.trans ((f2.mono fun a z => Own.drop_sub.set z).mono fun a z => s1.set z)) g5 ⟨?_, ?_⟩ fun ds _ p e => by cases e; exact g5'
          · have hn : ¬ Sx F.S0 (fun j => if j = i then some pp else O' j) D0 := by
              rintro (z | z)
              · exact g1.s0 _ z hD
              · exact g1.dom (.inr (s3.set z)) hD
            exact .lst ha hn (Reps.mono hS ra)
          · intro ds' e1; cases e1
            refine ⟨D0, acc, rfl, f1.none hD, ha, Reps.mono (fun a z => ?_) ra⟩
            rcases z with z | rfl
            · exact hS a z
            · exact .inl (.inr rfl)
theorem sf_lc {ifs : List Expr} {own : List (Str × Nat)} {is : List Nat} {it : Env → Out ItD} {g : D → Env → Option Env} {q : Env → Out Bool} {f : Env → Out D} (hc : X.calm = true) (hN : X.N.Nodup) (ok : BlkOk X.N X.env.scope scope own)
    (his : ∀ j ∈ is, j ∈ own.map (·.2)) (hs : ∀ x, foldedSetIterable iter X.env x = pure x)
    (hi : SI X tg iter it) (hg : AllB X scope fun B => SG B tg is g) (ht : AllB X scope fun B => STs B ifs q) (he : AllB X scope fun B => SE B elt f) :
    SF X (.ListComp elt [⟨tg, iter, ifs, 0⟩] scope pos) (lcD (own.map (·.2)) it g q f) := by
  intro Wx tk F O σ H env gd Q p
  exact TE.by (pe_lc hc hN pi_of ok (fun _ _ _ _ _ => pg_bl) (fun _ _ _ _ _ => pts_bl) (fun _ _ _ _ _ => pe_bl) hs) (lc_key his hi hg ht he tk gd p)
end
end Rp
set_option Elab.async false
set_option linter.all false
set_option maxRecDepth 100000
/-! RpN: statements. -/
namespace Rp
open PySem PySem.Spec PyProof.Rows L2

/-- what is owned later: as before, or new since H -/
def Nw (O' O : Own) (H : Hp) : Prop := ∀ i, O' i = O i ∨ O' i = none ∨ ∃ p, O' i = some p ∧ H p = none
theorem Nw.refl {O : Own} {H : Hp} : Nw O O H := fun _ => .inl rfl
theorem Sub.nw {O' O : Own} {H : Hp} (s : Sub O' O) : Nw O' O H := fun i => (s i).imp id .inl
theorem Nw.set {O' O : Own} {H : Hp} (s : Nw O' O H) {p : Addr} (h : Oset O' p) : Oset O p ∨ H p = none := by
  obtain ⟨i, e⟩ := h
  rcases s i with q | q | ⟨p', q, n⟩
  · exact .inl ⟨i, q ▸ e⟩
  · rw [q] at e; cases e
  · rw [q] at e; cases e; exact .inr n
theorem Nw.trans {O O1 O2 : Own} {W : Addr → Prop} {H H1 : Hp} (a : Nw O2 O1 H1) (b : Nw O1 O H) (f : Fr W H H1) : Nw O2 O H := fun i => by
  rcases a i with h | h | ⟨p, h, n⟩
  · rw [h]; exact b i
  · exact .inr (.inl h)
  · exact .inr (.inr ⟨p, h, f.none n⟩)
theorem Fr.next {O O1 : Own} {H H1 H2 : Hp} (a : Fr (Oset O) H H1) (b : Fr (Oset O1) H1 H2) (s : Nw O1 O H) : Fr (Oset O) H H2 := a.then b fun p z => s.set z

def Res.thn (r : Res) (f : Env → Res) : Res := match r with
  | .nx e => f e
  | .rt d b e => .rt d b e
  | .bk e => .bk e
  | .exc x e => .exc x e
  | .bad => .bad
def Out.stm {α : Type} (o : Out α) (f : α → Env → Res) : Res := match o with
  | .ok a e => f a e
  | .exc x e => .exc x e
  | .bad => .bad
/-- what is given back -/
def RtOk (K : PySem.W.Frag) (F : Fx) (O' : Own) (H' : Hp) (v : V) (d : D) (σ' : L2.St) (e' : Env) : Bool → Prop
  | false => Rep K H' (Sx F.S0 O') v d
  | true => FreshV K F.H0 H' (Sx F.S0 O') v d ∧ ∀ ds, d = .lst ds → ∀ p, v = .ref p → Good K (F.more p) O' σ' H' e'
def PstS (K : PySem.W.Frag) (mg : Str → Option Value) (Wx : WX) (F : Fx) (O : Own) (H : Hp) (N : Ends) : Res → Prop
  | .nx e' => ∀ σ' H' O', Nw O' O H → Fr (Oset O) H H' → Good K F O' σ' H' e' → N.nx σ' H'
  | .bk e' => ∀ σ' H' O', Nw O' O H → Fr (Oset O) H H' → Good K F O' σ' H' e' → N.bk σ' H'
  | .rt d b e' => ∀ v σ' H' O', Nw O' O H → Fr (Oset O) H H' → Good K F O' σ' H' e' → RtOk K F O' H' v d σ' e' b → N.rt v H'
  | .exc x e' => ∀ cls dx σ' H' O', Nw O' O H → Fr (Oset O) H H' → Good K F O' σ' H' e' → XRep mg cls dx x → Wx cls dx σ' H'
  | .bad => False
section
variable {K : PySem.W.Frag} {mg : Str → Option Value} {Wx : WX} {F : Fx} {O O1 : Own} {σ : L2.St} {H H1 : Hp} {N : Ends} {α β γ δ : Type}
theorem PstS.step {o : Res} (h : PstS K mg Wx F O H N o) (s : Nw O1 O H) (f : Fr (Oset O) H H1) : PstS K mg Wx F O1 H1 N o := by
  cases o with
  | nx e' => exact fun σ' H' O' s' f' g => h σ' H' O' (s'.trans s f) (f.next f' s) g
  | bk e' => exact fun σ' H' O' s' f' g => h σ' H' O' (s'.trans s f) (f.next f' s) g
  | rt d b e' => exact fun v σ' H' O' s' f' g r => h v σ' H' O' (s'.trans s f) (f.next f' s) g r
  | exc x e' => exact fun cls dx σ' H' O' s' f' g r => h cls dx σ' H' O' (s'.trans s f) (f.next f' s) g r
  | bad => exact h
theorem PstS.seq {o : Res} {f : Env → Res} (h : PstS K mg Wx F O H N (o.thn f)) {nx : L2.St → Hp → Prop}
    (k : ∀ e1 σ1 H1 O1, Nw O1 O H → Fr (Oset O) H H1 → Good K F O1 σ1 H1 e1 → PstS K mg Wx F O1 H1 N (f e1) → nx σ1 H1) : PstS K mg Wx F O H { N with nx := nx } o := by
  cases o with
  | nx e' => exact fun σ' H' O' s' f' g => k e' σ' H' O' s' f' g (PstS.step h s' f')
  | bk e' => exact h
  | rt d b e' => exact h
  | exc x e' => exact h
  | bad => exact h
/-- an expression within a statement -/
theorem PstS.expr {R1 : Hp → (Addr → Prop) → δ → γ → Prop} {Q1 : δ → Hp → Prop} {o : Out γ} {f : γ → Env → Res} (h : PstS K mg Wx F O H N (o.stm f))
    (k : ∀ d e1 v H1 O1, Sub O1 O → Fr (Oset O) H H1 → Good K F O1 σ H1 e1 → R1 H1 (Sx F.S0 O1) v d → PstS K mg Wx F O1 H1 N (f d e1) → Q1 v H1) : Pst K mg Wx F O σ H R1 Q1 o := by
  cases o with
  | ok d e' => exact fun v H' O' s' f' g r => k d e' v H' O' s' f' g r (PstS.step h s'.nw f')
  | exc x e' => exact fun cls dx H' O' s' f' g r => h cls dx σ H' O' s'.nw f' g r
  | bad => exact h
theorem PstS.exprF {Q1 : VK} {o : Out D} {f : D → Env → Res} (h : PstS K mg Wx F O H N (o.stm f))
    (k : ∀ d e1 v H1 O1, Sub O1 O → Fr (Oset O) H H1 → Good K F O1 σ H1 e1 → FreshV K H H1 (Sx F.S0 O1) v d → (∀ ds, d = .lst ds → ∀ p, v = .ref p → Good K (F.more p) O1 σ H1 e1) → PstS K mg Wx F O1 H1 N (f d e1) → Q1 v H1) : PstF K mg Wx F O σ H Q1 o := by
  cases o with
  | ok d e' => exact fun v H' O' s' f' g r kk => k d e' v H' O' s' f' g r kk (PstS.step h s'.nw f')
  | exc x e' => exact fun cls dx H' O' s' f' g r => h cls dx σ H' O' s'.nw f' g r
  | bad => exact h
/-- the items walked, within a statement -/
theorem PstS.iter {R1 : It → Hp → Prop} {o : Out ItD} {f : ItD → Env → Res} (h : PstS K mg Wx F O H N (o.stm f))
    (k : ∀ items lk e1 J H1 O1, Sub O1 O → Fr (Oset O) H H1 → Good K F O1 σ H1 e1 → (∀ i, lk = some i → ∃ par d, e1.get i = .own par d) → Runs K (Sx F.S0 O1) (Oset (O1.lockO lk)) H1 J items → PstS K mg Wx F O1 H1 N (f (items, lk) e1) → R1 J H1) :
    PstI K mg Wx F O σ H R1 o := by
  cases o with
  | ok d e' => obtain ⟨items, lk⟩ := d; exact fun J H' O' s' f' g l r => k items lk e' J H' O' s' f' g l r (PstS.step h s'.nw f')
  | exc x e' => exact fun cls dx H' O' s' f' g r => h cls dx σ H' O' s'.nw f' g r
  | bad => exact h
theorem PstS.nxt {e : Env} (h : PstS K mg Wx F O H N (.nx e)) (g : Good K F O σ H e) : N.nx σ H := h σ H O .refl .refl g
theorem PstS.nxtN {e : Env} {σ1 : L2.St} {H1 : Hp} {O1 : Own} (h : PstS K mg Wx F O H N (.nx e)) (s : Nw O1 O H) (f : Fr (Oset O) H H1) (g : Good K F O1 σ1 H1 e) : N.nx σ1 H1 := h σ1 H1 O1 s f g
end

def TS.of (X : Cx) (st : Stmt) : TS := fun N σ H => ∀ pins s, Inv X pins σ H s → wpAny (model X.prog X.w) X.A (exec st X.env) (L2.SP X pins N) X.xe s
theorem ps_of {X : Cx} {st : Stmt} : PS X st (TS.of X st) := ⟨fun pins s _ _ _ I h => h pins s I⟩
theorem TS.by {X : Cx} {st : Stmt} {t : TS} (h : PS X st t) {N : Ends} {σ : L2.St} {H : Hp} (q : t N σ H) : TS.of X st N σ H := fun pins s I => h.run pins s σ H N I q
def TSs.of (X : Cx) (st : List Stmt) : TS := fun N σ H => ∀ pins s, Inv X pins σ H s → wpAny (model X.prog X.w) X.A (execs st X.env) (L2.SP X pins N) X.xe s
theorem pss_of {X : Cx} {st : List Stmt} : PSs X st (TSs.of X st) := ⟨fun pins s _ _ _ I h => h pins s I⟩
theorem TSs.by {X : Cx} {st : List Stmt} {t : TS} (h : PSs X st t) {N : Ends} {σ : L2.St} {H : Hp} (q : t N σ H) : TSs.of X st N σ H := fun pins s I => h.run pins s σ H N I q

def S1 (X : Cx) (st : Stmt) (f : Env → Res) : Prop :=
  ∀ Wx, Takes X Wx → ∀ F O σ H env, Good X.K F O σ H env → ∀ N : Ends, PstS X.K X.mg Wx F O H N (f env) → TS.of X st N σ H
def SS (X : Cx) (st : List Stmt) (f : Env → Res) : Prop :=
  ∀ Wx, Takes X Wx → ∀ F O σ H env, Good X.K F O σ H env → ∀ N : Ends, PstS X.K X.mg Wx F O H N (f env) → TSs.of X st N σ H

section
variable {X : Cx} {st : Stmt} {sts : List Stmt} {e tg a b : Expr} {pos : Pos} {f g : Env → Res} {fe : Env → Out D} {fb : Env → Out Bool}
def dNil : Env → Res := fun e => .nx e
def dSeq (f g : Env → Res) : Env → Res := fun e => (f e).thn g
theorem ss_nil : SS X [] dNil := by
  intro Wx tk F O σ H env gd N p
  exact TSs.by pss_nil (p.nxt gd)
theorem ss_cons (h1 : S1 X st f) (h2 : SS X sts g) : SS X (st :: sts) (dSeq f g) := by
  intro Wx tk F O σ H env gd N p
  refine TSs.by (pss_cons ps_of pss_of) ?_
  refine h1 Wx tk F O σ H env gd _ (PstS.seq p fun e1 σ1 H1 O1 s1 f1 g1 p1 => ?_)
  exact h2 Wx tk F O1 σ1 H1 e1 g1 N p1
theorem ss_one (h1 : S1 X st f) : SS X [st] f := by
  intro Wx tk F O σ H env gd N p
  refine TSs.by (pss_one ps_of) (h1 Wx tk F O σ H env gd N p)
theorem s1_pass : S1 X (.Pass pos) dNil := by
  intro Wx tk F O σ H env gd N p
  exact TS.by ps_pass (p.nxt gd)
theorem s1_doc {x : Str} {j : Nat} {pos' : Pos} : S1 X (.Expr (.Constant (.str x) j pos) pos') dNil := by
  intro Wx tk F O σ H env gd N p
  exact TS.by ps_doc (p.nxt gd)
theorem s1_break : S1 X (.Break pos) (fun e => .bk e) := by
  intro Wx tk F O σ H env gd N p
  exact TS.by ps_break (p σ H O .refl .refl gd)
/-! ### return -/
def dRet (fe : Env → Out D) : Env → Res := fun env => (fe env).stm fun d e => .rt d false e
def dRetF (fe : Env → Out D) : Env → Res := fun env => (fe env).stm fun d e => .rt d true e
theorem s1_ret (h : SE X e fe) : S1 X (.Return (some e) pos) (dRet fe) := by
  intro Wx tk F O σ H env gd N p
  refine TS.by (ps_ret pe_of) (h Wx tk F O σ H env gd _ (PstS.expr p fun d e1 v H1 O1 s1 f1 g1 r1 p1 => ?_))
  exact p1 v σ H1 O1 .refl .refl g1 r1
theorem FreshV.older {K : PySem.W.Frag} {H0 H1 H : Hp} {S : Addr → Prop} {v : V} {d : D} (r : FreshV K H1 H S v d) (h : ∀ a, H1 a = none → H0 a = none) : FreshV K H0 H S v d :=
  ⟨r.1, fun ds e => by obtain ⟨p, vs, a1, a2, a3, a4⟩ := r.2 ds e; exact ⟨p, vs, a1, h _ a2, a3, a4⟩⟩
theorem Good.h0 {K : PySem.W.Frag} {F : Fx} {O : Own} {σ : L2.St} {H : Hp} {e : Env} (g : Good K F O σ H e) {a : Addr} (h : H a = none) : F.H0 a = none := by
  cases q : F.H0 a with
  | none => rfl
  | some o => exact absurd h (g.d0 a (by rw [q]; simp))
theorem s1_retF (h : SF X e fe) : S1 X (.Return (some e) pos) (dRetF fe) := by
  intro Wx tk F O σ H env gd N p
  refine TS.by (ps_ret pe_of) (h Wx tk F O σ H env gd _ (PstS.exprF p fun d e1 v H1 O1 s1 f1 g1 r1 k1 p1 => ?_))
  exact p1 v σ H1 O1 .refl .refl g1 ⟨r1.older fun a z => gd.h0 z, k1⟩
theorem s1_retN : S1 X (.Return none pos) (fun e => .rt .non false e) := by
  intro Wx tk F O σ H env gd N p
  exact TS.by ps_retN (p .non σ H O .refl .refl gd .non)
/-- an own list is given back -/
def dRetO (i : Nat) : Env → Res := fun env => match env.get i with
  | .own false d => .rt d true (env.set i .no)
  | .val d => .rt d false env
  | .lck d => if d.flat then .rt d false env else .bad
  | _ => .bad
theorem Good.forget {K : PySem.W.Frag} {F : Fx} {O : Own} {σ : L2.St} {H : Hp} {e : Env} {i : Nat} (g : Good K F O σ H e) (h : (e.get i).isLk = false) : Good K F (O.drop i) σ H (e.set i .no) := by
  have hm : ∀ a, Sx F.S0 (O.drop i) a → Sx F.S0 O a := fun a z => Own.drop_sub.sx z
  refine ⟨by rw [List.length_set]; exact g.len, g.s0, g.d0, fun a b c h1 h2 => ?_, fun a b c h1 h2 => g.lo a b c h1 (by unfold Own.drop at h2; split at h2; cases h2; exact h2), g.ls, g.ps, fun j a z => ?_, fun j => ?_⟩
  · refine g.inj a b c ?_ ?_
    · unfold Own.drop at h1; split at h1; cases h1; exact h1
    · unfold Own.drop at h2; split at h2; cases h2; exact h2
  · have := g.ln j a z
    by_cases hj : j = i
    · subst hj; rw [h] at this; cases this
    · rw [get_set_ne (Ne.symm hj)]; exact this
  · by_cases hj : j = i
    · subst hj
      by_cases hl : j < e.length
      · rw [get_set_self hl]; show (O.drop j) j = none; unfold Own.drop; rw [if_pos rfl]
      · have : Env.get (e.set j .no) j = .no := by
          unfold Env.get
          rw [List.getD_eq_getElem?_getD, List.getElem?_eq_none (by rw [List.length_set]; omega)]; rfl
        rw [this]; show (O.drop j) j = none; unfold Own.drop; rw [if_pos rfl]
    · rw [get_set_ne (Ne.symm hj)]
      have ej : (O.drop i) j = O j := by unfold Own.drop; rw [if_neg hj]
      rw [ej]
      exact (g.slot j).mono hm
/-- an own thing let go of: out of all that is held -/
theorem Good.letGo {K : PySem.W.Frag} {F : Fx} {O : Own} {σ : L2.St} {H : Hp} {e : Env} {i : Nat} {d : D} {p : Addr} (g : Good K F O σ H e) (h : e.get i = .own false d) (ho : O i = some p) : Good K (F.more p) (O.drop i) σ H (e.set i .no) := by
  have g' := g.forget (i := i) (by rw [h]; rfl)
  have q := g.at h
  obtain ⟨p', q1, q2, q3, _, q4⟩ := q
  rw [ho] at q1; cases q1
  have hS : ∀ a, Sx (F.more p).S0 (O.drop i) a → Sx F.S0 O a := by
    rintro a ((z | rfl) | z)
    · exact .inl z
    · exact .inr ⟨i, ho⟩
    · exact .inr (Own.drop_sub.set z)
  refine ⟨g'.len, ?_, g'.d0, g'.inj, g'.lo, fun i p z => .inl (g'.ls i p z), fun i p z => .inl (g'.ps i p z), g'.ln, fun j => ?_⟩
  · rintro a (z | rfl)
    · exact g.s0 a z
    · exact g.dom (.inr ⟨i, ho⟩)
  · by_cases hj : j = i
    · subst hj; have := g'.slot j; rw [get_set_self (get_lt (by rw [h]; simp))] at this ⊢; exact this
    · rw [get_set_ne (Ne.symm hj)]
      have ej : (O.drop i) j = O j := by unfold Own.drop; rw [if_neg hj]
      rw [ej]
      have qj := (g.slot j).mono hS
      cases c : e.get j with
      | no => rw [c] at qj; exact qj
      | val d' => rw [c] at qj; exact qj
      | own par' d' =>
        rw [c] at qj; obtain ⟨p', a1, a2, a3, a4, a5⟩ := qj
        refine ⟨p', a1, a2, a3, fun hp => ⟨.inl (a4 hp).1, (a4 hp).2⟩, fun hp => ⟨?_, (a5 hp).2⟩⟩
        rintro (z | rfl)
        · exact (a5 hp).1 z
        · exact hj (g.inj _ _ _ a1 ho)
      | lck d' => rw [c] at qj; obtain ⟨a1, v, a2, a3⟩ := qj; exact ⟨a1, v, a2, a3.imp id fun ⟨p', z1, z2, z3, z4⟩ => ⟨p', z1, z2, .inl z3, z4⟩⟩
      | lkd par' d' => rw [c] at qj; obtain ⟨a1, p', a2, a3, a4, a5⟩ := qj; exact ⟨a1, p', a2, a3, .inl a4, a5⟩
theorem s1_retO {i : Nat} {x : Str} {px : Pos} (hN : X.N[i]? = some x) (hv : Vis X.env.scope x) (hd : (x == ("__debug__" : Str)) = false) (hcd : (x == ("__classdict__" : Str)) = false) : S1 X (.Return (some (.Name x px)) pos) (dRetO i) := by
  intro Wx tk F O σ H env gd N p
  refine TS.by (ps_ret (pe_var hN hv hd hcd)) ?_
  have q := gd.slot i
  unfold dRetO at p
  cases c : env.get i with
  | no => rw [c] at p; exact p.elim
  | val d =>
    rw [c] at p q
    obtain ⟨_, v, e1, r⟩ := q
    exact ⟨v, of_getD e1, p v σ H O .refl .refl gd r⟩
  | own par d =>
    cases par with
    | true => rw [c] at p; exact p.elim
    | false =>
      rw [c] at p q
      obtain ⟨a, q1, q2, q3, _, q4⟩ := q
      obtain ⟨a', b1, b2, b3⟩ := gd.freeze c
      have ga := gd.letGo c q1
      have gf := gd.forget (i := i) (by rw [c]; rfl)
      have : a' = a := by rw [of_getD q2] at b1; cases b1; rfl
      subst this
      refine ⟨_, b1, p _ σ H _ Own.drop_sub.nw .refl gf ⟨⟨b3, fun ds e => ?_⟩, fun ds e p' e' => by cases e'; exact ga⟩⟩
      subst e
      rcases q3 with ⟨vs, ds', e2, hh, rr⟩ | ⟨_, _, e2, _⟩ | ⟨_, _, e2, _⟩
      · cases e2
        refine ⟨a', vs, rfl, (q4 rfl).2, hh, Reps.mono (fun z hz => ?_) rr⟩
        rcases hz with hz | rfl
        · exact Own.drop_sub.sx hz
        · exact .inr ⟨i, q1⟩
      · cases e2
      · cases e2
  | lck d =>
    rw [c] at p q
    obtain ⟨_, v, e1, r⟩ := q
    have p' : PstS X.K X.mg Wx F O H N (if d.flat = true then .rt d false env else .bad) := p
    split at p'
    · rename_i fl
      refine ⟨v, of_getD e1, p' v σ H O .refl .refl gd ?_⟩
      rcases r with r | ⟨a, rfl, _, _, r⟩
      · exact r
      · exact flat_any r fl
    · exact p'.elim
  | lkd par d => rw [c] at p; exact p.elim

/-! ### if -/
def dIf (fb : Env → Out Bool) (f g : Env → Res) : Env → Res := fun env => (fb env).stm fun b e => if b then f e else g e
theorem s1_if {c : Expr} {p q : List Stmt} (hc : ST X c fb) (h1 : SS X p f) (h2 : SS X q g) : S1 X (.If c p q pos) (dIf fb f g) := by
  intro Wx tk F O σ H env gd N pp
  refine TS.by (ps_if pt_of pss_of pss_of) (hc Wx tk F O σ H env gd _ (PstS.expr pp fun d e1 v H1 O1 s1 f1 g1 r1 p1 => ?_))
  cases r1
  cases d with
  | true => rw [if_pos rfl]; rw [if_pos rfl] at p1; exact h1 Wx tk F O1 σ H1 e1 g1 N p1
  | false => rw [if_neg Bool.false_ne_true]; rw [if_neg Bool.false_ne_true] at p1; exact h2 Wx tk F O1 σ H1 e1 g1 N p1

/-! ### assignments -/
def dSet (i : Nat) (fe : Env → Out D) : Env → Res := fun env => (fe env).stm fun d e => match setN i d e with
  | some e' => .nx e'
  | none => .bad
def setO (i : Nat) (d : D) (e : Env) : Option Env := if decide (i < e.length) && !(e.get i).isLk then some (match d with
  | .lst _ => e.set i (.own false d)
  | _ => e.set i (.val d)) else none
def dSetF (i : Nat) (fe : Env → Out D) : Env → Res := fun env => (fe env).stm fun d e => match setO i d e with
  | some e' => .nx e'
  | none => .bad
def dAsg (g : D → Env → Option Env) (fe : Env → Out D) : Env → Res := fun env => (fe env).stm fun d e => match g d e with
  | some e' => .nx e'
  | none => .bad
theorem Good.setVal' {K : PySem.W.Frag} {F : Fx} {O : Own} {σ : L2.St} {H : Hp} {e e' : Env} {i : Nat} {d : D} {v : V} (g : Good K F O σ H e) (r : Rep K H (Sx F.S0 O) v d) (h : setN i d e = some e') : Good K F (O.drop i) (σ.set i (some v)) H e' := by
  unfold setN at h
  split at h
  · rename_i hl
    rw [Bool.and_eq_true, decide_eq_true_eq] at hl
    injection h with h; subst h
    exact g.setVal r hl.1 (by simpa using hl.2)
  · cases h
theorem s1_set {i : Nat} {x : Str} {pos' : Pos} (hN : X.N.Nodup) (hi : X.N[i]? = some x) (hx : Loc X.env.scope x) (hs : swapsWith e (some (.Name x pos')) pos.line X.env = pure false) (hf : X.fn x = true ∨ X.env.scope.names.lookup x = some .local) (h : SE X e fe) : S1 X (.Assign [.Name x pos'] e pos) (dSet i fe) := by
  intro Wx tk F O σ H env gd N p
  refine TS.by (ps_set hN hi hx pe_of hs hf) (h Wx tk F O σ H env gd _ (PstS.expr p fun d e1 v H1 O1 s1 f1 g1 r1 p1 => ?_))
  cases q : setN i d e1 with
  | none => rw [q] at p1; exact p1.elim
  | some e' =>
    rw [q] at p1
    exact p1.nxtN Own.drop_sub.nw .refl (g1.setVal' r1 q)
/-- a new list for the name alone -/
theorem Good.setOwn {K : PySem.W.Frag} {F : Fx} {O : Own} {σ : L2.St} {H : Hp} {e : Env} {i : Nat} {p : Addr} {vs : List V} {ds : List D} (g : Good K (F.more p) O σ H e) (g0 : Good K F O σ H e) (hn : F.H0 p = none) (hp : ¬ Sx F.S0 O p) (hh : H p = some (.lst vs)) (r : Reps K H (fun a => Sx F.S0 O a ∨ a = p) vs ds) (h : i < e.length) (hk : (e.get i).isLk = false) :
    Good K F (fun j => if j = i then some p else O j) (σ.set i (some (.ref p))) H (e.set i (.own false (.lst ds))) := by
  have hS : ∀ a, Sx F.S0 (fun j => if j = i then some p else O j) a → Sx (F.more p).S0 O a := by
    rintro a (z | ⟨j, z⟩)
    · exact .inl (.inl z)
    · have z' : (if j = i then some p else O j) = some a := z
      split at z'
      · cases z'; exact .inl (.inr rfl)
      · exact .inr ⟨j, z'⟩
  have hO : ∀ j, O j ≠ some p := fun j z => hp (.inr ⟨j, z⟩)
  refine ⟨by rw [List.length_set, List.length_set]; exact g.len, g0.s0, g0.d0, fun a b c h1 h2 => ?_, fun a b c h1 h2 => ?_, g0.ls, g0.ps, fun j a z => ?_, fun j => ?_⟩
  · have h1' : (if a = i then some p else O a) = some c := h1
    have h2' : (if b = i then some p else O b) = some c := h2
    split at h1' <;> split at h2'
    · rename_i x y; rw [x, y]
    · cases h1'; exact absurd h2' (hO b)
    · cases h2'; exact absurd h1' (hO a)
    · exact g.inj a b c h1' h2'
  · have h2' : (if b = i then some p else O b) = some c := h2
    split at h2'
    · cases h2'; exact hp (.inl (g0.ls a p h1))
    · exact g.lo a b c h1 h2'
  · have := g0.ln j a z
    by_cases hj : j = i
    · subst hj; rw [hk] at this; cases this
    · rw [get_set_ne (Ne.symm hj)]; exact this
  · by_cases hj : j = i
    · subst hj
      rw [get_set_self h, getD_set_self (by rw [← g.len]; exact h)]
      refine ⟨p, by simp, rfl, .inl ⟨vs, ds, rfl, hh, Reps.mono (fun a z => ?_) r⟩, (fun z => by cases z), fun _ => ⟨fun z => hp (.inl z), hn⟩⟩
      rcases hS a z with (z | z) | z
      · exact .inl (.inl z)
      · exact .inr z
      · exact .inl (.inr z)
    · rw [get_set_ne (Ne.symm hj), getD_set_ne (Ne.symm hj)]
      have ej : (if j = i then some p else O j) = O j := if_neg hj
      show SlotOk K F _ (if j = i then some p else O j) _ _ _ _ _
      rw [ej]
      have qj := (g.slot j).mono hS
      cases c : e.get j with
      | no => rw [c] at qj; exact qj
      | val d' => rw [c] at qj; exact qj
      | own par' d' =>
        rw [c] at qj; obtain ⟨p', a1, a2, a3, a4, a5⟩ := qj
        refine ⟨p', a1, a2, a3, fun hq => ⟨?_, (a4 hq).2⟩, fun hq => ⟨fun z => (a5 hq).1 (.inl z), (a5 hq).2⟩⟩
        rcases (a4 hq).1 with z | rfl
        · exact z
        · exact absurd a1 (hO j)
      | lck d' =>
        rw [c] at qj; obtain ⟨a1, v, a2, a3⟩ := qj
        exact ⟨a1, v, a2, a3.imp id fun ⟨p', z1, z2, z3, z4⟩ => ⟨p', z1, z2, g0.ls _ _ z2, z4⟩⟩
      | lkd par' d' =>
        rw [c] at qj; obtain ⟨a1, p', a2, a3, a4, a5⟩ := qj
        exact ⟨a1, p', a2, a3, g0.ls _ _ a3, a5⟩
theorem Good.setF {K : PySem.W.Frag} {F : Fx} {O : Own} {σ : L2.St} {H H0 : Hp} {e e' : Env} {i : Nat} {d : D} {v : V} (g : Good K F O σ H e) (r : FreshV K H0 H (Sx F.S0 O) v d) (k : ∀ ds, d = .lst ds → ∀ p, v = .ref p → Good K (F.more p) O σ H e) (hd : ∀ a, Sx F.S0 O a → H0 a ≠ none) (h0 : ∀ a, H0 a = none → F.H0 a = none) (h : setO i d e = some e') :
    ∃ O', Good K F O' (σ.set i (some v)) H e' ∧ Nw O' O H0 := by
  unfold setO at h
  split at h
  · rename_i hl
    rw [Bool.and_eq_true, decide_eq_true_eq] at hl
    injection h with h
    have hk : (e.get i).isLk = false := by simpa using hl.2
    by_cases c : ∃ ds, d = .lst ds
    · obtain ⟨ds, rfl⟩ := c
      obtain ⟨p, vs, rfl, a2, a3, a4⟩ := r.2 ds rfl
      simp only at h
      subst h
      refine ⟨_, (k ds rfl p rfl).setOwn g (h0 _ a2) (fun z => hd _ z a2) a3 a4 hl.1 hk, fun j => ?_⟩
      by_cases hj : j = i
      · exact .inr (.inr ⟨p, by simp [hj], a2⟩)
      · exact .inl (by simp [hj])
    · have h' : e' = e.set i (.val d) := by
        cases d <;> first | (exact absurd ⟨_, rfl⟩ c) | exact h.symm
      subst h'
      exact ⟨_, g.setVal r.1 hl.1 hk, Own.drop_sub.nw⟩
  · cases h
theorem s1_setF {i : Nat} {x : Str} {pos' : Pos} (hN : X.N.Nodup) (hi : X.N[i]? = some x) (hx : Loc X.env.scope x) (hs : swapsWith e (some (.Name x pos')) pos.line X.env = pure false) (hf : X.fn x = true ∨ X.env.scope.names.lookup x = some .local) (h : SF X e fe) : S1 X (.Assign [.Name x pos'] e pos) (dSetF i fe) := by
  intro Wx tk F O σ H env gd N p
  refine TS.by (ps_set hN hi hx pe_of hs hf) (h Wx tk F O σ H env gd _ ?_)
  cases c : fe env with
  | bad => unfold dSetF at p; rw [c] at p; exact p.elim
  | exc x e' => unfold dSetF at p; rw [c] at p; exact fun cls dx H' O' s' f' g r => p cls dx σ H' O' s'.nw f' g r
  | ok d e1 =>
    unfold dSetF at p; rw [c] at p
    intro v H1 O1 s1 f1 g1 r1 k1
    simp only [Out.stm] at p
    cases q : setO i d e1 with
    | none => rw [q] at p; exact p.elim
    | some e' =>
      rw [q] at p
      obtain ⟨O', g', n'⟩ := g1.setF r1 k1 (fun a z => gd.dom (s1.sx z)) (fun a z => gd.h0 z) q
      refine p _ H1 O' (fun j => ?_) f1 g'
      rcases n' j with h | h | h
      · rw [h]; exact (s1 j).imp id .inl
      · exact .inr (.inl h)
      · exact .inr (.inr h)
theorem s1_asg {is : List Nat} {g : D → Env → Option Env} (hs : swapsWithSole [tg] e pos.line X.env = pure false) (hw : swappedStores [tg] e X.env = pure none) (h1 : (assignEach [tg] X.env).map (·.2) = [assign tg X.env]) (h : SE X e fe) (hg : SG X tg is g) : S1 X (.Assign [tg] e pos) (dAsg g fe) := by
  intro Wx tk F O σ H env gd N p
  refine TS.by (ps_asg pe_of pg_of hs hw h1) (h Wx tk F O σ H env gd _ (PstS.expr p fun d e1 v H1 O1 s1 f1 g1 r1 p1 => ?_))
  cases q : g d e1 with
  | none => rw [q] at p1; exact p1.elim
  | some e' =>
    rw [q] at p1
    exact hg F O1 σ H1 e1 v d e' g1 r1 q _ fun σ' O' s' l' k' g' => p1.nxtN s'.nw .refl g'
/-- the value is not looked at -/
def dExp (fe : Env → Out D) : Env → Res := fun env => (fe env).stm fun _ e => .nx e
theorem s1_exp (hs : swapsWith e none pos.line X.env = pure false) (h : SE X e fe) : S1 X (.Expr e pos) (dExp fe) := by
  intro Wx tk F O σ H env gd N p
  refine TS.by (ps_expr pe_of hs) (h Wx tk F O σ H env gd _ (PstS.expr p fun d e1 v H1 O1 s1 f1 g1 r1 p1 => ?_))
  exact p1.nxt g1
end
end Rp
set_option Elab.async false
set_option linter.all false
set_option maxRecDepth 100000
/-! RpO: for loops, stores into own lists. -/
namespace Rp
open PySem PySem.Spec PyProof.Rows L2

def forL (g : D → Env → Option Env) (f : Env → Res) : List D → Env → Res
  | [], e => .nx e
  | x :: xs, e => match g x e with
    | none => .bad
    | some e1 => match f e1 with
      | .nx e2 => forL g f xs e2
      | .bk e2 => .nx e2
      | .rt d b e2 => .rt d b e2
      | .exc x e2 => .exc x e2
      | .bad => .bad
def unlockR (par : Bool) (i : Nat) : Res → Res
  | .nx e => match unlockE par e i with
    | some e' => .nx e'
    | none => .bad
  | .bk e => match unlockE par e i with
    | some e' => .bk e'
    | none => .bad
  | .rt d b e => match unlockE par e i with
    | some e' => .rt d b e'
    | none => .bad
  | .exc x e => match unlockE par e i with
    | some e' => .exc x e'
    | none => .bad
  | .bad => .bad
def dFor (it : Env → Out ItD) (g : D → Env → Option Env) (f : Env → Res) : Env → Res := fun env => (it env).stm fun p e0 => match p.2 with
  | none => forL g f p.1 e0
  | some i => match e0.get i with
    | .own par _ => unlockR par i (forL g f p.1 (lockE e0 i))
    | _ => .bad

section
variable {K : PySem.W.Frag} {mg : Str → Option Value} {Wx : WX} {F : Fx} {O O1 : Own} {σ : L2.St} {H H1 : Hp} {N : Ends}
theorem PstS.unlock {e : Env} {i : Nat} {par : Bool} {d : D} {p : Addr} {r : Res} (g : Good K F O σ H e) (h : e.get i = .own par d) (ho : O i = some p) (P : PstS K mg Wx F O H N (unlockR par i r)) : PstS K mg Wx (F.lockF i p) (O.drop i) H N r := by
  have hop : ∀ a, Oset (O.drop i) a → a ≠ p := by
    rintro a ⟨j, z⟩ rfl
    unfold Own.drop at z; split at z
    · cases z
    · rename_i ne; exact ne (g.inj _ _ _ z ho)
  have key : ∀ {O' : Own} {σ' : L2.St} {H' : Hp} {e' e'' : Env}, Nw O' (O.drop i) H → Fr (Oset (O.drop i)) H H' → Good K (F.lockF i p) O' σ' H' e' → unlockE par e' i = some e'' →
      Good K F (fun j => if j = i then some p else O' j) σ' H' e'' ∧ Nw (fun j => if j = i then some p else O' j) O H ∧ Fr (Oset O) H H' ∧ (∀ a, Sx F.S0 (fun j => if j = i then some p else O' j) a → Sx (F.lockF i p).S0 O' a) := by
    intro O' σ' H' e' e'' s f g2 cu
    refine ⟨g.unlock h ho g2 (fun u hu => f.eq _ _ hu fun z => hop _ z rfl) cu, fun j => ?_, f.mono fun a z => Own.drop_sub.set z, ?_⟩
    · by_cases hj : j = i
      · subst hj; left; simp [ho]
      · simp only [if_neg hj]
        rcases s j with z | z | z
        · left; rw [z]; unfold Own.drop; rw [if_neg hj]
        · exact .inr (.inl z)
        · exact .inr (.inr z)
    · rintro a (z | ⟨j, z⟩)
      · exact .inl (.inl z)
      · have z' : (if j = i then some p else O' j) = some a := z
        split at z'
        · cases z'; exact .inl (.inr rfl)
        · exact .inr ⟨j, z'⟩
  cases r with
  | bad => exact P
  | nx e' =>
    simp only [unlockR] at P
    cases cu : unlockE par e' i with
    | none => rw [cu] at P; exact P.elim
    | some e'' =>
      rw [cu] at P
      intro σ' H' O' s f g2
      obtain ⟨k1, k2, k3, _⟩ := key s f g2 cu
      exact P _ _ _ k2 k3 k1
  | bk e' =>
    simp only [unlockR] at P
    cases cu : unlockE par e' i with
    | none => rw [cu] at P; exact P.elim
    | some e'' =>
      rw [cu] at P
      intro σ' H' O' s f g2
      obtain ⟨k1, k2, k3, _⟩ := key s f g2 cu
      exact P _ _ _ k2 k3 k1
  | exc x e' =>
    simp only [unlockR] at P
    cases cu : unlockE par e' i with
    | none => rw [cu] at P; exact P.elim
    | some e'' =>
      rw [cu] at P
      intro cls dx σ' H' O' s f g2 xr
      obtain ⟨k1, k2, k3, _⟩ := key s f g2 cu
      exact P cls dx _ _ _ k2 k3 k1 xr
  | rt d' b e' =>
    simp only [unlockR] at P
    cases cu : unlockE par e' i with
    | none => rw [cu] at P; exact P.elim
    | some e'' =>
      rw [cu] at P
      intro v σ' H' O' s f g2 rr
      obtain ⟨k1, k2, k3, k4⟩ := key s f g2 cu
      refine P v _ _ _ k2 k3 k1 ?_
      cases b with
      | false => exact Rep.mono k4 rr
      | true =>
        obtain ⟨⟨r1, r2⟩, r3⟩ := rr
        refine ⟨⟨Rep.mono k4 r1, fun ds e => ?_⟩, fun ds e q e1 => ?_⟩
        · obtain ⟨q, vs, a1, a2, a3, a4⟩ := r2 ds e
          exact ⟨q, vs, a1, a2, a3, Reps.mono (fun a z => z.imp_left (k4 a)) a4⟩
        · obtain ⟨q', vs, a1, a2, a3, a4⟩ := r2 ds e
          rw [a1] at e1; cases e1
          have gq := r3 ds e q a1
          rw [lockF_more] at gq
          have q4 := g.at h
          obtain ⟨p', b1, b2, b3, b4, b5⟩ := q4
          rw [ho] at b1; cases b1
          have hpq : p ≠ q := by
            rintro rfl
            subst e; subst a1
            cases r1 with
            | lst w1 w2 w3 => exact w2 (.inl (.inr rfl))
          obtain ⟨u, hu, mu⟩ := b3.mut
          exact Good.unlockG (F := F.more q) (f.eq _ _ hu fun z => hop _ z rfl) mu (fun z => ⟨.inl (b4 z).1, (b4 z).2⟩) (fun z => ⟨fun w => w.elim (b5 z).1 hpq, (b5 z).2⟩) (fun i p z => .inl (g.ls i p z)) (fun i p z => .inl (g.ps i p z)) (fun a z => g.lo a i p z ho) (fun a z => by have := g.ln i a z; rw [h] at this; cases this) gq cu

theorem for_walk {f : Env → Res} {e1 : Env} {g : D → Env → Option Env} {items : List D} {J : It} {gg : TG} {tb : TS}
    (g1 : Good K F O1 σ H1 e1) (hr : Runs K (Sx F.S0 O1) (Oset O1) H1 J items)
    (hg : ∀ F O σ' H env v d env', Good K F O σ' H env → Rep K H (Sx F.S0 O) v d → g d env = some env' → ∀ Q : L2.St → Hp → Prop,
      (∀ σ2 O', Sub O' O → Good K F O' σ2 H env' → Q σ2 H) → gg v σ' H Q)
    (hb : ∀ O σ' H env, Good K F O σ' H env → ∀ N : Ends, PstS K mg Wx F O H N (f env) → tb N σ' H)
    (P : PstS K mg Wx F O1 H1 N (forL g f items e1)) :
    ∃ W : Nat → Nat → L2.St → Hp → Prop, (∃ m, W 0 m σ H1) ∧ ∀ i m σ H, W i m σ H →
      (J.stop i H ∧ N.nx σ H) ∨ (J.go i H ∧ ∃ Nx : L2.St → Hp → Prop, (∀ σ' H', Nx σ' H' → ∃ m', m' < m ∧ W (i + 1) m' σ' H') ∧ ∀ x H', J.yld i H x H' → gg x σ H' fun σ2 H2 => tb { N with nx := Nx, ct := Nx, bk := N.nx } σ2 H2) := by
  let Inv' : Nat → L2.St → Hp → Prop := fun i σ H => i ≤ items.length ∧ ∃ e O, Good K F O σ H e ∧ Nw O O1 H1 ∧ Fr (Oset O1) H1 H ∧ PstS K mg Wx F O H N (forL g f (items.drop i) e)
  refine ⟨fun i m σ H => m = items.length - i ∧ Inv' i σ H, ⟨_, rfl, Nat.zero_le _, e1, O1, g1, .refl, .refl, P⟩, ?_⟩
  rintro i m σ H ⟨rfl, hi, e, O, gd, s, fr, P⟩
  have hS2 : ∀ a, Sx F.S0 O a → Sx F.S0 O1 a ∨ H1 a = none := by
    rintro a (z | z)
    · exact .inl (.inl z)
    · exact (s.set z).imp_left .inr
  obtain ⟨r1, r2⟩ := hr i H (Sx F.S0 O) fr hS2 fun a z => gd.dom z
  by_cases hlt : i < items.length
  · refine .inr ⟨(r1 hlt).1, fun σ' H' => Inv' (i + 1) σ' H', fun σ' H' z => ⟨_, by omega, rfl, z⟩, fun x H' y => ?_⟩
    obtain ⟨sm, rep⟩ := (r1 hlt).2 x H' y
    have rx := rep _ (show items[i]? = some items[i] by simp [hlt])
    have gd' := gd.same sm
    have P' := P.step (O1 := O) .refl (Fr.same sm)
    rw [List.drop_eq_getElem_cons hlt] at P'
    simp only [forL] at P'
    cases hg1 : g items[i] e with
    | none => rw [hg1] at P'; exact P'.elim
    | some ea =>
      rw [hg1] at P'
      simp only at P'
      refine hg _ O _ H' e x _ ea gd' rx hg1 _ fun σ2 Oa sa ga => ?_
      have P2 := P'.step (O1 := Oa) (H1 := H') sa.nw .refl
      refine hb Oa σ2 H' ea ga _ ?_
      cases hf : f ea with
      | bad => rw [hf] at P2; exact P2
      | exc x e2 => rw [hf] at P2; exact P2
      | rt d b e2 => rw [hf] at P2; exact P2
      | bk e2 => rw [hf] at P2; exact P2
      | nx e2 =>
        rw [hf] at P2
        intro σ3 H3 O3 s3 f3 g3
        have fr' : Fr (Oset O1) H1 H' := fr.trans (Fr.same sm)
        have s' : Nw Oa O1 H1 := sa.nw.trans s fr
        exact ⟨hlt, e2, O3, g3, s3.trans s' fr', fr'.next f3 s', P2.step s3 f3⟩
  · have e : i = items.length := by omega
    subst e
    refine .inl ⟨r2 (Nat.le_refl _), ?_⟩
    rw [List.drop_length] at P
    exact P.nxt gd
end
section
variable {X : Cx} {tg iter e : Expr} {pos : Pos}
theorem s1_for {body : List Stmt} {is : List Nat} {it : Env → Out ItD} {g : D → Env → Option Env} {f : Env → Res} (hp : PassesOwn (model X.prog X.w) X.A X.env X.xe) (hc : X.calm = true) (hs : ∀ x, foldedSetIterable iter X.env x = pure x)
    (hi : SI X tg iter it) (hg : SG X tg is g) (hb : SS X body f) : S1 X (.For tg iter body [] pos) (dFor it g f) := by
  intro Wx tk F O σ H env gd N p
  refine TS.by (ps_for hp hc pi_of pg_of pss_of hs) ?_
  refine hi.use tk gd (PstS.iter p fun items lk e1 J H1 O1 s1 f1 g1 hlk hr p1 => ?_)
  have hg' : ∀ F O σ' H env v d env', Good X.K F O σ' H env → Rep X.K H (Sx F.S0 O) v d → g d env = some env' → ∀ Q : L2.St → Hp → Prop,
      (∀ σ2 O', Sub O' O → Good X.K F O' σ2 H env' → Q σ2 H) → TG.of X tg v σ' H Q := fun F O σ' H env v d env' a b c Q k => hg F O σ' H env v d env' a b c Q fun σ2 O' s _ _ g2 => k σ2 O' s g2
  cases lk with
  | none => exact for_walk g1 hr hg' (fun O σ' H env gd N P => hb Wx tk F O σ' H env gd N P) p1
  | some i =>
    obtain ⟨par, d, hown⟩ := hlk i rfl
    simp only [hown] at p1
    obtain ⟨pp, q1, q2, q3, q4, q5⟩ := g1.at hown
    have gl := g1.lock hown q1
    have P := PstS.unlock g1 hown q1 p1
    have hr' : Runs X.K (Sx (F.lockF i pp).S0 (O1.drop i)) (Oset (O1.drop i)) H1 J items := by
      intro n H2 S2 h1 h2 h3
      refine hr n H2 S2 h1 (fun a z => (h2 a z).imp_left ?_) h3
      rintro ((z | rfl) | z)
      · exact .inl z
      · exact .inr ⟨i, q1⟩
      · exact .inr (Own.drop_sub.set z)
    exact for_walk gl hr' hg' (fun O σ' H env gd N P => hb Wx tk (F.lockF i pp) O σ' H env gd N P) P

/-! ### stores into own lists -/
/-- an own list gets other contents -/
theorem Good.put {K : PySem.W.Frag} {F : Fx} {O : Own} {σ : L2.St} {H : Hp} {e : Env} {i : Nat} {par : Bool} {d : D} {p : Addr} {vs : List V} {ds : List D} (g : Good K F O σ H e) (h : e.get i = .own par d) (ho : O i = some p) (r : Reps K H (Sx F.S0 O) vs ds) :
    Good K F O σ (upd H p (.lst vs)) (e.set i (.own par (.lst ds))) := by
  have f : Fr (fun a => a = p) H (upd H p (.lst vs)) := Fr.write (W := fun a => a = p) rfl
  have hw : ∀ a, a = p → Sx F.S0 O a := fun a z => .inr ⟨i, z ▸ ho⟩
  obtain ⟨p', q1, q2, q3, q4, q5⟩ := g.at h
  rw [ho] at q1; cases q1
  refine ⟨by rw [List.length_set]; exact g.len, fun a z => f.dom a (g.s0 a z), fun a z => f.dom a (g.d0 a z), g.inj, g.lo, g.ls, g.ps, fun j a z => ?_, fun j => ?_⟩
  · have := g.ln j a z
    by_cases hj : j = i
    · subst hj; rw [h] at this; cases this
    · rw [get_set_ne (Ne.symm hj)]; exact this
  · by_cases hj : j = i
    · subst hj
      rw [get_set_self (get_lt (by rw [h]; simp))]
      exact ⟨p, ho, q2, .inl ⟨vs, ds, rfl, upd_same, Reps.fr f.rd hw r⟩, q4, q5⟩
    · rw [get_set_ne (Ne.symm hj)]
      have q := g.slot j
      cases c : e.get j with
      | no => rw [c] at q; exact q
      | val d => rw [c] at q; obtain ⟨q1, v, q2, q3⟩ := q; exact ⟨q1, v, q2, Rep.fr f.rd hw q3⟩
      | own par d =>
        rw [c] at q; obtain ⟨p', a1, a2, a3, a4⟩ := q
        have hp : p' ≠ p := fun z => hj (g.inj _ _ _ (z ▸ a1) ho)
        exact ⟨p', a1, a2, a3.fr f.rd hw (fun u z => by rw [upd_ne hp]; exact z), a4⟩
      | lck d =>
        rw [c] at q; obtain ⟨a1, v, a2, a3⟩ := q
        exact ⟨a1, v, a2, a3.elim (fun z => .inl (Rep.fr f.rd hw z)) fun ⟨p', z1, z2, z3, z4⟩ => .inr ⟨p', z1, z2, z3, z4.fr f.rd hw (fun a e z => by cases e; subst z; exact g.lo _ _ _ z2 ho)⟩⟩
      | lkd par d =>
        rw [c] at q; obtain ⟨a1, p', a2, a3, a4, a5, a6⟩ := q
        exact ⟨a1, p', a2, a3, a4, a5.fr f.rd hw (fun z => g.lo _ _ _ (z ▸ a3) ho), a6⟩
def ownL : Slot → Option (Bool × List D)
  | .own par (.lst ds) => some (par, ds)
  | _ => none
theorem ownL_of {s : Slot} {par : Bool} {ds : List D} (h : ownL s = some (par, ds)) : s = .own par (.lst ds) := by
  cases s with
  | own p d => cases d <;> simp only [ownL] at h <;> first | (cases h; done) | (injection h with h; cases h; rfl)
  | _ => cases h
def dApp (i : Nat) (fe : Env → Out D) : Env → Res := fun env => if (ownL (env.get i)).isNone then .bad else (fe env).stm fun d e => match ownL (e.get i) with
  | some (par, ds) => if decide (ds.length < sizeLine) then .nx (e.set i (.own par (.lst (ds ++ [d])))) else .bad
  | none => .bad
theorem tyL {K : PySem.W.Frag} {H : Hp} {a : Addr} {vs : List V} (h : H a = some (.lst vs)) : tyV K "list" (.ref a) H := Or.inl ⟨rfl, _, Or.inl (Or.inl h)⟩
theorem s1_app {i : Nat} {x : Str} {px apos cpos : Pos} {fe : Env → Out D} (hN : X.N[i]? = some x) (hv : Vis X.env.scope x) (hd : (x == ("__debug__" : Str)) = false) (hcd : (x == ("__classdict__" : Str)) = false)
    (hst : PySem.W.isStarred e = false) (hs : swapsWith (.Call (.Attribute (.Name x px) "append" apos) [e] [] cpos) none pos.line X.env = pure false)
    (hbase : attributeBase (.Name x px) "append" X.env (eval (.Name x px) X.env) = eval (.Name x px) X.env) (hline : (apos.endLine == cpos.line) = true)
    (hfew : ((backTo cpos (starEach [e] X.env)).all (fun x => !x.1) && (backToKw cpos (keywordEach [] X.env)).all (fun x => x.1.isSome) && decide ([e].length + ([] : List Keyword).length + (if ([] : List Keyword).isEmpty then 0 else 1) < 30)) = true)
    (h : SE X e fe) : S1 X (.Expr (.Call (.Attribute (.Name x px) "append" apos) [e] [] cpos) pos) (dApp i fe) := by
  intro Wx tk F O σ H env gd N p
  refine TS.by (ps_expr (pe_bm PySem.F.plainAttrs_list PySem.F.slot_list_append PySem.F.type_list_append mt_append (pe_var hN hv hd hcd) (pa_cons pe_of pa_nil (starEach_plain hst _)) hbase hfew hline (starEach_plain hst _) rfl) hs) ?_
  unfold dApp at p
  cases c : ownL (env.get i) with
  | none => rw [c] at p; exact p.elim
  | some z =>
    rw [c] at p
    simp only [Option.isNone_some, Bool.false_eq_true, if_false] at p
    obtain ⟨par, ds⟩ := z
    have c' := ownL_of c
    obtain ⟨a, q1, q2, q3, q4⟩ := gd.at c'
    obtain ⟨vs, ds', e1, hh, rr⟩ | ⟨_, _, e1, _⟩ | ⟨_, _, e1, _⟩ := q3
    · cases e1
      refine ⟨.ref a, of_getD q2, tyL hh, ?_⟩
      refine h Wx tk F O σ H env gd _ (PstS.expr p fun d e1 v H1 O1 s1 f1 g1 r1 p1 => ?_)
      cases c2 : ownL (e1.get i) with
      | none => rw [c2] at p1; exact p1.elim
      | some z2 =>
        obtain ⟨par2, ds2⟩ := z2
        have c2' := ownL_of c2
        rw [c2] at p1
        have p1' : PstS X.K X.mg Wx F O1 H1 N (if decide (ds2.length < sizeLine) = true then .nx (e1.set i (.own par2 (.lst (ds2 ++ [d])))) else .bad) := p1
        split at p1'
        · rename_i hl
          obtain ⟨a2, b1, b2, b3, b4⟩ := g1.at c2'
          rw [q2] at b2; cases b2
          obtain ⟨vs2, ds2', e2, hh2, rr2⟩ | ⟨_, _, e2, _⟩ | ⟨_, _, e2, _⟩ := b3
          · cases e2
            refine ⟨a, vs2, v, rfl, rfl, hh2, by rw [rr2.length]; exact of_decide_eq_true hl, ?_⟩
            exact p1'.nxtN .refl (Fr.write (W := Oset O1) ⟨i, b1⟩) (g1.put c2' b1 (Reps.append rr2 (.cons r1 .nil)))
          · cases e2
          · cases e2
        · exact p1'.elim
    · cases e1
    · cases e1
end
end Rp
set_option Elab.async false
set_option linter.all false
set_option maxRecDepth 100000
/-! RpP: defs and their calls. -/
namespace Rp
open PySem PySem.Spec PyProof.Rows L2

/-- an argument: a value, or an own thing of the caller's that the def may change -/
inductive Arg where
  | v (d : D)
  | m (d : D)
def Arg.slot : Arg → Slot
  | .v d => .val d
  | .m d => .own true d
def startE (n : Nat) (args : List Arg) : Env := args.map Arg.slot ++ List.replicate (n - args.length) .no
/-- the parameters that were lent are still there at the end -/
def backsOk : List Arg → Env → Nat → Bool
  | [], _, _ => true
  | .v _ :: as, e, k => backsOk as e (k + 1)
  | .m _ :: as, e, k => (match e.get k with | .own true _ => true | _ => false) && backsOk as e (k + 1)
def Res.chk (args : List Arg) : Res → Res
  | .nx e => if backsOk args e 0 then .rt .non false e else .bad
  | .rt d b e => if backsOk args e 0 then .rt d b e else .bad
  | .exc x e => if backsOk args e 0 then .exc x e else .bad
  | _ => .bad
/-- a def's meaning, by its body's -/
def fnDen (n np : Nat) (body : Env → Res) (args : List Arg) : Res := if args.length = np then (body (startE n args)).chk args else .bad

def Back (K : PySem.W.Frag) (H' : Hp) (S : Addr → Prop) (P : Own) (e' : Env) : Prop := ∀ i p, P i = some p → ∃ d, e'.get i = .own true d ∧ OwnRep K H' S p d
def PstC (K : PySem.W.Frag) (mg : Str → Option Value) (S : Addr → Prop) (P : Own) (H : Hp) (Q : VK) (E : XK) : Res → Prop
  | .rt d false e' => ∀ v H', Fr (Oset P) H H' → Back K H' S P e' → Rep K H' S v d → Q v H'
  | .rt d true e' => ∀ v H', Fr (Oset P) H H' → Back K H' S P e' → FreshV K H H' S v d → (∀ ds, d = .lst ds → ∀ p, v = .ref p → Back K H' (fun a => S a ∨ a = p) P e') → Q v H'
  | .exc x e' => ∀ cls dx H', Fr (Oset P) H H' → Back K H' S P e' → XRep mg cls dx x → E cls dx H'
  | _ => False
def ArgsOk (K : PySem.W.Frag) (H : Hp) (S : Addr → Prop) (P : Own) (vs : List V) (args : List Arg) : Prop :=
  vs.length = args.length ∧ ∀ i : Nat, match (args[i]? : Option Arg) with
    | some (Arg.v d) => P i = none ∧ ∃ v, vs[i]? = some v ∧ Rep K H S v d
    | some (Arg.m d) => ∃ p, P i = some p ∧ S p ∧ vs[i]? = some (.ref p) ∧ OwnRep K H S p d
    | none => P i = none
def spD (K : PySem.W.Frag) (mg : Str → Option Value) (np : Nat) (den : List Arg → Res) : Sp := fun vs H Q E => ∃ (S : Addr → Prop) (P : Own) (args : List Arg),
  vs.length = np ∧ (∀ a, S a → H a ≠ none) ∧ (∀ i j p, P i = some p → P j = some p → i = j) ∧ ArgsOk K H S P vs args ∧ PstC K mg S P H Q E (den args)

section
variable {K : PySem.W.Frag} {mg : Str → Option Value}
theorem get_map {l : List Slot} {n i : Nat} : Env.get (l ++ List.replicate n .no) i = l.getD i .no := by
  unfold Env.get
  rw [List.getD_eq_getElem?_getD, List.getD_eq_getElem?_getD]
  by_cases h : i < l.length
  · rw [List.getElem?_append_left h]
  · rw [List.getElem?_append_right (by omega), List.getElem?_eq_none (l := l) (by omega), List.getElem?_replicate]
    split <;> rfl
theorem start_get {N : List Str} {vs : List V} {i : Nat} : (L2.start N vs).getD i none = vs[i]? := by
  unfold L2.start
  rw [List.getD_eq_getElem?_getD]
  by_cases h : i < vs.length
  · rw [List.getElem?_append_left (by simpa using h), List.getElem?_map]; simp [h]
  · rw [List.getElem?_append_right (by simpa using h), List.getElem?_eq_none (l := vs) (by omega), List.getElem?_replicate]
    split <;> rfl
/-- a def's start -/
theorem good_start {H : Hp} {S : Addr → Prop} {P : Own} {vs : List V} {args : List Arg} {N : List Str} (hS : ∀ a, S a → H a ≠ none) (hP : ∀ i j p, P i = some p → P j = some p → i = j) (h : ArgsOk K H S P vs args) :
    Good K ⟨S, P, fun _ => none, H⟩ P (L2.start N vs) H (startE N.length args) := by
  obtain ⟨hl, ha⟩ := h
  have hPS : ∀ i p, P i = some p → S p := fun i p z => by
    have := ha i
    cases c : args[i]? with
    | none => rw [c] at this; rw [this] at z; cases z
    | some a =>
      rw [c] at this
      cases a with
      | v d => rw [this.1] at z; cases z
      | m d => obtain ⟨q, e1, e2, _⟩ := this; rw [e1] at z; cases z; exact e2
  have hSx : ∀ a, Sx S P a → S a := fun a z => z.elim id fun ⟨i, w⟩ => hPS i a w
  refine ⟨by simp [startE, L2.start, hl], hS, fun _ z => z, hP, fun _ _ _ z => (by cases z), fun _ _ z => (by cases z), hPS, fun _ _ z => (by cases z), fun i => ?_⟩
  have q := ha i
  rw [start_get]
  unfold startE
  rw [get_map, List.getD_eq_getElem?_getD, List.getElem?_map]
  cases c : args[i]? with
  | none => rw [c] at q; exact q
  | some a =>
    rw [c] at q
    cases a with
    | v d => obtain ⟨q1, v, q2, q3⟩ := q; exact ⟨q1, v, q2, Rep.mono hSx q3⟩
    | m d => obtain ⟨p, q1, q2, q3, q4⟩ := q; exact ⟨p, q1, q3, q4.mono hSx, fun _ => ⟨q2, q1⟩, fun z => by cases z⟩
theorem backs_get {args : List Arg} {e : Env} : ∀ {k : Nat}, backsOk args e k = true → ∀ i d, args[i]? = some (.m d) → ∃ d', e.get (k + i) = .own true d' := by
  induction args with
  | nil => intro k _ i d h; simp at h
  | cons a as ih =>
    intro k h i d hi
    cases a with
    | v x =>
      cases i with
      | zero => simp at hi
      | succ i => have := ih (k := k + 1) h i d (by simpa using hi); rwa [Nat.add_assoc, Nat.add_comm 1 i] at this
    | m x =>
      simp only [backsOk, Bool.and_eq_true] at h
      cases i with
      | zero =>
        obtain ⟨h1, _⟩ := h
        rw [Nat.add_zero]
        split at h1
        · rename_i d' e1; exact ⟨d', e1⟩
        · cases h1
      | succ i => have := ih (k := k + 1) h.2 i d (by simpa using hi); rwa [Nat.add_assoc, Nat.add_comm 1 i] at this
theorem back_of {H H' : Hp} {S : Addr → Prop} {P O' : Own} {vs : List V} {args : List Arg} {σ' : L2.St} {e' : Env} (h : ArgsOk K H S P vs args) (g : Good K ⟨S, P, fun _ => none, H⟩ O' σ' H' e') (hb : backsOk args e' 0 = true) : Back K H' S P e' := by
  intro i p hp
  have q := h.2 i
  cases c : args[i]? with
  | none => rw [c] at q; rw [q] at hp; cases hp
  | some a =>
    rw [c] at q
    cases a with
    | v d => rw [q.1] at hp; cases hp
    | m d =>
      obtain ⟨d', e1⟩ := backs_get hb i d c
      rw [Nat.zero_add] at e1
      obtain ⟨p', r1, r2, r3, r4, _⟩ := g.at e1
      have hp' : P i = some p' := (r4 rfl).2
      rw [hp] at hp'; cases hp'
      exact ⟨d', e1, r3.mono fun a z => .inl z⟩
theorem back_more {H H' : Hp} {S : Addr → Prop} {P O' : Own} {vs : List V} {args : List Arg} {σ' : L2.St} {e' : Env} {r : Addr} (h : ArgsOk K H S P vs args) (g : Good K (Fx.more ⟨S, P, fun _ => none, H⟩ r) O' σ' H' e') (hb : backsOk args e' 0 = true) : Back K H' (fun a => S a ∨ a = r) P e' := by
  intro i p hp
  have q := h.2 i
  cases c : args[i]? with
  | none => rw [c] at q; rw [q] at hp; cases hp
  | some a =>
    rw [c] at q
    cases a with
    | v d => rw [q.1] at hp; cases hp
    | m d =>
      obtain ⟨d', e1⟩ := backs_get hb i d c
      rw [Nat.zero_add] at e1
      obtain ⟨p', r1, r2, r3, r4, _⟩ := g.at e1
      have := (r4 rfl).2
      have hp' : P i = some p' := this
      rw [hp] at hp'; cases hp'
      exact ⟨d', e1, r3.mono fun a z => .inl z⟩

/-- a def keeps its promise -/
theorem fn_ok {P : Program} {w : World} {base : Heap} {k : Nat} {f : Addr} {name qual : Str} {params : Arguments} {body : List Stmt} {scope : Scope} {dV kV doc pm cdv ct oc : Value} {an od : Option Addr} {osl : Array (Option Value)} {N ps : List Str} {den : Env → Res}
    (lk : K.lookup f = some ⟨oc, od, .func (PySem.W.fnOf name qual params body scope dV kV doc pm an cdv ct), osl⟩) (hcd : PySem.W.codeIn K cdv qual = true) (S : FnScope N ps scope)
    (hb : ∀ (A : Around) (outer : List PySem.Env) (s : Shared) (H : Hp) (E : XK), Room k (A.deeper (envOfC qual scope s.heap.objs.size f cdv)) → SS (cxOf (L2.CX P w) P w K mg base N qual scope f cdv A outer s H E) body den) :
    FnOk P w K mg base (L2.CX P w) (k + 1) f (PySem.W.fnOf name qual params body scope dV kV doc pm an cdv ct) ps (spD K mg ps.length (fnDen N.length ps.length den)) := by
  refine fn_of lk hcd S (fun vs H Q E ⟨_, _, _, h, _⟩ => h) fun A outer s H vs Q E hr ⟨S0, P0, args, hl, hS, hP, ha, p⟩ => ⟨_, pss_of, ?_⟩
  have g := good_start (N := N) hS hP ha
  have hSx : ∀ {O' : Own} {H' : Hp} {σ' : L2.St} {e' : Env}, Good K ⟨S0, P0, fun _ => none, H⟩ O' σ' H' e' → ∀ a, S0 a → Sx S0 O' a := fun _ a z => .inl z
  have tk := takes_of (X := cxOf (L2.CX P w) P w K mg base N qual scope f cdv A outer s H E) rfl rfl rfl (E := E) rfl
  refine hb A outer s H E hr _ tk _ _ _ _ _ g _ ?_
  unfold fnDen at p
  rw [if_pos (by rw [← ha.1, hl])] at p
  cases c : den (startE N.length args) with
  | bad => rw [c] at p; exact p.elim
  | bk e' => rw [c] at p; exact p.elim
  | nx e' =>
    rw [c] at p
    simp only [Res.chk] at p
    by_cases hb : backsOk args e' 0 = true
    · rw [if_pos hb] at p
      intro σ' H' O' s' f' g'
      exact p _ _ f' (back_of ha g' hb) .non
    · rw [if_neg hb] at p; exact p.elim
  | exc x e' =>
    rw [c] at p
    simp only [Res.chk] at p
    by_cases hb : backsOk args e' 0 = true
    · rw [if_pos hb] at p
      intro cls dx σ' H' O' s' f' g' xr
      exact p cls dx _ f' (back_of ha g' hb) xr
    · rw [if_neg hb] at p; exact p.elim
  | rt d b e' =>
    rw [c] at p
    simp only [Res.chk] at p
    by_cases hb : backsOk args e' 0 = true
    · rw [if_pos hb] at p
      intro v σ' H' O' s' f' g' rr
      cases b with
      | false => exact p v _ f' (back_of ha g' hb) (Rep.mono (hSx g') rr)
      | true =>
        obtain ⟨⟨r1, r2⟩, r3⟩ := rr
        refine p v _ f' (back_of ha g' hb) ⟨Rep.mono (hSx g') r1, fun ds e => ?_⟩ fun ds e q e1 => back_more ha (r3 ds e q e1) hb
        obtain ⟨q, ws, a1, a2, a3, a4⟩ := r2 ds e
        exact ⟨q, ws, a1, a2, a3, Reps.mono (fun a z => z.imp_left (hSx g' a)) a4⟩
    · rw [if_neg hb] at p; exact p.elim
end
end Rp
set_option Elab.async false
set_option linter.all false
set_option maxRecDepth 100000
/-! RpQ: a def is called. -/
namespace Rp
open PySem PySem.Spec PyProof.Rows L2

def argsOf : List Opd → Env → Option (List Arg)
  | [], _ => some []
  | .v d :: os, e => (argsOf os e).map (Arg.v d :: ·)
  | .s i :: os, e => match e.get i with
    | .own _ d => (argsOf os e).map (Arg.m d :: ·)
    | _ => none
def lents : List Opd → List Nat
  | [] => []
  | .v _ :: os => lents os
  | .s i :: os => i :: lents os
/-- what the def made of the lent things -/
def putBk : List Opd → Nat → Env → Env → Env
  | [], _, _, e => e
  | .v _ :: os, k, e', e => putBk os (k + 1) e' e
  | .s i :: os, k, e', e => putBk os (k + 1) e' (match e'.get k, e.get i with
    | .own _ d, .own par _ => e.set i (.own par d)
    | _, _ => e)
section
variable {K : PySem.W.Frag} {mg : Str → Option Value} {Wx : WX} {F : Fx} {O : Own} {σ : L2.St} {H H' : Hp} {e e' : Env}
theorem putBk_out : ∀ {os : List Opd} {k : Nat} {e' e : Env} {j : Nat}, j ∉ lents os → (putBk os k e' e).get j = e.get j
  | [], _, _, _, _, _ => rfl
  | .v _ :: os, k, e', e, j, h => putBk_out (os := os) h
  | .s i :: os, k, e', e, j, h => by
    simp only [lents, List.mem_cons, not_or] at h
    simp only [putBk]
    rw [putBk_out h.2]
    split
    · rw [get_set_ne (Ne.symm h.1)]
    · rfl
theorem putBk_len : ∀ {os : List Opd} {k : Nat} {e' e : Env}, (putBk os k e' e).length = e.length
  | [], _, _, _ => rfl
  | .v _ :: os, k, e', e => putBk_len (os := os)
  | .s i :: os, k, e', e => by
    simp only [putBk]
    rw [putBk_len (os := os)]
    split <;> simp
theorem mem_lents : ∀ {os : List Opd} {k i : Nat}, os[k]? = some (Opd.s i) → i ∈ lents os
  | [], _, _, h => by simp at h
  | .v _ :: os, 0, i, h => by simp at h
  | .v _ :: os, k + 1, i, h => mem_lents (os := os) (k := k) (by simpa using h)
  | .s j :: os, 0, i, h => by simp at h; simp [lents, h]
  | .s j :: os, k + 1, i, h => List.mem_cons_of_mem _ (mem_lents (os := os) (k := k) (by simpa using h))
theorem of_lents : ∀ {os : List Opd} {i : Nat}, i ∈ lents os → ∃ k : Nat, os[k]? = some (Opd.s i)
  | [], i, h => by simp [lents] at h
  | .v _ :: os, i, h => by
    obtain ⟨k, e⟩ := of_lents (os := os) h
    exact ⟨k + 1, by simpa using e⟩
  | .s j :: os, i, h => by
    simp only [lents, List.mem_cons] at h
    rcases h with rfl | h
    · exact ⟨0, rfl⟩
    · obtain ⟨k, e⟩ := of_lents (os := os) h
      exact ⟨k + 1, by simpa using e⟩
theorem lents_inj : ∀ {os : List Opd} {k k' i : Nat}, (lents os).Nodup → os[k]? = some (Opd.s i) → os[k']? = some (Opd.s i) → k = k'
  | [], _, _, _, _, h, _ => by simp at h
  | .v _ :: os, k, k', i, n, h, h' => by
    cases k with
    | zero => simp at h
    | succ k =>
      cases k' with
      | zero => simp at h'
      | succ k' => exact congrArg (· + 1) (lents_inj (os := os) (k := k) (k' := k') n (by simpa using h) (by simpa using h'))
  | .s j :: os, k, k', i, n, h, h' => by
    simp only [lents, List.nodup_cons] at n
    cases k with
    | zero =>
      simp at h; subst h
      cases k' with
      | zero => rfl
      | succ k' => exact absurd (mem_lents (os := os) (k := k') (by simpa using h')) n.1
    | succ k =>
      cases k' with
      | zero => simp at h'; subst h'; exact absurd (mem_lents (os := os) (k := k) (by simpa using h)) n.1
      | succ k' => exact congrArg (· + 1) (lents_inj (os := os) (k := k) (k' := k') n.2 (by simpa using h) (by simpa using h'))
theorem putBk_in : ∀ {os : List Opd} {k k' : Nat} {e' e : Env} {j : Nat} {q par : Bool} {d d0 : D}, (lents os).Nodup → os[k']? = some (Opd.s j) → e'.get (k + k') = .own q d → e.get j = .own par d0 → (putBk os k e' e).get j = .own par d
  | [], _, _, _, _, _, _, _, _, _, _, h, _, _ => by simp at h
  | .v _ :: os, k, k', e', e, j, q, par, d, d0, n, h, h1, h2 => by
    cases k' with
    | zero => simp at h
    | succ k' => exact putBk_in (os := os) (k' := k') n (by simpa using h) (by rw [Nat.add_assoc, Nat.add_comm 1]; exact h1) h2
  | .s i :: os, k, k', e', e, j, q, par, d, d0, n, h, h1, h2 => by
    simp only [lents, List.nodup_cons] at n
    simp only [putBk]
    cases k' with
    | zero =>
      simp at h; subst h
      rw [putBk_out n.1]
      rw [Nat.add_zero] at h1
      rw [h1, h2]
      exact get_set_self (get_lt (by rw [h2]; simp))
    | succ k' =>
      have hj : j ∈ lents os := mem_lents (os := os) (k := k') (by simpa using h)
      have hij : i ≠ j := fun z => n.1 (z ▸ hj)
      refine putBk_in (os := os) (k' := k') n.2 (by simpa using h) (by rw [Nat.add_assoc, Nat.add_comm 1]; exact h1) (d0 := d0) ?_
      split
      · rw [get_set_ne hij]; exact h2
      · exact h2

def argOwn (O : Own) (os : List Opd) : Own := fun k => match os[k]? with
  | some (Opd.s i) => O i
  | _ => none
theorem reposO_len : ∀ {vs : List V} {os : List Opd} {S : Addr → Prop}, ReposO K σ H S vs os → vs.length = os.length
  | [], [], _, _ => rfl
  | _ :: _, _ :: _, _, h => by simp [reposO_len h.2]
  | [], _ :: _, _, h => h.elim
  | _ :: _, [], _, h => h.elim
theorem reposO_get : ∀ {vs : List V} {os : List Opd} {S : Addr → Prop} {k : Nat} {o : Opd}, ReposO K σ H S vs os → os[k]? = some o → ∃ v, vs[k]? = some v ∧ RepO K σ H S v o
  | [], [], _, _, _, _, e => by simp at e
  | v :: vs, o' :: os, S, 0, o, h, e => ⟨v, rfl, by simp at e; subst e; exact h.1⟩
  | v :: vs, o' :: os, S, k + 1, o, h, e => by
    obtain ⟨w, e1, e2⟩ := reposO_get (k := k) h.2 (by simpa using e)
    exact ⟨w, by simpa using e1, e2⟩
  | [], _ :: _, _, _, _, h, _ => h.elim
  | _ :: _, [], _, _, _, h, _ => h.elim
theorem argsOf_len : ∀ {os : List Opd} {args : List Arg}, argsOf os e = some args → args.length = os.length
  | [], _, h => by cases h; rfl
  | .v d :: os, args, h => by
    simp only [argsOf] at h
    cases q : argsOf os e with
    | none => rw [q] at h; cases h
    | some as => rw [q] at h; cases h; simp [argsOf_len q]
  | .s i :: os, args, h => by
    simp only [argsOf] at h
    split at h
    · cases q : argsOf os e with
      | none => rw [q] at h; cases h
      | some as => rw [q] at h; cases h; simp [argsOf_len q]
    · cases h
theorem argsOf_get : ∀ {os : List Opd} {args : List Arg} {k : Nat} {o : Opd}, argsOf os e = some args → os[k]? = some o → match o with
    | .v d => args[k]? = some (.v d)
    | .s i => ∃ par d, e.get i = .own par d ∧ args[k]? = some (.m d)
  | [], _, _, _, _, h => by simp at h
  | .v d :: os, args, k, o, h, h2 => by
    simp only [argsOf] at h
    cases q : argsOf os e with
    | none => rw [q] at h; cases h
    | some as =>
      rw [q] at h; cases h
      cases k with
      | zero => simp at h2; subst h2; simp
      | succ k => have := argsOf_get (k := k) q (by simpa using h2); simpa using this
  | .s i :: os, args, k, o, h, h2 => by
    simp only [argsOf] at h
    split at h
    · rename_i par d c
      cases q : argsOf os e with
      | none => rw [q] at h; cases h
      | some as =>
        rw [q] at h; cases h
        cases k with
        | zero => simp at h2; subst h2; exact ⟨par, d, c, by simp⟩
        | succ k => have := argsOf_get (k := k) q (by simpa using h2); simpa using this
    · cases h
theorem args_ok {vs : List V} {os : List Opd} {args : List Arg} (g : Good K F O σ H e) (r : ReposO K σ H (Sx F.S0 O) vs os) (h : argsOf os e = some args) : ArgsOk K H (Sx F.S0 O) (argOwn O os) vs args := by
  refine ⟨(reposO_len r).trans (argsOf_len h).symm, fun k => ?_⟩
  unfold argOwn
  cases c : os[k]? with
  | none =>
    have : args[k]? = none := by
      rw [List.getElem?_eq_none_iff] at c ⊢
      rw [argsOf_len h]; exact c
    rw [this]
  | some o =>
    have q := argsOf_get h c
    obtain ⟨v, e1, e2⟩ := reposO_get r c
    cases o with
    | v d => simp only at q; rw [q]; exact ⟨rfl, v, e1, e2⟩
    | s i =>
      obtain ⟨par, d, q1, q2⟩ := q
      rw [q2]
      obtain ⟨p, a1, a2, a3, _⟩ := g.at q1
      have : v = .ref p := by
        have := getD_of (show σ[i]? = some (some v) from e2)
        rw [a2] at this; cases this; rfl
      subst this
      exact ⟨p, a1, .inr ⟨i, a1⟩, e1, a3⟩
theorem argOwn_set {os : List Opd} {a : Addr} (h : Oset (argOwn O os) a) : Oset O a := by
  obtain ⟨k, e⟩ := h
  unfold argOwn at e
  split at e
  · exact ⟨_, e⟩
  · cases e
theorem argOwn_inj {os : List Opd} (g : Good K F O σ H e) (n : (lents os).Nodup) : ∀ i j p, argOwn O os i = some p → argOwn O os j = some p → i = j := by
  intro i j p h1 h2
  unfold argOwn at h1 h2
  split at h1
  · rename_i a c
    split at h2
    · rename_i b c'
      have := g.inj a b p h1 h2
      subst this
      exact lents_inj n c c'
    · cases h2
  · cases h1
/-- behind the call -/
theorem Good.called {os : List Opd} {args : List Arg} {F' : Fx} (g : Good K F O σ H e) (h : argsOf os e = some args) (n : (lents os).Nodup) (f : Fr (Oset (argOwn O os)) H H')
    (hF : F' = F ∨ ∃ p, F' = F.more p ∧ H p = none ∧ H' p ≠ none) (b : Back K H' (Sx F'.S0 O) (argOwn O os) e') : Good K F' O σ H' (putBk os 0 e' e) := by
  have hw : ∀ a, Oset (argOwn O os) a → Sx F.S0 O a := fun a z => .inr (argOwn_set z)
  have gF : Good K F' O σ H e ∨ ∃ p, F' = F.more p ∧ H p = none ∧ H' p ≠ none := hF.imp (fun z => by rw [z]; exact g) id
  have hP : F'.P = F.P ∧ F'.L = F.L ∧ F'.H0 = F.H0 ∧ (∀ a, F.S0 a → F'.S0 a) ∧ ∀ a, Sx F'.S0 O a → Sx F.S0 O a ∨ H a = none := by
    rcases hF with rfl | ⟨p, rfl, hp, _⟩
    · exact ⟨rfl, rfl, rfl, fun _ z => z, fun _ z => .inl z⟩
    · refine ⟨rfl, rfl, rfl, fun _ z => .inl z, ?_⟩
      rintro a ((z | rfl) | z)
      · exact .inl (.inl z)
      · exact .inr hp
      · exact .inl (.inr z)
  obtain ⟨eP, eL, eH, hS0, hS⟩ := hP
  have hlt : ∀ {vs : List V} {ds : List D}, Reps K H (Sx F.S0 O) vs ds → Reps K H' (Sx F'.S0 O) vs ds := fun r => Reps.mono (S := fun a => Sx F.S0 O a ∨ Sx F'.S0 O a) (fun _ z => .inr z) (Reps.fr f.rd (fun a z => .inl (hw a z)) (Reps.freeS (fun a z => z.elim .inl (hS a)) r))
  have hl1 : ∀ {v : V} {d : D}, Rep K H (Sx F.S0 O) v d → Rep K H' (Sx F'.S0 O) v d := fun r => Rep.mono (S := fun a => Sx F.S0 O a ∨ Sx F'.S0 O a) (fun _ z => .inr z) (Rep.fr f.rd (fun a z => .inl (hw a z)) (Rep.freeS (fun a z => z.elim .inl (hS a)) r))
  have hs0 : ∀ a, F'.S0 a → H' a ≠ none := by
    rcases hF with rfl | ⟨p, rfl, hp, hp'⟩
    · exact fun a z => f.dom a (g.s0 a z)
    · rintro a (z | rfl)
      · exact f.dom a (g.s0 a z)
      · exact hp'
  have lkn : ∀ i, (e.get i).isLk = true → i ∉ lents os := fun i hi hm => by
    obtain ⟨k, hk⟩ := of_lents hm
    have := argsOf_get h hk
    obtain ⟨par, d, q1, _⟩ := this
    rw [q1] at hi; cases hi
  refine ⟨by rw [putBk_len]; exact g.len, hs0, fun a z => f.dom a (g.d0 a (by rw [← eH]; exact z)), g.inj, fun i j p z => g.lo i j p (by rw [← eL]; exact z), fun i p z => hS0 p (g.ls i p (by rw [← eL]; exact z)), fun i p z => hS0 p (g.ps i p (by rw [← eP]; exact z)), fun i p z => ?_, fun i => ?_⟩
  · have := g.ln i p (by rw [← eL]; exact z)
    rw [putBk_out (lkn i this)]; exact this
  · rw [eP, eL]
    by_cases hi : i ∈ lents os
    · obtain ⟨k, hk⟩ := of_lents hi
      obtain ⟨par, d, q1, q2⟩ := argsOf_get h hk
      obtain ⟨p, a1, a2, a3, a4, a5⟩ := g.at q1
      have ao : argOwn O os k = some p := by unfold argOwn; rw [hk]; exact a1
      obtain ⟨d', b1, b2⟩ := b k p ao
      rw [putBk_in (k' := k) n hk (by rw [Nat.zero_add]; exact b1) q1]
      refine ⟨p, a1, a2, b2, fun z => ⟨hS0 _ (a4 z).1, (a4 z).2⟩, fun z => ⟨fun w => ?_, by rw [eH]; exact (a5 z).2⟩⟩
      rcases hF with rfl | ⟨p0, rfl, hp, hp'⟩
      · exact (a5 z).1 w
      · rcases w with w | rfl
        · exact (a5 z).1 w
        · exact g.dom (.inr ⟨i, a1⟩) hp
    · rw [putBk_out hi]
      have q := g.slot i
      cases c : e.get i with
      | no => rw [c] at q; exact q
      | val d => rw [c] at q; obtain ⟨q1, v, q2, q3⟩ := q; exact ⟨q1, v, q2, hl1 q3⟩
      | own par d =>
        rw [c] at q; obtain ⟨p, a1, a2, a3, a4, a5⟩ := q
        have hnp : ¬ Oset (argOwn O os) p := by
          rintro ⟨k, z⟩
          unfold argOwn at z
          split at z
          · rename_i j hj
            have := g.inj i j p a1 z
            subst this
            exact hi (mem_lents hj)
          · cases z
        have own : OwnRep K H' (Sx F'.S0 O) p d := by
          rcases a3 with ⟨vs, ds, rfl, w, r⟩ | ⟨kvs, vs, rfl, w, r⟩ | ⟨kvs, vs, rfl, w, r⟩
          · exact .inl ⟨vs, ds, rfl, f.eq _ _ w hnp, hlt r⟩
          · exact .inr (.inl ⟨kvs, vs, rfl, f.eq _ _ w hnp, hlt r⟩)
          · exact .inr (.inr ⟨kvs, vs, rfl, f.eq _ _ w hnp, hlt r⟩)
        refine ⟨p, a1, a2, own, fun z => ⟨hS0 _ (a4 z).1, (a4 z).2⟩, fun z => ⟨fun w => ?_, by rw [eH]; exact (a5 z).2⟩⟩
        rcases hF with rfl | ⟨p0, rfl, hp, hp'⟩
        · exact (a5 z).1 w
        · rcases w with w | rfl
          · exact (a5 z).1 w
          · exact g.dom (.inr ⟨i, a1⟩) hp
      | lck d =>
        rw [c] at q; obtain ⟨a1, v, a2, a3⟩ := q
        refine ⟨a1, v, a2, a3.elim (fun z => .inl (hl1 z)) fun ⟨p, z1, z2, z3, z4⟩ => .inr ⟨p, z1, z2, hS0 _ z3, ?_⟩⟩
        have hnp : ¬ Oset (argOwn O os) p := fun z => by obtain ⟨j, w⟩ := argOwn_set z; exact g.lo _ _ _ z2 w
        cases z4 with
        | lst w r => exact .lst (f.eq _ _ w hnp) (hlt r)
        | scr w r => exact .scr (f.rd.sq w hnp) (hlt r)
        | tup w r => exact .tup (w.elim (fun y => .inl ⟨f.rd.1 _ _ y.1 hnp, fun u => (hS _ u).elim y.2 fun o => rd_some y.1 o⟩) .inr) (hlt r)
        | dctK w r => exact .dctK (f.rd.1 _ _ w hnp) (hlt r)
        | dctT w r => exact .dctT (f.rd.1 _ _ w hnp) (hlt r)
      | lkd par d =>
        rw [c] at q; obtain ⟨a1, p, a2, a3, a4, a5, a6⟩ := q
        have hnp : ¬ Oset (argOwn O os) p := fun z => by obtain ⟨j, w⟩ := argOwn_set z; exact g.lo _ _ _ a3 w
        refine ⟨a1, p, a2, a3, hS0 _ a4, ?_, a6⟩
        rcases a5 with ⟨vs, ds, rfl, w, r⟩ | ⟨kvs, vs, rfl, w, r⟩ | ⟨kvs, vs, rfl, w, r⟩
        · exact .inl ⟨vs, ds, rfl, f.eq _ _ w hnp, hlt r⟩
        · exact .inr (.inl ⟨kvs, vs, rfl, f.rd.1 _ _ w hnp, hlt r⟩)
        · exact .inr (.inr ⟨kvs, vs, rfl, f.rd.1 _ _ w hnp, hlt r⟩)
end
end Rp
set_option Elab.async false
set_option linter.all false
set_option maxRecDepth 100000
/-! RpR: calls of the text's own defs, by place and by keyword. -/
namespace Rp
open PySem PySem.Spec PyProof.Rows L2

/-- a def of the text that keeps its promise -/
structure CalD (P : Program) (w : World) (K : PySem.W.Frag) (mg : Str → Option Value) (base : Heap) (k : Nat) (x : Str) (np : Nat) (den : List Arg → Res) : Prop where
  ex : ∃ (f : Addr) (fd : FuncData) (ps : List Str), FnOk P w K mg base (L2.CX P w) k f fd ps (spD K mg np den) ∧ mg x = some (.ref f) ∧ PySem.W.keepIn K (.ref f) = true ∧ Binds K fd ps []
  len : ∀ args, args.length ≠ np → den args = .bad
def pm {α : Type} (ix : List Nat) (l : List α) : List α := ix.filterMap (l[·]?)
structure CalK (P : Program) (w : World) (K : PySem.W.Frag) (mg : Str → Option Value) (base : Heap) (k : Nat) (x : Str) (ks : List Str) (ix : List Nat) (np : Nat) (den : List Arg → Res) : Prop where
  ex : ∃ (f : Addr) (fd : FuncData) (ps : List Str), FnOk P w K mg base (L2.CX P w) k f fd ps (spD K mg np den) ∧ mg x = some (.ref f) ∧ PySem.W.keepIn K (.ref f) = true ∧
    ∀ (s : Shared) (ws : List Value), K.In s.heap → ws.length = ks.length → BindsTo s fd ⟨[], ks.zip ws⟩ (ps.zip (pm ix ws))
  len : ∀ args, args.length ≠ np → den args = .bad
theorem fnDen_len {n np : Nat} {body : Env → Res} : ∀ args, args.length ≠ np → fnDen n np body args = .bad := fun args h => by
  unfold fnDen; rw [if_neg h]

/-- fresh: a list that comes must be a new one -/
def callR (fresh : Bool) (den : List Arg → Res) (os : List Opd) (e : Env) : Out D := match argsOf os e with
  | some args => if decide (lents os).Nodup then match den args with
      | .rt d b e' => if fresh && isLst d && !b then .bad else .ok d (putBk os 0 e' e)
      | .exc x e' => .exc x (putBk os 0 e' e)
      | _ => .bad
    else .bad
  | none => .bad
def callU (fresh : Bool) (den : List Arg → Res) (fs : Env → Out (List Opd)) : Env → Out D := fun env => (fs env).bind fun os e => callR fresh den os e

section
variable {X : Cx} {a : Expr} {es : List Expr} {fs : Env → Out (List Opd)} {x : Str} {pf pos : Pos} {k j np : Nat} {den : List Arg → Res}
/-- the promise is asked for -/
theorem call_sp {F : Fx} {O : Own} {σ : L2.St} {H : Hp} {e : Env} {os : List Opd} {vs : List V} {fresh : Bool} {Wx : WX} {Q : VK} (g : Good X.K F O σ H e) (r : ReposO X.K σ H (Sx F.S0 O) vs os) (hl : ∀ args, args.length ≠ np → den args = .bad)
    (h0 : callR fresh den os e = .bad → False)
    (h1 : ∀ d e' v H', callR fresh den os e = .ok d e' → Fr (Oset O) H H' → Good X.K F O σ H' e' → Rep X.K H' (Sx F.S0 O) v d → (fresh = true → FreshV X.K H H' (Sx F.S0 O) v d ∧ ∀ ds, d = .lst ds → ∀ p, v = .ref p → Good X.K (F.more p) O σ H' e') → Q v H')
    (h2 : ∀ x e' cls dx H', callR fresh den os e = .exc x e' → Fr (Oset O) H H' → Good X.K F O σ H' e' → XRep X.mg cls dx x → Wx cls dx σ H') : spD X.K X.mg np den vs H Q (WE Wx σ) := by
  unfold callR at h0 h1 h2
  cases q : argsOf os e with
  | none => rw [q] at h0; exact (h0 rfl).elim
  | some args =>
    simp only [q] at h0 h1 h2
    by_cases n : (lents os).Nodup
    case neg => rw [if_neg (by simpa using n)] at h0; exact (h0 rfl).elim
    rw [if_pos (by simpa using n)] at h0
    simp only [if_pos (show decide (lents os).Nodup = true by simpa using n)] at h1 h2
    have ao := args_ok g r q
    have hlen : args.length = np := Decidable.byContradiction fun z => by rw [hl args z] at h0; exact h0 rfl
    refine ⟨Sx F.S0 O, argOwn O os, args, ao.1.trans hlen, fun a z => g.dom z, argOwn_inj g n, ao, ?_⟩
    have fm : ∀ {H' : Hp}, Fr (Oset (argOwn O os)) H H' → Fr (Oset O) H H' := fun f => f.mono fun a z => argOwn_set z
    cases c : den args with
    | nx e' => rw [c] at h0; exact (h0 rfl).elim
    | bk e' => rw [c] at h0; exact (h0 rfl).elim
    | bad => rw [c] at h0; exact (h0 rfl).elim
    | exc y e' =>
      simp only [c] at h2
      exact fun cls dx H' f b xr => h2 y _ cls dx H' rfl (fm f) (g.called q n f (.inl rfl) b) xr
    | rt d b e' =>
      simp only [c] at h0 h1
      cases hb : (fresh && isLst d && !b) with
      | true => rw [if_pos hb] at h0; exact (h0 rfl).elim
      | false =>
        simp only [hb, Bool.false_eq_true, if_false] at h1
        cases b with
        | false =>
          intro v H' f bk rep
          refine h1 d _ v H' rfl (fm f) (g.called q n f (.inl rfl) bk) rep fun hf => ?_
          subst hf
          have nl : ∀ ds, d ≠ .lst ds := fun ds e => by subst e; simp [isLst] at hb
          exact ⟨⟨rep, fun ds e => absurd e (nl ds)⟩, fun ds e => absurd e (nl ds)⟩
        | true =>
          intro v H' f bk fv bm
          refine h1 d _ v H' rfl (fm f) (g.called q n f (.inl rfl) bk) fv.1 fun _ => ⟨fv, fun ds e p ep => ?_⟩
          obtain ⟨p', ws, a1, a2, a3, a4⟩ := fv.2 ds e
          rw [a1] at ep; cases ep
          refine g.called q n f (.inr ⟨_, rfl, a2, by rw [a3]; simp⟩) (fun i p0 hp0 => ?_)
          obtain ⟨d', b1, b2⟩ := bm ds e _ a1 i p0 hp0
          refine ⟨d', b1, b2.mono fun a z => ?_⟩
          rcases z with (z | rfl) | z
          · exact .inl (.inl z)
          · exact .inr rfl
          · exact .inl (.inr z)
theorem sf_callU (c : CalD X.prog X.w X.K X.mg X.base k x np den) (hr : Room j X.A) (hk : k ≤ j) (hg : Gl X x) (hdb : (x == ("__debug__" : Str)) = false) (hst : (a :: es).all (fun e => !PySem.W.isStarred e) = true) (h : SA X (a :: es) fs) : SF X (.Call (.Name x pf) (a :: es) [] pos) (callU true den fs) := by
  obtain ⟨⟨f, fd, ps, Fn, hm, hkp, hb⟩, hl⟩ := c
  rw [List.all_cons, Bool.and_eq_true] at hst
  intro Wx tk F O σ H env gd Q p
  refine TE.by (pe_callS (Fn.mono hk) hr hg hm hkp hb (passAt tk) pa_of hdb (starEach_plain (by simpa using hst.1) _) (pl_of hst.2 _ _)) ?_
  refine h Wx tk F O σ H env gd _ (PstF.bind p fun os e1 vs H1 O1 s1 f1 g1 r1 p1 => ?_)
  refine call_sp (fresh := true) g1 r1 hl (fun z => ?_) (fun d e' v H' z ff gg rep fr => ?_) (fun y e' cls dx H' z ff gg xr => ?_)
  · rw [z] at p1; exact p1
  · rw [z] at p1; exact p1 v H' O1 .refl ff gg (fr rfl).1 (fr rfl).2
  · rw [z] at p1; exact p1 cls dx H' O1 .refl ff gg xr
theorem se_callU (c : CalD X.prog X.w X.K X.mg X.base k x np den) (hr : Room j X.A) (hk : k ≤ j) (hg : Gl X x) (hdb : (x == ("__debug__" : Str)) = false) (hst : (a :: es).all (fun e => !PySem.W.isStarred e) = true) (h : SA X (a :: es) fs) : SE X (.Call (.Name x pf) (a :: es) [] pos) (callU false den fs) := by
  obtain ⟨⟨f, fd, ps, Fn, hm, hkp, hb⟩, hl⟩ := c
  rw [List.all_cons, Bool.and_eq_true] at hst
  intro Wx tk F O σ H env gd Q p
  refine TE.by (pe_callS (Fn.mono hk) hr hg hm hkp hb (passAt tk) pa_of hdb (starEach_plain (by simpa using hst.1) _) (pl_of hst.2 _ _)) ?_
  refine h Wx tk F O σ H env gd _ (Pst.bind p fun os e1 vs H1 O1 s1 f1 g1 r1 p1 => ?_)
  refine call_sp (fresh := false) g1 r1 hl (fun z => ?_) (fun d e' v H' z ff gg rep fr => ?_) (fun y e' cls dx H' z ff gg xr => ?_)
  · rw [z] at p1; exact p1
  · rw [z] at p1; exact p1 v H' O1 .refl ff gg rep
  · rw [z] at p1; exact p1 cls dx H' O1 .refl ff gg xr

/-! ### keywords alone -/
def TK.of (X : Cx) (kws : List Keyword) : TA := fun σ H Q => ∀ (pos : Pos) pins s, Inv X pins σ H s → wpAny (model X.prog X.w) X.A (evalAll ((backToKw pos (keywordEach kws X.env)).map (·.2))) (AP X pins σ Q) X.xe s
theorem pk_of {kws : List Keyword} : PK X kws (TK.of X kws) := ⟨fun pos pins s _ _ _ I h => h pos pins s I⟩
theorem TK.by {kws : List Keyword} {t : TA} (h : PK X kws t) {σ : L2.St} {H : Hp} {Q : List V → Hp → Prop} (q : t σ H Q) : TK.of X kws σ H Q := fun pos pins s I => h.run pos pins s σ H Q I q
def SK (X : Cx) (kws : List Keyword) (f : Env → Out (List Opd)) : Prop :=
  ∀ Wx, Takes X Wx → ∀ F O σ H env, Good X.K F O σ H env → ∀ Q : List V → Hp → Prop, Pst X.K X.mg Wx F O σ H (ReposO X.K σ) Q (f env) → TK.of X kws σ H Q
theorem sk_nil : SK X [] nilA := fun Wx tk F O σ H env g Q p => TK.by pk_nil (p.ok g trivial)
theorem sk_cons {nm : Option Str} {kpos : Pos} {kws : List Keyword} {fa : Env → Out Opd} (ha : SO X a fa) (hr : SK X kws fs) : SK X (⟨nm, a, kpos⟩ :: kws) (consA fa fs) := by
  intro Wx tk F O σ H env gd Q p
  refine TK.by (pk_cons pe_of pk_of) ?_
  refine ha Wx tk F O σ H env gd _ (Pst.bind p fun o e1 v H1 O1 s f1 g1 r1 p1 => ?_)
  refine hr Wx tk F O1 σ H1 e1 g1 _ (Pst.bind p1 fun os e2 vs H2 O2 s2 f2 g2 r2 p2 => ?_)
  exact p2.ok g2 ⟨(r1.fr f2.rd fun _ z => .inr z).mono fun _ z => s2.sx z, r2⟩
theorem pm_repos {K : PySem.W.Frag} {σ : L2.St} {H : Hp} {S : Addr → Prop} {vs : List V} {os : List Opd} (r : ReposO K σ H S vs os) : ∀ ix : List Nat, ReposO K σ H S (pm ix vs) (pm ix os)
  | [] => trivial
  | i :: ix => by
    unfold pm
    have ih := pm_repos r ix
    unfold pm at ih
    cases c : os[i]? with
    | none =>
      have : vs[i]? = none := by
        rw [List.getElem?_eq_none_iff] at c ⊢
        rw [reposO_len r]; exact c
      rw [List.filterMap_cons, List.filterMap_cons, c, this]; exact ih
    | some o =>
      obtain ⟨v, e1, e2⟩ := reposO_get r c
      rw [List.filterMap_cons, List.filterMap_cons, c, e1]; exact ⟨e2, ih⟩
theorem vals_get : ∀ {vs : List V} {us : List Value} {i : Nat}, Vals vs us → (vs[i]? = none ∧ us[i]? = none) ∨ ∃ v u, vs[i]? = some v ∧ us[i]? = some u ∧ RelV v u
  | _, _, _, .nil => .inl ⟨rfl, rfl⟩
  | _, _, 0, .cons r _ => .inr ⟨_, _, rfl, rfl, r⟩
  | _, _, i + 1, .cons _ t => by simpa using vals_get (i := i) t
theorem pm_vals {vs : List V} {us : List Value} (r : Vals vs us) : ∀ ix : List Nat, Vals (pm ix vs) (pm ix us)
  | [] => .nil
  | i :: ix => by
    unfold pm
    have ih := pm_vals r ix
    unfold pm at ih
    rcases vals_get (i := i) r with ⟨e1, e2⟩ | ⟨v, u, e1, e2, e3⟩
    · rw [List.filterMap_cons, List.filterMap_cons, e1, e2]; exact ih
    · rw [List.filterMap_cons, List.filterMap_cons, e1, e2]; exact .cons e3 ih
theorem run_fnKS {CX : CXT} {f : Addr} {fd : FuncData} {ps ks : List Str} {ix : List Nat} {sp : Sp} {E : L2.St → XK} {pins : List (Addr × Obj)} {σ : L2.St} {H : Hp} {s : Shared} {Q : VK} {ws : List Value} {zs : List V} (Fn : FnOk X.prog X.w X.K X.mg X.base CX k f fd ps sp) (hr : Room k X.A)
    (hb : ∀ (s : Shared) (ws : List Value), X.K.In s.heap → ws.length = ks.length → BindsTo s fd ⟨[], ks.zip ws⟩ (ps.zip (pm ix ws))) (hx : PassesAt CX X σ (E σ)) (I : Inv X pins σ H s) (r : Vals zs ws) (hl : ws.length = ks.length) (h : sp (pm ix zs) H Q (E σ)) :
    wpAny (model X.prog X.w) X.A (call (.ref f) [] (ks.zip ws)) (EP X pins σ Q) X.xe s := by
  have b := hb s ws I.kIn hl
  refine wpAny_call (codeAny_mono (Fn.run X.A X.stack s H ⟨[], ks.zip ws⟩ (pm ix ws) (pm ix zs) Q (E σ) hr I.env0 b (pm_vals r ix) h) fun r s' hq => ?_)
  cases r with
  | error e => exact hx pins H s e s' I hq
  | ok fl =>
    cases fl with
    | ret u => exact I.after hq
    | next => exact False.elim hq
    | brk => exact False.elim hq
    | cont => exact False.elim hq
def tCallKS (n : Nat) (ix : List Nat) (sp : Sp) (E : L2.St → XK) (t : TA) : TE := fun σ H Q => t σ H fun zs H1 => zs.length = n ∧ sp (pm ix zs) H1 Q (E σ)
theorem pe_callKS {CX : CXT} {f : Addr} {fd : FuncData} {ps ks : List Str} {ix : List Nat} {sp : Sp} {E : L2.St → XK} {kws : List Keyword} {tk : TA} (Fn : FnOk X.prog X.w X.K X.mg X.base CX k f fd ps sp) (hr : Room k X.A) (hg : Gl X x) (hm : X.mg x = some (.ref f)) (hk : PySem.W.keepIn X.K (.ref f) = true)
    (hb : ∀ (s : Shared) (ws : List Value), X.K.In s.heap → ws.length = ks.length → BindsTo s fd ⟨[], ks.zip ws⟩ (ps.zip (pm ix ws))) (hx : ∀ σ, PassesAt CX X σ (E σ)) (hkw : PK X kws tk)
    (hall : (backToKw pos (keywordEach kws X.env)).all (·.1.isSome) = true) (hks : (backToKw pos (keywordEach kws X.env)).filterMap (·.1) = ks) (hdb : (x == ("__debug__" : Str)) = false)
    (hpl : ((backTo pos (starEach [] X.env)).any (·.1) || (backToKw pos (keywordEach kws X.env)).any (·.1.isNone)) = false) :
    PE X (.Call (.Name x pf) [] kws pos) (tCallKS ks.length ix sp E tk) := by
  refine ⟨fun pins s σ H Q I h => ?_⟩
  refine wpAny_Call_Name_kw (ld_glob I hg hm ?_ hdb)
  refine PySem.W.callWith_KW0 (h₀ := X.base) I.ok.mod.kin hk hall ?_ hpl
  refine thn (hkw.run pos pins s σ H _ I h) fun ws s2 ⟨zs, H2, I2, rz, l2, q2⟩ => ⟨I2.kIn, ?_⟩
  rw [hks]
  exact run_fnKS Fn hr hb (hx σ) I2 rz (rz.length.symm.trans l2) q2
def callKU (fresh : Bool) (n : Nat) (ix : List Nat) (den : List Arg → Res) (fs : Env → Out (List Opd)) : Env → Out D := fun env => (fs env).bind fun os e => if os.length = n then callR fresh den (pm ix os) e else .bad
theorem sf_callK {ks : List Str} {ix : List Nat} {kws : List Keyword} {nk : Nat} (hnk : ks.length = nk) (c : CalK X.prog X.w X.K X.mg X.base k x ks ix np den) (hr : Room j X.A) (hk : k ≤ j) (hg : Gl X x) (hdb : (x == ("__debug__" : Str)) = false)
    (hall : (backToKw pos (keywordEach kws X.env)).all (·.1.isSome) = true) (hks : (backToKw pos (keywordEach kws X.env)).filterMap (·.1) = ks)
    (hpl : ((backTo pos (starEach [] X.env)).any (·.1) || (backToKw pos (keywordEach kws X.env)).any (·.1.isNone)) = false) (h : SK X kws fs) : SF X (.Call (.Name x pf) [] kws pos) (callKU true nk ix den fs) := by
  subst hnk
  obtain ⟨⟨f, fd, ps, Fn, hm, hkp, hb⟩, hl⟩ := c
  intro Wx tk F O σ H env gd Q p
  refine TE.by (pe_callKS (Fn.mono hk) hr hg hm hkp hb (passAt tk) pk_of hall hks hdb hpl) ?_
  refine h Wx tk F O σ H env gd _ (PstF.bind p fun os e1 vs H1 O1 s1 f1 g1 r1 p1 => ?_)
  have p1' : PstF X.K X.mg Wx F O1 σ H1 Q (if os.length = ks.length then callR true den (pm ix os) e1 else .bad) := p1
  split at p1'
  · rename_i hlen
    refine ⟨(reposO_len r1).trans hlen, call_sp (fresh := true) g1 (pm_repos r1 ix) hl (fun z => ?_) (fun d e' v H' z ff gg rep fr => ?_) (fun y e' cls dx H' z ff gg xr => ?_)⟩
    · rw [z] at p1'; exact p1'
    · rw [z] at p1'; exact p1' v H' O1 .refl ff gg (fr rfl).1 (fr rfl).2
    · rw [z] at p1'; exact p1' cls dx H' O1 .refl ff gg xr
  · exact p1'.elim
end
end Rp
set_option Elab.async false
set_option linter.all false
set_option maxRecDepth 100000
/-! RpS: raise, try; lists unpacked; items stored; values that nobody keeps. -/
namespace Rp
open PySem PySem.Spec PyProof.Rows L2

section
variable {X : Cx}
/-! ### an own class of errors, made without arguments -/
/-- what is known of an own class of errors at C -/
structure OwnE (K : PySem.W.Frag) (mg : Str → Option Value) (x : Str) (C : Addr) : Prop where
  ex : PySem.W.excIn K C [.type "ValueError", .type "Exception", .type "BaseException", .type "object"] "ValueError.__new__" = true
  g : mg x = some (.ref C)
  kp : PySem.W.keepIn K (.ref C) = true
  sub : PySem.W.subIn K (.ref C) (.type "BaseException") = some true
  ty : PySem.W.typeIn K (.ref C) = some (.type "type")
theorem pmk_own0 {C : Addr} {bmB : List Value} {B newId initId : String} {x : Str} {p pos : Pos} (F : ExcBaseFacts B newId initId bmB) (q : PySem.W.excIn X.K C bmB newId = true) (gC : X.mg x = some (.ref C)) (kC : PySem.W.keepIn X.K (.ref C) = true) (r : Raises X (.ref C)) (hg : Gl X x)
    (hdb : (x == ("__debug__" : Str)) = false) : PMk X (.Call (.Name x p) [] [] pos) (fun σ H Q => Q (.ref C) none H) := by
  intro pins s σ H Q I h
  refine wpAny_Call_Name_kw (ld_glob I hg gC ?_ hdb)
  refine PySem.W.callWith_K0 I.kIn kC ?_
  show wpAny _ _ (call (.ref C) []) _ _ _
  obtain ⟨bm, N, nm, qn, bs, hdct, sn, sub, ab, col, dd, k0, k1, k2, k3, k5, mN, hC, hN, hni, T⟩ := exc_obj I.kIn q
  refine wpAny_call_exc_subT F T hC hN hni (fun h' e hm => ?_) (by show 0 ≤ sizeLine; rw [sizeLine_eq]; omega)
  exact mk_of I hm r h (I.hok.gone hm.new)
def dRaise (x : Str) : Env → Res := fun env => .exc (.str x) env
theorem s1_raise0 {C : Addr} {x : Str} {p pos pos' : Pos} (hc : X.calm = true) (c : OwnE X.K X.mg x C) (hg : Gl X x) (hdb : (x == ("__debug__" : Str)) = false) : S1 X (.Raise (some (.Call (.Name x p) [] [] pos)) none pos') (dRaise x) := by
  intro Wx tk F O σ H env gd N pp
  refine TS.by (ps_raise hc tk (pmk_own0 PySem.F.excBase_ValueError c.ex c.g c.kp (raises_own c.sub c.ty) hg hdb)) ?_
  exact pp _ _ σ H O .refl .refl gd ⟨x, C, rfl, c.g, rfl, rfl⟩

/-! ### an except suite that asks for classes and gives constants -/
/-- in a suite: the exception lies at a, in slot i -/
def TU (X : Cx) (i : Nat) (a : Addr) (e : Expr) (b : Bool) : Prop := ∀ σ H (Q : Bool → Hp → Prop), σ[i]? = some (some (.ref a)) → Q b H → TT.of X e σ H Q
def EU (X : Cx) (i : Nat) (a : Addr) (e : Expr) (d : V) : Prop := ∀ σ H (Q : VK), σ[i]? = some (some (.ref a)) → Q d H → TE.of X e σ H Q
def SU (X : Cx) (i : Nat) (a : Addr) (st : List Stmt) (d : V) : Prop := ∀ σ H (N : Ends), σ[i]? = some (some (.ref a)) → N.rt d H → TSs.of X st N σ H
variable {i : Nat} {a : Addr} {e e1 e2 : Expr} {b b1 b2 : Bool} {pos : Pos}
theorem tu_not (h : TU X i a e b) : TU X i a (.UnaryOp .Not e pos) (!b) := fun σ H Q hs q => TT.by (pt_not pt_of) (h σ H _ hs q)
theorem tu_or (h1 : TU X i a e1 b1) (h2 : TU X i a e2 b2) : TU X i a (.BoolOp .Or [e1, e2] pos) (b1 || b2) := fun σ H Q hs q => by
  refine TT.by (pw_or pt_of (pw_or1 pt_of)).pt (h1 σ H _ hs ?_)
  cases b1 with
  | true => rw [if_pos rfl]; exact q
  | false => rw [if_neg Bool.false_ne_true]; exact h2 σ H _ hs q
theorem tu_and (h1 : TU X i a e1 b1) (h2 : TU X i a e2 b2) : TU X i a (.BoolOp .And [e1, e2] pos) (b1 && b2) := fun σ H Q hs q => by
  refine TT.by (pw_and pt_of (pw_and1 pt_of)).pt (h1 σ H _ hs ?_)
  cases b1 with
  | true => rw [if_pos rfl]; exact h2 σ H _ hs q
  | false => rw [if_neg Bool.false_ne_true]; exact q
theorem eu_str {x : Str} {j : Nat} : EU X i a (.Constant (.str x) j pos) (.str x) := fun σ H Q hs q => TE.by pe_str q
theorem eu_ite {c : Expr} {u v : V} (h : TU X i a c b) (h1 : EU X i a e1 u) (h2 : EU X i a e2 v) : EU X i a (.IfExp c e1 e2 pos) (if b then u else v) := fun σ H Q hs q => by
  refine TE.by (pe_ifExp pt_of pe_of pe_of) (h σ H _ hs ?_)
  cases b with
  | true => rw [if_pos rfl]; exact h1 σ H _ hs q
  | false => rw [if_neg Bool.false_ne_true]; exact h2 σ H _ hs q
theorem su_ret {v : V} (h : EU X i a e v) : SU X i a [.Return (some e) pos] v := fun σ H N hs q => TSs.by (pss_one (ps_ret pe_of)) (h σ H _ hs q)
theorem su_if {c : Expr} {p : List Stmt} {r : List Stmt} {u v : V} (h : TU X i a c b) (h1 : SU X i a p u) (h2 : SU X i a r v) : SU X i a (.If c p [] pos :: r) (if b then u else v) := fun σ H N hs q => by
  refine TSs.by (pss_cons (ps_if pt_of pss_of pss_nil) pss_of) (h σ H _ hs ?_)
  cases b with
  | true => rw [if_pos rfl]; exact h1 σ H _ hs q
  | false => rw [if_neg Bool.false_ne_true]; exact h2 σ H _ hs q
theorem su_cast {st : List Stmt} {u v : V} (h : SU X i a st u) (e : u = v) : SU X i a st v := e ▸ h
/-- isinstance(caught, C) -/
theorem tu_is {D C2 : Addr} {oe : Obj} {pn : List (Addr × Obj)} {n x : Str} {p1 p2 p3 pos : Pos} (C : ExcC X.K D) (hz : Zc (.ref D) none oe) (hf : ∃ vs, oe.data = .fields vs)
    (hN : X.N[i]? = some n) (hv : Vis X.env.scope n) (hd : (n == ("__debug__" : Str)) = false) (hcd : (n == ("__classdict__" : Str)) = false)
    (hgi : Gl X "isinstance") (hmi : X.mg "isinstance" = none) (hg : Gl X x) (hm : X.mg x = some (.ref C2)) (hdx : (x == ("__debug__" : Str)) = false) (hk : PySem.W.kitOne X.K (.ref D) (.ref C2) = some b) :
    TU (X.suite a ((a, oe) :: pn)) i a (.Call (.Name "isinstance" p1) [.Name n p2, .Name x p3] [] pos) b := fun σ H Q hs q => by
  refine TT.by (pt_val (pe_callB (call_isE C hz hf) hgi hmi boot_isinstance (pa_cons (pe_var (i := i) hN hv hd hcd) (pa_cons (pe_glob (v := .ref C2) hg hm rfl hdx) pa_nil)))) ?_
  exact ⟨_, hs, ⟨_, _, b, rfl, fun u r => r, hk, b, rfl, q⟩⟩
theorem tu_isB {D : Addr} {oe : Obj} {pn : List (Addr × Obj)} {n x : Str} {T : String} {p1 p2 p3 pos : Pos} (C : ExcC X.K D) (hz : Zc (.ref D) none oe) (hf : ∃ vs, oe.data = .fields vs)
    (hN : X.N[i]? = some n) (hv : Vis X.env.scope n) (hd : (n == ("__debug__" : Str)) = false) (hcd : (n == ("__classdict__" : Str)) = false)
    (hgi : Gl X "isinstance") (hmi : X.mg "isinstance" = none) (hg : Gl X x) (hm : X.mg x = none) (hb : bootBuiltins x = some (.type T)) (hn : x ≠ "__name__") (hdx : (x == ("__debug__" : Str)) = false) (hk : PySem.W.kitOne X.K (.ref D) (.type T) = some b) :
    TU (X.suite a ((a, oe) :: pn)) i a (.Call (.Name "isinstance" p1) [.Name n p2, .Name x p3] [] pos) b := fun σ H Q hs q => by
  refine TT.by (pt_val (pe_callB (call_isE C hz hf) hgi hmi boot_isinstance (pa_cons (pe_var (i := i) hN hv hd hcd) (pa_cons (pe_bltn (v := .ty T) hg hm hb rfl hn hdx) pa_nil)))) ?_
  exact ⟨_, hs, ⟨_, _, b, rfl, fun u r => r, hk, b, rfl, q⟩⟩

/-! ### try: .. except C as n: (constants) -/
def dTryC (i : Nat) (f : Env → Res) (h : Str → Option D) : Env → Res := fun env => match f env with
  | .exc (.str nm) e => if decide (i < e.length) && !(e.get i).isLk then (match h nm with
      | some d => .rt d false (e.set i .no)
      | none => .bad) else .bad
  | .exc _ _ => .bad
  | .nx e => .nx e
  | .rt d b e => .rt d b e
  | .bk e => .bk e
  | .bad => .bad
theorem scal_rep {K : PySem.W.Frag} {H : Hp} {S : Addr → Prop} {d : D} {v : V} (h : scalV d = some v) : Rep K H S v d := by
  cases d <;> simp only [scalV] at h <;> first | (cases h; done) | (injection h with h; subst h)
  · exact .non
  · exact .bl _
  · exact .int _
  · exact .str _
theorem s1_tryC {body suite : List Stmt} {b0 : Stmt} {x n : Str} {c : Value} {np pos pos' : Pos} {f : Env → Res} {h : Str → Option D} (hs : X.stack = X.env :: X.outer) (hf : X.env.frame = some X.env.locals) (hN : X.N.Nodup) (hi : X.N[i]? = some n) (hln : X.env.kindOf n = some .local) (hc : Names X x c)
    (hb : ∀ pn xe, PassesOwn (model X.prog X.w) X.A X.env xe → SS (X.tr pn xe) body f)
    (hd : ∀ nm d, h nm = some d → ∃ v, scalV d = some v ∧ ∀ C, X.mg nm = some (.ref C) → PySem.W.exmOne X.K (.ref C) c = some true ∧ ∀ a oe pn, Zc (.ref C) none oe → (∃ vs, oe.data = .fields vs) → SU (X.suite a ((a, oe) :: pn)) i a (b0 :: suite) v) :
    S1 X (.Try body [.ExceptHandler (some (.Name x np)) (some n) (b0 :: suite) pos'] [] [] pos) (dTryC i f h) := by
  intro Wx tk F O σ H env gd N p
  refine TS.by (ps_try_as hs hf hN hi hln hc tk (tb := fun W N σ H => ∀ pn xe, Takes (X.tr pn xe) W → PassesOwn (model X.prog X.w) X.A X.env xe → TSs.of (X.tr pn xe) body N σ H)
    (ts := fun a cls dx N σ H => ∀ oe pn, Zc cls dx oe → (∃ vs, oe.data = .fields vs) → TSs.of (X.suite a ((a, oe) :: pn)) (b0 :: suite) N σ H)
    (fun W pn xe tkW hp => ⟨fun pins s σ H D I hh => pss_of.run pins s σ H D I (hh pn xe tkW hp)⟩) (fun a oe cls dx pn hz hff => ⟨fun pins s σ H D I hh => pss_of.run pins s σ H D I (hh oe pn hz hff)⟩)) ?_
  intro pn xe tkW hp
  refine hb pn xe hp _ tkW F O σ H env gd N ?_
  unfold dTryC at p
  cases cf : f env with
  | bad => rw [cf] at p; exact p
  | nx e => rw [cf] at p; exact p
  | rt d b e => rw [cf] at p; exact p
  | bk e => rw [cf] at p; exact p
  | exc xx e =>
    rw [cf] at p
    intro cls dx σ' H' O' s' f' g' xr
    obtain ⟨nm, C, rfl, hm, rfl, rfl⟩ := xr
    simp only at p
    split at p
    case isFalse => exact p.elim
    rename_i hl
    rw [Bool.and_eq_true, decide_eq_true_eq] at hl
    cases ch : h nm with
    | none => rw [ch] at p; exact p.elim
    | some d =>
      rw [ch] at p
      obtain ⟨v, sv, hv⟩ := hd nm d ch
      obtain ⟨h1, h2⟩ := hv C hm
      refine ⟨true, h1, fun _ a ha oe pn2 hz hff => ?_, fun z => by cases z⟩
      refine h2 a oe pn2 hz hff _ H' _ ?_ ?_
      · rw [List.getElem?_set_self (by rw [← g'.len]; exact hl.1)]
      · have g2 := g'.forget (i := i) (by simpa using hl.2)
        exact p v σ' H' _ (fun j => by
          unfold Own.drop
          split
          · exact .inr (.inl rfl)
          · exact s' j) f' g2 (scal_rep sv)

/-! ### a list unpacked -/
def lstU : D → Option (List D)
  | .lst ds => some ds
  | .scr ds => some ds
  | _ => none
def gLstD (n : Nat) (gs : List D → Env → Option Env) : D → Env → Option Env := fun d e => match lstU d with
  | some ds => if ds.length = n then gs ds e else none
  | none => none
theorem sg_lst {es : List Expr} {kk : Nat} {is : List Nat} {gs : List D → Env → Option Env} (hc : X.calm = true) (hst : es.all (fun e => !PySem.W.isStarred e) = true) (h : SGs X es is gs) : SG X (.Tuple es kk pos) is (gLstD es.length gs) := by
  obtain ⟨t, p, q⟩ := h
  intro F O σ H env v d env' g r he Q k
  refine TG.by (pg_lst hc p (assignEach_all hst _).1 (assignEach_all hst _).2) ?_
  unfold gLstD at he
  cases r <;> simp only [lstU] at he <;> first | (cases he; done) | skip
  · rename_i a vs ds h1 h2 r
    split at he
    · rename_i hl
      exact ⟨a, vs, rfl, .inl (.inl h1), by rw [r.length]; exact hl, q F O σ H env vs ds env' g r he Q k⟩
    · cases he
  · rename_i a vs ds h r
    split at he
    · rename_i hl
      exact ⟨a, vs, rfl, h.elim (fun z => .inl z.1) .inr, by rw [r.length]; exact hl, q F O σ H env vs ds env' g r he Q k⟩
    · cases he
/-! ### an item stored -/
def dPut (i : Nat) (fe fi : Env → Out D) : Env → Res := fun env => (fe env).stm fun d e => if (ownL (e.get i)).isNone then .bad else (fi e).stm fun k e2 => match ownL (e2.get i), k with
  | some (par, ds), .int k => (match ixN ds.length k with
    | some j => .nx (e2.set i (.own par (.lst (ds.set j d))))
    | none => .bad)
  | _, _ => .bad
theorem s1_put {i : Nat} {x : Str} {ix : Expr} {px spos : Pos} {fe fi : Env → Out D} (hN : X.N[i]? = some x) (hv : Vis X.env.scope x) (hd : (x == ("__debug__" : Str)) = false) (hcd : (x == ("__classdict__" : Str)) = false)
    (ha : ∀ v, assign (.Subscript (.Name x px) ix spos) X.env v = (do let ov ← holding [v] (eval (.Name x px) X.env); let iv ← holding [v, ov] (eval ix X.env); standAt spos; holding [v, ov, iv] (setItem ov iv v); release [v, ov, iv] []))
    (hs : swapsWithSole [.Subscript (.Name x px) ix spos] e pos.line X.env = pure false) (hw : swappedStores [.Subscript (.Name x px) ix spos] e X.env = pure none) (h1 : (assignEach [.Subscript (.Name x px) ix spos] X.env).map (·.2) = [assign (.Subscript (.Name x px) ix spos) X.env])
    (h : SE X e fe) (hi : SE X ix fi) : S1 X (.Assign [.Subscript (.Name x px) ix spos] e pos) (dPut i fe fi) := by
  intro Wx tk F O σ H env gd N p
  refine TS.by (ps_asg pe_of (pg_sub (pe_var hN hv hd hcd) pe_of set_list ha) hs hw h1) ?_
  refine h Wx tk F O σ H env gd _ (PstS.expr p fun d e1 v H1 O1 s1 f1 g1 r1 p1 => ?_)
  cases c : ownL (e1.get i) with
  | none => rw [c] at p1; exact p1.elim
  | some z =>
    rw [c] at p1
    simp only [Option.isNone_some, Bool.false_eq_true, if_false] at p1
    obtain ⟨par, ds⟩ := z
    have c' := ownL_of c
    obtain ⟨a, q1, q2, q3, q4⟩ := g1.at c'
    refine ⟨.ref a, of_getD q2, ?_⟩
    refine hi Wx tk F O1 σ H1 e1 g1 _ (PstS.expr p1 fun k e2 vk H2 O2 s2 f2 g2 r2 p2 => ?_)
    cases c2 : ownL (e2.get i) with
    | none => rw [c2] at p2; cases k <;> exact p2.elim
    | some z2 =>
      obtain ⟨par2, ds2⟩ := z2
      rw [c2] at p2
      cases r2 with
      | int k =>
        simp only at p2
        cases cj : ixN ds2.length k with
        | none => rw [cj] at p2; exact p2.elim
        | some j =>
          rw [cj] at p2
          have c2' := ownL_of c2
          obtain ⟨a2, b1, b2, b3, b4⟩ := g2.at c2'
          rw [q2] at b2; cases b2
          obtain ⟨vs2, ds2', e2', hh2, rr2⟩ | ⟨_, _, e2', _⟩ | ⟨_, _, e2', _⟩ := b3
          · cases e2'
            refine ⟨a, vs2, k, j, rfl, rfl, hh2, by rw [rr2.length]; exact cj, ?_⟩
            have r1' := (Rep.fr f2.rd (fun _ z => .inr z) r1).mono (S' := Sx F.S0 O2) fun _ z => s2.sx z
            exact p2.nxtN .refl (Fr.write (W := Oset O2) ⟨i, b1⟩) (g2.put c2' b1 (Reps.set r1' j rr2))
          · cases e2'
          · cases e2'
      | _ => exact p2.elim

/-! ### a new list on either way -/
theorem sf_ite {c e1 e2 : Expr} {f : Env → Out Bool} {u v : Env → Out D} (hc : ST X c f) (ha : SF X e1 u) (hb : SF X e2 v) : SF X (.IfExp c e1 e2 pos) (iteV f u v) := by
  intro Wx tk F O σ H env gd Q p
  refine TE.by (pe_ifExp pt_of pe_of pe_of) ?_
  refine hc Wx tk F O σ H env gd _ (PstF.bind p fun k e1 v H1 O1 s f1 g1 r1 p1 => ?_)
  cases r1
  cases k with
  | true => rw [if_pos rfl]; exact ha Wx tk F O1 σ H1 e1 g1 _ p1
  | false => rw [if_neg Bool.false_ne_true]; exact hb Wx tk F O1 σ H1 e1 g1 _ p1

/-! ### an evaluation that keeps nothing: what is own stays own -/
def lendS : Slot → Slot
  | .own false d => .val d
  | .own true d => .lck d
  | s => s
def lendE (e : Env) : Env := e.map lendS
def isPar : Slot → Bool
  | .own true _ => true
  | _ => false
def Fx.lendF (F : Fx) (e : Env) (O : Own) : Fx := { F with L := fun i => if isPar (e.get i) then O i else F.L i }
theorem lendE_get {e : Env} {i : Nat} : (lendE e).get i = lendS (e.get i) := by
  unfold lendE Env.get
  rw [List.getD_eq_getElem?_getD, List.getD_eq_getElem?_getD, List.getElem?_map]
  cases e[i]? <;> rfl
theorem Good.lend {K : PySem.W.Frag} {F : Fx} {O : Own} {σ : L2.St} {H : Hp} {e : Env} (g : Good K F O σ H e) : Good K (F.lendF e O) (fun _ => none) σ H (lendE e) := by
  have hS : ∀ a, Sx (F.lendF e O).S0 (fun _ => none) a → Sx F.S0 O a := by
    rintro a (z | ⟨_, z⟩)
    · exact .inl z
    · cases z
  refine ⟨by unfold lendE; rw [List.length_map]; exact g.len, g.s0, g.d0, fun _ _ _ z => (by cases z), fun _ _ _ _ z => (by cases z), fun i p z => ?_, g.ps, fun i p z => ?_, fun i => ?_⟩
  · have z' : (if isPar (e.get i) then O i else F.L i) = some p := z
    split at z'
    · rename_i h
      have q := g.slot i
      cases c : e.get i with
      | own par d =>
        cases par with
        | true => rw [c] at q; obtain ⟨p', q1, _, _, q4, _⟩ := q; rw [z'] at q1; cases q1; exact (q4 rfl).1
        | false => rw [c] at h; cases h
      | _ => rw [c] at h; cases h
    · exact g.ls i p z'
  · have z' : (if isPar (e.get i) then O i else F.L i) = some p := z
    rw [lendE_get]
    split at z'
    · rename_i h
      cases c : e.get i with
      | own par d =>
        cases par with
        | true => rfl
        | false => rw [c] at h; cases h
      | _ => rw [c] at h; cases h
    · have := g.ln i p z'
      cases c : e.get i <;> rw [c] at this <;> first | (cases this; done) | rfl
  · rw [lendE_get]
    have q := (g.slot i).mono hS
    have hL : (F.lendF e O).L i = if isPar (e.get i) then O i else F.L i := rfl
    rw [hL]
    cases c : e.get i with
    | no => exact rfl
    | val d => rw [c] at q; obtain ⟨q1, q2⟩ := q; exact ⟨rfl, q2⟩
    | lck d => rw [c] at q; obtain ⟨q1, q2⟩ := q; exact ⟨rfl, q2⟩
    | lkd par d => rw [c] at q; obtain ⟨q1, q2⟩ := q; exact ⟨rfl, q2⟩
    | own par d =>
      rw [c] at q
      obtain ⟨p, q1, q2, q3, q4, q5⟩ := q
      cases par with
      | false =>
        refine ⟨rfl, _, q2, q3.rep ?_⟩
        rintro (z | ⟨_, z⟩)
        · exact (q5 rfl).1 z
        · cases z
      | true => exact ⟨rfl, _, q2, .inr ⟨p, rfl, q1, (q4 rfl).1, q3.b⟩⟩
theorem Good.unlend {K : PySem.W.Frag} {F : Fx} {O : Own} {σ : L2.St} {H H' : Hp} {e : Env} (g : Good K F O σ H e) (f : Fr (Oset (fun _ => none)) H H') : Good K F O σ H' e :=
  g.fr f (fun a ⟨_, z⟩ => by cases z) fun a ⟨_, z⟩ => by cases z
theorem fr_none {O : Own} {H H' : Hp} (f : Fr (Oset (fun _ => none)) H H') : Fr (Oset O) H H' := f.mono fun a ⟨_, z⟩ => by cases z
def lendB (f : Env → Out Bool) : Env → Out Bool := fun env => match f (lendE env) with
  | .ok b _ => .ok b env
  | .exc x _ => .exc x env
  | .bad => .bad
theorem st_lend {f : Env → Out Bool} (h : ST X e f) : ST X e (lendB f) := by
  intro Wx tk F O σ H env g Q p
  refine h Wx tk _ _ σ H _ g.lend Q ?_
  unfold lendB at p
  cases c : f (lendE env) with
  | bad => rw [c] at p; exact p
  | ok b e' => rw [c] at p; exact fun b' H' O' s f' g' r => p b' H' O .refl (fr_none f') (g.unlend f') r
  | exc x e' => rw [c] at p; exact fun cls dx H' O' s f' g' r => p cls dx H' O .refl (fr_none f') (g.unlend f') r
def lendV (f : Env → Out D) : Env → Out D := fun env => match f (lendE env) with
  | .ok d _ => if d.flat then .ok d env else .bad
  | .exc x _ => .exc x env
  | .bad => .bad
theorem se_lend {f : Env → Out D} (h : SE X e f) : SE X e (lendV f) := by
  intro Wx tk F O σ H env g Q p
  refine h Wx tk _ _ σ H _ g.lend Q ?_
  unfold lendV at p
  cases c : f (lendE env) with
  | bad => rw [c] at p; exact p
  | ok d e' =>
    rw [c] at p
    have p' : Pst X.K X.mg Wx F O σ H (Rep X.K) Q (if d.flat = true then .ok d env else .bad) := p
    split at p'
    · rename_i hf
      exact fun v H' O' s f' g' r => p' v H' O .refl (fr_none f') (g.unlend f') (flat_any r.b hf)
    · exact p'.elim
  | exc x e' => rw [c] at p; exact fun cls dx H' O' s f' g' r => p cls dx H' O .refl (fr_none f') (g.unlend f') r
end
end Rp
set_option Elab.async false
set_option linter.all false
set_option maxRecDepth 100000
/-! RpT: defs of the text, the end. -/
namespace Rp
open PySem PySem.Spec PyProof.Rows L2

section
variable {P : Program} {w : World} {K : PySem.W.Frag} {mg : Str → Option Value} {base : Heap} {x qual : Str} {params : Arguments} {body : List Stmt} {scope : Scope} {f : Addr} {fd : FuncData}
theorem funD_ok {N ps : List Str} {k : Nat} {den : Env → Res} (F : FunD K x qual params body scope [] [] f fd) (S : FnScope N ps scope)
    (hb : ∀ (cdv : Value) (A : Around) (outer : List PySem.Env) (s : Shared) (H : Hp) (E : XK), Room k (A.deeper (envOfC qual scope s.heap.objs.size f cdv)) → SS (cxOf (L2.CX P w) P w K mg base N qual scope f cdv A outer s H E) body den) :
    FnOk P w K mg base (L2.CX P w) (k + 1) f fd ps (spD K mg ps.length (fnDen N.length ps.length den)) := by
  obtain ⟨oc, od, dV, kV, doc, pm, an, cdv, ct, osl, rfl, lk, hcd, hD, hK⟩ := F.ex
  exact fn_ok lk hcd S (hb cdv)
/-- the def may be called -/
theorem calD {ps : List Str} {k np : Nat} {den : List Arg → Res} (F : FunD K x qual params body scope [] [] f fd) (ok : FnOk P w K mg base (L2.CX P w) k f fd ps (spD K mg np den)) (hm : mg x = some (.ref f)) (hl : ∀ args, args.length ≠ np → den args = .bad)
    (h : ∀ (kV doc pm : Value) (an : Option Addr) (cdv ct : Value) (us : List Value), us.length = ps.length → bindArgs (PySem.W.fnOf x qual params body scope .none kV doc pm an cdv ct) ⟨us, []⟩ = pure (ps.zip us)) : CalD P w K mg base k x np den :=
  ⟨⟨f, fd, ps, ok, hm, F.kp, F.bindsN h⟩, hl⟩
theorem CalD.mono {k k' np : Nat} {den : List Arg → Res} (c : CalD P w K mg base k x np den) (h : k ≤ k') : CalD P w K mg base k' x np den := by
  obtain ⟨⟨f, fd, ps, Fn, r⟩, hl⟩ := c
  exact ⟨⟨f, fd, ps, Fn.mono h, r⟩, hl⟩
theorem calK {ps ks : List Str} {ix : List Nat} {k np : Nat} {den : List Arg → Res} (F : FunD K x qual params body scope [] [] f fd) (ok : FnOk P w K mg base (L2.CX P w) k f fd ps (spD K mg np den)) (hm : mg x = some (.ref f)) (hl : ∀ args, args.length ≠ np → den args = .bad)
    (h : ∀ (kV doc pm : Value) (an : Option Addr) (cdv ct : Value) (ws : List Value), ws.length = ks.length → bindArgs (PySem.W.fnOf x qual params body scope .none kV doc pm an cdv ct) ⟨[], ks.zip ws⟩ = pure (ps.zip (Rp.pm ix ws))) : CalK P w K mg base k x ks ix np den := by
  refine ⟨⟨f, fd, ps, ok, hm, F.kp, fun s ws _ hw => ?_⟩, hl⟩
  obtain ⟨oc, od, dV, kV, doc, pm, an, cdv, ct, osl, rfl, lk, hcd, hD, hK⟩ := F.ex
  rcases hD with ⟨_, rfl⟩ | ⟨e, _⟩
  · exact .of_eq (h kV doc pm an cdv ct ws hw)
  · exact absurd rfl e
end
/-! ### short names for the printed texts -/
section
variable {X : Cx} {a b c e : Expr} {pos : Pos}
def borO (i : Nat) : Env → Out Opd := fun env => (Out.of ((env.get i).look) env).bind fun _ e => .ok (.s i) e
theorem so_borO {i : Nat} {x : Str} {pos : Pos} (hN : X.N[i]? = some x) (hv : Vis X.env.scope x) (hd : (x == ("__debug__" : Str)) = false) (hcd : (x == ("__classdict__" : Str)) = false) : SO X (.Name x pos) (borO i) := so_bor hN hv hd hcd
theorem so_of {f : Env → Out D} (h : SE X a f) : SO X a (asV f) := h.opd
def notV (fa : Env → Out Opd) : Env → Out D := fun env => (notB (truB fa) env).bind fun b e => .ok (.bl b) e
theorem se_notV {fa : Env → Out Opd} (ha : SO X a fa) : SE X (.UnaryOp .Not a pos) (notV fa) := se_not ha
def negV (va : Env → Out D) : Env → Out D := fun env => (va env).bind fun d e => Out.of (negD d) e
theorem se_negV {va : Env → Out D} (ha : SE X a va) : SE X (.UnaryOp .USub a pos) (negV va) := se_neg ha
def nilJ : Str → Env → Out Str := fun acc env => .ok acc env
def conJ (x : Str) (f : Str → Env → Out Str) : Str → Env → Out Str := fun acc env => if lenOk (acc ++ x).length then f (acc ++ x) env else .bad
def fmtJ (va : Env → Out D) (f : Str → Env → Out Str) : Str → Env → Out Str := fun acc env => (va env).bind fun d e => match fmtD d with | some y => if lenOk (acc ++ y).length then f (acc ++ y) e else .bad | none => .bad
theorem sj_nilJ : SJ X [] nilJ := sj_nil
theorem sj_conJ {x : Str} {j : Nat} {es : List Expr} {f : Str → Env → Out Str} (h : SJ X es f) : SJ X (.Constant (.str x) j pos :: es) (conJ x f) := sj_const h
theorem sj_fmtJ {va : Env → Out D} {es : List Expr} {f : Str → Env → Out Str} (ha : SE X a va) (h : SJ X es f) : SJ X (.FormattedValue a (-1) none pos :: es) (fmtJ va f) := sj_fmt ha h
theorem se_gstr {x z : Str} (hg : Gl X x) (h : ∃ t, X.mg x = some (.str z t)) (hd : (x == ("__debug__" : Str)) = false) : SE X (.Name x pos) (pureD (.str z)) := by
  obtain ⟨t, h⟩ := h
  exact se_glb (v := .str z) hg h ⟨t, rfl⟩ rfl hd
theorem se_gint {x : Str} {z : Int} (hg : Gl X x) (h : ∃ t, X.mg x = some (.int z t)) (hd : (x == ("__debug__" : Str)) = false) : SE X (.Name x pos) (pureD (.int z)) := by
  obtain ⟨t, h⟩ := h
  exact se_glb (v := .int z) hg h ⟨t, rfl⟩ rfl hd
theorem se_dct0 : SE X (.Dict [] [] pos) (pureD (.dct [] [])) := by
  intro Wx tk F O σ H env g Q p
  refine TE.by pe_dnewK fun q hq => ?_
  refine p.okN g (same_new hq) (.dctK (kvs := []) (.inl upd_same) (fun z => g.dom z hq) .nil)
theorem hu65 {k : Nat} {A : Around} (r : Room k A) : A.units + 65 < cLine := by have := r.un; omega
theorem st_yes : ∀ {ifs : List Expr}, ifs = [] → STs X ifs (fun env => .ok true env) := fun h => .inl ⟨h, rfl⟩
theorem st_some {c : Expr} {f : Env → Out Bool} (h : ST X c f) : STs X [c] f := .inr ⟨c, rfl, h⟩
def dRetN : Env → Res := fun e => .rt .non false e
theorem s1_retNN : S1 X (.Return none pos) dRetN := s1_retN
def dBrk : Env → Res := fun e => .bk e
theorem s1_brk : S1 X (.Break pos) dBrk := s1_break
/-- y = [.. for ..]: the comprehension stands within the frame -/
theorem s1_setLc {i : Nat} {y : Str} {py spos : Pos} {elt tg iter : Expr} {ifs : List Expr} {scope : Scope} {own : List (Str × Nat)} {is : List Nat} {it : Env → Out ItD} {g : D → Env → Option Env} {q : Env → Out Bool} {f : Env → Out D} (hc : X.calm = true) (hN : X.N.Nodup) (ok : BlkOk X.N X.env.scope scope own)
    (his : ∀ j ∈ is, j ∈ own.map (·.2)) (hs : ∀ x, foldedSetIterable iter X.env x = pure x) (hy : X.N[i]? = some y) (hyl : X.env.scope.names.lookup y = some .local) (hsw : swapsWith (.ListComp elt [⟨tg, iter, ifs, 0⟩] scope pos) (some (.Name y py)) spos.line X.env = pure true)
    (hi : SI X tg iter it) (hg : AllB X scope fun B => SG B tg is g) (ht : AllB X scope fun B => STs B ifs q) (he : AllB X scope fun B => SE B elt f) :
    S1 X (.Assign [.Name y py] (.ListComp elt [⟨tg, iter, ifs, 0⟩] scope pos) spos) (dSetF i (lcD (own.map (·.2)) it g q f)) := by
  intro Wx tk F O σ H env gd N p
  refine TS.by (ps_setLc hc hN hy hyl hsw pi_of ok (fun _ _ _ _ _ => pg_bl) (fun _ _ _ _ _ => pts_bl) (fun _ _ _ _ _ => pe_bl) hs) ?_
  refine lc_key his hi hg ht he tk gd ?_
  cases c : lcD (own.map (·.2)) it g q f env with
  | bad => unfold dSetF at p; rw [c] at p; exact p.elim
  | exc x e' => unfold dSetF at p; rw [c] at p; exact fun cls dx H' O' s' f' g' r => p cls dx σ H' O' s'.nw f' g' r
  | ok d e1 =>
    unfold dSetF at p; rw [c] at p
    intro v H1 O1 s1 f1 g1 r1 k1
    simp only [Out.stm] at p
    cases q : setO i d e1 with
    | none => rw [q] at p; exact p.elim
    | some e' =>
      rw [q] at p
      obtain ⟨O', g', n'⟩ := g1.setF r1 k1 (fun a z => gd.dom (s1.sx z)) (fun a z => gd.h0 z) q
      refine p _ H1 O' (fun j => ?_) f1 g'
      rcases n' j with h | h | h
      · rw [h]; exact (s1 j).imp id .inl
      · exact .inr (.inl h)
      · exact .inr (.inr h)
end
theorem fnOk_bad {P : Program} {w : World} {K : PySem.W.Frag} {mg : Str → Option Value} {base : Heap} {k np : Nat} {f : Addr} {fd : FuncData} {ps : List Str} : FnOk P w K mg base (L2.CX P w) k f fd ps (spD K mg np (fun _ => .bad)) :=
  ⟨fun _ _ _ _ ⟨_, _, _, _, _, _, _, z⟩ => z.elim, fun _ _ _ _ _ _ _ _ _ _ _ _ _ ⟨_, _, _, _, _, _, _, z⟩ => z.elim⟩
/-! ### the end -/
theorem walk_ofD {l : PySem.W.OpenLaw} {n k : Nat} {q : Program} {loose : List Str} {XP : (Str → Option Value) → Heap → Prop} {YP : World → Heap → Prop} {d : DefRec} {x : Str}
    (hn : l.most = some n) (hn2 : n ≤ sizeLine) (hdf : d.params.defaults = []) (hr : Room k callerA)
    (F : ∀ (w : World) (mg : Str → Option Value) (fa : Addr) (h : Heap), YP w h → h.Ns mainGlobals mg → mg d.name = some (.ref fa) →
      ∃ (K : PySem.W.Frag) (fd : FuncData) (den : List Arg → Res), K.In h ∧ (∀ (s : Shared) (u : Value), BindsTo s fd ⟨[u], []⟩ [(x, u)]) ∧
        (∀ ns : List Int, ns.length ≤ n → (∀ z ∈ ns, Builtin.Int.intBits z ≤ 1048576) → ∃ b e, den [.v (.scr (ns.map D.int))] = .rt (.bl true) b e) ∧
        ∀ base : Heap, K.In base → base.Ns mainGlobals mg → FnOk l.prog w K mg base (L2.CX l.prog w) k fa fd [x] (spD K mg 1 den)) :
    PySem.W.WalkO q loose XP YP l.row.toRowW d [] (fun f vs => PySem.call f vs) := by
  refine Att.attach_callB hn hdf fun w s₀ s₁ mg mb fa o pm cd doc a vs ns G Y ho hd hcd hmg hobj hints hlen hbits hg => ?_
  obtain ⟨K, fd, den, KX, hb, hsp, hF⟩ := F w mg fa _ Y G.T.g hmg
  refine law_call KX G.T.g G.T.b G.T.builtins G.T.nolimit hg hobj hints (Nat.le_trans hlen hn2) hr hF hb (fun H hO hS => ?_) fun H e s' ⟨_, _, _, _, _, _, _, _, _, _, _, _, z⟩ => z
  obtain ⟨b, e, he⟩ := hsp ns hlen hbits
  refine ⟨fun _ => False, fun _ => none, [.v (.scr (ns.map D.int))], rfl, fun _ z => z.elim, fun _ _ _ z => (by cases z), ⟨rfl, fun i => ?_⟩, ?_⟩
  · cases i with
    | zero =>
      refine ⟨rfl, _, rfl, .scr (hS.imp (fun z => ⟨z, fun w => w⟩) fun z => z) ?_⟩
      have : ∀ ns : List Int, Reps K H (fun _ => False) (ns.map V.int) (ns.map D.int) := by
        intro ns
        induction ns with
        | nil => exact .nil
        | cons i r ih => exact .cons (.int i) ih
      exact this ns
    | succ i => exact rfl
  · rw [he]
    cases b with
    | false => intro v H' _ _ r; cases r; rfl
    | true => intro v H' _ _ r _; cases r.1; rfl

/-! ### facts of one's own beside the layer's -/
def hookX (n : Nat) (fx : List (PySem.W.Frag → Bool)) (fa : List He.Fa) (fn : List He.DefD) : PySem.W.Hook where
  α := Bool × He.AlD
  obs := fun s => (fx.all fun c => c (He.frG s.heap.get? (He.asD s.heap.get? n)), He.obsDG n fa fn s.heap.get?)
  val := fun _ => (true, He.valD fn)
  says := fun _ h => ∃ K : PySem.W.Frag, K.In h ∧ fx.all (fun c => c K) = true ∧ He.SaysD fa fn K
  of := fun _ _ e => ⟨_, He.frG_in, congrArg (fun z : Bool × He.AlD => z.1) e, congrArg (fun z : Bool × He.AlD => z.2) e⟩
  keeps := fun _ _ _ ⟨K, hK, c⟩ k => ⟨K, PySem.W.Frag.In.keeps hK k, c⟩
def obX (n : Nat) (fx : List (PySem.W.Frag → Bool)) (fa : List He.Fa) (fn : List He.DefD) (g : Addr → Option Obj) : Bool × He.AlD :=
  let K := He.frG g (He.asD g n)
  (fx.all fun c => c K, He.obsD fa fn K)
theorem obX_eq {n : Nat} {fx : List (PySem.W.Frag → Bool)} {fa : List He.Fa} {fn : List He.DefD} {g : Addr → Option Obj} {s : Shared} (h : ∀ a, g a = s.heap.get? a) : obX n fx fa fn g = (hookX n fx fa fn).obs s := by
  have e : g = s.heap.get? := funext h
  rw [e] <;> rfl
/-- an own class of errors -/
def excB (x : Str) (K : PySem.W.Frag) : Bool :=
  let C := He.ga K x
  decide (PySem.W.findIn K (.ref C) "__getattribute__" = some (some (.builtin "BaseException.__getattribute__"))) && (decide (PySem.W.findIn K (.ref C) "__getattr__" = some none) && (decide (PySem.W.subIn K (.ref C) (.type "BaseException") = some true) &&
   (PySem.W.hasDictIn K C && (decide (PySem.W.findIn K (.ref C) "__class__" = some (some (.builtin "object.__class__"))) && (decide (PySem.W.specialIn K (.builtin "object.__class__") "__get__" = some (some (.builtin "getset_descriptor.__get__"))) &&
   (decide (PySem.W.takesIn K (.builtin "object.__class__") = some true) && decide (PySem.W.mroIn K C (.type "object") = some true)))))))
theorem excB_ok {K : PySem.W.Frag} {x : Str} (h : excB x K = true) : ExcC K (He.ga K x) := by
  unfold excB at h
  simp only [Bool.and_eq_true, decide_eq_true_eq] at h
  obtain ⟨a1, a2, a3, a4, a5, a6, a7, a8⟩ := h
  exact ⟨a1, a2, a3, a4, a5, a6, a7, a8⟩
def kitB (x y : Str) (b : Bool) (K : PySem.W.Frag) : Bool := decide (PySem.W.kitOne K (.ref (He.ga K x)) (.ref (He.ga K y)) = some b)
theorem kitB_ok {K : PySem.W.Frag} {x y : Str} {b : Bool} (h : kitB x y b K = true) : PySem.W.kitOne K (.ref (He.ga K x)) (.ref (He.ga K y)) = some b := of_decide_eq_true h
def kitT (x : Str) (T : String) (b : Bool) (K : PySem.W.Frag) : Bool := decide (PySem.W.kitOne K (.ref (He.ga K x)) (.type T) = some b)
theorem kitT_ok {K : PySem.W.Frag} {x : Str} {T : String} {b : Bool} (h : kitT x T b K = true) : PySem.W.kitOne K (.ref (He.ga K x)) (.type T) = some b := of_decide_eq_true h
theorem fx_ok {fx : List (PySem.W.Frag → Bool)} {K : PySem.W.Frag} (h : fx.all (fun c => c K) = true) (i : Nat) {c : PySem.W.Frag → Bool} (e : fx[i]? = some c) : c K = true := List.all_eq_true.mp h c (List.mem_of_getElem? e)
end Rp
set_option Elab.async false
set_option linter.all false
set_option maxRecDepth 100000
set_option maxHeartbeats 4000000
/-! The walk of the law's defs, printed by gen.py. -/
namespace K62
open PySem PySem.Spec PyProof.Rows L2 Rp
def top (i : Nat) : Stmt := PySem.Challenge.pw_rideplans_k62_texts_of_journeys.main.body.getD i (.Pass ⟨0, 0, 0, 0⟩)
theorem bt_all : bootBuiltins "all" = some (.builtin "all") := by decide +kernel
theorem bt_bool : bootBuiltins "bool" = some (.type "bool") := by decide +kernel
theorem bt_int : bootBuiltins "int" = some (.type "int") := by decide +kernel
theorem bt_isinstance : bootBuiltins "isinstance" = some (.builtin "isinstance") := by decide +kernel
theorem bt_len : bootBuiltins "len" = some (.builtin "len") := by decide +kernel
theorem bt_list : bootBuiltins "list" = some (.type "list") := by decide +kernel
theorem bt_max : bootBuiltins "max" = some (.builtin "max") := by decide +kernel
theorem bt_min : bootBuiltins "min" = some (.builtin "min") := by decide +kernel
theorem bt_str : bootBuiltins "str" = some (.type "str") := by decide +kernel
theorem bt_tuple : bootBuiltins "tuple" = some (.type "tuple") := by decide +kernel
abbrev s_is_integer : Stmt := top 6
theorem sc_is_integer : FnScope ["value", "low", "high"] ["value", "low", "high"] (defScope s_is_integer) := ⟨rfl, rfl, rfl, by decide +kernel, rfl, by decide +kernel, by decide +kernel⟩
abbrev s_number_in : Stmt := top 10
theorem sc_number_in : FnScope ["word", "sign"] ["word"] (defScope s_number_in) := ⟨rfl, rfl, rfl, by decide +kernel, rfl, by decide +kernel, by decide +kernel⟩
abbrev s_numbers_in : Stmt := top 11
theorem sc_numbers_in : FnScope ["word", "signs", "found", "sign", "place"] ["word", "signs"] (defScope s_numbers_in) := ⟨rfl, rfl, rfl, by decide +kernel, rfl, by decide +kernel, by decide +kernel⟩
abbrev s_is_ride_tuple : Stmt := top 12
theorem sc_is_ride_tuple : FnScope ["value", "number"] ["value"] (defScope s_is_ride_tuple) := ⟨rfl, rfl, rfl, by decide +kernel, rfl, by decide +kernel, by decide +kernel⟩
abbrev s_format_journey : Stmt := top 13
theorem sc_format_journey : FnScope ["journey", "trip", "day", "at", "to", "ride"] ["journey"] (defScope s_format_journey) := ⟨rfl, rfl, rfl, by decide +kernel, rfl, by decide +kernel, by decide +kernel⟩
abbrev s_parse_journey : Stmt := top 14
theorem sc_parse_journey : FnScope ["text", "found", "word"] ["text"] (defScope s_parse_journey) := ⟨rfl, rfl, rfl, by decide +kernel, rfl, by decide +kernel, by decide +kernel⟩
abbrev s_l_cell_at : Stmt := top 16
theorem sc_l_cell_at : FnScope ["_law_script", "_law_k"] ["_law_script", "_law_k"] (defScope s_l_cell_at) := ⟨rfl, rfl, rfl, by decide +kernel, rfl, by decide +kernel, by decide +kernel⟩
abbrev s_l_source : Stmt := top 17
theorem sc_l_source : FnScope ["_law_cell", "_law_k"] ["_law_cell", "_law_k"] (defScope s_l_source) := ⟨rfl, rfl, rfl, by decide +kernel, rfl, by decide +kernel, by decide +kernel⟩
abbrev s_l_draw : Stmt := top 18
theorem sc_l_draw : FnScope ["_law_source_here", "_law_count", "_law_mixed", "_law_found"] ["_law_source_here", "_law_count"] (defScope s_l_draw) := ⟨rfl, rfl, rfl, by decide +kernel, rfl, by decide +kernel, by decide +kernel⟩
abbrev s_l_same : Stmt := top 19
theorem sc_l_same : FnScope ["_law_found", "_law_expected", "_law_k"] ["_law_found", "_law_expected"] (defScope s_l_same) := ⟨rfl, rfl, rfl, by decide +kernel, rfl, by decide +kernel, by decide +kernel⟩
abbrev s_l_written : Stmt := top 20
theorem sc_l_written : FnScope ["_law_tour", "_law_words", "_law_trip", "_law_day", "_law_at", "_law_to"] ["_law_tour"] (defScope s_l_written) := ⟨rfl, rfl, rfl, by decide +kernel, rfl, by decide +kernel, by decide +kernel⟩
abbrev s_l_number : Stmt := top 21
theorem sc_l_number : FnScope ["_law_word"] ["_law_word"] (defScope s_l_number) := ⟨rfl, rfl, rfl, by decide +kernel, rfl, by decide +kernel, by decide +kernel⟩
abbrev s_l_read : Stmt := top 22
theorem sc_l_read : FnScope ["_law_line", "_law_found", "_law_word", "_law_parts", "_law_numbers", "_law_at", "_law_to", "_law_one"] ["_law_line"] (defScope s_l_read) := ⟨rfl, rfl, rfl, by decide +kernel, rfl, by decide +kernel, by decide +kernel⟩
abbrev s_l_told : Stmt := top 23
theorem sc_l_told : FnScope ["_law_thing", "_law_way", "caught"] ["_law_thing", "_law_way"] (defScope s_l_told) := ⟨rfl, rfl, rfl, by decide +kernel, rfl, by decide +kernel, by decide +kernel⟩
abbrev s_l_bent : Stmt := top 24
theorem sc_l_bent : FnScope ["_law_source_here", "_law_line", "_law_spot", "_law_sign", "_law_way"] ["_law_source_here", "_law_line"] (defScope s_l_bent) := ⟨rfl, rfl, rfl, by decide +kernel, rfl, by decide +kernel, by decide +kernel⟩
abbrev s_l_wrong : Stmt := top 25
theorem sc_l_wrong : FnScope ["_law_source_here", "_law_tour", "_law_bad", "_law_place", "_law_good", "_law_odd", "_law_pick", "_law_spot"] ["_law_source_here", "_law_tour"] (defScope s_l_wrong) := ⟨rfl, rfl, rfl, by decide +kernel, rfl, by decide +kernel, by decide +kernel⟩
abbrev s_law : Stmt := top 26
theorem sc_law : FnScope ["_law_script", "_law_k", "_law_source_here", "_law_turn", "_law_odd", "_law_tour", "_law_j", "_law_line", "_law_told_here", "_law_change", "_law_kinds", "_law_due", "_law_i"] ["_law_script"] (defScope s_law) := ⟨rfl, rfl, rfl, by decide +kernel, rfl, by decide +kernel, by decide +kernel⟩
/-- what the module holds -/
structure Wd (K : PySem.W.Frag) (mg : Str → Option Value) : Prop where
  n_all : mg "all" = none
  n_bool : mg "bool" = none
  n_int : mg "int" = none
  n_isinstance : mg "isinstance" = none
  n_len : mg "len" = none
  n_list : mg "list" = none
  n_max : mg "max" = none
  n_min : mg "min" = none
  n_range : mg "range" = none
  n_str : mg "str" = none
  n_tuple : mg "tuple" = none
  s_DIGITS : ∃ t, mg "DIGITS" = some (.str "0123456789" t)
  s_SPACE : ∃ t, mg "SPACE" = some (.str " " t)
  e_InvalidJourney : OwnE K mg "InvalidJourney" (He.ga K "InvalidJourney")
  e_InvalidText : OwnE K mg "InvalidText" (He.ga K "InvalidText")
  g_RideError : mg "RideError" = some (.ref (He.ga K "RideError"))
  g_InvalidRide : mg "InvalidRide" = some (.ref (He.ga K "InvalidRide"))
  g_InvalidText : mg "InvalidText" = some (.ref (He.ga K "InvalidText"))
  g_InvalidJourney : mg "InvalidJourney" = some (.ref (He.ga K "InvalidJourney"))
  n_ValueError : mg "ValueError" = none
  x_InvalidText : ExcC K (He.ga K "InvalidText")
  m_InvalidText : PySem.W.exmOne K (.ref (He.ga K "InvalidText")) (.ref (He.ga K "RideError")) = some true
  t_InvalidText : PySem.W.kitOne K (.ref (He.ga K "InvalidText")) (.type "ValueError") = some true
  x_InvalidJourney : ExcC K (He.ga K "InvalidJourney")
  m_InvalidJourney : PySem.W.exmOne K (.ref (He.ga K "InvalidJourney")) (.ref (He.ga K "RideError")) = some true
  t_InvalidJourney : PySem.W.kitOne K (.ref (He.ga K "InvalidJourney")) (.type "ValueError") = some true
  k_InvalidText_InvalidRide : PySem.W.kitOne K (.ref (He.ga K "InvalidText")) (.ref (He.ga K "InvalidRide")) = some false
  k_InvalidText_InvalidText : PySem.W.kitOne K (.ref (He.ga K "InvalidText")) (.ref (He.ga K "InvalidText")) = some true
  k_InvalidText_InvalidJourney : PySem.W.kitOne K (.ref (He.ga K "InvalidText")) (.ref (He.ga K "InvalidJourney")) = some false
  k_InvalidJourney_InvalidRide : PySem.W.kitOne K (.ref (He.ga K "InvalidJourney")) (.ref (He.ga K "InvalidRide")) = some false
  k_InvalidJourney_InvalidText : PySem.W.kitOne K (.ref (He.ga K "InvalidJourney")) (.ref (He.ga K "InvalidText")) = some false
  k_InvalidJourney_InvalidJourney : PySem.W.kitOne K (.ref (He.ga K "InvalidJourney")) (.ref (He.ga K "InvalidJourney")) = some true
theorem bt_ValueError : bootBuiltins "ValueError" = some (.type "ValueError") := by decide +kernel
def l_told_h : Str → Option D := fun nm => if nm = "InvalidText" then some (.str "text") else if nm = "InvalidJourney" then some (.str "journey") else none
def hdl : List Stmt → List Stmt
  | [.Try _ [.ExceptHandler _ _ b _] _ _ _] => b
  | _ => []
theorem l_told_hd {P : Program} {w : World} {K : PySem.W.Frag} {mg : Str → Option Value} {base : Heap} (W : Wd K mg) {f : Addr} {cdv : Value} {A : Around} {outer : List PySem.Env} {s : Shared} {H : Hp} {E : XK} : ∀ nm d, l_told_h nm = some d →
    ∃ v, scalV d = some v ∧ ∀ C, mg nm = some (.ref C) → PySem.W.exmOne K (.ref C) (.ref (He.ga K "RideError")) = some true ∧ ∀ (a : Addr) (oe : Obj) (pn : List (Addr × Obj)), Zc (.ref C) none oe → (∃ vs, oe.data = .fields vs) →
      SU ((cxOf (L2.CX P w) P w K mg base ["_law_thing", "_law_way", "caught"] "_law_told" (defScope s_l_told) f cdv A outer s H E).suite a ((a, oe) :: pn)) 2 a (hdl (defBody s_l_told)) v := by
  intro nm d h
  unfold l_told_h at h
  split at h
  · rename_i e; subst e; injection h with h; subst h
    refine ⟨.str "text", rfl, fun C hC => ?_⟩
    have e := hC.symm.trans W.g_InvalidText
    cases e
    exact ⟨W.m_InvalidText, fun a oe pn hz hf => (su_cast (su_if (tu_or (tu_is (i := 2) W.x_InvalidText hz hf (by rfl) (by first | exact Or.inl rfl | exact Or.inr (Or.inl rfl)) (by rfl) (by rfl) (by rfl) W.n_isinstance (by rfl) W.g_InvalidRide (by rfl) W.k_InvalidText_InvalidRide) (tu_not (tu_isB (i := 2) (T := "ValueError") W.x_InvalidText hz hf (by rfl) (by first | exact Or.inl rfl | exact Or.inr (Or.inl rfl)) (by rfl) (by rfl) (by rfl) W.n_isinstance (by rfl) W.n_ValueError bt_ValueError (by decide) (by rfl) W.t_InvalidText))) (su_ret eu_str) (su_if (tu_is (i := 2) W.x_InvalidText hz hf (by rfl) (by first | exact Or.inl rfl | exact Or.inr (Or.inl rfl)) (by rfl) (by rfl) (by rfl) W.n_isinstance (by rfl) W.g_InvalidText (by rfl) W.k_InvalidText_InvalidText) (su_ret eu_str) (su_ret (eu_ite (tu_is (i := 2) W.x_InvalidText hz hf (by rfl) (by first | exact Or.inl rfl | exact Or.inr (Or.inl rfl)) (by rfl) (by rfl) (by rfl) W.n_isinstance (by rfl) W.g_InvalidJourney (by rfl) W.k_InvalidText_InvalidJourney) eu_str eu_str)))) (by rfl))⟩
  · split at h
    · rename_i e; subst e; injection h with h; subst h
      refine ⟨.str "journey", rfl, fun C hC => ?_⟩
      have e := hC.symm.trans W.g_InvalidJourney
      cases e
      exact ⟨W.m_InvalidJourney, fun a oe pn hz hf => (su_cast (su_if (tu_or (tu_is (i := 2) W.x_InvalidJourney hz hf (by rfl) (by first | exact Or.inl rfl | exact Or.inr (Or.inl rfl)) (by rfl) (by rfl) (by rfl) W.n_isinstance (by rfl) W.g_InvalidRide (by rfl) W.k_InvalidJourney_InvalidRide) (tu_not (tu_isB (i := 2) (T := "ValueError") W.x_InvalidJourney hz hf (by rfl) (by first | exact Or.inl rfl | exact Or.inr (Or.inl rfl)) (by rfl) (by rfl) (by rfl) W.n_isinstance (by rfl) W.n_ValueError bt_ValueError (by decide) (by rfl) W.t_InvalidJourney))) (su_ret eu_str) (su_if (tu_is (i := 2) W.x_InvalidJourney hz hf (by rfl) (by first | exact Or.inl rfl | exact Or.inr (Or.inl rfl)) (by rfl) (by rfl) (by rfl) W.n_isinstance (by rfl) W.g_InvalidText (by rfl) W.k_InvalidJourney_InvalidText) (su_ret eu_str) (su_ret (eu_ite (tu_is (i := 2) W.x_InvalidJourney hz hf (by rfl) (by first | exact Or.inl rfl | exact Or.inr (Or.inl rfl)) (by rfl) (by rfl) (by rfl) W.n_isinstance (by rfl) W.g_InvalidJourney (by rfl) W.k_InvalidJourney_InvalidJourney) eu_str eu_str)))) (by rfl))⟩
    · cases h

section
variable {P : Program} {w : World} {K : PySem.W.Frag} {mg : Str → Option Value} {base : Heap}
def is_integer_b : Rp.Env → Res := (dSeq (dIf (orB (notB (truB (asV (isiD ["int"] (borO 0))))) (truB (asV (isiD ["bool"] (borO 0))))) (dRet (pureD (.bl false))) dNil) (dRet (andV (orV (bin2 (cmpD .Is) (borO 1) (asV (pureD .non))) (bin2 (cmpD .LtE) (borO 1) (borO 0))) (orV (bin2 (cmpD .Is) (borO 2) (asV (pureD .non))) (bin2 (cmpD .LtE) (borO 0) (borO 2))))))
def is_integer_den : List Rp.Arg → Res := fnDen 3 3 is_integer_b
theorem o_is_integer (W : Wd K mg) {f : Addr} {fd : FuncData} (F : FunD K "is_integer" "is_integer" (defArgs s_is_integer) (defBody s_is_integer) (defScope s_is_integer) [] [] f fd) : FnOk P w K mg base (L2.CX P w) 1 f fd ["value", "low", "high"] (spD K mg 3 is_integer_den) := by
  refine funD_ok (N := ["value", "low", "high"]) (ps := ["value", "low", "high"]) (k := 0) (den := is_integer_b) F sc_is_integer (fun cdv A outer s H E hr => ?_)
  refine ss_cons ?_ ?_
  refine s1_if ?_ ?_ ss_nil
  refine st_or ?_ ?_
  refine st_not ?_
  refine st_val ?_ ?_
  refine so_of ?_
  refine se_isi (T := "int") ?_ W.n_isinstance bt_isinstance ?_ ?_ ?_ ⟨(by rfl), W.n_int, bt_int, by decide, (by rfl)⟩ ?_
  rfl
  decide
  rfl
  rfl
  refine so_borO (i := 0) ?_ ?_ ?_ ?_
  rfl
  (first | exact Or.inl rfl | exact Or.inr (Or.inl rfl) | exact Or.inr (Or.inr rfl))
  rfl
  rfl
  exact (fun _ => (by rfl))
  refine st_one ?_
  refine st_val ?_ ?_
  refine so_of ?_
  refine se_isi (T := "bool") ?_ W.n_isinstance bt_isinstance ?_ ?_ ?_ ⟨(by rfl), W.n_bool, bt_bool, by decide, (by rfl)⟩ ?_
  rfl
  decide
  rfl
  rfl
  refine so_borO (i := 0) ?_ ?_ ?_ ?_
  rfl
  (first | exact Or.inl rfl | exact Or.inr (Or.inl rfl) | exact Or.inr (Or.inr rfl))
  rfl
  rfl
  exact (fun _ => (by rfl))
  refine ss_one ?_
  refine s1_ret ?_
  refine se_const ?_
  rfl
  refine ss_one ?_
  refine s1_ret ?_
  refine se_and ?_ ?_
  refine se_or ?_ ?_
  refine se_cmp (op := .Is) (hu65 hr) ?_ ?_ ?_
  refine so_borO (i := 1) ?_ ?_ ?_ ?_
  rfl
  (first | exact Or.inl rfl | exact Or.inr (Or.inl rfl) | exact Or.inr (Or.inr rfl))
  rfl
  rfl
  refine so_of ?_
  refine se_const ?_
  rfl
  rfl
  refine se_one ?_
  refine se_cmp (op := .LtE) (hu65 hr) ?_ ?_ ?_
  refine so_borO (i := 1) ?_ ?_ ?_ ?_
  rfl
  (first | exact Or.inl rfl | exact Or.inr (Or.inl rfl) | exact Or.inr (Or.inr rfl))
  rfl
  rfl
  refine so_borO (i := 0) ?_ ?_ ?_ ?_
  rfl
  (first | exact Or.inl rfl | exact Or.inr (Or.inl rfl) | exact Or.inr (Or.inr rfl))
  rfl
  rfl
  rfl
  refine se_one ?_
  refine se_or ?_ ?_
  refine se_cmp (op := .Is) (hu65 hr) ?_ ?_ ?_
  refine so_borO (i := 2) ?_ ?_ ?_ ?_
  rfl
  (first | exact Or.inl rfl | exact Or.inr (Or.inl rfl) | exact Or.inr (Or.inr rfl))
  rfl
  rfl
  refine so_of ?_
  refine se_const ?_
  rfl
  rfl
  refine se_one ?_
  refine se_cmp (op := .LtE) (hu65 hr) ?_ ?_ ?_
  refine so_borO (i := 0) ?_ ?_ ?_ ?_
  rfl
  (first | exact Or.inl rfl | exact Or.inr (Or.inl rfl) | exact Or.inr (Or.inr rfl))
  rfl
  rfl
  refine so_borO (i := 2) ?_ ?_ ?_ ?_
  rfl
  (first | exact Or.inl rfl | exact Or.inr (Or.inl rfl) | exact Or.inr (Or.inr rfl))
  rfl
  rfl
  rfl
theorem c_is_integer (W : Wd K mg) {f : Addr} {fd : FuncData} (F : FunD K "is_integer" "is_integer" (defArgs s_is_integer) (defBody s_is_integer) (defScope s_is_integer) [] [] f fd) (hm : mg "is_integer" = some (.ref f)) : CalD P w K mg base 1 "is_integer" 3 is_integer_den := calD (ps := ["value", "low", "high"]) F (o_is_integer W F) hm fnDen_len (fun _ _ _ _ _ _ us hl => match us, hl with | [_, _, _], _ => rfl)
def number_in_b : Rp.Env → Res := (dSeq (dIf (orB (bB (bin2 (cmpD .Eq) (borO 0) (asV (pureD (.str ""))))) (notB (truB (asV (callD allD (consA (asV (lcD [1] (strI (rdVar 0)) (setN 1) (fun env => .ok true env) (bin2 (cmpD .In) (borO 1) (asV (pureD (.str "0123456789")))))) nilA)))))) (dRet (pureD .non)) dNil) (dRetF (iteV (orB (bB (bin2 (cmpD .Eq) (borO 0) (asV (pureD (.str "0"))))) (bB (bin2 (cmpD .NotEq) (asV (bin2 D.idx (borO 0) (asV (pureD (.int 0))))) (asV (pureD (.str "0")))))) (callD intD (consA (borO 0) nilA)) (pureD .non))))
def number_in_den : List Rp.Arg → Res := fnDen 2 1 number_in_b
theorem o_number_in (W : Wd K mg) {f : Addr} {fd : FuncData} (F : FunD K "number_in" "number_in" (defArgs s_number_in) (defBody s_number_in) (defScope s_number_in) [] [] f fd) : FnOk P w K mg base (L2.CX P w) 1 f fd ["word"] (spD K mg 1 number_in_den) := by
  refine funD_ok (N := ["word", "sign"]) (ps := ["word"]) (k := 0) (den := number_in_b) F sc_number_in (fun cdv A outer s H E hr => ?_)
  refine ss_cons ?_ ?_
  refine s1_if ?_ ?_ ss_nil
  refine st_or ?_ ?_
  refine st_cmp (op := .Eq) (hu65 hr) ?_ ?_ ?_
  refine so_borO (i := 0) ?_ ?_ ?_ ?_
  rfl
  (first | exact Or.inl rfl | exact Or.inr (Or.inl rfl) | exact Or.inr (Or.inr rfl))
  rfl
  rfl
  refine so_of ?_
  refine se_const ?_
  rfl
  rfl
  refine st_one ?_
  refine st_not ?_
  refine st_val ?_ ?_
  refine so_of ?_
  refine SF.se ?_
  refine sf_callB (c_all (by rfl)) ?_ W.n_all bt_all ?_ ?_ ?_ ?_
  rfl
  decide
  rfl
  rfl
  refine sa_cons ?_ ?_ sa_nil
  rfl
  refine so_of ?_
  refine SF.se ?_
  refine sf_lc (own := [("sign", 1)]) (is := [1]) ?_ ?_ ?_ ?_ ?_ ?_ ?_ ?_ ?_
  rfl
  exact sc_number_in.nd
  exact (blkOk_by (by rfl))
  decide
  exact (fun _ => (by rfl))
  refine si_str ?_
  refine se_var (i := 0) ?_ ?_ ?_ ?_
  rfl
  (first | exact Or.inl rfl | exact Or.inr (Or.inl rfl) | exact Or.inr (Or.inr rfl))
  rfl
  rfl
  intro _ _ _ _ _
  refine sg_name (i := 1) ?_ ?_ ?_ ?_
  exact sc_number_in.nd
  rfl
  (first | exact Or.inl rfl | exact Or.inr rfl)
  (first | exact Or.inr rfl | exact Or.inl rfl)
  intro _ _ _ _ _
  refine st_yes ?_
  rfl
  intro _ _ _ _ _
  refine se_cmp (op := .In) (hu65 hr) ?_ ?_ ?_
  refine so_borO (i := 1) ?_ ?_ ?_ ?_
  rfl
  (first | exact Or.inl rfl | exact Or.inr (Or.inl rfl) | exact Or.inr (Or.inr rfl))
  rfl
  rfl
  refine so_of ?_
  refine se_gstr ?_ W.s_DIGITS ?_
  rfl
  rfl
  rfl
  exact (fun _ => (by rfl))
  refine ss_one ?_
  refine s1_ret ?_
  refine se_const ?_
  rfl
  refine ss_one ?_
  refine s1_retF ?_
  refine sf_ite ?_ ?_ ?_
  refine st_or ?_ ?_
  refine st_cmp (op := .Eq) (hu65 hr) ?_ ?_ ?_
  refine so_borO (i := 0) ?_ ?_ ?_ ?_
  rfl
  (first | exact Or.inl rfl | exact Or.inr (Or.inl rfl) | exact Or.inr (Or.inr rfl))
  rfl
  rfl
  refine so_of ?_
  refine se_const ?_
  rfl
  rfl
  refine st_one ?_
  refine st_cmp (op := .NotEq) (hu65 hr) ?_ ?_ ?_
  refine so_of ?_
  refine se_idx ?_ ?_ ?_
  exact (fun _ _ => (by rfl))
  refine so_borO (i := 0) ?_ ?_ ?_ ?_
  rfl
  (first | exact Or.inl rfl | exact Or.inr (Or.inl rfl) | exact Or.inr (Or.inr rfl))
  rfl
  rfl
  refine so_of ?_
  refine se_const ?_
  rfl
  refine so_of ?_
  refine se_const ?_
  rfl
  rfl
  refine sf_callTy c_int ?_ W.n_int bt_int ?_ ?_ ?_ ?_
  rfl
  decide
  rfl
  rfl
  refine sa_cons ?_ ?_ sa_nil
  rfl
  refine so_borO (i := 0) ?_ ?_ ?_ ?_
  rfl
  (first | exact Or.inl rfl | exact Or.inr (Or.inl rfl) | exact Or.inr (Or.inr rfl))
  rfl
  rfl
  refine SE.sf ?_ ?_
  refine se_const ?_
  rfl
  exact (fun _ _ _ h ds z => by first | (cases h; cases z; done) | (subst z; simp [pureD] at h))
theorem c_number_in (W : Wd K mg) {f : Addr} {fd : FuncData} (F : FunD K "number_in" "number_in" (defArgs s_number_in) (defBody s_number_in) (defScope s_number_in) [] [] f fd) (hm : mg "number_in" = some (.ref f)) : CalD P w K mg base 1 "number_in" 1 number_in_den := calD (ps := ["word"]) F (o_number_in W F) hm fnDen_len (fun _ _ _ _ _ _ us hl => match us, hl with | [_], _ => rfl)
def numbers_in_b : Rp.Env → Res := (dSeq (dSetF 2 (dispD .lst nilA)) (dSeq (dFor (strI (rdVar 1)) (setN 3) (dSeq (dSetF 4 (strM findD (borO 0) (borO 3))) (dSeq (dIf (bB (bin2 (cmpD .Lt) (borO 4) (asV (pureD (.int 0))))) (dRet (pureD .non)) dNil) (dSeq (dApp 2 (callU true number_in_den (consA (asV (sliceD (borO 0) gapP (partP (rdVar 4)))) nilA))) (dSetF 0 (sliceD (borO 0) (partP (bin2 (binD .Add) (borO 4) (asV (pureD (.int 1))))) gapP)))))) (dSeq (dApp 2 (callU true number_in_den (consA (asV (rdVar 0)) nilA))) (dRetF (iteV (bB (bin2 (cmpD .In) (asV (pureD .non)) (borO 2))) (pureD .non) (callD tupleD (consA (borO 2) nilA)))))))
def numbers_in_den : List Rp.Arg → Res := fnDen 5 2 numbers_in_b
theorem o_numbers_in (W : Wd K mg) {f : Addr} {fd : FuncData} (F : FunD K "numbers_in" "numbers_in" (defArgs s_numbers_in) (defBody s_numbers_in) (defScope s_numbers_in) [] [] f fd) (c_number_in : CalD P w K mg base 1 "number_in" 1 number_in_den) : FnOk P w K mg base (L2.CX P w) 2 f fd ["word", "signs"] (spD K mg 2 numbers_in_den) := by
  refine funD_ok (N := ["word", "signs", "found", "sign", "place"]) (ps := ["word", "signs"]) (k := 1) (den := numbers_in_b) F sc_numbers_in (fun cdv A outer s H E hr => ?_)
  refine ss_cons ?_ ?_
  refine s1_setF (i := 2) ?_ ?_ ?_ ?_ ?_ ?_
  exact sc_numbers_in.nd
  rfl
  (first | exact Or.inl rfl | exact Or.inr rfl)
  rfl
  (first | exact Or.inr rfl | exact Or.inl rfl)
  exact sf_lst sa_nil
  refine ss_cons ?_ ?_
  refine s1_for (is := [3]) ?_ ?_ ?_ ?_ ?_ ?_
  exact (passes_of (by rfl))
  rfl
  exact (fun _ => (by rfl))
  refine si_str ?_
  refine se_var (i := 1) ?_ ?_ ?_ ?_
  rfl
  (first | exact Or.inl rfl | exact Or.inr (Or.inl rfl) | exact Or.inr (Or.inr rfl))
  rfl
  rfl
  refine sg_name (i := 3) ?_ ?_ ?_ ?_
  exact sc_numbers_in.nd
  rfl
  (first | exact Or.inl rfl | exact Or.inr rfl)
  (first | exact Or.inr rfl | exact Or.inl rfl)
  refine ss_cons ?_ ?_
  refine s1_setF (i := 4) ?_ ?_ ?_ ?_ ?_ ?_
  exact sc_numbers_in.nd
  rfl
  (first | exact Or.inl rfl | exact Or.inr rfl)
  rfl
  (first | exact Or.inr rfl | exact Or.inl rfl)
  refine sf_m1 PySem.F.slot_str_find PySem.F.type_str_find m_find ?_ ?_ ?_ ?_ ?_
  rfl
  rfl
  rfl
  refine so_borO (i := 0) ?_ ?_ ?_ ?_
  rfl
  (first | exact Or.inl rfl | exact Or.inr (Or.inl rfl) | exact Or.inr (Or.inr rfl))
  rfl
  rfl
  refine so_borO (i := 3) ?_ ?_ ?_ ?_
  rfl
  (first | exact Or.inl rfl | exact Or.inr (Or.inl rfl) | exact Or.inr (Or.inr rfl))
  rfl
  rfl
  refine ss_cons ?_ ?_
  refine s1_if ?_ ?_ ss_nil
  refine st_cmp (op := .Lt) (hu65 hr) ?_ ?_ ?_
  refine so_borO (i := 4) ?_ ?_ ?_ ?_
  rfl
  (first | exact Or.inl rfl | exact Or.inr (Or.inl rfl) | exact Or.inr (Or.inr rfl))
  rfl
  rfl
  refine so_of ?_
  refine se_const ?_
  rfl
  rfl
  refine ss_one ?_
  refine s1_ret ?_
  refine se_const ?_
  rfl
  refine ss_cons ?_ ?_
  refine s1_app (i := 2) ?_ ?_ ?_ ?_ ?_ ?_ ?_ ?_ ?_ ?_
  rfl
  (first | exact Or.inl rfl | exact Or.inr (Or.inl rfl) | exact Or.inr (Or.inr rfl))
  rfl
  rfl
  rfl
  rfl
  rfl
  rfl
  rfl
  refine SF.se ?_
  refine sf_callU c_number_in hr ?_ ?_ ?_ ?_ ?_
  decide
  rfl
  rfl
  rfl
  refine sa_cons ?_ ?_ sa_nil
  rfl
  refine so_of ?_
  refine SF.se ?_
  refine sf_slice ?_ sp_gap ?_
  refine so_borO (i := 0) ?_ ?_ ?_ ?_
  rfl
  (first | exact Or.inl rfl | exact Or.inr (Or.inl rfl) | exact Or.inr (Or.inr rfl))
  rfl
  rfl
  refine sp_part ?_
  refine se_var (i := 4) ?_ ?_ ?_ ?_
  rfl
  (first | exact Or.inl rfl | exact Or.inr (Or.inl rfl) | exact Or.inr (Or.inr rfl))
  rfl
  rfl
  refine ss_one ?_
  refine s1_setF (i := 0) ?_ ?_ ?_ ?_ ?_ ?_
  exact sc_numbers_in.nd
  rfl
  (first | exact Or.inl rfl | exact Or.inr rfl)
  rfl
  (first | exact Or.inr rfl | exact Or.inl rfl)
  refine sf_slice ?_ ?_ sp_gap
  refine so_borO (i := 0) ?_ ?_ ?_ ?_
  rfl
  (first | exact Or.inl rfl | exact Or.inr (Or.inl rfl) | exact Or.inr (Or.inr rfl))
  rfl
  rfl
  refine sp_part ?_
  refine SF.se ?_
  refine sf_op f_add ?_ ?_
  refine so_borO (i := 4) ?_ ?_ ?_ ?_
  rfl
  (first | exact Or.inl rfl | exact Or.inr (Or.inl rfl) | exact Or.inr (Or.inr rfl))
  rfl
  rfl
  refine so_of ?_
  refine se_const ?_
  rfl
  refine ss_cons ?_ ?_
  refine s1_app (i := 2) ?_ ?_ ?_ ?_ ?_ ?_ ?_ ?_ ?_ ?_
  rfl
  (first | exact Or.inl rfl | exact Or.inr (Or.inl rfl) | exact Or.inr (Or.inr rfl))
  rfl
  rfl
  rfl
  rfl
  rfl
  rfl
  rfl
  refine SF.se ?_
  refine sf_callU c_number_in hr ?_ ?_ ?_ ?_ ?_
  decide
  rfl
  rfl
  rfl
  refine sa_cons ?_ ?_ sa_nil
  rfl
  refine so_of ?_
  refine se_var (i := 0) ?_ ?_ ?_ ?_
  rfl
  (first | exact Or.inl rfl | exact Or.inr (Or.inl rfl) | exact Or.inr (Or.inr rfl))
  rfl
  rfl
  refine ss_one ?_
  refine s1_retF ?_
  refine sf_ite ?_ ?_ ?_
  refine st_cmp (op := .In) (hu65 hr) ?_ ?_ ?_
  refine so_of ?_
  refine se_const ?_
  rfl
  refine so_borO (i := 2) ?_ ?_ ?_ ?_
  rfl
  (first | exact Or.inl rfl | exact Or.inr (Or.inl rfl) | exact Or.inr (Or.inr rfl))
  rfl
  rfl
  rfl
  refine SE.sf ?_ ?_
  refine se_const ?_
  rfl
  exact (fun _ _ _ h ds z => by first | (cases h; cases z; done) | (subst z; simp [pureD] at h))
  refine sf_callTy c_tuple ?_ W.n_tuple bt_tuple ?_ ?_ ?_ ?_
  rfl
  decide
  rfl
  rfl
  refine sa_cons ?_ ?_ sa_nil
  rfl
  refine so_borO (i := 2) ?_ ?_ ?_ ?_
  rfl
  (first | exact Or.inl rfl | exact Or.inr (Or.inl rfl) | exact Or.inr (Or.inr rfl))
  rfl
  rfl
theorem c_numbers_in (W : Wd K mg) {f : Addr} {fd : FuncData} (F : FunD K "numbers_in" "numbers_in" (defArgs s_numbers_in) (defBody s_numbers_in) (defScope s_numbers_in) [] [] f fd) (hm : mg "numbers_in" = some (.ref f)) (c_number_in : CalD P w K mg base 1 "number_in" 1 number_in_den) : CalD P w K mg base 2 "numbers_in" 2 numbers_in_den := calD (ps := ["word", "signs"]) F (o_numbers_in W F c_number_in) hm fnDen_len (fun _ _ _ _ _ _ us hl => match us, hl with | [_, _], _ => rfl)
def is_ride_tuple_b : Rp.Env → Res := (dRet (andV (isiD ["tuple"] (borO 0)) (andV (bin2 (cmpD .Eq) (asV (callD lenD (consA (borO 0) nilA))) (asV (pureD (.int 4)))) (callD allD (consA (asV (lcD [1] (tupI (rdVar 0)) (setN 1) (fun env => .ok true env) (callU true is_integer_den (consA (asV (rdVar 1)) (consA (asV (pureD (.int 0))) (consA (asV (pureD .non)) nilA)))))) nilA)))))
def is_ride_tuple_den : List Rp.Arg → Res := fnDen 2 1 is_ride_tuple_b
theorem o_is_ride_tuple (W : Wd K mg) {f : Addr} {fd : FuncData} (F : FunD K "is_ride_tuple" "is_ride_tuple" (defArgs s_is_ride_tuple) (defBody s_is_ride_tuple) (defScope s_is_ride_tuple) [] [] f fd) (c_is_integer : CalD P w K mg base 1 "is_integer" 3 is_integer_den) : FnOk P w K mg base (L2.CX P w) 2 f fd ["value"] (spD K mg 1 is_ride_tuple_den) := by
  refine funD_ok (N := ["value", "number"]) (ps := ["value"]) (k := 1) (den := is_ride_tuple_b) F sc_is_ride_tuple (fun cdv A outer s H E hr => ?_)
  refine ss_one ?_
  refine s1_ret ?_
  refine se_and ?_ ?_
  refine se_isi (T := "tuple") ?_ W.n_isinstance bt_isinstance ?_ ?_ ?_ ⟨(by rfl), W.n_tuple, bt_tuple, by decide, (by rfl)⟩ ?_
  rfl
  decide
  rfl
  rfl
  refine so_borO (i := 0) ?_ ?_ ?_ ?_
  rfl
  (first | exact Or.inl rfl | exact Or.inr (Or.inl rfl) | exact Or.inr (Or.inr rfl))
  rfl
  rfl
  refine se_and ?_ ?_
  refine se_cmp (op := .Eq) (hu65 hr) ?_ ?_ ?_
  refine so_of ?_
  refine SF.se ?_
  refine sf_callB c_len ?_ W.n_len bt_len ?_ ?_ ?_ ?_
  rfl
  decide
  rfl
  rfl
  refine sa_cons ?_ ?_ sa_nil
  rfl
  refine so_borO (i := 0) ?_ ?_ ?_ ?_
  rfl
  (first | exact Or.inl rfl | exact Or.inr (Or.inl rfl) | exact Or.inr (Or.inr rfl))
  rfl
  rfl
  refine so_of ?_
  refine se_const ?_
  rfl
  rfl
  refine se_one ?_
  refine SF.se ?_
  refine sf_callB (c_all (by rfl)) ?_ W.n_all bt_all ?_ ?_ ?_ ?_
  rfl
  decide
  rfl
  rfl
  refine sa_cons ?_ ?_ sa_nil
  rfl
  refine so_of ?_
  refine SF.se ?_
  refine sf_lc (own := [("number", 1)]) (is := [1]) ?_ ?_ ?_ ?_ ?_ ?_ ?_ ?_ ?_
  rfl
  exact sc_is_ride_tuple.nd
  exact (blkOk_by (by rfl))
  decide
  exact (fun _ => (by rfl))
  refine si_tup ?_
  refine se_var (i := 0) ?_ ?_ ?_ ?_
  rfl
  (first | exact Or.inl rfl | exact Or.inr (Or.inl rfl) | exact Or.inr (Or.inr rfl))
  rfl
  rfl
  intro _ _ _ _ _
  refine sg_name (i := 1) ?_ ?_ ?_ ?_
  exact sc_is_ride_tuple.nd
  rfl
  (first | exact Or.inl rfl | exact Or.inr rfl)
  (first | exact Or.inr rfl | exact Or.inl rfl)
  intro _ _ _ _ _
  refine st_yes ?_
  rfl
  intro _ _ _ _ _
  refine SF.se ?_
  refine sf_callU c_is_integer hr ?_ ?_ ?_ ?_ ?_
  decide
  rfl
  rfl
  rfl
  refine sa_cons ?_ ?_ ?_
  rfl
  refine so_of ?_
  refine se_var (i := 1) ?_ ?_ ?_ ?_
  rfl
  (first | exact Or.inl rfl | exact Or.inr (Or.inl rfl) | exact Or.inr (Or.inr rfl))
  rfl
  rfl
  refine sa_cons ?_ ?_ ?_
  rfl
  refine so_of ?_
  refine se_const ?_
  rfl
  refine sa_cons ?_ ?_ sa_nil
  rfl
  refine so_of ?_
  refine se_const ?_
  rfl
theorem c_is_ride_tuple (W : Wd K mg) {f : Addr} {fd : FuncData} (F : FunD K "is_ride_tuple" "is_ride_tuple" (defArgs s_is_ride_tuple) (defBody s_is_ride_tuple) (defScope s_is_ride_tuple) [] [] f fd) (hm : mg "is_ride_tuple" = some (.ref f)) (c_is_integer : CalD P w K mg base 1 "is_integer" 3 is_integer_den) : CalD P w K mg base 2 "is_ride_tuple" 1 is_ride_tuple_den := calD (ps := ["value"]) F (o_is_ride_tuple W F c_is_integer) hm fnDen_len (fun _ _ _ _ _ _ us hl => match us, hl with | [_], _ => rfl)
def format_journey_b : Rp.Env → Res := (dSeq (dIf (orB (notB (truB (asV (isiD ["list"] (borO 0))))) (notB (truB (asV (callD allD (consA (asV (lcD [5] (borI 0) (setN 5) (fun env => .ok true env) (callU true is_ride_tuple_den (consA (asV (rdVar 5)) nilA)))) nilA)))))) (dRaise "InvalidJourney") dNil) (dRetF (strM joinD (asV (pureD (.str " "))) (asV (lcD [1, 2, 3, 4] (borI 0) (gTupD 4 (gConsD (setN 1) (gConsD (setN 2) (gConsD (setN 3) (gConsD (setN 4) gNilD))))) (fun env => .ok true env) (joinF (fmtJ (rdVar 1) (conJ ":" (fmtJ (rdVar 2) (conJ ":" (fmtJ (rdVar 3) (conJ "-" (fmtJ (rdVar 4) nilJ)))))))))))))
def format_journey_den : List Rp.Arg → Res := fnDen 6 1 format_journey_b
theorem o_format_journey (W : Wd K mg) {f : Addr} {fd : FuncData} (F : FunD K "format_journey" "format_journey" (defArgs s_format_journey) (defBody s_format_journey) (defScope s_format_journey) [] [] f fd) (c_is_ride_tuple : CalD P w K mg base 2 "is_ride_tuple" 1 is_ride_tuple_den) : FnOk P w K mg base (L2.CX P w) 3 f fd ["journey"] (spD K mg 1 format_journey_den) := by
  refine funD_ok (N := ["journey", "trip", "day", "at", "to", "ride"]) (ps := ["journey"]) (k := 2) (den := format_journey_b) F sc_format_journey (fun cdv A outer s H E hr => ?_)
  refine ss_cons ?_ ?_
  refine s1_if ?_ ?_ ss_nil
  refine st_or ?_ ?_
  refine st_not ?_
  refine st_val ?_ ?_
  refine so_of ?_
  refine se_isi (T := "list") ?_ W.n_isinstance bt_isinstance ?_ ?_ ?_ ⟨(by rfl), W.n_list, bt_list, by decide, (by rfl)⟩ ?_
  rfl
  decide
  rfl
  rfl
  refine so_borO (i := 0) ?_ ?_ ?_ ?_
  rfl
  (first | exact Or.inl rfl | exact Or.inr (Or.inl rfl) | exact Or.inr (Or.inr rfl))
  rfl
  rfl
  exact (fun _ => (by rfl))
  refine st_one ?_
  refine st_not ?_
  refine st_val ?_ ?_
  refine so_of ?_
  refine SF.se ?_
  refine sf_callB (c_all (by rfl)) ?_ W.n_all bt_all ?_ ?_ ?_ ?_
  rfl
  decide
  rfl
  rfl
  refine sa_cons ?_ ?_ sa_nil
  rfl
  refine so_of ?_
  refine SF.se ?_
  refine sf_lc (own := [("ride", 5)]) (is := [5]) ?_ ?_ ?_ ?_ ?_ ?_ ?_ ?_ ?_
  rfl
  exact sc_format_journey.nd
  exact (blkOk_by (by rfl))
  decide
  exact (fun _ => (by rfl))
  refine si_bor (i := 0) ?_ ?_ ?_ ?_
  rfl
  (first | exact Or.inl rfl | exact Or.inr (Or.inl rfl) | exact Or.inr (Or.inr rfl))
  rfl
  rfl
  intro _ _ _ _ _
  refine sg_name (i := 5) ?_ ?_ ?_ ?_
  exact sc_format_journey.nd
  rfl
  (first | exact Or.inl rfl | exact Or.inr rfl)
  (first | exact Or.inr rfl | exact Or.inl rfl)
  intro _ _ _ _ _
  refine st_yes ?_
  rfl
  intro _ _ _ _ _
  refine SF.se ?_
  refine sf_callU c_is_ride_tuple hr ?_ ?_ ?_ ?_ ?_
  decide
  rfl
  rfl
  rfl
  refine sa_cons ?_ ?_ sa_nil
  rfl
  refine so_of ?_
  refine se_var (i := 5) ?_ ?_ ?_ ?_
  rfl
  (first | exact Or.inl rfl | exact Or.inr (Or.inl rfl) | exact Or.inr (Or.inr rfl))
  rfl
  rfl
  exact (fun _ => (by rfl))
  refine ss_one ?_
  refine s1_raise0 ?_ W.e_InvalidJourney ?_ ?_
  rfl
  rfl
  rfl
  refine ss_one ?_
  refine s1_retF ?_
  refine sf_m1 PySem.F.slot_str_join PySem.F.type_str_join m_join ?_ ?_ ?_ ?_ ?_
  rfl
  rfl
  rfl
  refine so_of ?_
  refine se_gstr ?_ W.s_SPACE ?_
  rfl
  rfl
  refine so_of ?_
  refine SF.se ?_
  refine sf_lc (own := [("trip", 1), ("day", 2), ("at", 3), ("to", 4)]) (is := [1, 2, 3, 4]) ?_ ?_ ?_ ?_ ?_ ?_ ?_ ?_ ?_
  rfl
  exact sc_format_journey.nd
  exact (blkOk_by (by rfl))
  decide
  exact (fun _ => (by rfl))
  refine si_bor (i := 0) ?_ ?_ ?_ ?_
  rfl
  (first | exact Or.inl rfl | exact Or.inr (Or.inl rfl) | exact Or.inr (Or.inr rfl))
  rfl
  rfl
  intro _ _ _ _ _
  refine sg_tup ?_ ?_ ?_
  rfl
  rfl
  refine sgs_cons (i1 := [1]) (i2 := [2, 3, 4]) ?_ ?_ ?_
  rfl
  refine sg_name (i := 1) ?_ ?_ ?_ ?_
  exact sc_format_journey.nd
  rfl
  (first | exact Or.inl rfl | exact Or.inr rfl)
  (first | exact Or.inr rfl | exact Or.inl rfl)
  refine sgs_cons (i1 := [2]) (i2 := [3, 4]) ?_ ?_ ?_
  rfl
  refine sg_name (i := 2) ?_ ?_ ?_ ?_
  exact sc_format_journey.nd
  rfl
  (first | exact Or.inl rfl | exact Or.inr rfl)
  (first | exact Or.inr rfl | exact Or.inl rfl)
  refine sgs_cons (i1 := [3]) (i2 := [4]) ?_ ?_ ?_
  rfl
  refine sg_name (i := 3) ?_ ?_ ?_ ?_
  exact sc_format_journey.nd
  rfl
  (first | exact Or.inl rfl | exact Or.inr rfl)
  (first | exact Or.inr rfl | exact Or.inl rfl)
  refine sgs_cons (i1 := [4]) (i2 := []) ?_ ?_ sgs_nil
  rfl
  refine sg_name (i := 4) ?_ ?_ ?_ ?_
  exact sc_format_journey.nd
  rfl
  (first | exact Or.inl rfl | exact Or.inr rfl)
  (first | exact Or.inr rfl | exact Or.inl rfl)
  intro _ _ _ _ _
  refine st_yes ?_
  rfl
  intro _ _ _ _ _
  refine se_joined ?_
  refine sj_fmtJ ?_ ?_
  refine se_var (i := 1) ?_ ?_ ?_ ?_
  rfl
  (first | exact Or.inl rfl | exact Or.inr (Or.inl rfl) | exact Or.inr (Or.inr rfl))
  rfl
  rfl
  refine sj_conJ ?_
  refine sj_fmtJ ?_ ?_
  refine se_var (i := 2) ?_ ?_ ?_ ?_
  rfl
  (first | exact Or.inl rfl | exact Or.inr (Or.inl rfl) | exact Or.inr (Or.inr rfl))
  rfl
  rfl
  refine sj_conJ ?_
  refine sj_fmtJ ?_ ?_
  refine se_var (i := 3) ?_ ?_ ?_ ?_
  rfl
  (first | exact Or.inl rfl | exact Or.inr (Or.inl rfl) | exact Or.inr (Or.inr rfl))
  rfl
  rfl
  refine sj_conJ ?_
  refine sj_fmtJ ?_ sj_nilJ
  refine se_var (i := 4) ?_ ?_ ?_ ?_
  rfl
  (first | exact Or.inl rfl | exact Or.inr (Or.inl rfl) | exact Or.inr (Or.inr rfl))
  rfl
  rfl
theorem c_format_journey (W : Wd K mg) {f : Addr} {fd : FuncData} (F : FunD K "format_journey" "format_journey" (defArgs s_format_journey) (defBody s_format_journey) (defScope s_format_journey) [] [] f fd) (hm : mg "format_journey" = some (.ref f)) (c_is_ride_tuple : CalD P w K mg base 2 "is_ride_tuple" 1 is_ride_tuple_den) : CalD P w K mg base 3 "format_journey" 1 format_journey_den := calD (ps := ["journey"]) F (o_format_journey W F c_is_ride_tuple) hm fnDen_len (fun _ _ _ _ _ _ us hl => match us, hl with | [_], _ => rfl)
theorem k_format_journey (W : Wd K mg) {f : Addr} {fd : FuncData} (F : FunD K "format_journey" "format_journey" (defArgs s_format_journey) (defBody s_format_journey) (defScope s_format_journey) [] [] f fd) (hm : mg "format_journey" = some (.ref f)) (c_is_ride_tuple : CalD P w K mg base 2 "is_ride_tuple" 1 is_ride_tuple_den) : CalK P w K mg base 3 "format_journey" ["journey"] [0] 1 format_journey_den := calK (ps := ["journey"]) F (o_format_journey W F c_is_ride_tuple) hm fnDen_len (fun _ _ _ _ _ _ us hl => match us, hl with | [_], _ => rfl)
def parse_journey_b : Rp.Env → Res := (dSeq (dIf (notB (truB (asV (isiD ["str"] (borO 0))))) (dRaise "InvalidText") dNil) (dSeq (dSetF 1 (iteV (bB (bin2 (cmpD .NotEq) (borO 0) (asV (pureD (.str ""))))) (lcD [2] (lstI (strM splitD (borO 0) (asV (pureD (.str " "))))) (setN 2) (fun env => .ok true env) (callU true numbers_in_den (consA (asV (rdVar 2)) (consA (asV (pureD (.str "::-"))) nilA)))) (dispD .lst nilA))) (dSeq (dIf (bB (bin2 (cmpD .In) (asV (pureD .non)) (borO 1))) (dRaise "InvalidText") dNil) (dRetO 1))))
def parse_journey_den : List Rp.Arg → Res := fnDen 3 1 parse_journey_b
theorem o_parse_journey (W : Wd K mg) {f : Addr} {fd : FuncData} (F : FunD K "parse_journey" "parse_journey" (defArgs s_parse_journey) (defBody s_parse_journey) (defScope s_parse_journey) [] [] f fd) (c_numbers_in : CalD P w K mg base 2 "numbers_in" 2 numbers_in_den) : FnOk P w K mg base (L2.CX P w) 3 f fd ["text"] (spD K mg 1 parse_journey_den) := by
  refine funD_ok (N := ["text", "found", "word"]) (ps := ["text"]) (k := 2) (den := parse_journey_b) F sc_parse_journey (fun cdv A outer s H E hr => ?_)
  refine ss_cons ?_ ?_
  refine s1_if ?_ ?_ ss_nil
  refine st_not ?_
  refine st_val ?_ ?_
  refine so_of ?_
  refine se_isi (T := "str") ?_ W.n_isinstance bt_isinstance ?_ ?_ ?_ ⟨(by rfl), W.n_str, bt_str, by decide, (by rfl)⟩ ?_
  rfl
  decide
  rfl
  rfl
  refine so_borO (i := 0) ?_ ?_ ?_ ?_
  rfl
  (first | exact Or.inl rfl | exact Or.inr (Or.inl rfl) | exact Or.inr (Or.inr rfl))
  rfl
  rfl
  exact (fun _ => (by rfl))
  refine ss_one ?_
  refine s1_raise0 ?_ W.e_InvalidText ?_ ?_
  rfl
  rfl
  rfl
  refine ss_cons ?_ ?_
  refine s1_setF (i := 1) ?_ ?_ ?_ ?_ ?_ ?_
  exact sc_parse_journey.nd
  rfl
  (first | exact Or.inl rfl | exact Or.inr rfl)
  rfl
  (first | exact Or.inr rfl | exact Or.inl rfl)
  refine sf_ite ?_ ?_ ?_
  refine st_cmp (op := .NotEq) (hu65 hr) ?_ ?_ ?_
  refine so_borO (i := 0) ?_ ?_ ?_ ?_
  rfl
  (first | exact Or.inl rfl | exact Or.inr (Or.inl rfl) | exact Or.inr (Or.inr rfl))
  rfl
  rfl
  refine so_of ?_
  refine se_const ?_
  rfl
  rfl
  refine sf_lc (own := [("word", 2)]) (is := [2]) ?_ ?_ ?_ ?_ ?_ ?_ ?_ ?_ ?_
  rfl
  exact sc_parse_journey.nd
  exact (blkOk_by (by rfl))
  decide
  exact (fun _ => (by rfl))
  refine si_lst ?_
  refine SF.se ?_
  refine sf_m1 PySem.F.slot_str_split PySem.F.type_str_split m_split ?_ ?_ ?_ ?_ ?_
  rfl
  rfl
  rfl
  refine so_borO (i := 0) ?_ ?_ ?_ ?_
  rfl
  (first | exact Or.inl rfl | exact Or.inr (Or.inl rfl) | exact Or.inr (Or.inr rfl))
  rfl
  rfl
  refine so_of ?_
  refine se_gstr ?_ W.s_SPACE ?_
  rfl
  rfl
  intro _ _ _ _ _
  refine sg_name (i := 2) ?_ ?_ ?_ ?_
  exact sc_parse_journey.nd
  rfl
  (first | exact Or.inl rfl | exact Or.inr rfl)
  (first | exact Or.inr rfl | exact Or.inl rfl)
  intro _ _ _ _ _
  refine st_yes ?_
  rfl
  intro _ _ _ _ _
  refine SF.se ?_
  refine sf_callU c_numbers_in hr ?_ ?_ ?_ ?_ ?_
  decide
  rfl
  rfl
  rfl
  refine sa_cons ?_ ?_ ?_
  rfl
  refine so_of ?_
  refine se_var (i := 2) ?_ ?_ ?_ ?_
  rfl
  (first | exact Or.inl rfl | exact Or.inr (Or.inl rfl) | exact Or.inr (Or.inr rfl))
  rfl
  rfl
  refine sa_cons ?_ ?_ sa_nil
  rfl
  refine so_of ?_
  refine se_const ?_
  rfl
  exact sf_lst sa_nil
  refine ss_cons ?_ ?_
  refine s1_if ?_ ?_ ss_nil
  refine st_cmp (op := .In) (hu65 hr) ?_ ?_ ?_
  refine so_of ?_
  refine se_const ?_
  rfl
  refine so_borO (i := 1) ?_ ?_ ?_ ?_
  rfl
  (first | exact Or.inl rfl | exact Or.inr (Or.inl rfl) | exact Or.inr (Or.inr rfl))
  rfl
  rfl
  rfl
  refine ss_one ?_
  refine s1_raise0 ?_ W.e_InvalidText ?_ ?_
  rfl
  rfl
  rfl
  refine ss_one ?_
  refine s1_retO (i := 1) ?_ ?_ ?_ ?_
  rfl
  (first | exact Or.inl rfl | exact Or.inr (Or.inl rfl) | exact Or.inr (Or.inr rfl))
  rfl
  rfl
theorem c_parse_journey (W : Wd K mg) {f : Addr} {fd : FuncData} (F : FunD K "parse_journey" "parse_journey" (defArgs s_parse_journey) (defBody s_parse_journey) (defScope s_parse_journey) [] [] f fd) (hm : mg "parse_journey" = some (.ref f)) (c_numbers_in : CalD P w K mg base 2 "numbers_in" 2 numbers_in_den) : CalD P w K mg base 3 "parse_journey" 1 parse_journey_den := calD (ps := ["text"]) F (o_parse_journey W F c_numbers_in) hm fnDen_len (fun _ _ _ _ _ _ us hl => match us, hl with | [_], _ => rfl)
theorem k_parse_journey (W : Wd K mg) {f : Addr} {fd : FuncData} (F : FunD K "parse_journey" "parse_journey" (defArgs s_parse_journey) (defBody s_parse_journey) (defScope s_parse_journey) [] [] f fd) (hm : mg "parse_journey" = some (.ref f)) (c_numbers_in : CalD P w K mg base 2 "numbers_in" 2 numbers_in_den) : CalK P w K mg base 3 "parse_journey" ["text"] [0] 1 parse_journey_den := calK (ps := ["text"]) F (o_parse_journey W F c_numbers_in) hm fnDen_len (fun _ _ _ _ _ _ us hl => match us, hl with | [_], _ => rfl)
def l_cell_at_b : Rp.Env → Res := (dSeq (dIf (bB (bin2 (cmpD .Lt) (borO 1) (asV (callD lenD (consA (borO 0) nilA))))) (dRet (bin2 D.idx (borO 0) (borO 1))) dNil) (dRet (pureD (.int 0))))
def l_cell_at_den : List Rp.Arg → Res := fnDen 2 2 l_cell_at_b
theorem o_l_cell_at (W : Wd K mg) {f : Addr} {fd : FuncData} (F : FunD K "_law_cell_at" "_law_cell_at" (defArgs s_l_cell_at) (defBody s_l_cell_at) (defScope s_l_cell_at) [] [] f fd) : FnOk P w K mg base (L2.CX P w) 1 f fd ["_law_script", "_law_k"] (spD K mg 2 l_cell_at_den) := by
  refine funD_ok (N := ["_law_script", "_law_k"]) (ps := ["_law_script", "_law_k"]) (k := 0) (den := l_cell_at_b) F sc_l_cell_at (fun cdv A outer s H E hr => ?_)
  refine ss_cons ?_ ?_
  refine s1_if ?_ ?_ ss_nil
  refine st_cmp (op := .Lt) (hu65 hr) ?_ ?_ ?_
  refine so_borO (i := 1) ?_ ?_ ?_ ?_
  rfl
  (first | exact Or.inl rfl | exact Or.inr (Or.inl rfl) | exact Or.inr (Or.inr rfl))
  rfl
  rfl
  refine so_of ?_
  refine SF.se ?_
  refine sf_callB c_len ?_ W.n_len bt_len ?_ ?_ ?_ ?_
  rfl
  decide
  rfl
  rfl
  refine sa_cons ?_ ?_ sa_nil
  rfl
  refine so_borO (i := 0) ?_ ?_ ?_ ?_
  rfl
  (first | exact Or.inl rfl | exact Or.inr (Or.inl rfl) | exact Or.inr (Or.inr rfl))
  rfl
  rfl
  rfl
  refine ss_one ?_
  refine s1_ret ?_
  refine se_idx ?_ ?_ ?_
  exact (fun _ _ => (by rfl))
  refine so_borO (i := 0) ?_ ?_ ?_ ?_
  rfl
  (first | exact Or.inl rfl | exact Or.inr (Or.inl rfl) | exact Or.inr (Or.inr rfl))
  rfl
  rfl
  refine so_borO (i := 1) ?_ ?_ ?_ ?_
  rfl
  (first | exact Or.inl rfl | exact Or.inr (Or.inl rfl) | exact Or.inr (Or.inr rfl))
  rfl
  rfl
  refine ss_one ?_
  refine s1_ret ?_
  refine se_const ?_
  rfl
theorem c_l_cell_at (W : Wd K mg) {f : Addr} {fd : FuncData} (F : FunD K "_law_cell_at" "_law_cell_at" (defArgs s_l_cell_at) (defBody s_l_cell_at) (defScope s_l_cell_at) [] [] f fd) (hm : mg "_law_cell_at" = some (.ref f)) : CalD P w K mg base 1 "_law_cell_at" 2 l_cell_at_den := calD (ps := ["_law_script", "_law_k"]) F (o_l_cell_at W F) hm fnDen_len (fun _ _ _ _ _ _ us hl => match us, hl with | [_, _], _ => rfl)
def l_source_b : Rp.Env → Res := (dRetF (dispD .lst (consA (asV (callD maxD (consA (asV (pureD (.int 0))) (consA (asV (bin2 (binD .Sub) (borO 0) (asV (bin2 (binD .Pow) (asV (pureD (.int 10))) (asV (pureD (.int 18))))))) nilA)))) (consA (asV (bin2 (binD .Add) (asV (bin2 (binD .Mod) (borO 0) (asV (pureD (.int 162259276829213363391578010288127))))) (asV (bin2 (binD .Mult) (asV (pureD (.int 7919))) (asV (bin2 (binD .Add) (borO 1) (asV (pureD (.int 1))))))))) (consA (asV (pureD (.int 0))) nilA)))))
def l_source_den : List Rp.Arg → Res := fnDen 2 2 l_source_b
theorem o_l_source (W : Wd K mg) {f : Addr} {fd : FuncData} (F : FunD K "_law_source" "_law_source" (defArgs s_l_source) (defBody s_l_source) (defScope s_l_source) [] [] f fd) : FnOk P w K mg base (L2.CX P w) 1 f fd ["_law_cell", "_law_k"] (spD K mg 2 l_source_den) := by
  refine funD_ok (N := ["_law_cell", "_law_k"]) (ps := ["_law_cell", "_law_k"]) (k := 0) (den := l_source_b) F sc_l_source (fun cdv A outer s H E hr => ?_)
  refine ss_one ?_
  refine s1_retF ?_
  refine sf_lst ?_
  refine sa_cons ?_ ?_ ?_
  rfl
  refine so_of ?_
  refine SF.se ?_
  refine sf_callB (c_max (by rfl)) ?_ W.n_max bt_max ?_ ?_ ?_ ?_
  rfl
  decide
  rfl
  rfl
  refine sa_cons ?_ ?_ ?_
  rfl
  refine so_of ?_
  refine se_const ?_
  rfl
  refine sa_cons ?_ ?_ sa_nil
  rfl
  refine so_of ?_
  refine se_op (s_bin .Sub) ?_ ?_
  refine so_borO (i := 0) ?_ ?_ ?_ ?_
  rfl
  (first | exact Or.inl rfl | exact Or.inr (Or.inl rfl) | exact Or.inr (Or.inr rfl))
  rfl
  rfl
  refine so_of ?_
  refine se_op (s_bin .Pow) ?_ ?_
  refine so_of ?_
  refine se_const ?_
  rfl
  refine so_of ?_
  refine se_const ?_
  rfl
  refine sa_cons ?_ ?_ ?_
  rfl
  refine so_of ?_
  refine SF.se ?_
  refine sf_op f_add ?_ ?_
  refine so_of ?_
  refine se_op (s_bin .Mod) ?_ ?_
  refine so_borO (i := 0) ?_ ?_ ?_ ?_
  rfl
  (first | exact Or.inl rfl | exact Or.inr (Or.inl rfl) | exact Or.inr (Or.inr rfl))
  rfl
  rfl
  refine so_of ?_
  refine se_const ?_
  rfl
  refine so_of ?_
  refine SF.se ?_
  refine sf_op f_mul ?_ ?_
  refine so_of ?_
  refine se_const ?_
  rfl
  refine so_of ?_
  refine SF.se ?_
  refine sf_op f_add ?_ ?_
  refine so_borO (i := 1) ?_ ?_ ?_ ?_
  rfl
  (first | exact Or.inl rfl | exact Or.inr (Or.inl rfl) | exact Or.inr (Or.inr rfl))
  rfl
  rfl
  refine so_of ?_
  refine se_const ?_
  rfl
  refine sa_cons ?_ ?_ sa_nil
  rfl
  refine so_of ?_
  refine se_const ?_
  rfl
theorem c_l_source (W : Wd K mg) {f : Addr} {fd : FuncData} (F : FunD K "_law_source" "_law_source" (defArgs s_l_source) (defBody s_l_source) (defScope s_l_source) [] [] f fd) (hm : mg "_law_source" = some (.ref f)) : CalD P w K mg base 1 "_law_source" 2 l_source_den := calD (ps := ["_law_cell", "_law_k"]) F (o_l_source W F) hm fnDen_len (fun _ _ _ _ _ _ us hl => match us, hl with | [_, _], _ => rfl)
def l_draw_b : Rp.Env → Res := (dSeq (dIf (bB (bin2 (cmpD .Gt) (asV (bin2 D.idx (borO 0) (asV (pureD (.int 0))))) (asV (pureD (.int 1))))) (dSeq (dSet 3 (bin2 (binD .Mod) (asV (bin2 D.idx (borO 0) (asV (pureD (.int 0))))) (borO 1))) (dSeq (dPut 0 (bin2 (binD .FloorDiv) (asV (bin2 D.idx (borO 0) (asV (pureD (.int 0))))) (borO 1)) (pureD (.int 0))) (dRetO 3))) dNil) (dSeq (dPut 0 (bin2 (binD .Add) (asV (bin2 D.idx (borO 0) (asV (pureD (.int 2))))) (asV (pureD (.int 1)))) (pureD (.int 2))) (dSeq (dSet 2 (bin2 (binD .Mod) (asV (bin2 (binD .Pow) (asV (bin2 (binD .Add) (asV (bin2 D.idx (borO 0) (asV (pureD (.int 1))))) (asV (bin2 (binD .Mult) (asV (pureD (.int 1299709))) (asV (bin2 D.idx (borO 0) (asV (pureD (.int 2))))))))) (asV (pureD (.int 3))))) (asV (pureD (.int 162259276829213363391578010288127))))) (dSeq (dSet 2 (bin2 (binD .Mod) (asV (bin2 (binD .Pow) (asV (bin2 (binD .Add) (borO 2) (asV (bin2 (binD .Mult) (asV (pureD (.int 15485863))) (asV (bin2 D.idx (borO 0) (asV (pureD (.int 2))))))))) (asV (pureD (.int 5))))) (asV (pureD (.int 618970019642690137449562111))))) (dRet (bin2 (binD .Mod) (asV (bin2 (binD .FloorDiv) (borO 2) (asV (pureD (.int 1048576))))) (borO 1)))))))
def l_draw_den : List Rp.Arg → Res := fnDen 4 2 l_draw_b
theorem o_l_draw (W : Wd K mg) {f : Addr} {fd : FuncData} (F : FunD K "_law_draw" "_law_draw" (defArgs s_l_draw) (defBody s_l_draw) (defScope s_l_draw) [] [] f fd) : FnOk P w K mg base (L2.CX P w) 1 f fd ["_law_source_here", "_law_count"] (spD K mg 2 l_draw_den) := by
  refine funD_ok (N := ["_law_source_here", "_law_count", "_law_mixed", "_law_found"]) (ps := ["_law_source_here", "_law_count"]) (k := 0) (den := l_draw_b) F sc_l_draw (fun cdv A outer s H E hr => ?_)
  refine ss_cons ?_ ?_
  refine s1_if ?_ ?_ ss_nil
  refine st_cmp (op := .Gt) (hu65 hr) ?_ ?_ ?_
  refine so_of ?_
  refine se_idx ?_ ?_ ?_
  exact (fun _ _ => (by rfl))
  refine so_borO (i := 0) ?_ ?_ ?_ ?_
  rfl
  (first | exact Or.inl rfl | exact Or.inr (Or.inl rfl) | exact Or.inr (Or.inr rfl))
  rfl
  rfl
  refine so_of ?_
  refine se_const ?_
  rfl
  refine so_of ?_
  refine se_const ?_
  rfl
  rfl
  refine ss_cons ?_ ?_
  refine s1_set (i := 3) ?_ ?_ ?_ ?_ ?_ ?_
  exact sc_l_draw.nd
  rfl
  (first | exact Or.inl rfl | exact Or.inr rfl)
  rfl
  (first | exact Or.inr rfl | exact Or.inl rfl)
  refine se_op (s_bin .Mod) ?_ ?_
  refine so_of ?_
  refine se_idx ?_ ?_ ?_
  exact (fun _ _ => (by rfl))
  refine so_borO (i := 0) ?_ ?_ ?_ ?_
  rfl
  (first | exact Or.inl rfl | exact Or.inr (Or.inl rfl) | exact Or.inr (Or.inr rfl))
  rfl
  rfl
  refine so_of ?_
  refine se_const ?_
  rfl
  refine so_borO (i := 1) ?_ ?_ ?_ ?_
  rfl
  (first | exact Or.inl rfl | exact Or.inr (Or.inl rfl) | exact Or.inr (Or.inr rfl))
  rfl
  rfl
  refine ss_cons ?_ ?_
  refine s1_put (i := 0) ?_ ?_ ?_ ?_ ?_ ?_ ?_ ?_ ?_ ?_
  rfl
  (first | exact Or.inl rfl | exact Or.inr (Or.inl rfl) | exact Or.inr (Or.inr rfl))
  rfl
  rfl
  exact (fun _ => (by rfl))
  rfl
  rfl
  rfl
  refine se_op (s_bin .FloorDiv) ?_ ?_
  refine so_of ?_
  refine se_idx ?_ ?_ ?_
  exact (fun _ _ => (by rfl))
  refine so_borO (i := 0) ?_ ?_ ?_ ?_
  rfl
  (first | exact Or.inl rfl | exact Or.inr (Or.inl rfl) | exact Or.inr (Or.inr rfl))
  rfl
  rfl
  refine so_of ?_
  refine se_const ?_
  rfl
  refine so_borO (i := 1) ?_ ?_ ?_ ?_
  rfl
  (first | exact Or.inl rfl | exact Or.inr (Or.inl rfl) | exact Or.inr (Or.inr rfl))
  rfl
  rfl
  refine se_const ?_
  rfl
  refine ss_one ?_
  refine s1_retO (i := 3) ?_ ?_ ?_ ?_
  rfl
  (first | exact Or.inl rfl | exact Or.inr (Or.inl rfl) | exact Or.inr (Or.inr rfl))
  rfl
  rfl
  refine ss_cons ?_ ?_
  refine s1_put (i := 0) ?_ ?_ ?_ ?_ ?_ ?_ ?_ ?_ ?_ ?_
  rfl
  (first | exact Or.inl rfl | exact Or.inr (Or.inl rfl) | exact Or.inr (Or.inr rfl))
  rfl
  rfl
  exact (fun _ => (by rfl))
  rfl
  rfl
  rfl
  refine SF.se ?_
  refine sf_op f_add ?_ ?_
  refine so_of ?_
  refine se_idx ?_ ?_ ?_
  exact (fun _ _ => (by rfl))
  refine so_borO (i := 0) ?_ ?_ ?_ ?_
  rfl
  (first | exact Or.inl rfl | exact Or.inr (Or.inl rfl) | exact Or.inr (Or.inr rfl))
  rfl
  rfl
  refine so_of ?_
  refine se_const ?_
  rfl
  refine so_of ?_
  refine se_const ?_
  rfl
  refine se_const ?_
  rfl
  refine ss_cons ?_ ?_
  refine s1_set (i := 2) ?_ ?_ ?_ ?_ ?_ ?_
  exact sc_l_draw.nd
  rfl
  (first | exact Or.inl rfl | exact Or.inr rfl)
  rfl
  (first | exact Or.inr rfl | exact Or.inl rfl)
  refine se_op (s_bin .Mod) ?_ ?_
  refine so_of ?_
  refine se_op (s_bin .Pow) ?_ ?_
  refine so_of ?_
  refine SF.se ?_
  refine sf_op f_add ?_ ?_
  refine so_of ?_
  refine se_idx ?_ ?_ ?_
  exact (fun _ _ => (by rfl))
  refine so_borO (i := 0) ?_ ?_ ?_ ?_
  rfl
  (first | exact Or.inl rfl | exact Or.inr (Or.inl rfl) | exact Or.inr (Or.inr rfl))
  rfl
  rfl
  refine so_of ?_
  refine se_const ?_
  rfl
  refine so_of ?_
  refine SF.se ?_
  refine sf_op f_mul ?_ ?_
  refine so_of ?_
  refine se_const ?_
  rfl
  refine so_of ?_
  refine se_idx ?_ ?_ ?_
  exact (fun _ _ => (by rfl))
  refine so_borO (i := 0) ?_ ?_ ?_ ?_
  rfl
  (first | exact Or.inl rfl | exact Or.inr (Or.inl rfl) | exact Or.inr (Or.inr rfl))
  rfl
  rfl
  refine so_of ?_
  refine se_const ?_
  rfl
  refine so_of ?_
  refine se_const ?_
  rfl
  refine so_of ?_
  refine se_const ?_
  rfl
  refine ss_cons ?_ ?_
  refine s1_set (i := 2) ?_ ?_ ?_ ?_ ?_ ?_
  exact sc_l_draw.nd
  rfl
  (first | exact Or.inl rfl | exact Or.inr rfl)
  rfl
  (first | exact Or.inr rfl | exact Or.inl rfl)
  refine se_op (s_bin .Mod) ?_ ?_
  refine so_of ?_
  refine se_op (s_bin .Pow) ?_ ?_
  refine so_of ?_
  refine SF.se ?_
  refine sf_op f_add ?_ ?_
  refine so_borO (i := 2) ?_ ?_ ?_ ?_
  rfl
  (first | exact Or.inl rfl | exact Or.inr (Or.inl rfl) | exact Or.inr (Or.inr rfl))
  rfl
  rfl
  refine so_of ?_
  refine SF.se ?_
  refine sf_op f_mul ?_ ?_
  refine so_of ?_
  refine se_const ?_
  rfl
  refine so_of ?_
  refine se_idx ?_ ?_ ?_
  exact (fun _ _ => (by rfl))
  refine so_borO (i := 0) ?_ ?_ ?_ ?_
  rfl
  (first | exact Or.inl rfl | exact Or.inr (Or.inl rfl) | exact Or.inr (Or.inr rfl))
  rfl
  rfl
  refine so_of ?_
  refine se_const ?_
  rfl
  refine so_of ?_
  refine se_const ?_
  rfl
  refine so_of ?_
  refine se_const ?_
  rfl
  refine ss_one ?_
  refine s1_ret ?_
  refine se_op (s_bin .Mod) ?_ ?_
  refine so_of ?_
  refine se_op (s_bin .FloorDiv) ?_ ?_
  refine so_borO (i := 2) ?_ ?_ ?_ ?_
  rfl
  (first | exact Or.inl rfl | exact Or.inr (Or.inl rfl) | exact Or.inr (Or.inr rfl))
  rfl
  rfl
  refine so_of ?_
  refine se_const ?_
  rfl
  refine so_borO (i := 1) ?_ ?_ ?_ ?_
  rfl
  (first | exact Or.inl rfl | exact Or.inr (Or.inl rfl) | exact Or.inr (Or.inr rfl))
  rfl
  rfl
theorem c_l_draw (W : Wd K mg) {f : Addr} {fd : FuncData} (F : FunD K "_law_draw" "_law_draw" (defArgs s_l_draw) (defBody s_l_draw) (defScope s_l_draw) [] [] f fd) (hm : mg "_law_draw" = some (.ref f)) : CalD P w K mg base 1 "_law_draw" 2 l_draw_den := calD (ps := ["_law_source_here", "_law_count"]) F (o_l_draw W F) hm fnDen_len (fun _ _ _ _ _ _ us hl => match us, hl with | [_, _], _ => rfl)
def l_same_b (rec : List Rp.Arg → Res) : Rp.Env → Res := (dSeq (dIf (truB (asV (isiD ["list", "tuple"] (borO 1)))) (dSeq (dIf (orB (bB (bin2 (cmpD .NotEq) (asV (isiD ["list"] (borO 0))) (asV (isiD ["list"] (borO 1))))) (notB (truB (asV (isiD ["list", "tuple"] (borO 0)))))) (dRet (pureD (.bl false))) dNil) (dSeq (dIf (bB (bin2 (cmpD .NotEq) (asV (callD lenD (consA (borO 0) nilA))) (asV (callD lenD (consA (borO 1) nilA))))) (dRet (pureD (.bl false))) dNil) (dRetF (callD allD (consA (asV (lcD [2] (rng1I (consA (asV (callD lenD (consA (borO 1) nilA))) nilA)) (setN 2) (fun env => .ok true env) (callU true rec (consA (asV (bin2 D.idx (borO 0) (borO 2))) (consA (asV (bin2 D.idx (borO 1) (borO 2))) nilA))))) nilA))))) dNil) (dSeq (dIf (orB (truB (asV (isiD ["bool"] (borO 1)))) (truB (asV (isiD ["bool"] (borO 0))))) (dRet (andV (isiD ["bool"] (borO 1)) (andV (isiD ["bool"] (borO 0)) (bin2 (cmpD .Eq) (borO 0) (borO 1))))) dNil) (dRet (bin2 (cmpD .Eq) (borO 0) (borO 1)))))
def l_same_den : Nat → List Rp.Arg → Res
  | 0 => fun _ => .bad
  | n + 1 => fnDen 3 2 (l_same_b (l_same_den n))
theorem c_l_same (W : Wd K mg) {f : Addr} {fd : FuncData} (F : FunD K "_law_same" "_law_same" (defArgs s_l_same) (defBody s_l_same) (defScope s_l_same) [] [] f fd) (hm : mg "_law_same" = some (.ref f)) : ∀ k, CalD P w K mg base k "_law_same" 2 (l_same_den k)
  | 0 => calD (ps := ["_law_found", "_law_expected"]) F fnOk_bad hm (fun _ _ => rfl) (fun _ _ _ _ _ _ us hl => match us, hl with | [_, _], _ => rfl)
  | k + 1 => by
    have c_l_same := c_l_same W F hm  k
    refine calD (ps := ["_law_found", "_law_expected"]) F (funD_ok (N := ["_law_found", "_law_expected", "_law_k"]) (ps := ["_law_found", "_law_expected"]) (k := k) (den := l_same_b (l_same_den k)) F sc_l_same (fun cdv A outer s H E hr => ?_)) hm fnDen_len (fun _ _ _ _ _ _ us hl => match us, hl with | [_, _], _ => rfl)
    refine ss_cons ?_ ?_
    refine s1_if ?_ ?_ ss_nil
    refine st_val ?_ ?_
    refine so_of ?_
    refine se_isiT (Ts := ["list", "tuple"]) ?_ W.n_isinstance bt_isinstance ?_ ?_ ?_ (TyNames.cons ⟨(by rfl), W.n_list, bt_list, by decide, (by rfl)⟩ (TyNames.cons ⟨(by rfl), W.n_tuple, bt_tuple, by decide, (by rfl)⟩ TyNames.nil)) ?_ ?_
    rfl
    decide
    rfl
    rfl
    decide
    refine so_borO (i := 1) ?_ ?_ ?_ ?_
    rfl
    (first | exact Or.inl rfl | exact Or.inr (Or.inl rfl) | exact Or.inr (Or.inr rfl))
    rfl
    rfl
    exact (fun _ => (by rfl))
    refine ss_cons ?_ ?_
    refine s1_if ?_ ?_ ss_nil
    refine st_or ?_ ?_
    refine st_cmp (op := .NotEq) (hu65 hr) ?_ ?_ ?_
    refine so_of ?_
    refine se_isi (T := "list") ?_ W.n_isinstance bt_isinstance ?_ ?_ ?_ ⟨(by rfl), W.n_list, bt_list, by decide, (by rfl)⟩ ?_
    rfl
    decide
    rfl
    rfl
    refine so_borO (i := 0) ?_ ?_ ?_ ?_
    rfl
    (first | exact Or.inl rfl | exact Or.inr (Or.inl rfl) | exact Or.inr (Or.inr rfl))
    rfl
    rfl
    refine so_of ?_
    refine se_isi (T := "list") ?_ W.n_isinstance bt_isinstance ?_ ?_ ?_ ⟨(by rfl), W.n_list, bt_list, by decide, (by rfl)⟩ ?_
    rfl
    decide
    rfl
    rfl
    refine so_borO (i := 1) ?_ ?_ ?_ ?_
    rfl
    (first | exact Or.inl rfl | exact Or.inr (Or.inl rfl) | exact Or.inr (Or.inr rfl))
    rfl
    rfl
    rfl
    refine st_one ?_
    refine st_not ?_
    refine st_val ?_ ?_
    refine so_of ?_
    refine se_isiT (Ts := ["list", "tuple"]) ?_ W.n_isinstance bt_isinstance ?_ ?_ ?_ (TyNames.cons ⟨(by rfl), W.n_list, bt_list, by decide, (by rfl)⟩ (TyNames.cons ⟨(by rfl), W.n_tuple, bt_tuple, by decide, (by rfl)⟩ TyNames.nil)) ?_ ?_
    rfl
    decide
    rfl
    rfl
    decide
    refine so_borO (i := 0) ?_ ?_ ?_ ?_
    rfl
    (first | exact Or.inl rfl | exact Or.inr (Or.inl rfl) | exact Or.inr (Or.inr rfl))
    rfl
    rfl
    exact (fun _ => (by rfl))
    refine ss_one ?_
    refine s1_ret ?_
    refine se_const ?_
    rfl
    refine ss_cons ?_ ?_
    refine s1_if ?_ ?_ ss_nil
    refine st_cmp (op := .NotEq) (hu65 hr) ?_ ?_ ?_
    refine so_of ?_
    refine SF.se ?_
    refine sf_callB c_len ?_ W.n_len bt_len ?_ ?_ ?_ ?_
    rfl
    decide
    rfl
    rfl
    refine sa_cons ?_ ?_ sa_nil
    rfl
    refine so_borO (i := 0) ?_ ?_ ?_ ?_
    rfl
    (first | exact Or.inl rfl | exact Or.inr (Or.inl rfl) | exact Or.inr (Or.inr rfl))
    rfl
    rfl
    refine so_of ?_
    refine SF.se ?_
    refine sf_callB c_len ?_ W.n_len bt_len ?_ ?_ ?_ ?_
    rfl
    decide
    rfl
    rfl
    refine sa_cons ?_ ?_ sa_nil
    rfl
    refine so_borO (i := 1) ?_ ?_ ?_ ?_
    rfl
    (first | exact Or.inl rfl | exact Or.inr (Or.inl rfl) | exact Or.inr (Or.inr rfl))
    rfl
    rfl
    rfl
    refine ss_one ?_
    refine s1_ret ?_
    refine se_const ?_
    rfl
    refine ss_one ?_
    refine s1_retF ?_
    refine sf_callB (c_all (by rfl)) ?_ W.n_all bt_all ?_ ?_ ?_ ?_
    rfl
    decide
    rfl
    rfl
    refine sa_cons ?_ ?_ sa_nil
    rfl
    refine so_of ?_
    refine SF.se ?_
    refine sf_lc (own := [("_law_k", 2)]) (is := [2]) ?_ ?_ ?_ ?_ ?_ ?_ ?_ ?_ ?_
    rfl
    exact sc_l_same.nd
    exact (blkOk_by (by rfl))
    decide
    exact (fun _ => (by rfl))
    refine si_rng1 ?_ W.n_range ?_ ?_
    rfl
    rfl
    refine sa_cons ?_ ?_ sa_nil
    rfl
    refine so_of ?_
    refine SF.se ?_
    refine sf_callB c_len ?_ W.n_len bt_len ?_ ?_ ?_ ?_
    rfl
    decide
    rfl
    rfl
    refine sa_cons ?_ ?_ sa_nil
    rfl
    refine so_borO (i := 1) ?_ ?_ ?_ ?_
    rfl
    (first | exact Or.inl rfl | exact Or.inr (Or.inl rfl) | exact Or.inr (Or.inr rfl))
    rfl
    rfl
    intro _ _ _ _ _
    refine sg_name (i := 2) ?_ ?_ ?_ ?_
    exact sc_l_same.nd
    rfl
    (first | exact Or.inl rfl | exact Or.inr rfl)
    (first | exact Or.inr rfl | exact Or.inl rfl)
    intro _ _ _ _ _
    refine st_yes ?_
    rfl
    intro _ _ _ _ _
    refine SF.se ?_
    refine sf_callU c_l_same hr ?_ ?_ ?_ ?_ ?_
    exact (Nat.le_refl _)
    rfl
    rfl
    rfl
    refine sa_cons ?_ ?_ ?_
    rfl
    refine so_of ?_
    refine se_idx ?_ ?_ ?_
    exact (fun _ _ => (by rfl))
    refine so_borO (i := 0) ?_ ?_ ?_ ?_
    rfl
    (first | exact Or.inl rfl | exact Or.inr (Or.inl rfl) | exact Or.inr (Or.inr rfl))
    rfl
    rfl
    refine so_borO (i := 2) ?_ ?_ ?_ ?_
    rfl
    (first | exact Or.inl rfl | exact Or.inr (Or.inl rfl) | exact Or.inr (Or.inr rfl))
    rfl
    rfl
    refine sa_cons ?_ ?_ sa_nil
    rfl
    refine so_of ?_
    refine se_idx ?_ ?_ ?_
    exact (fun _ _ => (by rfl))
    refine so_borO (i := 1) ?_ ?_ ?_ ?_
    rfl
    (first | exact Or.inl rfl | exact Or.inr (Or.inl rfl) | exact Or.inr (Or.inr rfl))
    rfl
    rfl
    refine so_borO (i := 2) ?_ ?_ ?_ ?_
    rfl
    (first | exact Or.inl rfl | exact Or.inr (Or.inl rfl) | exact Or.inr (Or.inr rfl))
    rfl
    rfl
    refine ss_cons ?_ ?_
    refine s1_if ?_ ?_ ss_nil
    refine st_or ?_ ?_
    refine st_val ?_ ?_
    refine so_of ?_
    refine se_isi (T := "bool") ?_ W.n_isinstance bt_isinstance ?_ ?_ ?_ ⟨(by rfl), W.n_bool, bt_bool, by decide, (by rfl)⟩ ?_
    rfl
    decide
    rfl
    rfl
    refine so_borO (i := 1) ?_ ?_ ?_ ?_
    rfl
    (first | exact Or.inl rfl | exact Or.inr (Or.inl rfl) | exact Or.inr (Or.inr rfl))
    rfl
    rfl
    exact (fun _ => (by rfl))
    refine st_one ?_
    refine st_val ?_ ?_
    refine so_of ?_
    refine se_isi (T := "bool") ?_ W.n_isinstance bt_isinstance ?_ ?_ ?_ ⟨(by rfl), W.n_bool, bt_bool, by decide, (by rfl)⟩ ?_
    rfl
    decide
    rfl
    rfl
    refine so_borO (i := 0) ?_ ?_ ?_ ?_
    rfl
    (first | exact Or.inl rfl | exact Or.inr (Or.inl rfl) | exact Or.inr (Or.inr rfl))
    rfl
    rfl
    exact (fun _ => (by rfl))
    refine ss_one ?_
    refine s1_ret ?_
    refine se_and ?_ ?_
    refine se_isi (T := "bool") ?_ W.n_isinstance bt_isinstance ?_ ?_ ?_ ⟨(by rfl), W.n_bool, bt_bool, by decide, (by rfl)⟩ ?_
    rfl
    decide
    rfl
    rfl
    refine so_borO (i := 1) ?_ ?_ ?_ ?_
    rfl
    (first | exact Or.inl rfl | exact Or.inr (Or.inl rfl) | exact Or.inr (Or.inr rfl))
    rfl
    rfl
    refine se_and ?_ ?_
    refine se_isi (T := "bool") ?_ W.n_isinstance bt_isinstance ?_ ?_ ?_ ⟨(by rfl), W.n_bool, bt_bool, by decide, (by rfl)⟩ ?_
    rfl
    decide
    rfl
    rfl
    refine so_borO (i := 0) ?_ ?_ ?_ ?_
    rfl
    (first | exact Or.inl rfl | exact Or.inr (Or.inl rfl) | exact Or.inr (Or.inr rfl))
    rfl
    rfl
    refine se_one ?_
    refine se_cmp (op := .Eq) (hu65 hr) ?_ ?_ ?_
    refine so_borO (i := 0) ?_ ?_ ?_ ?_
    rfl
    (first | exact Or.inl rfl | exact Or.inr (Or.inl rfl) | exact Or.inr (Or.inr rfl))
    rfl
    rfl
    refine so_borO (i := 1) ?_ ?_ ?_ ?_
    rfl
    (first | exact Or.inl rfl | exact Or.inr (Or.inl rfl) | exact Or.inr (Or.inr rfl))
    rfl
    rfl
    rfl
    refine ss_one ?_
    refine s1_ret ?_
    refine se_cmp (op := .Eq) (hu65 hr) ?_ ?_ ?_
    refine so_borO (i := 0) ?_ ?_ ?_ ?_
    rfl
    (first | exact Or.inl rfl | exact Or.inr (Or.inl rfl) | exact Or.inr (Or.inr rfl))
    rfl
    rfl
    refine so_borO (i := 1) ?_ ?_ ?_ ?_
    rfl
    (first | exact Or.inl rfl | exact Or.inr (Or.inl rfl) | exact Or.inr (Or.inr rfl))
    rfl
    rfl
    rfl
def l_written_b : Rp.Env → Res := (dSeq (dSetF 1 (dispD .lst nilA)) (dSeq (dFor (borI 0) (gTupD 4 (gConsD (setN 2) (gConsD (setN 3) (gConsD (setN 4) (gConsD (setN 5) gNilD))))) (dApp 1 (bin2 (binD .Add) (asV (bin2 (binD .Add) (asV (bin2 (binD .Add) (asV (bin2 (binD .Add) (asV (bin2 (binD .Add) (asV (bin2 (binD .Add) (asV (callD strD (consA (borO 2) nilA))) (asV (pureD (.str ":"))))) (asV (callD strD (consA (borO 3) nilA))))) (asV (pureD (.str ":"))))) (asV (callD strD (consA (borO 4) nilA))))) (asV (pureD (.str "-"))))) (asV (callD strD (consA (borO 5) nilA)))))) (dRetF (strM joinD (asV (pureD (.str " "))) (borO 1)))))
def l_written_den : List Rp.Arg → Res := fnDen 6 1 l_written_b
theorem o_l_written (W : Wd K mg) {f : Addr} {fd : FuncData} (F : FunD K "_law_written" "_law_written" (defArgs s_l_written) (defBody s_l_written) (defScope s_l_written) [] [] f fd) : FnOk P w K mg base (L2.CX P w) 1 f fd ["_law_tour"] (spD K mg 1 l_written_den) := by
  refine funD_ok (N := ["_law_tour", "_law_words", "_law_trip", "_law_day", "_law_at", "_law_to"]) (ps := ["_law_tour"]) (k := 0) (den := l_written_b) F sc_l_written (fun cdv A outer s H E hr => ?_)
  refine ss_cons ?_ ?_
  refine s1_setF (i := 1) ?_ ?_ ?_ ?_ ?_ ?_
  exact sc_l_written.nd
  rfl
  (first | exact Or.inl rfl | exact Or.inr rfl)
  rfl
  (first | exact Or.inr rfl | exact Or.inl rfl)
  exact sf_lst sa_nil
  refine ss_cons ?_ ?_
  refine s1_for (is := [2, 3, 4, 5]) ?_ ?_ ?_ ?_ ?_ ?_
  exact (passes_of (by rfl))
  rfl
  exact (fun _ => (by rfl))
  refine si_bor (i := 0) ?_ ?_ ?_ ?_
  rfl
  (first | exact Or.inl rfl | exact Or.inr (Or.inl rfl) | exact Or.inr (Or.inr rfl))
  rfl
  rfl
  refine sg_tup ?_ ?_ ?_
  rfl
  rfl
  refine sgs_cons (i1 := [2]) (i2 := [3, 4, 5]) ?_ ?_ ?_
  rfl
  refine sg_name (i := 2) ?_ ?_ ?_ ?_
  exact sc_l_written.nd
  rfl
  (first | exact Or.inl rfl | exact Or.inr rfl)
  (first | exact Or.inr rfl | exact Or.inl rfl)
  refine sgs_cons (i1 := [3]) (i2 := [4, 5]) ?_ ?_ ?_
  rfl
  refine sg_name (i := 3) ?_ ?_ ?_ ?_
  exact sc_l_written.nd
  rfl
  (first | exact Or.inl rfl | exact Or.inr rfl)
  (first | exact Or.inr rfl | exact Or.inl rfl)
  refine sgs_cons (i1 := [4]) (i2 := [5]) ?_ ?_ ?_
  rfl
  refine sg_name (i := 4) ?_ ?_ ?_ ?_
  exact sc_l_written.nd
  rfl
  (first | exact Or.inl rfl | exact Or.inr rfl)
  (first | exact Or.inr rfl | exact Or.inl rfl)
  refine sgs_cons (i1 := [5]) (i2 := []) ?_ ?_ sgs_nil
  rfl
  refine sg_name (i := 5) ?_ ?_ ?_ ?_
  exact sc_l_written.nd
  rfl
  (first | exact Or.inl rfl | exact Or.inr rfl)
  (first | exact Or.inr rfl | exact Or.inl rfl)
  refine ss_one ?_
  refine s1_app (i := 1) ?_ ?_ ?_ ?_ ?_ ?_ ?_ ?_ ?_ ?_
  rfl
  (first | exact Or.inl rfl | exact Or.inr (Or.inl rfl) | exact Or.inr (Or.inr rfl))
  rfl
  rfl
  rfl
  rfl
  rfl
  rfl
  rfl
  refine SF.se ?_
  refine sf_op f_add ?_ ?_
  refine so_of ?_
  refine SF.se ?_
  refine sf_op f_add ?_ ?_
  refine so_of ?_
  refine SF.se ?_
  refine sf_op f_add ?_ ?_
  refine so_of ?_
  refine SF.se ?_
  refine sf_op f_add ?_ ?_
  refine so_of ?_
  refine SF.se ?_
  refine sf_op f_add ?_ ?_
  refine so_of ?_
  refine SF.se ?_
  refine sf_op f_add ?_ ?_
  refine so_of ?_
  refine SF.se ?_
  refine sf_callTy c_str ?_ W.n_str bt_str ?_ ?_ ?_ ?_
  rfl
  decide
  rfl
  rfl
  refine sa_cons ?_ ?_ sa_nil
  rfl
  refine so_borO (i := 2) ?_ ?_ ?_ ?_
  rfl
  (first | exact Or.inl rfl | exact Or.inr (Or.inl rfl) | exact Or.inr (Or.inr rfl))
  rfl
  rfl
  refine so_of ?_
  refine se_const ?_
  rfl
  refine so_of ?_
  refine SF.se ?_
  refine sf_callTy c_str ?_ W.n_str bt_str ?_ ?_ ?_ ?_
  rfl
  decide
  rfl
  rfl
  refine sa_cons ?_ ?_ sa_nil
  rfl
  refine so_borO (i := 3) ?_ ?_ ?_ ?_
  rfl
  (first | exact Or.inl rfl | exact Or.inr (Or.inl rfl) | exact Or.inr (Or.inr rfl))
  rfl
  rfl
  refine so_of ?_
  refine se_const ?_
  rfl
  refine so_of ?_
  refine SF.se ?_
  refine sf_callTy c_str ?_ W.n_str bt_str ?_ ?_ ?_ ?_
  rfl
  decide
  rfl
  rfl
  refine sa_cons ?_ ?_ sa_nil
  rfl
  refine so_borO (i := 4) ?_ ?_ ?_ ?_
  rfl
  (first | exact Or.inl rfl | exact Or.inr (Or.inl rfl) | exact Or.inr (Or.inr rfl))
  rfl
  rfl
  refine so_of ?_
  refine se_const ?_
  rfl
  refine so_of ?_
  refine SF.se ?_
  refine sf_callTy c_str ?_ W.n_str bt_str ?_ ?_ ?_ ?_
  rfl
  decide
  rfl
  rfl
  refine sa_cons ?_ ?_ sa_nil
  rfl
  refine so_borO (i := 5) ?_ ?_ ?_ ?_
  rfl
  (first | exact Or.inl rfl | exact Or.inr (Or.inl rfl) | exact Or.inr (Or.inr rfl))
  rfl
  rfl
  refine ss_one ?_
  refine s1_retF ?_
  refine sf_m1 PySem.F.slot_str_join PySem.F.type_str_join m_join ?_ ?_ ?_ ?_ ?_
  rfl
  rfl
  rfl
  refine so_of ?_
  refine se_const ?_
  rfl
  refine so_borO (i := 1) ?_ ?_ ?_ ?_
  rfl
  (first | exact Or.inl rfl | exact Or.inr (Or.inl rfl) | exact Or.inr (Or.inr rfl))
  rfl
  rfl
theorem c_l_written (W : Wd K mg) {f : Addr} {fd : FuncData} (F : FunD K "_law_written" "_law_written" (defArgs s_l_written) (defBody s_l_written) (defScope s_l_written) [] [] f fd) (hm : mg "_law_written" = some (.ref f)) : CalD P w K mg base 1 "_law_written" 1 l_written_den := calD (ps := ["_law_tour"]) F (o_l_written W F) hm fnDen_len (fun _ _ _ _ _ _ us hl => match us, hl with | [_], _ => rfl)
def l_number_b : Rp.Env → Res := (dSeq (dIf (orB (bB (bin2 (cmpD .Eq) (borO 0) (asV (pureD (.str ""))))) (orB (bB (bin2 (cmpD .NotEq) (asV (strM stripD (borO 0) (asV (pureD (.str "0123456789"))))) (asV (pureD (.str ""))))) (andB (bB (bin2 (cmpD .Gt) (asV (callD lenD (consA (borO 0) nilA))) (asV (pureD (.int 1))))) (bB (bin2 (cmpD .Eq) (asV (bin2 D.idx (borO 0) (asV (pureD (.int 0))))) (asV (pureD (.str "0")))))))) (dRet (pureD .non)) dNil) (dRetF (callD intD (consA (borO 0) nilA))))
def l_number_den : List Rp.Arg → Res := fnDen 1 1 l_number_b
theorem o_l_number (W : Wd K mg) {f : Addr} {fd : FuncData} (F : FunD K "_law_number" "_law_number" (defArgs s_l_number) (defBody s_l_number) (defScope s_l_number) [] [] f fd) : FnOk P w K mg base (L2.CX P w) 1 f fd ["_law_word"] (spD K mg 1 l_number_den) := by
  refine funD_ok (N := ["_law_word"]) (ps := ["_law_word"]) (k := 0) (den := l_number_b) F sc_l_number (fun cdv A outer s H E hr => ?_)
  refine ss_cons ?_ ?_
  refine s1_if ?_ ?_ ss_nil
  refine st_or ?_ ?_
  refine st_cmp (op := .Eq) (hu65 hr) ?_ ?_ ?_
  refine so_borO (i := 0) ?_ ?_ ?_ ?_
  rfl
  (first | exact Or.inl rfl | exact Or.inr (Or.inl rfl) | exact Or.inr (Or.inr rfl))
  rfl
  rfl
  refine so_of ?_
  refine se_const ?_
  rfl
  rfl
  refine st_or ?_ ?_
  refine st_cmp (op := .NotEq) (hu65 hr) ?_ ?_ ?_
  refine so_of ?_
  refine SF.se ?_
  refine sf_m1 PySem.F.slot_str_strip PySem.F.type_str_strip m_strip ?_ ?_ ?_ ?_ ?_
  rfl
  rfl
  rfl
  refine so_borO (i := 0) ?_ ?_ ?_ ?_
  rfl
  (first | exact Or.inl rfl | exact Or.inr (Or.inl rfl) | exact Or.inr (Or.inr rfl))
  rfl
  rfl
  refine so_of ?_
  refine se_const ?_
  rfl
  refine so_of ?_
  refine se_const ?_
  rfl
  rfl
  refine st_one ?_
  refine st_and ?_ ?_
  refine st_cmp (op := .Gt) (hu65 hr) ?_ ?_ ?_
  refine so_of ?_
  refine SF.se ?_
  refine sf_callB c_len ?_ W.n_len bt_len ?_ ?_ ?_ ?_
  rfl
  decide
  rfl
  rfl
  refine sa_cons ?_ ?_ sa_nil
  rfl
  refine so_borO (i := 0) ?_ ?_ ?_ ?_
  rfl
  (first | exact Or.inl rfl | exact Or.inr (Or.inl rfl) | exact Or.inr (Or.inr rfl))
  rfl
  rfl
  refine so_of ?_
  refine se_const ?_
  rfl
  rfl
  refine st_one ?_
  refine st_cmp (op := .Eq) (hu65 hr) ?_ ?_ ?_
  refine so_of ?_
  refine se_idx ?_ ?_ ?_
  exact (fun _ _ => (by rfl))
  refine so_borO (i := 0) ?_ ?_ ?_ ?_
  rfl
  (first | exact Or.inl rfl | exact Or.inr (Or.inl rfl) | exact Or.inr (Or.inr rfl))
  rfl
  rfl
  refine so_of ?_
  refine se_const ?_
  rfl
  refine so_of ?_
  refine se_const ?_
  rfl
  rfl
  refine ss_one ?_
  refine s1_ret ?_
  refine se_const ?_
  rfl
  refine ss_one ?_
  refine s1_retF ?_
  refine sf_callTy c_int ?_ W.n_int bt_int ?_ ?_ ?_ ?_
  rfl
  decide
  rfl
  rfl
  refine sa_cons ?_ ?_ sa_nil
  rfl
  refine so_borO (i := 0) ?_ ?_ ?_ ?_
  rfl
  (first | exact Or.inl rfl | exact Or.inr (Or.inl rfl) | exact Or.inr (Or.inr rfl))
  rfl
  rfl
theorem c_l_number (W : Wd K mg) {f : Addr} {fd : FuncData} (F : FunD K "_law_number" "_law_number" (defArgs s_l_number) (defBody s_l_number) (defScope s_l_number) [] [] f fd) (hm : mg "_law_number" = some (.ref f)) : CalD P w K mg base 1 "_law_number" 1 l_number_den := calD (ps := ["_law_word"]) F (o_l_number W F) hm fnDen_len (fun _ _ _ _ _ _ us hl => match us, hl with | [_], _ => rfl)
def l_read_b : Rp.Env → Res := (dSeq (dIf (notB (truB (asV (isiD ["str"] (borO 0))))) (dRet (pureD .non)) dNil) (dSeq (dSetF 1 (dispD .lst nilA)) (dSeq (dFor (lstI (iteV (bB (bin2 (cmpD .NotEq) (borO 0) (asV (pureD (.str ""))))) (strM splitD (borO 0) (asV (pureD (.str " ")))) (dispD .lst nilA))) (setN 2) (dSeq (dSetF 3 (strM splitD (borO 2) (asV (pureD (.str ":"))))) (dSeq (dIf (orB (bB (bin2 (cmpD .NotEq) (asV (callD lenD (consA (borO 3) nilA))) (asV (pureD (.int 3))))) (bB (bin2 (cmpD .NotEq) (asV (strM countD (asV (bin2 D.idx (borO 3) (asV (pureD (.int 2))))) (asV (pureD (.str "-"))))) (asV (pureD (.int 1)))))) (dRet (pureD .non)) dNil) (dSeq (dAsg (gLstD 2 (gConsD (setN 5) (gConsD (setN 6) gNilD))) (strM splitD (asV (bin2 D.idx (borO 3) (asV (pureD (.int 2))))) (asV (pureD (.str "-"))))) (dSeq (dSetF 4 (lcD [7] (lstI (dispD .lst (consA (asV (bin2 D.idx (borO 3) (asV (pureD (.int 0))))) (consA (asV (bin2 D.idx (borO 3) (asV (pureD (.int 1))))) (consA (asV (rdVar 5)) (consA (asV (rdVar 6)) nilA)))))) (setN 7) (fun env => .ok true env) (callU true l_number_den (consA (asV (rdVar 7)) nilA)))) (dSeq (dIf (bB (bin2 (cmpD .In) (asV (pureD .non)) (borO 4))) (dRet (pureD .non)) dNil) (dApp 1 (callD tupleD (consA (borO 4) nilA))))))))) (dRetO 1))))
def l_read_den : List Rp.Arg → Res := fnDen 8 1 l_read_b
theorem o_l_read (W : Wd K mg) {f : Addr} {fd : FuncData} (F : FunD K "_law_read" "_law_read" (defArgs s_l_read) (defBody s_l_read) (defScope s_l_read) [] [] f fd) (c_l_number : CalD P w K mg base 1 "_law_number" 1 l_number_den) : FnOk P w K mg base (L2.CX P w) 2 f fd ["_law_line"] (spD K mg 1 l_read_den) := by
  refine funD_ok (N := ["_law_line", "_law_found", "_law_word", "_law_parts", "_law_numbers", "_law_at", "_law_to", "_law_one"]) (ps := ["_law_line"]) (k := 1) (den := l_read_b) F sc_l_read (fun cdv A outer s H E hr => ?_)
  refine ss_cons ?_ ?_
  refine s1_if ?_ ?_ ss_nil
  refine st_not ?_
  refine st_val ?_ ?_
  refine so_of ?_
  refine se_isi (T := "str") ?_ W.n_isinstance bt_isinstance ?_ ?_ ?_ ⟨(by rfl), W.n_str, bt_str, by decide, (by rfl)⟩ ?_
  rfl
  decide
  rfl
  rfl
  refine so_borO (i := 0) ?_ ?_ ?_ ?_
  rfl
  (first | exact Or.inl rfl | exact Or.inr (Or.inl rfl) | exact Or.inr (Or.inr rfl))
  rfl
  rfl
  exact (fun _ => (by rfl))
  refine ss_one ?_
  refine s1_ret ?_
  refine se_const ?_
  rfl
  refine ss_cons ?_ ?_
  refine s1_setF (i := 1) ?_ ?_ ?_ ?_ ?_ ?_
  exact sc_l_read.nd
  rfl
  (first | exact Or.inl rfl | exact Or.inr rfl)
  rfl
  (first | exact Or.inr rfl | exact Or.inl rfl)
  exact sf_lst sa_nil
  refine ss_cons ?_ ?_
  refine s1_for (is := [2]) ?_ ?_ ?_ ?_ ?_ ?_
  exact (passes_of (by rfl))
  rfl
  exact (fun _ => (by rfl))
  refine si_lst ?_
  refine SF.se ?_
  refine sf_ite ?_ ?_ ?_
  refine st_cmp (op := .NotEq) (hu65 hr) ?_ ?_ ?_
  refine so_borO (i := 0) ?_ ?_ ?_ ?_
  rfl
  (first | exact Or.inl rfl | exact Or.inr (Or.inl rfl) | exact Or.inr (Or.inr rfl))
  rfl
  rfl
  refine so_of ?_
  refine se_const ?_
  rfl
  rfl
  refine sf_m1 PySem.F.slot_str_split PySem.F.type_str_split m_split ?_ ?_ ?_ ?_ ?_
  rfl
  rfl
  rfl
  refine so_borO (i := 0) ?_ ?_ ?_ ?_
  rfl
  (first | exact Or.inl rfl | exact Or.inr (Or.inl rfl) | exact Or.inr (Or.inr rfl))
  rfl
  rfl
  refine so_of ?_
  refine se_const ?_
  rfl
  exact sf_lst sa_nil
  refine sg_name (i := 2) ?_ ?_ ?_ ?_
  exact sc_l_read.nd
  rfl
  (first | exact Or.inl rfl | exact Or.inr rfl)
  (first | exact Or.inr rfl | exact Or.inl rfl)
  refine ss_cons ?_ ?_
  refine s1_setF (i := 3) ?_ ?_ ?_ ?_ ?_ ?_
  exact sc_l_read.nd
  rfl
  (first | exact Or.inl rfl | exact Or.inr rfl)
  rfl
  (first | exact Or.inr rfl | exact Or.inl rfl)
  refine sf_m1 PySem.F.slot_str_split PySem.F.type_str_split m_split ?_ ?_ ?_ ?_ ?_
  rfl
  rfl
  rfl
  refine so_borO (i := 2) ?_ ?_ ?_ ?_
  rfl
  (first | exact Or.inl rfl | exact Or.inr (Or.inl rfl) | exact Or.inr (Or.inr rfl))
  rfl
  rfl
  refine so_of ?_
  refine se_const ?_
  rfl
  refine ss_cons ?_ ?_
  refine s1_if ?_ ?_ ss_nil
  refine st_or ?_ ?_
  refine st_cmp (op := .NotEq) (hu65 hr) ?_ ?_ ?_
  refine so_of ?_
  refine SF.se ?_
  refine sf_callB c_len ?_ W.n_len bt_len ?_ ?_ ?_ ?_
  rfl
  decide
  rfl
  rfl
  refine sa_cons ?_ ?_ sa_nil
  rfl
  refine so_borO (i := 3) ?_ ?_ ?_ ?_
  rfl
  (first | exact Or.inl rfl | exact Or.inr (Or.inl rfl) | exact Or.inr (Or.inr rfl))
  rfl
  rfl
  refine so_of ?_
  refine se_const ?_
  rfl
  rfl
  refine st_one ?_
  refine st_cmp (op := .NotEq) (hu65 hr) ?_ ?_ ?_
  refine so_of ?_
  refine SF.se ?_
  refine sf_m1 PySem.F.slot_str_count PySem.F.type_str_count m_count ?_ ?_ ?_ ?_ ?_
  rfl
  rfl
  rfl
  refine so_of ?_
  refine se_idx ?_ ?_ ?_
  exact (fun _ _ => (by rfl))
  refine so_borO (i := 3) ?_ ?_ ?_ ?_
  rfl
  (first | exact Or.inl rfl | exact Or.inr (Or.inl rfl) | exact Or.inr (Or.inr rfl))
  rfl
  rfl
  refine so_of ?_
  refine se_const ?_
  rfl
  refine so_of ?_
  refine se_const ?_
  rfl
  refine so_of ?_
  refine se_const ?_
  rfl
  rfl
  refine ss_one ?_
  refine s1_ret ?_
  refine se_const ?_
  rfl
  refine ss_cons ?_ ?_
  refine s1_asg (is := [5, 6]) ?_ ?_ ?_ ?_ ?_
  rfl
  rfl
  rfl
  refine SF.se ?_
  refine sf_m1 PySem.F.slot_str_split PySem.F.type_str_split m_split ?_ ?_ ?_ ?_ ?_
  rfl
  rfl
  rfl
  refine so_of ?_
  refine se_idx ?_ ?_ ?_
  exact (fun _ _ => (by rfl))
  refine so_borO (i := 3) ?_ ?_ ?_ ?_
  rfl
  (first | exact Or.inl rfl | exact Or.inr (Or.inl rfl) | exact Or.inr (Or.inr rfl))
  rfl
  rfl
  refine so_of ?_
  refine se_const ?_
  rfl
  refine so_of ?_
  refine se_const ?_
  rfl
  refine sg_lst ?_ ?_ ?_
  rfl
  rfl
  refine sgs_cons (i1 := [5]) (i2 := [6]) ?_ ?_ ?_
  rfl
  refine sg_name (i := 5) ?_ ?_ ?_ ?_
  exact sc_l_read.nd
  rfl
  (first | exact Or.inl rfl | exact Or.inr rfl)
  (first | exact Or.inr rfl | exact Or.inl rfl)
  refine sgs_cons (i1 := [6]) (i2 := []) ?_ ?_ sgs_nil
  rfl
  refine sg_name (i := 6) ?_ ?_ ?_ ?_
  exact sc_l_read.nd
  rfl
  (first | exact Or.inl rfl | exact Or.inr rfl)
  (first | exact Or.inr rfl | exact Or.inl rfl)
  refine ss_cons ?_ ?_
  refine s1_setLc (i := 4) (own := [("_law_one", 7)]) (is := [7]) ?_ ?_ ?_ ?_ ?_ ?_ ?_ ?_ ?_ ?_ ?_ ?_
  rfl
  exact sc_l_read.nd
  exact (blkOk_by (by rfl))
  decide
  exact (fun _ => (by rfl))
  rfl
  rfl
  exact (sw_true (by rfl) (by rfl) (by rfl) (by rfl))
  refine si_lst ?_
  refine SF.se ?_
  refine sf_lst ?_
  refine sa_cons ?_ ?_ ?_
  rfl
  refine so_of ?_
  refine se_idx ?_ ?_ ?_
  exact (fun _ _ => (by rfl))
  refine so_borO (i := 3) ?_ ?_ ?_ ?_
  rfl
  (first | exact Or.inl rfl | exact Or.inr (Or.inl rfl) | exact Or.inr (Or.inr rfl))
  rfl
  rfl
  refine so_of ?_
  refine se_const ?_
  rfl
  refine sa_cons ?_ ?_ ?_
  rfl
  refine so_of ?_
  refine se_idx ?_ ?_ ?_
  exact (fun _ _ => (by rfl))
  refine so_borO (i := 3) ?_ ?_ ?_ ?_
  rfl
  (first | exact Or.inl rfl | exact Or.inr (Or.inl rfl) | exact Or.inr (Or.inr rfl))
  rfl
  rfl
  refine so_of ?_
  refine se_const ?_
  rfl
  refine sa_cons ?_ ?_ ?_
  rfl
  refine so_of ?_
  refine se_var (i := 5) ?_ ?_ ?_ ?_
  rfl
  (first | exact Or.inl rfl | exact Or.inr (Or.inl rfl) | exact Or.inr (Or.inr rfl))
  rfl
  rfl
  refine sa_cons ?_ ?_ sa_nil
  rfl
  refine so_of ?_
  refine se_var (i := 6) ?_ ?_ ?_ ?_
  rfl
  (first | exact Or.inl rfl | exact Or.inr (Or.inl rfl) | exact Or.inr (Or.inr rfl))
  rfl
  rfl
  intro _ _ _ _ _
  refine sg_name (i := 7) ?_ ?_ ?_ ?_
  exact sc_l_read.nd
  rfl
  (first | exact Or.inl rfl | exact Or.inr rfl)
  (first | exact Or.inr rfl | exact Or.inl rfl)
  intro _ _ _ _ _
  refine st_yes ?_
  rfl
  intro _ _ _ _ _
  refine SF.se ?_
  refine sf_callU c_l_number hr ?_ ?_ ?_ ?_ ?_
  decide
  rfl
  rfl
  rfl
  refine sa_cons ?_ ?_ sa_nil
  rfl
  refine so_of ?_
  refine se_var (i := 7) ?_ ?_ ?_ ?_
  rfl
  (first | exact Or.inl rfl | exact Or.inr (Or.inl rfl) | exact Or.inr (Or.inr rfl))
  rfl
  rfl
  refine ss_cons ?_ ?_
  refine s1_if ?_ ?_ ss_nil
  refine st_cmp (op := .In) (hu65 hr) ?_ ?_ ?_
  refine so_of ?_
  refine se_const ?_
  rfl
  refine so_borO (i := 4) ?_ ?_ ?_ ?_
  rfl
  (first | exact Or.inl rfl | exact Or.inr (Or.inl rfl) | exact Or.inr (Or.inr rfl))
  rfl
  rfl
  rfl
  refine ss_one ?_
  refine s1_ret ?_
  refine se_const ?_
  rfl
  refine ss_one ?_
  refine s1_app (i := 1) ?_ ?_ ?_ ?_ ?_ ?_ ?_ ?_ ?_ ?_
  rfl
  (first | exact Or.inl rfl | exact Or.inr (Or.inl rfl) | exact Or.inr (Or.inr rfl))
  rfl
  rfl
  rfl
  rfl
  rfl
  rfl
  rfl
  refine SF.se ?_
  refine sf_callTy c_tuple ?_ W.n_tuple bt_tuple ?_ ?_ ?_ ?_
  rfl
  decide
  rfl
  rfl
  refine sa_cons ?_ ?_ sa_nil
  rfl
  refine so_borO (i := 4) ?_ ?_ ?_ ?_
  rfl
  (first | exact Or.inl rfl | exact Or.inr (Or.inl rfl) | exact Or.inr (Or.inr rfl))
  rfl
  rfl
  refine ss_one ?_
  refine s1_retO (i := 1) ?_ ?_ ?_ ?_
  rfl
  (first | exact Or.inl rfl | exact Or.inr (Or.inl rfl) | exact Or.inr (Or.inr rfl))
  rfl
  rfl
theorem c_l_read (W : Wd K mg) {f : Addr} {fd : FuncData} (F : FunD K "_law_read" "_law_read" (defArgs s_l_read) (defBody s_l_read) (defScope s_l_read) [] [] f fd) (hm : mg "_law_read" = some (.ref f)) (c_l_number : CalD P w K mg base 1 "_law_number" 1 l_number_den) : CalD P w K mg base 2 "_law_read" 1 l_read_den := calD (ps := ["_law_line"]) F (o_l_read W F c_l_number) hm fnDen_len (fun _ _ _ _ _ _ us hl => match us, hl with | [_], _ => rfl)
def l_told_b : Rp.Env → Res := (dTryC 2 (dSeq (dIf (bB (bin2 (cmpD .Eq) (borO 1) (asV (pureD (.int 0))))) (dRetF (callU true parse_journey_den (consA (asV (rdVar 0)) nilA))) dNil) (dSeq (dIf (bB (bin2 (cmpD .Eq) (borO 1) (asV (pureD (.int 1))))) (dRetF (callKU true 1 [0] parse_journey_den (consA (asV (rdVar 0)) nilA))) dNil) (dRetF (iteV (bB (bin2 (cmpD .Eq) (borO 1) (asV (pureD (.int 2))))) (callU true format_journey_den (consA (asV (rdVar 0)) nilA)) (callKU true 1 [0] format_journey_den (consA (asV (rdVar 0)) nilA)))))) l_told_h)
def l_told_den : List Rp.Arg → Res := fnDen 3 2 l_told_b
theorem o_l_told (W : Wd K mg) {f : Addr} {fd : FuncData} (F : FunD K "_law_told" "_law_told" (defArgs s_l_told) (defBody s_l_told) (defScope s_l_told) [] [] f fd) (c_parse_journey : CalD P w K mg base 3 "parse_journey" 1 parse_journey_den) (c_format_journey : CalD P w K mg base 3 "format_journey" 1 format_journey_den) (k_parse_journey : CalK P w K mg base 3 "parse_journey" ["text"] [0] 1 parse_journey_den) (k_format_journey : CalK P w K mg base 3 "format_journey" ["journey"] [0] 1 format_journey_den) : FnOk P w K mg base (L2.CX P w) 4 f fd ["_law_thing", "_law_way"] (spD K mg 2 l_told_den) := by
  refine funD_ok (N := ["_law_thing", "_law_way", "caught"]) (ps := ["_law_thing", "_law_way"]) (k := 3) (den := l_told_b) F sc_l_told (fun cdv A outer s H E hr => ?_)
  refine ss_one ?_
  refine s1_tryC (i := 2) ?_ ?_ ?_ ?_ ?_ ⟨(by rfl), (by rfl), Or.inl W.g_RideError⟩ ?_ ?_
  rfl
  rfl
  exact sc_l_told.nd
  rfl
  rfl
  intro pn xe hp
  refine ss_cons ?_ ?_
  refine s1_if ?_ ?_ ss_nil
  refine st_cmp (op := .Eq) (hu65 hr) ?_ ?_ ?_
  refine so_borO (i := 1) ?_ ?_ ?_ ?_
  rfl
  (first | exact Or.inl rfl | exact Or.inr (Or.inl rfl) | exact Or.inr (Or.inr rfl))
  rfl
  rfl
  refine so_of ?_
  refine se_const ?_
  rfl
  rfl
  refine ss_one ?_
  refine s1_retF ?_
  refine sf_callU c_parse_journey hr ?_ ?_ ?_ ?_ ?_
  decide
  rfl
  rfl
  rfl
  refine sa_cons ?_ ?_ sa_nil
  rfl
  refine so_of ?_
  refine se_var (i := 0) ?_ ?_ ?_ ?_
  rfl
  (first | exact Or.inl rfl | exact Or.inr (Or.inl rfl) | exact Or.inr (Or.inr rfl))
  rfl
  rfl
  refine ss_cons ?_ ?_
  refine s1_if ?_ ?_ ss_nil
  refine st_cmp (op := .Eq) (hu65 hr) ?_ ?_ ?_
  refine so_borO (i := 1) ?_ ?_ ?_ ?_
  rfl
  (first | exact Or.inl rfl | exact Or.inr (Or.inl rfl) | exact Or.inr (Or.inr rfl))
  rfl
  rfl
  refine so_of ?_
  refine se_const ?_
  rfl
  rfl
  refine ss_one ?_
  refine s1_retF ?_
  refine sf_callK ?_ k_parse_journey hr ?_ ?_ ?_ ?_ ?_ ?_ ?_
  rfl
  decide
  rfl
  rfl
  rfl
  rfl
  rfl
  refine sk_cons ?_ sk_nil
  refine so_of ?_
  refine se_var (i := 0) ?_ ?_ ?_ ?_
  rfl
  (first | exact Or.inl rfl | exact Or.inr (Or.inl rfl) | exact Or.inr (Or.inr rfl))
  rfl
  rfl
  refine ss_one ?_
  refine s1_retF ?_
  refine sf_ite ?_ ?_ ?_
  refine st_cmp (op := .Eq) (hu65 hr) ?_ ?_ ?_
  refine so_borO (i := 1) ?_ ?_ ?_ ?_
  rfl
  (first | exact Or.inl rfl | exact Or.inr (Or.inl rfl) | exact Or.inr (Or.inr rfl))
  rfl
  rfl
  refine so_of ?_
  refine se_const ?_
  rfl
  rfl
  refine sf_callU c_format_journey hr ?_ ?_ ?_ ?_ ?_
  decide
  rfl
  rfl
  rfl
  refine sa_cons ?_ ?_ sa_nil
  rfl
  refine so_of ?_
  refine se_var (i := 0) ?_ ?_ ?_ ?_
  rfl
  (first | exact Or.inl rfl | exact Or.inr (Or.inl rfl) | exact Or.inr (Or.inr rfl))
  rfl
  rfl
  refine sf_callK ?_ k_format_journey hr ?_ ?_ ?_ ?_ ?_ ?_ ?_
  rfl
  decide
  rfl
  rfl
  rfl
  rfl
  rfl
  refine sk_cons ?_ sk_nil
  refine so_of ?_
  refine se_var (i := 0) ?_ ?_ ?_ ?_
  rfl
  (first | exact Or.inl rfl | exact Or.inr (Or.inl rfl) | exact Or.inr (Or.inr rfl))
  rfl
  rfl
  exact (l_told_hd W)
theorem c_l_told (W : Wd K mg) {f : Addr} {fd : FuncData} (F : FunD K "_law_told" "_law_told" (defArgs s_l_told) (defBody s_l_told) (defScope s_l_told) [] [] f fd) (hm : mg "_law_told" = some (.ref f)) (c_parse_journey : CalD P w K mg base 3 "parse_journey" 1 parse_journey_den) (c_format_journey : CalD P w K mg base 3 "format_journey" 1 format_journey_den) (k_parse_journey : CalK P w K mg base 3 "parse_journey" ["text"] [0] 1 parse_journey_den) (k_format_journey : CalK P w K mg base 3 "format_journey" ["journey"] [0] 1 format_journey_den) : CalD P w K mg base 4 "_law_told" 2 l_told_den := calD (ps := ["_law_thing", "_law_way"]) F (o_l_told W F c_parse_journey c_format_journey k_parse_journey k_format_journey) hm fnDen_len (fun _ _ _ _ _ _ us hl => match us, hl with | [_, _], _ => rfl)
def l_bent_b : Rp.Env → Res := (dSeq (dSetF 2 (callU true l_draw_den (consA (borO 0) (consA (asV (bin2 (binD .Add) (asV (callD lenD (consA (borO 1) nilA))) (asV (pureD (.int 1))))) nilA)))) (dSeq (dSet 3 (bin2 D.idx (asV (pureD (.str " :-0123579+_x.;/"))) (asV (callU true l_draw_den (consA (borO 0) (consA (asV (pureD (.int 16))) nilA)))))) (dSeq (dSetF 4 (callU true l_draw_den (consA (borO 0) (consA (asV (pureD (.int 4))) nilA)))) (dSeq (dIf (bB (bin2 (cmpD .Lt) (borO 4) (asV (pureD (.int 3))))) (dRetF (bin2 (binD .Add) (asV (bin2 (binD .Add) (asV (sliceD (borO 1) gapP (partP (rdVar 2)))) (asV (bin2 D.idx (asV (dispD .lst (consA (asV (rdVar 3)) (consA (asV (rdVar 3)) (consA (asV (pureD (.str ""))) nilA))))) (borO 4))))) (asV (sliceD (borO 1) (partP (bin2 (binD .Add) (borO 2) (asV (bin2 D.idx (asV (dispD .lst (consA (asV (pureD (.int 0))) (consA (asV (pureD (.int 1))) (consA (asV (pureD (.int 1))) nilA))))) (borO 4))))) gapP)))) dNil) (dRetF (bin2 (binD .Add) (asV (sliceD (borO 1) gapP (partP (rdVar 2)))) (asV (sliceD (borO 1) (partP (bin2 (binD .Add) (borO 2) (asV (callU true l_draw_den (consA (borO 0) (consA (asV (pureD (.int 9))) nilA)))))) gapP))))))))
def l_bent_den : List Rp.Arg → Res := fnDen 5 2 l_bent_b
theorem o_l_bent (W : Wd K mg) {f : Addr} {fd : FuncData} (F : FunD K "_law_bent" "_law_bent" (defArgs s_l_bent) (defBody s_l_bent) (defScope s_l_bent) [] [] f fd) (c_l_draw : CalD P w K mg base 1 "_law_draw" 2 l_draw_den) : FnOk P w K mg base (L2.CX P w) 2 f fd ["_law_source_here", "_law_line"] (spD K mg 2 l_bent_den) := by
  refine funD_ok (N := ["_law_source_here", "_law_line", "_law_spot", "_law_sign", "_law_way"]) (ps := ["_law_source_here", "_law_line"]) (k := 1) (den := l_bent_b) F sc_l_bent (fun cdv A outer s H E hr => ?_)
  refine ss_cons ?_ ?_
  refine s1_setF (i := 2) ?_ ?_ ?_ ?_ ?_ ?_
  exact sc_l_bent.nd
  rfl
  (first | exact Or.inl rfl | exact Or.inr rfl)
  rfl
  (first | exact Or.inr rfl | exact Or.inl rfl)
  refine sf_callU c_l_draw hr ?_ ?_ ?_ ?_ ?_
  decide
  rfl
  rfl
  rfl
  refine sa_cons ?_ ?_ ?_
  rfl
  refine so_borO (i := 0) ?_ ?_ ?_ ?_
  rfl
  (first | exact Or.inl rfl | exact Or.inr (Or.inl rfl) | exact Or.inr (Or.inr rfl))
  rfl
  rfl
  refine sa_cons ?_ ?_ sa_nil
  rfl
  refine so_of ?_
  refine SF.se ?_
  refine sf_op f_add ?_ ?_
  refine so_of ?_
  refine SF.se ?_
  refine sf_callB c_len ?_ W.n_len bt_len ?_ ?_ ?_ ?_
  rfl
  decide
  rfl
  rfl
  refine sa_cons ?_ ?_ sa_nil
  rfl
  refine so_borO (i := 1) ?_ ?_ ?_ ?_
  rfl
  (first | exact Or.inl rfl | exact Or.inr (Or.inl rfl) | exact Or.inr (Or.inr rfl))
  rfl
  rfl
  refine so_of ?_
  refine se_const ?_
  rfl
  refine ss_cons ?_ ?_
  refine s1_set (i := 3) ?_ ?_ ?_ ?_ ?_ ?_
  exact sc_l_bent.nd
  rfl
  (first | exact Or.inl rfl | exact Or.inr rfl)
  rfl
  (first | exact Or.inr rfl | exact Or.inl rfl)
  refine se_idx ?_ ?_ ?_
  exact (fun _ _ => (by rfl))
  refine so_of ?_
  refine se_const ?_
  rfl
  refine so_of ?_
  refine SF.se ?_
  refine sf_callU c_l_draw hr ?_ ?_ ?_ ?_ ?_
  decide
  rfl
  rfl
  rfl
  refine sa_cons ?_ ?_ ?_
  rfl
  refine so_borO (i := 0) ?_ ?_ ?_ ?_
  rfl
  (first | exact Or.inl rfl | exact Or.inr (Or.inl rfl) | exact Or.inr (Or.inr rfl))
  rfl
  rfl
  refine sa_cons ?_ ?_ sa_nil
  rfl
  refine so_of ?_
  refine se_const ?_
  rfl
  refine ss_cons ?_ ?_
  refine s1_setF (i := 4) ?_ ?_ ?_ ?_ ?_ ?_
  exact sc_l_bent.nd
  rfl
  (first | exact Or.inl rfl | exact Or.inr rfl)
  rfl
  (first | exact Or.inr rfl | exact Or.inl rfl)
  refine sf_callU c_l_draw hr ?_ ?_ ?_ ?_ ?_
  decide
  rfl
  rfl
  rfl
  refine sa_cons ?_ ?_ ?_
  rfl
  refine so_borO (i := 0) ?_ ?_ ?_ ?_
  rfl
  (first | exact Or.inl rfl | exact Or.inr (Or.inl rfl) | exact Or.inr (Or.inr rfl))
  rfl
  rfl
  refine sa_cons ?_ ?_ sa_nil
  rfl
  refine so_of ?_
  refine se_const ?_
  rfl
  refine ss_cons ?_ ?_
  refine s1_if ?_ ?_ ss_nil
  refine st_cmp (op := .Lt) (hu65 hr) ?_ ?_ ?_
  refine so_borO (i := 4) ?_ ?_ ?_ ?_
  rfl
  (first | exact Or.inl rfl | exact Or.inr (Or.inl rfl) | exact Or.inr (Or.inr rfl))
  rfl
  rfl
  refine so_of ?_
  refine se_const ?_
  rfl
  rfl
  refine ss_one ?_
  refine s1_retF ?_
  refine sf_op f_add ?_ ?_
  refine so_of ?_
  refine SF.se ?_
  refine sf_op f_add ?_ ?_
  refine so_of ?_
  refine SF.se ?_
  refine sf_slice ?_ sp_gap ?_
  refine so_borO (i := 1) ?_ ?_ ?_ ?_
  rfl
  (first | exact Or.inl rfl | exact Or.inr (Or.inl rfl) | exact Or.inr (Or.inr rfl))
  rfl
  rfl
  refine sp_part ?_
  refine se_var (i := 2) ?_ ?_ ?_ ?_
  rfl
  (first | exact Or.inl rfl | exact Or.inr (Or.inl rfl) | exact Or.inr (Or.inr rfl))
  rfl
  rfl
  refine so_of ?_
  refine se_idx ?_ ?_ ?_
  exact (fun _ _ => (by rfl))
  refine so_of ?_
  refine SF.se ?_
  refine sf_lst ?_
  refine sa_cons ?_ ?_ ?_
  rfl
  refine so_of ?_
  refine se_var (i := 3) ?_ ?_ ?_ ?_
  rfl
  (first | exact Or.inl rfl | exact Or.inr (Or.inl rfl) | exact Or.inr (Or.inr rfl))
  rfl
  rfl
  refine sa_cons ?_ ?_ ?_
  rfl
  refine so_of ?_
  refine se_var (i := 3) ?_ ?_ ?_ ?_
  rfl
  (first | exact Or.inl rfl | exact Or.inr (Or.inl rfl) | exact Or.inr (Or.inr rfl))
  rfl
  rfl
  refine sa_cons ?_ ?_ sa_nil
  rfl
  refine so_of ?_
  refine se_const ?_
  rfl
  refine so_borO (i := 4) ?_ ?_ ?_ ?_
  rfl
  (first | exact Or.inl rfl | exact Or.inr (Or.inl rfl) | exact Or.inr (Or.inr rfl))
  rfl
  rfl
  refine so_of ?_
  refine SF.se ?_
  refine sf_slice ?_ ?_ sp_gap
  refine so_borO (i := 1) ?_ ?_ ?_ ?_
  rfl
  (first | exact Or.inl rfl | exact Or.inr (Or.inl rfl) | exact Or.inr (Or.inr rfl))
  rfl
  rfl
  refine sp_part ?_
  refine SF.se ?_
  refine sf_op f_add ?_ ?_
  refine so_borO (i := 2) ?_ ?_ ?_ ?_
  rfl
  (first | exact Or.inl rfl | exact Or.inr (Or.inl rfl) | exact Or.inr (Or.inr rfl))
  rfl
  rfl
  refine so_of ?_
  refine se_idx ?_ ?_ ?_
  exact (fun _ _ => (by rfl))
  refine so_of ?_
  refine SF.se ?_
  refine sf_lst ?_
  refine sa_cons ?_ ?_ ?_
  rfl
  refine so_of ?_
  refine se_const ?_
  rfl
  refine sa_cons ?_ ?_ ?_
  rfl
  refine so_of ?_
  refine se_const ?_
  rfl
  refine sa_cons ?_ ?_ sa_nil
  rfl
  refine so_of ?_
  refine se_const ?_
  rfl
  refine so_borO (i := 4) ?_ ?_ ?_ ?_
  rfl
  (first | exact Or.inl rfl | exact Or.inr (Or.inl rfl) | exact Or.inr (Or.inr rfl))
  rfl
  rfl
  refine ss_one ?_
  refine s1_retF ?_
  refine sf_op f_add ?_ ?_
  refine so_of ?_
  refine SF.se ?_
  refine sf_slice ?_ sp_gap ?_
  refine so_borO (i := 1) ?_ ?_ ?_ ?_
  rfl
  (first | exact Or.inl rfl | exact Or.inr (Or.inl rfl) | exact Or.inr (Or.inr rfl))
  rfl
  rfl
  refine sp_part ?_
  refine se_var (i := 2) ?_ ?_ ?_ ?_
  rfl
  (first | exact Or.inl rfl | exact Or.inr (Or.inl rfl) | exact Or.inr (Or.inr rfl))
  rfl
  rfl
  refine so_of ?_
  refine SF.se ?_
  refine sf_slice ?_ ?_ sp_gap
  refine so_borO (i := 1) ?_ ?_ ?_ ?_
  rfl
  (first | exact Or.inl rfl | exact Or.inr (Or.inl rfl) | exact Or.inr (Or.inr rfl))
  rfl
  rfl
  refine sp_part ?_
  refine SF.se ?_
  refine sf_op f_add ?_ ?_
  refine so_borO (i := 2) ?_ ?_ ?_ ?_
  rfl
  (first | exact Or.inl rfl | exact Or.inr (Or.inl rfl) | exact Or.inr (Or.inr rfl))
  rfl
  rfl
  refine so_of ?_
  refine SF.se ?_
  refine sf_callU c_l_draw hr ?_ ?_ ?_ ?_ ?_
  decide
  rfl
  rfl
  rfl
  refine sa_cons ?_ ?_ ?_
  rfl
  refine so_borO (i := 0) ?_ ?_ ?_ ?_
  rfl
  (first | exact Or.inl rfl | exact Or.inr (Or.inl rfl) | exact Or.inr (Or.inr rfl))
  rfl
  rfl
  refine sa_cons ?_ ?_ sa_nil
  rfl
  refine so_of ?_
  refine se_const ?_
  rfl
theorem c_l_bent (W : Wd K mg) {f : Addr} {fd : FuncData} (F : FunD K "_law_bent" "_law_bent" (defArgs s_l_bent) (defBody s_l_bent) (defScope s_l_bent) [] [] f fd) (hm : mg "_law_bent" = some (.ref f)) (c_l_draw : CalD P w K mg base 1 "_law_draw" 2 l_draw_den) : CalD P w K mg base 2 "_law_bent" 2 l_bent_den := calD (ps := ["_law_source_here", "_law_line"]) F (o_l_bent W F c_l_draw) hm fnDen_len (fun _ _ _ _ _ _ us hl => match us, hl with | [_, _], _ => rfl)
def l_wrong_b : Rp.Env → Res := (dSeq (dSetF 2 (dispD .lst (consA (asV (pureD .non)) (consA (asV (dispD .tup (consA (asV (pureD (.int 0))) (consA (asV (pureD (.int 1))) (consA (asV (pureD (.int 2))) nilA))))) (consA (asV (dispD .tup (consA (asV (pureD (.int 0))) (consA (asV (pureD (.int 1))) (consA (asV (pureD (.int 2))) (consA (asV (pureD (.int 3))) (consA (asV (pureD (.int 4))) nilA))))))) (consA (asV (dispD .lst (consA (asV (pureD (.int 0))) (consA (asV (pureD (.int 1))) (consA (asV (pureD (.int 2))) (consA (asV (pureD (.int 3))) nilA)))))) (consA (asV (dispD .tup (consA (asV (pureD (.int 0))) (consA (asV (pureD (.int 1))) (consA (asV (pureD (.int 2))) (consA (asV (negV (pureD (.int 1)))) nilA)))))) (consA (asV (dispD .tup (consA (asV (pureD (.bl true))) (consA (asV (pureD (.int 1))) (consA (asV (pureD (.int 2))) (consA (asV (pureD (.int 3))) nilA)))))) nilA)))))))) (dSeq (dSetF 2 (bin2 (binD .Add) (borO 2) (asV (dispD .lst (consA (asV (dispD .tup (consA (asV (pureD (.int 0))) (consA (asV (pureD (.str "1"))) (consA (asV (pureD (.int 2))) (consA (asV (pureD (.int 3))) nilA)))))) (consA (asV (dispD .tup (consA (asV (pureD (.int 0))) (consA (asV (pureD (.int 1))) (consA (asV (pureD .non)) (consA (asV (pureD (.int 2))) nilA)))))) nilA)))))) (dSeq (dSetF 3 (callU true l_draw_den (consA (borO 0) (consA (asV (pureD (.int 4))) nilA)))) (dSeq (dSet 4 (dispD .tup (consA (asV (pureD (.int 0))) (consA (asV (pureD (.int 1))) (consA (asV (pureD (.int 2))) (consA (asV (pureD (.int 3))) nilA)))))) (dSeq (dFor (tupI (dispD .tup (consA (asV (negV (pureD (.int 1)))) (consA (asV (pureD (.bl true))) (consA (asV (pureD (.str "1"))) (consA (asV (pureD .non)) (consA (asV (dispD .lst (consA (asV (pureD (.int 1))) nilA))) (consA (asV (pureD (.bl false))) nilA)))))))) (setN 5) (dApp 2 (bin2 (binD .Add) (asV (bin2 (binD .Add) (asV (sliceD (borO 4) gapP (partP (rdVar 3)))) (asV (dispD .tup (consA (asV (rdVar 5)) nilA))))) (asV (sliceD (borO 4) (partP (bin2 (binD .Add) (borO 3) (asV (pureD (.int 1))))) gapP))))) (dSeq (dSetF 6 (callU true l_draw_den (consA (borO 0) (consA (asV (pureD (.int 18))) nilA)))) (dSeq (dIf (bB (bin2 (cmpD .Gt) (borO 6) (asV (pureD (.int 13))))) (dRet (bin2 D.idx (asV (dispD .lst (consA (asV (pureD .non)) (consA (asV (callD tupleD (consA (borO 1) nilA))) (consA (asV (pureD (.str "0:1:2-3"))) (consA (asV (pureD (.dct [] []))) nilA)))))) (asV (bin2 (binD .Sub) (borO 6) (asV (pureD (.int 14))))))) dNil) (dSeq (dSetF 7 (callU true l_draw_den (consA (borO 0) (consA (asV (bin2 (binD .Add) (asV (callD lenD (consA (borO 1) nilA))) (asV (pureD (.int 1))))) nilA)))) (dRetF (bin2 (binD .Add) (asV (bin2 (binD .Add) (asV (sliceD (borO 1) gapP (partP (rdVar 7)))) (asV (dispD .lst (consA (asV (bin2 D.idx (borO 2) (borO 6))) nilA))))) (asV (sliceD (borO 1) (partP (rdVar 7)) gapP))))))))))))
def l_wrong_den : List Rp.Arg → Res := fnDen 8 2 l_wrong_b
theorem o_l_wrong (W : Wd K mg) {f : Addr} {fd : FuncData} (F : FunD K "_law_wrong" "_law_wrong" (defArgs s_l_wrong) (defBody s_l_wrong) (defScope s_l_wrong) [] [] f fd) (c_l_draw : CalD P w K mg base 1 "_law_draw" 2 l_draw_den) : FnOk P w K mg base (L2.CX P w) 2 f fd ["_law_source_here", "_law_tour"] (spD K mg 2 l_wrong_den) := by
  refine funD_ok (N := ["_law_source_here", "_law_tour", "_law_bad", "_law_place", "_law_good", "_law_odd", "_law_pick", "_law_spot"]) (ps := ["_law_source_here", "_law_tour"]) (k := 1) (den := l_wrong_b) F sc_l_wrong (fun cdv A outer s H E hr => ?_)
  refine ss_cons ?_ ?_
  refine s1_setF (i := 2) ?_ ?_ ?_ ?_ ?_ ?_
  exact sc_l_wrong.nd
  rfl
  (first | exact Or.inl rfl | exact Or.inr rfl)
  rfl
  (first | exact Or.inr rfl | exact Or.inl rfl)
  refine sf_lst ?_
  refine sa_cons ?_ ?_ ?_
  rfl
  refine so_of ?_
  refine se_const ?_
  rfl
  refine sa_cons ?_ ?_ ?_
  rfl
  refine so_of ?_
  refine se_tup ?_
  refine sa_cons ?_ ?_ ?_
  rfl
  refine so_of ?_
  refine se_const ?_
  rfl
  refine sa_cons ?_ ?_ ?_
  rfl
  refine so_of ?_
  refine se_const ?_
  rfl
  refine sa_cons ?_ ?_ sa_nil
  rfl
  refine so_of ?_
  refine se_const ?_
  rfl
  refine sa_cons ?_ ?_ ?_
  rfl
  refine so_of ?_
  refine se_tup ?_
  refine sa_cons ?_ ?_ ?_
  rfl
  refine so_of ?_
  refine se_const ?_
  rfl
  refine sa_cons ?_ ?_ ?_
  rfl
  refine so_of ?_
  refine se_const ?_
  rfl
  refine sa_cons ?_ ?_ ?_
  rfl
  refine so_of ?_
  refine se_const ?_
  rfl
  refine sa_cons ?_ ?_ ?_
  rfl
  refine so_of ?_
  refine se_const ?_
  rfl
  refine sa_cons ?_ ?_ sa_nil
  rfl
  refine so_of ?_
  refine se_const ?_
  rfl
  refine sa_cons ?_ ?_ ?_
  rfl
  refine so_of ?_
  refine SF.se ?_
  refine sf_lst ?_
  refine sa_cons ?_ ?_ ?_
  rfl
  refine so_of ?_
  refine se_const ?_
  rfl
  refine sa_cons ?_ ?_ ?_
  rfl
  refine so_of ?_
  refine se_const ?_
  rfl
  refine sa_cons ?_ ?_ ?_
  rfl
  refine so_of ?_
  refine se_const ?_
  rfl
  refine sa_cons ?_ ?_ sa_nil
  rfl
  refine so_of ?_
  refine se_const ?_
  rfl
  refine sa_cons ?_ ?_ ?_
  rfl
  refine so_of ?_
  refine se_tup ?_
  refine sa_cons ?_ ?_ ?_
  rfl
  refine so_of ?_
  refine se_const ?_
  rfl
  refine sa_cons ?_ ?_ ?_
  rfl
  refine so_of ?_
  refine se_const ?_
  rfl
  refine sa_cons ?_ ?_ ?_
  rfl
  refine so_of ?_
  refine se_const ?_
  rfl
  refine sa_cons ?_ ?_ sa_nil
  rfl
  refine so_of ?_
  refine se_negV ?_
  refine se_const ?_
  rfl
  refine sa_cons ?_ ?_ sa_nil
  rfl
  refine so_of ?_
  refine se_tup ?_
  refine sa_cons ?_ ?_ ?_
  rfl
  refine so_of ?_
  refine se_const ?_
  rfl
  refine sa_cons ?_ ?_ ?_
  rfl
  refine so_of ?_
  refine se_const ?_
  rfl
  refine sa_cons ?_ ?_ ?_
  rfl
  refine so_of ?_
  refine se_const ?_
  rfl
  refine sa_cons ?_ ?_ sa_nil
  rfl
  refine so_of ?_
  refine se_const ?_
  rfl
  refine ss_cons ?_ ?_
  refine s1_setF (i := 2) ?_ ?_ ?_ ?_ ?_ ?_
  exact sc_l_wrong.nd
  rfl
  (first | exact Or.inl rfl | exact Or.inr rfl)
  rfl
  (first | exact Or.inr rfl | exact Or.inl rfl)
  refine sf_op f_add ?_ ?_
  refine so_borO (i := 2) ?_ ?_ ?_ ?_
  rfl
  (first | exact Or.inl rfl | exact Or.inr (Or.inl rfl) | exact Or.inr (Or.inr rfl))
  rfl
  rfl
  refine so_of ?_
  refine SF.se ?_
  refine sf_lst ?_
  refine sa_cons ?_ ?_ ?_
  rfl
  refine so_of ?_
  refine se_tup ?_
  refine sa_cons ?_ ?_ ?_
  rfl
  refine so_of ?_
  refine se_const ?_
  rfl
  refine sa_cons ?_ ?_ ?_
  rfl
  refine so_of ?_
  refine se_const ?_
  rfl
  refine sa_cons ?_ ?_ ?_
  rfl
  refine so_of ?_
  refine se_const ?_
  rfl
  refine sa_cons ?_ ?_ sa_nil
  rfl
  refine so_of ?_
  refine se_const ?_
  rfl
  refine sa_cons ?_ ?_ sa_nil
  rfl
  refine so_of ?_
  refine se_tup ?_
  refine sa_cons ?_ ?_ ?_
  rfl
  refine so_of ?_
  refine se_const ?_
  rfl
  refine sa_cons ?_ ?_ ?_
  rfl
  refine so_of ?_
  refine se_const ?_
  rfl
  refine sa_cons ?_ ?_ ?_
  rfl
  refine so_of ?_
  refine se_const ?_
  rfl
  refine sa_cons ?_ ?_ sa_nil
  rfl
  refine so_of ?_
  refine se_const ?_
  rfl
  refine ss_cons ?_ ?_
  refine s1_setF (i := 3) ?_ ?_ ?_ ?_ ?_ ?_
  exact sc_l_wrong.nd
  rfl
  (first | exact Or.inl rfl | exact Or.inr rfl)
  rfl
  (first | exact Or.inr rfl | exact Or.inl rfl)
  refine sf_callU c_l_draw hr ?_ ?_ ?_ ?_ ?_
  decide
  rfl
  rfl
  rfl
  refine sa_cons ?_ ?_ ?_
  rfl
  refine so_borO (i := 0) ?_ ?_ ?_ ?_
  rfl
  (first | exact Or.inl rfl | exact Or.inr (Or.inl rfl) | exact Or.inr (Or.inr rfl))
  rfl
  rfl
  refine sa_cons ?_ ?_ sa_nil
  rfl
  refine so_of ?_
  refine se_const ?_
  rfl
  refine ss_cons ?_ ?_
  refine s1_set (i := 4) ?_ ?_ ?_ ?_ ?_ ?_
  exact sc_l_wrong.nd
  rfl
  (first | exact Or.inl rfl | exact Or.inr rfl)
  rfl
  (first | exact Or.inr rfl | exact Or.inl rfl)
  refine se_tup ?_
  refine sa_cons ?_ ?_ ?_
  rfl
  refine so_of ?_
  refine se_const ?_
  rfl
  refine sa_cons ?_ ?_ ?_
  rfl
  refine so_of ?_
  refine se_const ?_
  rfl
  refine sa_cons ?_ ?_ ?_
  rfl
  refine so_of ?_
  refine se_const ?_
  rfl
  refine sa_cons ?_ ?_ sa_nil
  rfl
  refine so_of ?_
  refine se_const ?_
  rfl
  refine ss_cons ?_ ?_
  refine s1_for (is := [5]) ?_ ?_ ?_ ?_ ?_ ?_
  exact (passes_of (by rfl))
  rfl
  exact (fun _ => (by rfl))
  refine si_tup ?_
  refine se_tup ?_
  refine sa_cons ?_ ?_ ?_
  rfl
  refine so_of ?_
  refine se_negV ?_
  refine se_const ?_
  rfl
  refine sa_cons ?_ ?_ ?_
  rfl
  refine so_of ?_
  refine se_const ?_
  rfl
  refine sa_cons ?_ ?_ ?_
  rfl
  refine so_of ?_
  refine se_const ?_
  rfl
  refine sa_cons ?_ ?_ ?_
  rfl
  refine so_of ?_
  refine se_const ?_
  rfl
  refine sa_cons ?_ ?_ ?_
  rfl
  refine so_of ?_
  refine SF.se ?_
  refine sf_lst ?_
  refine sa_cons ?_ ?_ sa_nil
  rfl
  refine so_of ?_
  refine se_const ?_
  rfl
  refine sa_cons ?_ ?_ sa_nil
  rfl
  refine so_of ?_
  refine se_const ?_
  rfl
  refine sg_name (i := 5) ?_ ?_ ?_ ?_
  exact sc_l_wrong.nd
  rfl
  (first | exact Or.inl rfl | exact Or.inr rfl)
  (first | exact Or.inr rfl | exact Or.inl rfl)
  refine ss_one ?_
  refine s1_app (i := 2) ?_ ?_ ?_ ?_ ?_ ?_ ?_ ?_ ?_ ?_
  rfl
  (first | exact Or.inl rfl | exact Or.inr (Or.inl rfl) | exact Or.inr (Or.inr rfl))
  rfl
  rfl
  rfl
  rfl
  rfl
  rfl
  rfl
  refine SF.se ?_
  refine sf_op f_add ?_ ?_
  refine so_of ?_
  refine SF.se ?_
  refine sf_op f_add ?_ ?_
  refine so_of ?_
  refine SF.se ?_
  refine sf_slice ?_ sp_gap ?_
  refine so_borO (i := 4) ?_ ?_ ?_ ?_
  rfl
  (first | exact Or.inl rfl | exact Or.inr (Or.inl rfl) | exact Or.inr (Or.inr rfl))
  rfl
  rfl
  refine sp_part ?_
  refine se_var (i := 3) ?_ ?_ ?_ ?_
  rfl
  (first | exact Or.inl rfl | exact Or.inr (Or.inl rfl) | exact Or.inr (Or.inr rfl))
  rfl
  rfl
  refine so_of ?_
  refine se_tup ?_
  refine sa_cons ?_ ?_ sa_nil
  rfl
  refine so_of ?_
  refine se_var (i := 5) ?_ ?_ ?_ ?_
  rfl
  (first | exact Or.inl rfl | exact Or.inr (Or.inl rfl) | exact Or.inr (Or.inr rfl))
  rfl
  rfl
  refine so_of ?_
  refine SF.se ?_
  refine sf_slice ?_ ?_ sp_gap
  refine so_borO (i := 4) ?_ ?_ ?_ ?_
  rfl
  (first | exact Or.inl rfl | exact Or.inr (Or.inl rfl) | exact Or.inr (Or.inr rfl))
  rfl
  rfl
  refine sp_part ?_
  refine SF.se ?_
  refine sf_op f_add ?_ ?_
  refine so_borO (i := 3) ?_ ?_ ?_ ?_
  rfl
  (first | exact Or.inl rfl | exact Or.inr (Or.inl rfl) | exact Or.inr (Or.inr rfl))
  rfl
  rfl
  refine so_of ?_
  refine se_const ?_
  rfl
  refine ss_cons ?_ ?_
  refine s1_setF (i := 6) ?_ ?_ ?_ ?_ ?_ ?_
  exact sc_l_wrong.nd
  rfl
  (first | exact Or.inl rfl | exact Or.inr rfl)
  rfl
  (first | exact Or.inr rfl | exact Or.inl rfl)
  refine sf_callU c_l_draw hr ?_ ?_ ?_ ?_ ?_
  decide
  rfl
  rfl
  rfl
  refine sa_cons ?_ ?_ ?_
  rfl
  refine so_borO (i := 0) ?_ ?_ ?_ ?_
  rfl
  (first | exact Or.inl rfl | exact Or.inr (Or.inl rfl) | exact Or.inr (Or.inr rfl))
  rfl
  rfl
  refine sa_cons ?_ ?_ sa_nil
  rfl
  refine so_of ?_
  refine se_const ?_
  rfl
  refine ss_cons ?_ ?_
  refine s1_if ?_ ?_ ss_nil
  refine st_cmp (op := .Gt) (hu65 hr) ?_ ?_ ?_
  refine so_borO (i := 6) ?_ ?_ ?_ ?_
  rfl
  (first | exact Or.inl rfl | exact Or.inr (Or.inl rfl) | exact Or.inr (Or.inr rfl))
  rfl
  rfl
  refine so_of ?_
  refine se_const ?_
  rfl
  rfl
  refine ss_one ?_
  refine s1_ret ?_
  refine se_idx ?_ ?_ ?_
  exact (fun _ _ => (by rfl))
  refine so_of ?_
  refine SF.se ?_
  refine sf_lst ?_
  refine sa_cons ?_ ?_ ?_
  rfl
  refine so_of ?_
  refine se_const ?_
  rfl
  refine sa_cons ?_ ?_ ?_
  rfl
  refine so_of ?_
  refine SF.se ?_
  refine sf_callTy c_tuple ?_ W.n_tuple bt_tuple ?_ ?_ ?_ ?_
  rfl
  decide
  rfl
  rfl
  refine sa_cons ?_ ?_ sa_nil
  rfl
  refine so_borO (i := 1) ?_ ?_ ?_ ?_
  rfl
  (first | exact Or.inl rfl | exact Or.inr (Or.inl rfl) | exact Or.inr (Or.inr rfl))
  rfl
  rfl
  refine sa_cons ?_ ?_ ?_
  rfl
  refine so_of ?_
  refine se_const ?_
  rfl
  refine sa_cons ?_ ?_ sa_nil
  rfl
  refine so_of ?_
  exact se_dct0
  refine so_of ?_
  refine se_op (s_bin .Sub) ?_ ?_
  refine so_borO (i := 6) ?_ ?_ ?_ ?_
  rfl
  (first | exact Or.inl rfl | exact Or.inr (Or.inl rfl) | exact Or.inr (Or.inr rfl))
  rfl
  rfl
  refine so_of ?_
  refine se_const ?_
  rfl
  refine ss_cons ?_ ?_
  refine s1_setF (i := 7) ?_ ?_ ?_ ?_ ?_ ?_
  exact sc_l_wrong.nd
  rfl
  (first | exact Or.inl rfl | exact Or.inr rfl)
  rfl
  (first | exact Or.inr rfl | exact Or.inl rfl)
  refine sf_callU c_l_draw hr ?_ ?_ ?_ ?_ ?_
  decide
  rfl
  rfl
  rfl
  refine sa_cons ?_ ?_ ?_
  rfl
  refine so_borO (i := 0) ?_ ?_ ?_ ?_
  rfl
  (first | exact Or.inl rfl | exact Or.inr (Or.inl rfl) | exact Or.inr (Or.inr rfl))
  rfl
  rfl
  refine sa_cons ?_ ?_ sa_nil
  rfl
  refine so_of ?_
  refine SF.se ?_
  refine sf_op f_add ?_ ?_
  refine so_of ?_
  refine SF.se ?_
  refine sf_callB c_len ?_ W.n_len bt_len ?_ ?_ ?_ ?_
  rfl
  decide
  rfl
  rfl
  refine sa_cons ?_ ?_ sa_nil
  rfl
  refine so_borO (i := 1) ?_ ?_ ?_ ?_
  rfl
  (first | exact Or.inl rfl | exact Or.inr (Or.inl rfl) | exact Or.inr (Or.inr rfl))
  rfl
  rfl
  refine so_of ?_
  refine se_const ?_
  rfl
  refine ss_one ?_
  refine s1_retF ?_
  refine sf_op f_add ?_ ?_
  refine so_of ?_
  refine SF.se ?_
  refine sf_op f_add ?_ ?_
  refine so_of ?_
  refine SF.se ?_
  refine sf_slice ?_ sp_gap ?_
  refine so_borO (i := 1) ?_ ?_ ?_ ?_
  rfl
  (first | exact Or.inl rfl | exact Or.inr (Or.inl rfl) | exact Or.inr (Or.inr rfl))
  rfl
  rfl
  refine sp_part ?_
  refine se_var (i := 7) ?_ ?_ ?_ ?_
  rfl
  (first | exact Or.inl rfl | exact Or.inr (Or.inl rfl) | exact Or.inr (Or.inr rfl))
  rfl
  rfl
  refine so_of ?_
  refine SF.se ?_
  refine sf_lst ?_
  refine sa_cons ?_ ?_ sa_nil
  rfl
  refine so_of ?_
  refine se_idx ?_ ?_ ?_
  exact (fun _ _ => (by rfl))
  refine so_borO (i := 2) ?_ ?_ ?_ ?_
  rfl
  (first | exact Or.inl rfl | exact Or.inr (Or.inl rfl) | exact Or.inr (Or.inr rfl))
  rfl
  rfl
  refine so_borO (i := 6) ?_ ?_ ?_ ?_
  rfl
  (first | exact Or.inl rfl | exact Or.inr (Or.inl rfl) | exact Or.inr (Or.inr rfl))
  rfl
  rfl
  refine so_of ?_
  refine SF.se ?_
  refine sf_slice ?_ ?_ sp_gap
  refine so_borO (i := 1) ?_ ?_ ?_ ?_
  rfl
  (first | exact Or.inl rfl | exact Or.inr (Or.inl rfl) | exact Or.inr (Or.inr rfl))
  rfl
  rfl
  refine sp_part ?_
  refine se_var (i := 7) ?_ ?_ ?_ ?_
  rfl
  (first | exact Or.inl rfl | exact Or.inr (Or.inl rfl) | exact Or.inr (Or.inr rfl))
  rfl
  rfl
theorem c_l_wrong (W : Wd K mg) {f : Addr} {fd : FuncData} (F : FunD K "_law_wrong" "_law_wrong" (defArgs s_l_wrong) (defBody s_l_wrong) (defScope s_l_wrong) [] [] f fd) (hm : mg "_law_wrong" = some (.ref f)) (c_l_draw : CalD P w K mg base 1 "_law_draw" 2 l_draw_den) : CalD P w K mg base 2 "_law_wrong" 2 l_wrong_den := calD (ps := ["_law_source_here", "_law_tour"]) F (o_l_wrong W F c_l_draw) hm fnDen_len (fun _ _ _ _ _ _ us hl => match us, hl with | [_, _], _ => rfl)
def law_b : Rp.Env → Res := (dSeq (dFor (rng1I (consA (asV (callD maxD (consA (asV (pureD (.int 1))) (consA (asV (callD minD (consA (asV (pureD (.int 6))) (consA (asV (callD lenD (consA (borO 0) nilA))) nilA)))) nilA)))) nilA)) (setN 1) (dSeq (dSetF 2 (callU true l_source_den (consA (asV (callU false l_cell_at_den (consA (asV (rdVar 0)) (consA (asV (rdVar 1)) nilA)))) (consA (asV (rdVar 1)) nilA)))) (dSeq (dFor (rng1I (consA (asV (pureD (.int 3))) nilA)) (setN 3) (dSeq (dSetF 5 (dispD .lst nilA)) (dSeq (dFor (rng1I (consA (asV (callU true l_draw_den (consA (borO 2) (consA (asV (bin2 D.idx (asV (dispD .lst (consA (asV (pureD (.int 3))) (consA (asV (pureD (.int 9))) (consA (asV (pureD (.int 41))) nilA))))) (asV (callU true l_draw_den (consA (borO 2) (consA (asV (pureD (.int 3))) nilA)))))) nilA)))) nilA)) (setN 6) (dSeq (dSetF 10 (dispD .lst (consA (asV (pureD (.int 3))) (consA (asV (pureD (.int 100))) (consA (asV (bin2 (binD .Pow) (asV (pureD (.int 10))) (asV (pureD (.int 20))))) (consA (asV (bin2 (binD .Pow) (asV (pureD (.int 10))) (asV (pureD (.int 39))))) nilA)))))) (dApp 5 (callD tupleD (consA (asV (lcD [12] (rng1I (consA (asV (pureD (.int 4))) nilA)) (setN 12) (fun env => .ok true env) (callU true l_draw_den (consA (borO 2) (consA (asV (bin2 D.idx (borO 10) (asV (callU true l_draw_den (consA (borO 2) (consA (asV (pureD (.int 4))) nilA)))))) nilA))))) nilA))))) (dSeq (dSetF 7 (callU true l_written_den (consA (asV (rdVar 5)) nilA))) (dSeq (dIf (lendB (notB (truB (asV (callU true (l_same_den 4) (consA (asV (dispD .lst (consA (asV (callU true l_told_den (consA (asV (rdVar 5)) (consA (asV (pureD (.int 2))) nilA)))) (consA (asV (callU true l_told_den (consA (asV (rdVar 5)) (consA (asV (pureD (.int 3))) nilA)))) nilA)))) (consA (asV (dispD .lst (consA (asV (rdVar 7)) (consA (asV (rdVar 7)) nilA)))) nilA))))))) (dRet (pureD (.bl false))) dNil) (dSeq (dSetF 8 (callU true l_told_den (consA (asV (rdVar 7)) (consA (asV (pureD (.int 0))) nilA)))) (dSeq (dIf (lendB (notB (truB (asV (callU true (l_same_den 4) (consA (asV (dispD .lst (consA (asV (rdVar 8)) (consA (asV (callU true l_told_den (consA (asV (rdVar 7)) (consA (asV (pureD (.int 1))) nilA)))) nilA)))) (consA (asV (dispD .lst (consA (asV (rdVar 5)) (consA (asV (rdVar 5)) nilA)))) nilA))))))) (dRet (pureD (.bl false))) dNil) (dSeq (dApp 8 (pureD .non)) (dSeq (dIf (lendB (notB (truB (asV (callU true (l_same_den 4) (consA (asV (callU true l_told_den (consA (asV (rdVar 7)) (consA (asV (pureD (.int 0))) nilA)))) (consA (asV (rdVar 5)) nilA))))))) (dRet (pureD (.bl false))) dNil) (dSeq (dIf (bB (bin2 (cmpD .NotEq) (asV (callU true l_told_den (consA (asV (callU true l_wrong_den (consA (borO 2) (consA (asV (rdVar 5)) nilA)))) (consA (asV (bin2 (binD .Add) (asV (pureD (.int 2))) (asV (callU true l_draw_den (consA (borO 2) (consA (asV (pureD (.int 2))) nilA)))))) nilA)))) (asV (pureD (.str "journey"))))) (dRet (pureD (.bl false))) dNil) (dFor (rng1I (consA (asV (pureD (.int 4))) nilA)) (setN 9) (dSeq (dSetF 7 (callU true l_bent_den (consA (borO 2) (consA (asV (rdVar 7)) nilA)))) (dSeq (dSetF 11 (callU true l_read_den (consA (asV (rdVar 7)) nilA))) (dSeq (dSet 11 (iteV (bB (bin2 (cmpD .Is) (borO 11) (asV (pureD .non)))) (pureD (.str "text")) (rdVar 11))) (dIf (andB (bB (bin2 (cmpD .LtE) (asV (callD lenD (consA (borO 7) nilA))) (asV (pureD (.int 3000))))) (notB (truB (asV (callU true (l_same_den 4) (consA (asV (callU true l_told_den (consA (asV (rdVar 7)) (consA (asV (pureD (.int 0))) nilA)))) (consA (asV (rdVar 11)) nilA))))))) (dRet (pureD (.bl false))) dNil))))))))))))))) (dSeq (dSetF 4 (dispD .lst (consA (asV (pureD .non)) (consA (asV (pureD (.int 5))) (consA (asV (pureD (.bl true))) (consA (asV (dispD .lst (consA (asV (pureD (.str "0:0:0-1"))) nilA))) (consA (asV (dispD .tup (consA (asV (pureD (.str "0:0:0-1"))) nilA))) (consA (asV (pureD (.dct [] []))) (consA (asV (pureD (.str " "))) (consA (asV (pureD (.str "0:0:0-1 "))) (consA (asV (pureD (.str "0:0:0:1"))) (consA (asV (pureD (.str "00:0:0-1"))) (consA (asV (pureD (.str "0:0:0--1"))) nilA))))))))))))) (dIf (bB (bin2 (cmpD .NotEq) (asV (callU true l_told_den (consA (asV (bin2 D.idx (borO 4) (asV (callU true l_draw_den (consA (borO 2) (consA (asV (pureD (.int 11))) nilA)))))) (consA (asV (pureD (.int 0))) nilA)))) (asV (pureD (.str "text"))))) (dRet (pureD (.bl false))) dNil))))) (dRet (andV (bin2 (cmpD .Eq) (asV (callU true l_told_den (consA (asV (pureD (.str ""))) (consA (asV (pureD (.int 0))) nilA)))) (asV (dispD .lst nilA))) (bin2 (cmpD .Eq) (asV (callU true l_told_den (consA (asV (dispD .lst nilA)) (consA (asV (pureD (.int 2))) nilA)))) (asV (pureD (.str "")))))))
def law_den : List Rp.Arg → Res := fnDen 13 1 law_b
theorem o_law (W : Wd K mg) {f : Addr} {fd : FuncData} (F : FunD K "law" "law" (defArgs s_law) (defBody s_law) (defScope s_law) [] [] f fd) (c_l_source : CalD P w K mg base 1 "_law_source" 2 l_source_den) (c_l_cell_at : CalD P w K mg base 1 "_law_cell_at" 2 l_cell_at_den) (c_l_draw : CalD P w K mg base 1 "_law_draw" 2 l_draw_den) (c_l_written : CalD P w K mg base 1 "_law_written" 1 l_written_den) (c_l_same : CalD P w K mg base 5 "_law_same" 2 (l_same_den 4)) (c_l_told : CalD P w K mg base 4 "_law_told" 2 l_told_den) (c_l_wrong : CalD P w K mg base 2 "_law_wrong" 2 l_wrong_den) (c_l_bent : CalD P w K mg base 2 "_law_bent" 2 l_bent_den) (c_l_read : CalD P w K mg base 2 "_law_read" 1 l_read_den) : FnOk P w K mg base (L2.CX P w) 6 f fd ["_law_script"] (spD K mg 1 law_den) := by
  refine funD_ok (N := ["_law_script", "_law_k", "_law_source_here", "_law_turn", "_law_odd", "_law_tour", "_law_j", "_law_line", "_law_told_here", "_law_change", "_law_kinds", "_law_due", "_law_i"]) (ps := ["_law_script"]) (k := 5) (den := law_b) F sc_law (fun cdv A outer s H E hr => ?_)
  refine ss_cons ?_ ?_
  refine s1_for (is := [1]) ?_ ?_ ?_ ?_ ?_ ?_
  exact (passes_of (by rfl))
  rfl
  exact (fun _ => (by rfl))
  refine si_rng1 ?_ W.n_range ?_ ?_
  rfl
  rfl
  refine sa_cons ?_ ?_ sa_nil
  rfl
  refine so_of ?_
  refine SF.se ?_
  refine sf_callB (c_max (by rfl)) ?_ W.n_max bt_max ?_ ?_ ?_ ?_
  rfl
  decide
  rfl
  rfl
  refine sa_cons ?_ ?_ ?_
  rfl
  refine so_of ?_
  refine se_const ?_
  rfl
  refine sa_cons ?_ ?_ sa_nil
  rfl
  refine so_of ?_
  refine SF.se ?_
  refine sf_callB (c_min (by rfl)) ?_ W.n_min bt_min ?_ ?_ ?_ ?_
  rfl
  decide
  rfl
  rfl
  refine sa_cons ?_ ?_ ?_
  rfl
  refine so_of ?_
  refine se_const ?_
  rfl
  refine sa_cons ?_ ?_ sa_nil
  rfl
  refine so_of ?_
  refine SF.se ?_
  refine sf_callB c_len ?_ W.n_len bt_len ?_ ?_ ?_ ?_
  rfl
  decide
  rfl
  rfl
  refine sa_cons ?_ ?_ sa_nil
  rfl
  refine so_borO (i := 0) ?_ ?_ ?_ ?_
  rfl
  (first | exact Or.inl rfl | exact Or.inr (Or.inl rfl) | exact Or.inr (Or.inr rfl))
  rfl
  rfl
  refine sg_name (i := 1) ?_ ?_ ?_ ?_
  exact sc_law.nd
  rfl
  (first | exact Or.inl rfl | exact Or.inr rfl)
  (first | exact Or.inr rfl | exact Or.inl rfl)
  refine ss_cons ?_ ?_
  refine s1_setF (i := 2) ?_ ?_ ?_ ?_ ?_ ?_
  exact sc_law.nd
  rfl
  (first | exact Or.inl rfl | exact Or.inr rfl)
  rfl
  (first | exact Or.inr rfl | exact Or.inl rfl)
  refine sf_callU c_l_source hr ?_ ?_ ?_ ?_ ?_
  decide
  rfl
  rfl
  rfl
  refine sa_cons ?_ ?_ ?_
  rfl
  refine so_of ?_
  refine se_callU c_l_cell_at hr ?_ ?_ ?_ ?_ ?_
  decide
  rfl
  rfl
  rfl
  refine sa_cons ?_ ?_ ?_
  rfl
  refine so_of ?_
  refine se_var (i := 0) ?_ ?_ ?_ ?_
  rfl
  (first | exact Or.inl rfl | exact Or.inr (Or.inl rfl) | exact Or.inr (Or.inr rfl))
  rfl
  rfl
  refine sa_cons ?_ ?_ sa_nil
  rfl
  refine so_of ?_
  refine se_var (i := 1) ?_ ?_ ?_ ?_
  rfl
  (first | exact Or.inl rfl | exact Or.inr (Or.inl rfl) | exact Or.inr (Or.inr rfl))
  rfl
  rfl
  refine sa_cons ?_ ?_ sa_nil
  rfl
  refine so_of ?_
  refine se_var (i := 1) ?_ ?_ ?_ ?_
  rfl
  (first | exact Or.inl rfl | exact Or.inr (Or.inl rfl) | exact Or.inr (Or.inr rfl))
  rfl
  rfl
  refine ss_cons ?_ ?_
  refine s1_for (is := [3]) ?_ ?_ ?_ ?_ ?_ ?_
  exact (passes_of (by rfl))
  rfl
  exact (fun _ => (by rfl))
  refine si_rng1 ?_ W.n_range ?_ ?_
  rfl
  rfl
  refine sa_cons ?_ ?_ sa_nil
  rfl
  refine so_of ?_
  refine se_const ?_
  rfl
  refine sg_name (i := 3) ?_ ?_ ?_ ?_
  exact sc_law.nd
  rfl
  (first | exact Or.inl rfl | exact Or.inr rfl)
  (first | exact Or.inr rfl | exact Or.inl rfl)
  refine ss_cons ?_ ?_
  refine s1_setF (i := 5) ?_ ?_ ?_ ?_ ?_ ?_
  exact sc_law.nd
  rfl
  (first | exact Or.inl rfl | exact Or.inr rfl)
  rfl
  (first | exact Or.inr rfl | exact Or.inl rfl)
  exact sf_lst sa_nil
  refine ss_cons ?_ ?_
  refine s1_for (is := [6]) ?_ ?_ ?_ ?_ ?_ ?_
  exact (passes_of (by rfl))
  rfl
  exact (fun _ => (by rfl))
  refine si_rng1 ?_ W.n_range ?_ ?_
  rfl
  rfl
  refine sa_cons ?_ ?_ sa_nil
  rfl
  refine so_of ?_
  refine SF.se ?_
  refine sf_callU c_l_draw hr ?_ ?_ ?_ ?_ ?_
  decide
  rfl
  rfl
  rfl
  refine sa_cons ?_ ?_ ?_
  rfl
  refine so_borO (i := 2) ?_ ?_ ?_ ?_
  rfl
  (first | exact Or.inl rfl | exact Or.inr (Or.inl rfl) | exact Or.inr (Or.inr rfl))
  rfl
  rfl
  refine sa_cons ?_ ?_ sa_nil
  rfl
  refine so_of ?_
  refine se_idx ?_ ?_ ?_
  exact (fun _ _ => (by rfl))
  refine so_of ?_
  refine SF.se ?_
  refine sf_lst ?_
  refine sa_cons ?_ ?_ ?_
  rfl
  refine so_of ?_
  refine se_const ?_
  rfl
  refine sa_cons ?_ ?_ ?_
  rfl
  refine so_of ?_
  refine se_const ?_
  rfl
  refine sa_cons ?_ ?_ sa_nil
  rfl
  refine so_of ?_
  refine se_const ?_
  rfl
  refine so_of ?_
  refine SF.se ?_
  refine sf_callU c_l_draw hr ?_ ?_ ?_ ?_ ?_
  decide
  rfl
  rfl
  rfl
  refine sa_cons ?_ ?_ ?_
  rfl
  refine so_borO (i := 2) ?_ ?_ ?_ ?_
  rfl
  (first | exact Or.inl rfl | exact Or.inr (Or.inl rfl) | exact Or.inr (Or.inr rfl))
  rfl
  rfl
  refine sa_cons ?_ ?_ sa_nil
  rfl
  refine so_of ?_
  refine se_const ?_
  rfl
  refine sg_name (i := 6) ?_ ?_ ?_ ?_
  exact sc_law.nd
  rfl
  (first | exact Or.inl rfl | exact Or.inr rfl)
  (first | exact Or.inr rfl | exact Or.inl rfl)
  refine ss_cons ?_ ?_
  refine s1_setF (i := 10) ?_ ?_ ?_ ?_ ?_ ?_
  exact sc_law.nd
  rfl
  (first | exact Or.inl rfl | exact Or.inr rfl)
  rfl
  (first | exact Or.inr rfl | exact Or.inl rfl)
  refine sf_lst ?_
  refine sa_cons ?_ ?_ ?_
  rfl
  refine so_of ?_
  refine se_const ?_
  rfl
  refine sa_cons ?_ ?_ ?_
  rfl
  refine so_of ?_
  refine se_const ?_
  rfl
  refine sa_cons ?_ ?_ ?_
  rfl
  refine so_of ?_
  refine se_op (s_bin .Pow) ?_ ?_
  refine so_of ?_
  refine se_const ?_
  rfl
  refine so_of ?_
  refine se_const ?_
  rfl
  refine sa_cons ?_ ?_ sa_nil
  rfl
  refine so_of ?_
  refine se_op (s_bin .Pow) ?_ ?_
  refine so_of ?_
  refine se_const ?_
  rfl
  refine so_of ?_
  refine se_const ?_
  rfl
  refine ss_one ?_
  refine s1_app (i := 5) ?_ ?_ ?_ ?_ ?_ ?_ ?_ ?_ ?_ ?_
  rfl
  (first | exact Or.inl rfl | exact Or.inr (Or.inl rfl) | exact Or.inr (Or.inr rfl))
  rfl
  rfl
  rfl
  rfl
  rfl
  rfl
  rfl
  refine SF.se ?_
  refine sf_callTy c_tuple ?_ W.n_tuple bt_tuple ?_ ?_ ?_ ?_
  rfl
  decide
  rfl
  rfl
  refine sa_cons ?_ ?_ sa_nil
  rfl
  refine so_of ?_
  refine SF.se ?_
  refine sf_lc (own := [("_law_i", 12)]) (is := [12]) ?_ ?_ ?_ ?_ ?_ ?_ ?_ ?_ ?_
  rfl
  exact sc_law.nd
  exact (blkOk_by (by rfl))
  decide
  exact (fun _ => (by rfl))
  refine si_rng1 ?_ W.n_range ?_ ?_
  rfl
  rfl
  refine sa_cons ?_ ?_ sa_nil
  rfl
  refine so_of ?_
  refine se_const ?_
  rfl
  intro _ _ _ _ _
  refine sg_name (i := 12) ?_ ?_ ?_ ?_
  exact sc_law.nd
  rfl
  (first | exact Or.inl rfl | exact Or.inr rfl)
  (first | exact Or.inr rfl | exact Or.inl rfl)
  intro _ _ _ _ _
  refine st_yes ?_
  rfl
  intro _ _ _ _ _
  refine SF.se ?_
  refine sf_callU c_l_draw hr ?_ ?_ ?_ ?_ ?_
  decide
  rfl
  rfl
  rfl
  refine sa_cons ?_ ?_ ?_
  rfl
  refine so_borO (i := 2) ?_ ?_ ?_ ?_
  rfl
  (first | exact Or.inl rfl | exact Or.inr (Or.inl rfl) | exact Or.inr (Or.inr rfl))
  rfl
  rfl
  refine sa_cons ?_ ?_ sa_nil
  rfl
  refine so_of ?_
  refine se_idx ?_ ?_ ?_
  exact (fun _ _ => (by rfl))
  refine so_borO (i := 10) ?_ ?_ ?_ ?_
  rfl
  (first | exact Or.inl rfl | exact Or.inr (Or.inl rfl) | exact Or.inr (Or.inr rfl))
  rfl
  rfl
  refine so_of ?_
  refine SF.se ?_
  refine sf_callU c_l_draw hr ?_ ?_ ?_ ?_ ?_
  decide
  rfl
  rfl
  rfl
  refine sa_cons ?_ ?_ ?_
  rfl
  refine so_borO (i := 2) ?_ ?_ ?_ ?_
  rfl
  (first | exact Or.inl rfl | exact Or.inr (Or.inl rfl) | exact Or.inr (Or.inr rfl))
  rfl
  rfl
  refine sa_cons ?_ ?_ sa_nil
  rfl
  refine so_of ?_
  refine se_const ?_
  rfl
  refine ss_cons ?_ ?_
  refine s1_setF (i := 7) ?_ ?_ ?_ ?_ ?_ ?_
  exact sc_law.nd
  rfl
  (first | exact Or.inl rfl | exact Or.inr rfl)
  rfl
  (first | exact Or.inr rfl | exact Or.inl rfl)
  refine sf_callU c_l_written hr ?_ ?_ ?_ ?_ ?_
  decide
  rfl
  rfl
  rfl
  refine sa_cons ?_ ?_ sa_nil
  rfl
  refine so_of ?_
  refine se_var (i := 5) ?_ ?_ ?_ ?_
  rfl
  (first | exact Or.inl rfl | exact Or.inr (Or.inl rfl) | exact Or.inr (Or.inr rfl))
  rfl
  rfl
  refine ss_cons ?_ ?_
  refine s1_if ?_ ?_ ss_nil
  refine st_lend ?_
  refine st_not ?_
  refine st_val ?_ ?_
  refine so_of ?_
  refine SF.se ?_
  refine sf_callU c_l_same hr ?_ ?_ ?_ ?_ ?_
  decide
  rfl
  rfl
  rfl
  refine sa_cons ?_ ?_ ?_
  rfl
  refine so_of ?_
  refine SF.se ?_
  refine sf_lst ?_
  refine sa_cons ?_ ?_ ?_
  rfl
  refine so_of ?_
  refine SF.se ?_
  refine sf_callU c_l_told hr ?_ ?_ ?_ ?_ ?_
  decide
  rfl
  rfl
  rfl
  refine sa_cons ?_ ?_ ?_
  rfl
  refine so_of ?_
  refine se_var (i := 5) ?_ ?_ ?_ ?_
  rfl
  (first | exact Or.inl rfl | exact Or.inr (Or.inl rfl) | exact Or.inr (Or.inr rfl))
  rfl
  rfl
  refine sa_cons ?_ ?_ sa_nil
  rfl
  refine so_of ?_
  refine se_const ?_
  rfl
  refine sa_cons ?_ ?_ sa_nil
  rfl
  refine so_of ?_
  refine SF.se ?_
  refine sf_callU c_l_told hr ?_ ?_ ?_ ?_ ?_
  decide
  rfl
  rfl
  rfl
  refine sa_cons ?_ ?_ ?_
  rfl
  refine so_of ?_
  refine se_var (i := 5) ?_ ?_ ?_ ?_
  rfl
  (first | exact Or.inl rfl | exact Or.inr (Or.inl rfl) | exact Or.inr (Or.inr rfl))
  rfl
  rfl
  refine sa_cons ?_ ?_ sa_nil
  rfl
  refine so_of ?_
  refine se_const ?_
  rfl
  refine sa_cons ?_ ?_ sa_nil
  rfl
  refine so_of ?_
  refine SF.se ?_
  refine sf_lst ?_
  refine sa_cons ?_ ?_ ?_
  rfl
  refine so_of ?_
  refine se_var (i := 7) ?_ ?_ ?_ ?_
  rfl
  (first | exact Or.inl rfl | exact Or.inr (Or.inl rfl) | exact Or.inr (Or.inr rfl))
  rfl
  rfl
  refine sa_cons ?_ ?_ sa_nil
  rfl
  refine so_of ?_
  refine se_var (i := 7) ?_ ?_ ?_ ?_
  rfl
  (first | exact Or.inl rfl | exact Or.inr (Or.inl rfl) | exact Or.inr (Or.inr rfl))
  rfl
  rfl
  exact (fun _ => (by rfl))
  refine ss_one ?_
  refine s1_ret ?_
  refine se_const ?_
  rfl
  refine ss_cons ?_ ?_
  refine s1_setF (i := 8) ?_ ?_ ?_ ?_ ?_ ?_
  exact sc_law.nd
  rfl
  (first | exact Or.inl rfl | exact Or.inr rfl)
  rfl
  (first | exact Or.inr rfl | exact Or.inl rfl)
  refine sf_callU c_l_told hr ?_ ?_ ?_ ?_ ?_
  decide
  rfl
  rfl
  rfl
  refine sa_cons ?_ ?_ ?_
  rfl
  refine so_of ?_
  refine se_var (i := 7) ?_ ?_ ?_ ?_
  rfl
  (first | exact Or.inl rfl | exact Or.inr (Or.inl rfl) | exact Or.inr (Or.inr rfl))
  rfl
  rfl
  refine sa_cons ?_ ?_ sa_nil
  rfl
  refine so_of ?_
  refine se_const ?_
  rfl
  refine ss_cons ?_ ?_
  refine s1_if ?_ ?_ ss_nil
  refine st_lend ?_
  refine st_not ?_
  refine st_val ?_ ?_
  refine so_of ?_
  refine SF.se ?_
  refine sf_callU c_l_same hr ?_ ?_ ?_ ?_ ?_
  decide
  rfl
  rfl
  rfl
  refine sa_cons ?_ ?_ ?_
  rfl
  refine so_of ?_
  refine SF.se ?_
  refine sf_lst ?_
  refine sa_cons ?_ ?_ ?_
  rfl
  refine so_of ?_
  refine se_var (i := 8) ?_ ?_ ?_ ?_
  rfl
  (first | exact Or.inl rfl | exact Or.inr (Or.inl rfl) | exact Or.inr (Or.inr rfl))
  rfl
  rfl
  refine sa_cons ?_ ?_ sa_nil
  rfl
  refine so_of ?_
  refine SF.se ?_
  refine sf_callU c_l_told hr ?_ ?_ ?_ ?_ ?_
  decide
  rfl
  rfl
  rfl
  refine sa_cons ?_ ?_ ?_
  rfl
  refine so_of ?_
  refine se_var (i := 7) ?_ ?_ ?_ ?_
  rfl
  (first | exact Or.inl rfl | exact Or.inr (Or.inl rfl) | exact Or.inr (Or.inr rfl))
  rfl
  rfl
  refine sa_cons ?_ ?_ sa_nil
  rfl
  refine so_of ?_
  refine se_const ?_
  rfl
  refine sa_cons ?_ ?_ sa_nil
  rfl
  refine so_of ?_
  refine SF.se ?_
  refine sf_lst ?_
  refine sa_cons ?_ ?_ ?_
  rfl
  refine so_of ?_
  refine se_var (i := 5) ?_ ?_ ?_ ?_
  rfl
  (first | exact Or.inl rfl | exact Or.inr (Or.inl rfl) | exact Or.inr (Or.inr rfl))
  rfl
  rfl
  refine sa_cons ?_ ?_ sa_nil
  rfl
  refine so_of ?_
  refine se_var (i := 5) ?_ ?_ ?_ ?_
  rfl
  (first | exact Or.inl rfl | exact Or.inr (Or.inl rfl) | exact Or.inr (Or.inr rfl))
  rfl
  rfl
  exact (fun _ => (by rfl))
  refine ss_one ?_
  refine s1_ret ?_
  refine se_const ?_
  rfl
  refine ss_cons ?_ ?_
  refine s1_app (i := 8) ?_ ?_ ?_ ?_ ?_ ?_ ?_ ?_ ?_ ?_
  rfl
  (first | exact Or.inl rfl | exact Or.inr (Or.inl rfl) | exact Or.inr (Or.inr rfl))
  rfl
  rfl
  rfl
  rfl
  rfl
  rfl
  rfl
  refine se_const ?_
  rfl
  refine ss_cons ?_ ?_
  refine s1_if ?_ ?_ ss_nil
  refine st_lend ?_
  refine st_not ?_
  refine st_val ?_ ?_
  refine so_of ?_
  refine SF.se ?_
  refine sf_callU c_l_same hr ?_ ?_ ?_ ?_ ?_
  decide
  rfl
  rfl
  rfl
  refine sa_cons ?_ ?_ ?_
  rfl
  refine so_of ?_
  refine SF.se ?_
  refine sf_callU c_l_told hr ?_ ?_ ?_ ?_ ?_
  decide
  rfl
  rfl
  rfl
  refine sa_cons ?_ ?_ ?_
  rfl
  refine so_of ?_
  refine se_var (i := 7) ?_ ?_ ?_ ?_
  rfl
  (first | exact Or.inl rfl | exact Or.inr (Or.inl rfl) | exact Or.inr (Or.inr rfl))
  rfl
  rfl
  refine sa_cons ?_ ?_ sa_nil
  rfl
  refine so_of ?_
  refine se_const ?_
  rfl
  refine sa_cons ?_ ?_ sa_nil
  rfl
  refine so_of ?_
  refine se_var (i := 5) ?_ ?_ ?_ ?_
  rfl
  (first | exact Or.inl rfl | exact Or.inr (Or.inl rfl) | exact Or.inr (Or.inr rfl))
  rfl
  rfl
  exact (fun _ => (by rfl))
  refine ss_one ?_
  refine s1_ret ?_
  refine se_const ?_
  rfl
  refine ss_cons ?_ ?_
  refine s1_if ?_ ?_ ss_nil
  refine st_cmp (op := .NotEq) (hu65 hr) ?_ ?_ ?_
  refine so_of ?_
  refine SF.se ?_
  refine sf_callU c_l_told hr ?_ ?_ ?_ ?_ ?_
  decide
  rfl
  rfl
  rfl
  refine sa_cons ?_ ?_ ?_
  rfl
  refine so_of ?_
  refine SF.se ?_
  refine sf_callU c_l_wrong hr ?_ ?_ ?_ ?_ ?_
  decide
  rfl
  rfl
  rfl
  refine sa_cons ?_ ?_ ?_
  rfl
  refine so_borO (i := 2) ?_ ?_ ?_ ?_
  rfl
  (first | exact Or.inl rfl | exact Or.inr (Or.inl rfl) | exact Or.inr (Or.inr rfl))
  rfl
  rfl
  refine sa_cons ?_ ?_ sa_nil
  rfl
  refine so_of ?_
  refine se_var (i := 5) ?_ ?_ ?_ ?_
  rfl
  (first | exact Or.inl rfl | exact Or.inr (Or.inl rfl) | exact Or.inr (Or.inr rfl))
  rfl
  rfl
  refine sa_cons ?_ ?_ sa_nil
  rfl
  refine so_of ?_
  refine SF.se ?_
  refine sf_op f_add ?_ ?_
  refine so_of ?_
  refine se_const ?_
  rfl
  refine so_of ?_
  refine SF.se ?_
  refine sf_callU c_l_draw hr ?_ ?_ ?_ ?_ ?_
  decide
  rfl
  rfl
  rfl
  refine sa_cons ?_ ?_ ?_
  rfl
  refine so_borO (i := 2) ?_ ?_ ?_ ?_
  rfl
  (first | exact Or.inl rfl | exact Or.inr (Or.inl rfl) | exact Or.inr (Or.inr rfl))
  rfl
  rfl
  refine sa_cons ?_ ?_ sa_nil
  rfl
  refine so_of ?_
  refine se_const ?_
  rfl
  refine so_of ?_
  refine se_const ?_
  rfl
  rfl
  refine ss_one ?_
  refine s1_ret ?_
  refine se_const ?_
  rfl
  refine ss_one ?_
  refine s1_for (is := [9]) ?_ ?_ ?_ ?_ ?_ ?_
  exact (passes_of (by rfl))
  rfl
  exact (fun _ => (by rfl))
  refine si_rng1 ?_ W.n_range ?_ ?_
  rfl
  rfl
  refine sa_cons ?_ ?_ sa_nil
  rfl
  refine so_of ?_
  refine se_const ?_
  rfl
  refine sg_name (i := 9) ?_ ?_ ?_ ?_
  exact sc_law.nd
  rfl
  (first | exact Or.inl rfl | exact Or.inr rfl)
  (first | exact Or.inr rfl | exact Or.inl rfl)
  refine ss_cons ?_ ?_
  refine s1_setF (i := 7) ?_ ?_ ?_ ?_ ?_ ?_
  exact sc_law.nd
  rfl
  (first | exact Or.inl rfl | exact Or.inr rfl)
  rfl
  (first | exact Or.inr rfl | exact Or.inl rfl)
  refine sf_callU c_l_bent hr ?_ ?_ ?_ ?_ ?_
  decide
  rfl
  rfl
  rfl
  refine sa_cons ?_ ?_ ?_
  rfl
  refine so_borO (i := 2) ?_ ?_ ?_ ?_
  rfl
  (first | exact Or.inl rfl | exact Or.inr (Or.inl rfl) | exact Or.inr (Or.inr rfl))
  rfl
  rfl
  refine sa_cons ?_ ?_ sa_nil
  rfl
  refine so_of ?_
  refine se_var (i := 7) ?_ ?_ ?_ ?_
  rfl
  (first | exact Or.inl rfl | exact Or.inr (Or.inl rfl) | exact Or.inr (Or.inr rfl))
  rfl
  rfl
  refine ss_cons ?_ ?_
  refine s1_setF (i := 11) ?_ ?_ ?_ ?_ ?_ ?_
  exact sc_law.nd
  rfl
  (first | exact Or.inl rfl | exact Or.inr rfl)
  rfl
  (first | exact Or.inr rfl | exact Or.inl rfl)
  refine sf_callU c_l_read hr ?_ ?_ ?_ ?_ ?_
  decide
  rfl
  rfl
  rfl
  refine sa_cons ?_ ?_ sa_nil
  rfl
  refine so_of ?_
  refine se_var (i := 7) ?_ ?_ ?_ ?_
  rfl
  (first | exact Or.inl rfl | exact Or.inr (Or.inl rfl) | exact Or.inr (Or.inr rfl))
  rfl
  rfl
  refine ss_cons ?_ ?_
  refine s1_set (i := 11) ?_ ?_ ?_ ?_ ?_ ?_
  exact sc_law.nd
  rfl
  (first | exact Or.inl rfl | exact Or.inr rfl)
  rfl
  (first | exact Or.inr rfl | exact Or.inl rfl)
  refine se_ite ?_ ?_ ?_
  refine st_cmp (op := .Is) (hu65 hr) ?_ ?_ ?_
  refine so_borO (i := 11) ?_ ?_ ?_ ?_
  rfl
  (first | exact Or.inl rfl | exact Or.inr (Or.inl rfl) | exact Or.inr (Or.inr rfl))
  rfl
  rfl
  refine so_of ?_
  refine se_const ?_
  rfl
  rfl
  refine se_const ?_
  rfl
  refine se_var (i := 11) ?_ ?_ ?_ ?_
  rfl
  (first | exact Or.inl rfl | exact Or.inr (Or.inl rfl) | exact Or.inr (Or.inr rfl))
  rfl
  rfl
  refine ss_one ?_
  refine s1_if ?_ ?_ ss_nil
  refine st_and ?_ ?_
  refine st_cmp (op := .LtE) (hu65 hr) ?_ ?_ ?_
  refine so_of ?_
  refine SF.se ?_
  refine sf_callB c_len ?_ W.n_len bt_len ?_ ?_ ?_ ?_
  rfl
  decide
  rfl
  rfl
  refine sa_cons ?_ ?_ sa_nil
  rfl
  refine so_borO (i := 7) ?_ ?_ ?_ ?_
  rfl
  (first | exact Or.inl rfl | exact Or.inr (Or.inl rfl) | exact Or.inr (Or.inr rfl))
  rfl
  rfl
  refine so_of ?_
  refine se_const ?_
  rfl
  rfl
  refine st_one ?_
  refine st_not ?_
  refine st_val ?_ ?_
  refine so_of ?_
  refine SF.se ?_
  refine sf_callU c_l_same hr ?_ ?_ ?_ ?_ ?_
  decide
  rfl
  rfl
  rfl
  refine sa_cons ?_ ?_ ?_
  rfl
  refine so_of ?_
  refine SF.se ?_
  refine sf_callU c_l_told hr ?_ ?_ ?_ ?_ ?_
  decide
  rfl
  rfl
  rfl
  refine sa_cons ?_ ?_ ?_
  rfl
  refine so_of ?_
  refine se_var (i := 7) ?_ ?_ ?_ ?_
  rfl
  (first | exact Or.inl rfl | exact Or.inr (Or.inl rfl) | exact Or.inr (Or.inr rfl))
  rfl
  rfl
  refine sa_cons ?_ ?_ sa_nil
  rfl
  refine so_of ?_
  refine se_const ?_
  rfl
  refine sa_cons ?_ ?_ sa_nil
  rfl
  refine so_of ?_
  refine se_var (i := 11) ?_ ?_ ?_ ?_
  rfl
  (first | exact Or.inl rfl | exact Or.inr (Or.inl rfl) | exact Or.inr (Or.inr rfl))
  rfl
  rfl
  exact (fun _ => (by rfl))
  refine ss_one ?_
  refine s1_ret ?_
  refine se_const ?_
  rfl
  refine ss_cons ?_ ?_
  refine s1_setF (i := 4) ?_ ?_ ?_ ?_ ?_ ?_
  exact sc_law.nd
  rfl
  (first | exact Or.inl rfl | exact Or.inr rfl)
  rfl
  (first | exact Or.inr rfl | exact Or.inl rfl)
  refine sf_lst ?_
  refine sa_cons ?_ ?_ ?_
  rfl
  refine so_of ?_
  refine se_const ?_
  rfl
  refine sa_cons ?_ ?_ ?_
  rfl
  refine so_of ?_
  refine se_const ?_
  rfl
  refine sa_cons ?_ ?_ ?_
  rfl
  refine so_of ?_
  refine se_const ?_
  rfl
  refine sa_cons ?_ ?_ ?_
  rfl
  refine so_of ?_
  refine SF.se ?_
  refine sf_lst ?_
  refine sa_cons ?_ ?_ sa_nil
  rfl
  refine so_of ?_
  refine se_const ?_
  rfl
  refine sa_cons ?_ ?_ ?_
  rfl
  refine so_of ?_
  refine se_tup ?_
  refine sa_cons ?_ ?_ sa_nil
  rfl
  refine so_of ?_
  refine se_const ?_
  rfl
  refine sa_cons ?_ ?_ ?_
  rfl
  refine so_of ?_
  exact se_dct0
  refine sa_cons ?_ ?_ ?_
  rfl
  refine so_of ?_
  refine se_const ?_
  rfl
  refine sa_cons ?_ ?_ ?_
  rfl
  refine so_of ?_
  refine se_const ?_
  rfl
  refine sa_cons ?_ ?_ ?_
  rfl
  refine so_of ?_
  refine se_const ?_
  rfl
  refine sa_cons ?_ ?_ ?_
  rfl
  refine so_of ?_
  refine se_const ?_
  rfl
  refine sa_cons ?_ ?_ sa_nil
  rfl
  refine so_of ?_
  refine se_const ?_
  rfl
  refine ss_one ?_
  refine s1_if ?_ ?_ ss_nil
  refine st_cmp (op := .NotEq) (hu65 hr) ?_ ?_ ?_
  refine so_of ?_
  refine SF.se ?_
  refine sf_callU c_l_told hr ?_ ?_ ?_ ?_ ?_
  decide
  rfl
  rfl
  rfl
  refine sa_cons ?_ ?_ ?_
  rfl
  refine so_of ?_
  refine se_idx ?_ ?_ ?_
  exact (fun _ _ => (by rfl))
  refine so_borO (i := 4) ?_ ?_ ?_ ?_
  rfl
  (first | exact Or.inl rfl | exact Or.inr (Or.inl rfl) | exact Or.inr (Or.inr rfl))
  rfl
  rfl
  refine so_of ?_
  refine SF.se ?_
  refine sf_callU c_l_draw hr ?_ ?_ ?_ ?_ ?_
  decide
  rfl
  rfl
  rfl
  refine sa_cons ?_ ?_ ?_
  rfl
  refine so_borO (i := 2) ?_ ?_ ?_ ?_
  rfl
  (first | exact Or.inl rfl | exact Or.inr (Or.inl rfl) | exact Or.inr (Or.inr rfl))
  rfl
  rfl
  refine sa_cons ?_ ?_ sa_nil
  rfl
  refine so_of ?_
  refine se_const ?_
  rfl
  refine sa_cons ?_ ?_ sa_nil
  rfl
  refine so_of ?_
  refine se_const ?_
  rfl
  refine so_of ?_
  refine se_const ?_
  rfl
  rfl
  refine ss_one ?_
  refine s1_ret ?_
  refine se_const ?_
  rfl
  refine ss_one ?_
  refine s1_ret ?_
  refine se_and ?_ ?_
  refine se_cmp (op := .Eq) (hu65 hr) ?_ ?_ ?_
  refine so_of ?_
  refine SF.se ?_
  refine sf_callU c_l_told hr ?_ ?_ ?_ ?_ ?_
  decide
  rfl
  rfl
  rfl
  refine sa_cons ?_ ?_ ?_
  rfl
  refine so_of ?_
  refine se_const ?_
  rfl
  refine sa_cons ?_ ?_ sa_nil
  rfl
  refine so_of ?_
  refine se_const ?_
  rfl
  refine so_of ?_
  refine SF.se ?_
  exact sf_lst sa_nil
  rfl
  refine se_one ?_
  refine se_cmp (op := .Eq) (hu65 hr) ?_ ?_ ?_
  refine so_of ?_
  refine SF.se ?_
  refine sf_callU c_l_told hr ?_ ?_ ?_ ?_ ?_
  decide
  rfl
  rfl
  rfl
  refine sa_cons ?_ ?_ ?_
  rfl
  refine so_of ?_
  refine SF.se ?_
  exact sf_lst sa_nil
  refine sa_cons ?_ ?_ sa_nil
  rfl
  refine so_of ?_
  refine se_const ?_
  rfl
  refine so_of ?_
  refine se_const ?_
  rfl
  rfl
theorem c_law (W : Wd K mg) {f : Addr} {fd : FuncData} (F : FunD K "law" "law" (defArgs s_law) (defBody s_law) (defScope s_law) [] [] f fd) (hm : mg "law" = some (.ref f)) (c_l_source : CalD P w K mg base 1 "_law_source" 2 l_source_den) (c_l_cell_at : CalD P w K mg base 1 "_law_cell_at" 2 l_cell_at_den) (c_l_draw : CalD P w K mg base 1 "_law_draw" 2 l_draw_den) (c_l_written : CalD P w K mg base 1 "_law_written" 1 l_written_den) (c_l_same : CalD P w K mg base 5 "_law_same" 2 (l_same_den 4)) (c_l_told : CalD P w K mg base 4 "_law_told" 2 l_told_den) (c_l_wrong : CalD P w K mg base 2 "_law_wrong" 2 l_wrong_den) (c_l_bent : CalD P w K mg base 2 "_law_bent" 2 l_bent_den) (c_l_read : CalD P w K mg base 2 "_law_read" 1 l_read_den) : CalD P w K mg base 6 "law" 1 law_den := calD (ps := ["_law_script"]) F (o_law W F c_l_source c_l_cell_at c_l_draw c_l_written c_l_same c_l_told c_l_wrong c_l_bent c_l_read) hm fnDen_len (fun _ _ _ _ _ _ us hl => match us, hl with | [_], _ => rfl)
end
end K62
set_option Elab.async false
set_option linter.all false
set_option maxRecDepth 100000
/-! RpU: the meanings, evaluated step by step (simp). -/
namespace Rp
open PySem
section
variable {α β : Type} {a b c d x y z w : D} {e : Env} {i j k n : Nat} {s s0 s1 s2 s3 s4 s5 s6 s7 s8 s9 s10 s11 s12 t : Slot} {l : Env}
@[simp] theorem u_bind {a : α} {f : α → Env → Out β} : Out.bind (.ok a e) f = f a e := (rfl)
@[simp] theorem u_bindx {f : α → Env → Out β} : Out.bind (.exc x e : Out α) f = .exc x e := (rfl)
@[simp] theorem u_of {a : α} : Out.of (some a) e = .ok a e := (rfl)
@[simp] theorem u_stm {a : α} {f : α → Env → Res} : Out.stm (.ok a e) f = f a e := (rfl)
@[simp] theorem u_stmx {f : α → Env → Res} : Out.stm (.exc x e : Out α) f = .exc x e := (rfl)
@[simp] theorem u_thn {f : Env → Res} : Res.thn (.nx e) f = f e := (rfl)
@[simp] theorem u_thnr {f : Env → Res} {q : Bool} : Res.thn (.rt d q e) f = .rt d q e := (rfl)
@[simp] theorem u_thnx {f : Env → Res} : Res.thn (.exc x e) f = .exc x e := (rfl)
@[simp] theorem u_noX {a : α} : noX (.ok a e) = .ok a e := (rfl)
@[simp] theorem g0 : Env.get (s0 :: l) 0 = s0 := (rfl)
@[simp] theorem g1 : Env.get (s0 :: s1 :: l) 1 = s1 := (rfl)
@[simp] theorem g2 : Env.get (s0 :: s1 :: s2 :: l) 2 = s2 := (rfl)
@[simp] theorem g3 : Env.get (s0 :: s1 :: s2 :: s3 :: l) 3 = s3 := (rfl)
@[simp] theorem g4 : Env.get (s0 :: s1 :: s2 :: s3 :: s4 :: l) 4 = s4 := (rfl)
@[simp] theorem g5 : Env.get (s0 :: s1 :: s2 :: s3 :: s4 :: s5 :: l) 5 = s5 := (rfl)
@[simp] theorem g6 : Env.get (s0 :: s1 :: s2 :: s3 :: s4 :: s5 :: s6 :: l) 6 = s6 := (rfl)
@[simp] theorem g7 : Env.get (s0 :: s1 :: s2 :: s3 :: s4 :: s5 :: s6 :: s7 :: l) 7 = s7 := (rfl)
@[simp] theorem g8 : Env.get (s0 :: s1 :: s2 :: s3 :: s4 :: s5 :: s6 :: s7 :: s8 :: l) 8 = s8 := (rfl)
@[simp] theorem g9 : Env.get (s0 :: s1 :: s2 :: s3 :: s4 :: s5 :: s6 :: s7 :: s8 :: s9 :: l) 9 = s9 := (rfl)
@[simp] theorem g10 : Env.get (s0 :: s1 :: s2 :: s3 :: s4 :: s5 :: s6 :: s7 :: s8 :: s9 :: s10 :: l) 10 = s10 := (rfl)
@[simp] theorem g11 : Env.get (s0 :: s1 :: s2 :: s3 :: s4 :: s5 :: s6 :: s7 :: s8 :: s9 :: s10 :: s11 :: l) 11 = s11 := (rfl)
@[simp] theorem g12 : Env.get (s0 :: s1 :: s2 :: s3 :: s4 :: s5 :: s6 :: s7 :: s8 :: s9 :: s10 :: s11 :: s12 :: l) 12 = s12 := (rfl)
@[simp] theorem u_lkv : Slot.look (.val d) = some d := (rfl)
@[simp] theorem u_lko {p : Bool} : Slot.look (.own p d) = some d := (rfl)
@[simp] theorem u_lkl : Slot.look (.lck d) = some d := (rfl)
@[simp] theorem u_lkd {p : Bool} : Slot.look (.lkd p d) = some d := (rfl)
@[simp] theorem u_isv : Slot.isLk (.val d) = false := (rfl)
@[simp] theorem u_iso {p : Bool} : Slot.isLk (.own p d) = false := (rfl)
@[simp] theorem u_isn : Slot.isLk .no = false := (rfl)
@[simp] theorem u_bor : borO i (s :: l) = (Out.of (Env.get (s :: l) i).look (s :: l)).bind fun _ ee => .ok (.s i) ee := (rfl)
@[simp] theorem u_asV {f : Env → Out D} : asV f (s :: l) = (f (s :: l)).bind fun d ee => .ok (.v d) ee := (rfl)
@[simp] theorem u_pure : pureD d (s :: l) = .ok d (s :: l) := (rfl)
@[simp] theorem u_drv : deref (.v d) e = some d := (rfl)
@[simp] theorem u_drs : deref (.s i) e = (e.get i).look := (rfl)
@[simp] theorem u_bin2 {g : D → D → Option D} {fa fb : Env → Out Opd} : bin2 g fa fb (s :: l) = (fa (s :: l)).bind fun a e1 => (fb e1).bind fun b e2 => Out.of ((deref a e2).bind fun x => (deref b e2).bind fun y => g x y) e2 := (rfl)
@[simp] theorem u_rdv (h : e.get i = .val d) : rdVar i e = .ok d e := by unfold rdVar; rw [h]
@[simp] theorem u_bB {f : Env → Out D} : bB f (s :: l) = (f (s :: l)).bind fun d ee => Out.of (asB d) ee := (rfl)
@[simp] theorem u_asB {q : Bool} : asB (.bl q) = some q := (rfl)
@[simp] theorem u_notB {f : Env → Out Bool} : notB f (s :: l) = (f (s :: l)).bind fun b ee => .ok (!b) ee := (rfl)
@[simp] theorem u_truB {f : Env → Out Opd} : truB f (s :: l) = (f (s :: l)).bind fun o ee => Out.of ((deref o ee).bind D.truth) ee := (rfl)
@[simp] theorem u_dSeq {f g : Env → Res} : dSeq f g (s :: l) = (f (s :: l)).thn g := (rfl)
@[simp] theorem u_dNil : dNil (s :: l) = .nx (s :: l) := (rfl)
@[simp] theorem u_dIf {fb : Env → Out Bool} {f g : Env → Res} : dIf fb f g (s :: l) = (fb (s :: l)).stm fun b ee => if b then f ee else g ee := (rfl)
@[simp] theorem u_dRet {f : Env → Out D} : dRet f (s :: l) = (f (s :: l)).stm fun d ee => .rt d false ee := (rfl)
@[simp] theorem u_dRetF {f : Env → Out D} : dRetF f (s :: l) = (f (s :: l)).stm fun d ee => .rt d true ee := (rfl)
@[simp] theorem u_nil : nilA (s :: l) = .ok [] (s :: l) := (rfl)
@[simp] theorem u_cons {f : Env → Out Opd} {fs : Env → Out (List Opd)} : consA f fs (s :: l) = (f (s :: l)).bind fun o ee => (fs ee).bind fun os e2 => .ok (o :: os) e2 := (rfl)
@[simp] theorem u_eqB : cmpD .Eq = D.eqD := (rfl)
@[simp] theorem u_add : binD .Add = D.add := (rfl)
@[simp] theorem u_sub : binD .Sub = D.sub := (rfl)
@[simp] theorem u_mul : binD .Mult = D.mul := (rfl)
@[simp] theorem u_fdiv : binD .FloorDiv = D.fdiv := (rfl)
@[simp] theorem u_mod : binD .Mod = D.mod := (rfl)
@[simp] theorem u_pow : binD .Pow = D.pow := (rfl)
@[simp] theorem u_gt {i j : Int} : cmpD .Gt (.int i) (.int j) = some (.bl (decide (j < i))) := (rfl)
@[simp] theorem u_lt {i j : Int} : cmpD .Lt (.int i) (.int j) = some (.bl (decide (i < j))) := (rfl)
@[simp] theorem u_ge {i j : Int} : cmpD .GtE (.int i) (.int j) = some (.bl (decide (j ≤ i))) := (rfl)
@[simp] theorem u_le {i j : Int} : cmpD .LtE (.int i) (.int j) = some (.bl (decide (i ≤ j))) := (rfl)
@[simp] theorem u_addI {i j : Int} : D.add (.int i) (.int j) = some (.int (i + j)) := (rfl)
@[simp] theorem u_subI {i j : Int} : D.sub (.int i) (.int j) = some (.int (i - j)) := (rfl)
@[simp] theorem u_ixl {ds : List D} {i : Int} : D.idx (.lst ds) (.int i) = L2.atI ds i := (rfl)
@[simp] theorem u_ixt {ds : List D} {i : Int} : D.idx (.tup ds) (.int i) = L2.atI ds i := (rfl)
@[simp] theorem u_ixs {ds : List D} {i : Int} : D.idx (.scr ds) (.int i) = L2.atI ds i := (rfl)
@[simp] theorem u_modI {i j : Int} (h : 0 < j) : D.mod (.int i) (.int j) = some (.int (i % j)) := by simp [D.mod, h]
theorem u_fdivI {i j : Int} (h : 0 < j) (h2 : j.natAbs.log2 < 9000) : D.fdiv (.int i) (.int j) = some (.int (i / j)) := by simp [D.fdiv, h, h2]
theorem u_mulI {i j : Int} (h : mulOk i j = true) : D.mul (.int i) (.int j) = some (.int (i * j)) := by simp [D.mul, h]
theorem u_mulL {i j : Int} (h : -(2 ^ 64) < i) (h2 : i < 2 ^ 64) : D.mul (.int i) (.int j) = some (.int (i * j)) := u_mulI (by simp only [mulOk, h, h2, decide_true, Bool.and_self, Bool.true_or])
theorem u_powI {i j : Int} (h : powOk i j = true) : D.pow (.int i) (.int j) = some (.int (i ^ j.toNat)) := by simp [D.pow, h]
@[simp] theorem at0 {ds : List D} : L2.atI (a :: ds) 0 = some a := by simp [L2.atI, L2.ixN]
@[simp] theorem at1 {ds : List D} : L2.atI (a :: b :: ds) 1 = some b := by
  unfold L2.atI L2.ixN; simp; rw [if_pos (by omega)]; rfl
@[simp] theorem at2 {ds : List D} : L2.atI (a :: b :: c :: ds) 2 = some c := by
  unfold L2.atI L2.ixN; simp; rw [if_pos (by omega)]; rfl
@[simp] theorem at3 {ds : List D} : L2.atI (a :: b :: c :: d :: ds) 3 = some d := by
  unfold L2.atI L2.ixN; simp; rw [if_pos (by omega)]; rfl
@[simp] theorem u_ownl {p : Bool} {ds : List D} : ownL (.own p (.lst ds)) = some (p, ds) := (rfl)
end

/-- a comprehension without a condition: the elements -/
theorem lcL_map {vs : List Nat} {g : D → Env → Option Env} {f : Env → Out D} {e : Env} {F : D → D} : ∀ {xs : List D}, (∀ x ∈ xs, ∃ e1 e2, g x e = some e1 ∧ f e1 = .ok (F x) e2 ∧ wipeE e2 vs = e) →
    lcL vs g (fun env => .ok true env) f xs e = .ok (xs.map F) e
  | [], _ => rfl
  | x :: xs, h => by
    obtain ⟨e1, e2, h1, h2, h3⟩ := h x (List.mem_cons_self ..)
    have ih := lcL_map (xs := xs) fun y hy => h y (List.mem_cons_of_mem _ hy)
    simp only [lcL, h1, noX, u_bind, if_true, h2, h3, ih, List.map_cons]
/-- a loop by an invariant: each turn keeps it -/
theorem forL_inv {g : D → Env → Option Env} {f : Env → Res} (I : Nat → Env → Prop) {e : Env} : ∀ {xs : List D} {k : Nat}, (∀ i x e, xs[i]? = some x → I (k + i) e → ∃ e1 e2, g x e = some e1 ∧ f e1 = .nx e2 ∧ I (k + i + 1) e2) → I k e → ∃ e', forL g f xs e = .nx e' ∧ I (k + xs.length) e'
  | [], k, _, h0 => ⟨e, rfl, h0⟩
  | x :: xs, k, h, h0 => by
    obtain ⟨e1, e2, h1, h2, h3⟩ := h 0 x e rfl h0
    obtain ⟨e', h4, h5⟩ := forL_inv (xs := xs) (k := k + 1) (e := e2) I (fun i y e hy hi => by
      have := h (i + 1) y e (by simpa using hy) (by rw [show k + (i + 1) = k + 1 + i by omega]; exact hi)
      rwa [show k + (i + 1) + 1 = k + 1 + i + 1 by omega] at this) h3
    refine ⟨e', ?_, by rw [List.length_cons, show k + (xs.length + 1) = k + 1 + xs.length by omega]; exact h5⟩
    simp only [forL, h1, h2, h4]
end Rp
set_option Elab.async false
set_option linter.all false
set_option maxRecDepth 100000
/-! RpV: shapes that == can compare, equal data, calls by their meaning. -/
namespace Rp
open PySem
/-- data that == compares, of a depth -/
def Sh (n : Nat) (d : D) : Prop := d.py.canLay0 = true ∧ d.py.depth ≤ n
theorem lay_all : ∀ ds : List D, PyData.canLayAll0 (D.pys ds) = true ↔ ∀ d ∈ ds, d.py.canLay0 = true
  | [] => by simp [D.pys, PyData.canLayAll0]
  | d :: ds => by simp [D.pys, PyData.canLayAll0, lay_all ds]
theorem depth_all {n : Nat} : ∀ ds : List D, PyData.depthAll (D.pys ds) ≤ n ↔ ∀ d ∈ ds, d.py.depth ≤ n
  | [] => by simp [D.pys, PyData.depthAll]
  | d :: ds => by simp [D.pys, PyData.depthAll, Nat.max_le, depth_all ds]
theorem Sh.non {n : Nat} : Sh n .non := ⟨rfl, by simp [D.py, PyData.depth]⟩
theorem Sh.bl {n : Nat} {b : Bool} : Sh n (.bl b) := ⟨rfl, by simp [D.py, PyData.depth]⟩
theorem Sh.int {n : Nat} {i : Int} : Sh n (.int i) := ⟨rfl, by simp [D.py, PyData.depth]⟩
theorem Sh.str {n : Nat} {x : Str} (h : PyData.strOk x = true) : Sh n (.str x) := ⟨by simpa [D.py, PyData.canLay0] using h, by simp [D.py, PyData.depth]⟩
theorem Sh.lst {n : Nat} {ds : List D} (h : ∀ d ∈ ds, Sh n d) : Sh (n + 1) (.lst ds) :=
  ⟨by simpa [D.py, PyData.canLay0] using (lay_all ds).mpr fun d m => (h d m).1, by simp only [D.py, PyData.depth]; exact Nat.succ_le_succ ((depth_all ds).mpr fun d m => (h d m).2)⟩
theorem Sh.tup {n : Nat} {ds : List D} (h : ∀ d ∈ ds, Sh n d) : Sh (n + 1) (.tup ds) :=
  ⟨by simpa [D.py, PyData.canLay0] using (lay_all ds).mpr fun d m => (h d m).1, by simp only [D.py, PyData.depth]; exact Nat.succ_le_succ ((depth_all ds).mpr fun d m => (h d m).2)⟩
theorem Sh.mono {n m : Nat} {d : D} (h : Sh n d) (l : n ≤ m) : Sh m d := ⟨h.1, Nat.le_trans h.2 l⟩
theorem Sh.shp {n : Nat} {d : D} (h : Sh n d) (l : n ≤ 64) : d.shp = true := by
  have := Nat.le_trans h.2 l
  simp [D.shp, SeqAt.shaped, h.1, this]
theorem eq_of {n m : Nat} {a b : D} (ha : Sh n a) (hb : Sh m b) (l : n ≤ 64) (k : m ≤ 64) : D.eqD a b = some (.bl (a.eqq b)) := by
  simp [D.eqD, ha.shp l, hb.shp k]
theorem ne_of {n m : Nat} {a b : D} (ha : Sh n a) (hb : Sh m b) (l : n ≤ 64) (k : m ≤ 64) : D.neD a b = some (.bl (!a.eqq b)) := by
  simp [D.neD, ha.shp l, hb.shp k]
theorem eqq_non (d : D) (h : d.py.canLay0 = true) : D.eqq d .non = d.isN := by
  cases d <;> simp [D.eqq, D.py, PyData.eqv, D.isN] <;> simp [D.py, PyData.canLay0] at h
theorem inB_non {n : Nat} {ds : List D} (h : ∀ d ∈ ds, Sh n d) : D.inB .non ds = ds.any D.isN := by
  unfold D.inB
  induction ds with
  | nil => rfl
  | cons d ds ih =>
    rw [List.any_cons, List.any_cons, ih fun x m => h x (List.mem_cons_of_mem _ m), eqq_non d (h d (List.mem_cons_self ..)).1]
/-- None in a list -/
theorem in_non {n : Nat} {ds : List D} (h : ∀ d ∈ ds, Sh n d) (l : n < 64) : D.inD .non (.lst ds) = some (.bl (ds.any D.isN)) := by
  show (if (true && ds.all D.flat) = true then some (D.bl (D.inB .non ds)) else if (D.shp .non && (D.lst ds).shp) = true then some (D.bl (D.inB .non ds)) else none) = _
  rw [inB_non h, (Sh.lst h).shp l]
  simp [D.shp, SeqAt.shaped, D.py, PyData.canLay0, PyData.depth]
mutual
theorem eqv_same : ∀ d : PyData, d.canLay0 = true → PyData.eqv d d = true
  | .none, _ => rfl
  | .bool b, _ => by simp [PyData.eqv]
  | .int i, _ => by simp [PyData.eqv]
  | .str x, _ => by simp [PyData.eqv]
  | .list xs, h => by simp only [PyData.eqv]; exact eqvs_same xs (by simpa [PyData.canLay0] using h)
  | .tuple xs, h => by simp only [PyData.eqv]; exact eqvs_same xs (by simpa [PyData.canLay0] using h)
  | .dict _, h => by simp [PyData.canLay0] at h
theorem eqvs_same : ∀ ds : List PyData, PyData.canLayAll0 ds = true → PyData.eqvAll ds ds = true
  | [], _ => rfl
  | d :: ds, h => by
    simp only [PyData.canLayAll0, Bool.and_eq_true] at h
    simp only [PyData.eqvAll, eqv_same d h.1, eqvs_same ds h.2, Bool.and_self]
end
theorem eqq_same {n : Nat} {d : D} (h : Sh n d) : D.eqq d d = true := eqv_same _ h.1
section
variable {e e' e1 : Env} {fresh b : Bool} {r d d1 d2 d3 : D} {den : List Arg → Res} {x : D} {i : Nat}
@[simp] theorem u_callU {fs : Env → Out (List Opd)} : callU fresh den fs e = (fs e).bind fun os e => callR fresh den os e := (rfl)
theorem call1 (h : den [.v d] = .rt r b e') (hb : (fresh && isLst r && !b) = false) : callR fresh den [.v d] e = .ok r e := by
  simp [callR, argsOf, lents, h, hb, putBk]
theorem call2 (h : den [.v d, .v d2] = .rt r b e') (hb : (fresh && isLst r && !b) = false) : callR fresh den [.v d, .v d2] e = .ok r e := by
  simp [callR, argsOf, lents, h, hb, putBk]
theorem call3 (h : den [.v d, .v d2, .v d3] = .rt r b e') (hb : (fresh && isLst r && !b) = false) : callR fresh den [.v d, .v d2, .v d3] e = .ok r e := by
  simp [callR, argsOf, lents, h, hb, putBk]
theorem call1x (h : den [.v d] = .exc x e') : callR fresh den [.v d] e = .exc x e := by
  simp [callR, argsOf, lents, h, putBk]
theorem call1K (h : den [.v d] = .rt r b e') (hb : (fresh && isLst r && !b) = false) {fs : Env → Out (List Opd)} (hf : fs e = .ok [.v d] e1) : callKU fresh 1 [0] den fs e = .ok r e1 := by
  unfold callKU; rw [hf]; show (if ([Opd.v d] : List Opd).length = 1 then callR fresh den (pm [0] [.v d]) e1 else .bad) = _
  rw [if_pos (by rfl)]; exact call1 h hb
theorem call1Kx (h : den [.v d] = .exc x e') {fs : Env → Out (List Opd)} (hf : fs e = .ok [.v d] e1) : callKU fresh 1 [0] den fs e = .exc x e1 := by
  unfold callKU; rw [hf]; show (if ([Opd.v d] : List Opd).length = 1 then callR fresh den (pm [0] [.v d]) e1 else .bad) = _
  rw [if_pos (by rfl)]; exact call1x h
end
@[simp] theorem u_lenOk {n : Nat} : lenOk n = decide (n ≤ 16777216) := by unfold lenOk; rw [sizeLine_eq]
@[simp] theorem u_sizeLine : sizeLine = 16777216 := sizeLine_eq
/-! ### the constructs at a concrete frame -/
section
variable {s t : Slot} {l : Env} {i j n : Nat} {d : D} {ds xs : List D} {fe fi fa' : Env → Out D} {fs : Env → Out (List Opd)} {fa fb : Env → Out Opd} {f g : Env → Res} {q : Env → Out Bool} {gt : D → Env → Option Env} {gs : List D → Env → Option Env} {x : D} {b p : Bool} {z : Str} {k : Int}
@[simp] theorem u_setL : setO i (.lst ds) (s :: l) = if (decide (i < (s :: l).length) && !(Env.get (s :: l) i).isLk) = true then some (List.set (s :: l) i (.own false (.lst ds))) else none := (rfl)
@[simp] theorem u_setT : setO i (.tup ds) (s :: l) = if (decide (i < (s :: l).length) && !(Env.get (s :: l) i).isLk) = true then some (List.set (s :: l) i (.val (.tup ds))) else none := (rfl)
@[simp] theorem u_setI : setO i (.int k) (s :: l) = if (decide (i < (s :: l).length) && !(Env.get (s :: l) i).isLk) = true then some (List.set (s :: l) i (.val (.int k))) else none := (rfl)
@[simp] theorem u_setS : setO i (.str z) (s :: l) = if (decide (i < (s :: l).length) && !(Env.get (s :: l) i).isLk) = true then some (List.set (s :: l) i (.val (.str z))) else none := (rfl)
@[simp] theorem u_setB : setO i (.bl b) (s :: l) = if (decide (i < (s :: l).length) && !(Env.get (s :: l) i).isLk) = true then some (List.set (s :: l) i (.val (.bl b))) else none := (rfl)
@[simp] theorem u_setNo : setO i .non (s :: l) = if (decide (i < (s :: l).length) && !(Env.get (s :: l) i).isLk) = true then some (List.set (s :: l) i (.val .non)) else none := (rfl)
@[simp] theorem u_setN : setN i d (s :: l) = if (decide (i < (s :: l).length) && !(Env.get (s :: l) i).isLk) = true then some (List.set (s :: l) i (.val d)) else none := (rfl)
@[simp] theorem u_dSetF : dSetF i fe (s :: l) = (fe (s :: l)).stm fun d ee => match setO i d ee with
  | some e' => .nx e'
  | none => .bad := (rfl)
@[simp] theorem u_dSet : dSet i fe (s :: l) = (fe (s :: l)).stm fun d ee => match setN i d ee with
  | some e' => .nx e'
  | none => .bad := (rfl)
@[simp] theorem u_dAsg : dAsg gt fe (s :: l) = (fe (s :: l)).stm fun d ee => match gt d ee with
  | some e' => .nx e'
  | none => .bad := (rfl)
@[simp] theorem u_gLst : gLstD n gs (.lst ds) (s :: l) = if ds.length = n then gs ds (s :: l) else none := (rfl)
@[simp] theorem u_gTup : gTupD n gs (.tup ds) (s :: l) = if ds.length = n then gs ds (s :: l) else none := (rfl)
@[simp] theorem u_gCons : gConsD gt gs (d :: ds) (s :: l) = (gt d (s :: l)).bind fun e1 => gs ds e1 := (rfl)
@[simp] theorem u_gNil : gNilD [] (s :: l) = some (s :: l) := (rfl)
@[simp] theorem u_dFor {it : Env → Out ItD} : dFor it gt f (s :: l) = (it (s :: l)).stm fun p e0 => match p.2 with
  | none => forL gt f p.1 e0
  | some i => match e0.get i with
    | .own par _ => unlockR par i (forL gt f p.1 (lockE e0 i))
    | _ => .bad := (rfl)
@[simp] theorem u_forN : forL gt f [] (s :: l) = .nx (s :: l) := (rfl)
@[simp] theorem u_forC : forL gt f (x :: xs) (s :: l) = match gt x (s :: l) with
  | none => .bad
  | some e1 => match f e1 with
    | .nx e2 => forL gt f xs e2
    | .bk e2 => .nx e2
    | .rt d b e2 => .rt d b e2
    | .exc x e2 => .exc x e2
    | .bad => .bad := (rfl)
@[simp] theorem u_lstI : lstI fe (s :: l) = (fe (s :: l)).bind fun d ee => match d with
  | .lst xs => .ok (xs, none) ee
  | .scr xs => .ok (xs, none) ee
  | _ => .bad := (rfl)
@[simp] theorem u_tupI : tupI fe (s :: l) = (fe (s :: l)).bind fun d ee => match d with
  | .tup xs => .ok (xs, none) ee
  | _ => .bad := (rfl)
@[simp] theorem u_strI : strI fe (s :: l) = (fe (s :: l)).bind fun d ee => match d with
  | .str x => .ok (x.cps.toList.map fun c => .str ⟨#[c]⟩, none) ee
  | _ => .bad := (rfl)
@[simp] theorem u_rng1I : rng1I fs (s :: l) = (fs (s :: l)).bind fun os ee => match valsO os with
  | some [.int j] => if rOk j then .ok (rngL 0 j.toNat, none) ee else .bad
  | _ => .bad := (rfl)
@[simp] theorem u_borI : borI i (s :: l) = match Env.get (s :: l) i with
  | .own _ (.lst xs) => .ok (xs, some i) (s :: l)
  | .lck (.lst xs) => .ok (xs, none) (s :: l)
  | .lkd _ (.lst xs) => .ok (xs, none) (s :: l)
  | .val (.lst xs) => .ok (xs, none) (s :: l)
  | _ => .bad := (rfl)
@[simp] theorem u_strM {h : Str → D → Option D} : strM h fa fb (s :: l) = (fa (s :: l)).bind fun o e1 => match (deref o e1).bind isStr with
  | some z => (fb e1).bind fun o2 e2 => Out.of ((deref o2 e2).bind (h z)) e2
  | none => .bad := (rfl)
@[simp] theorem u_isStr : isStr (.str z) = some z := (rfl)
@[simp] theorem u_slice {lo hi : Env → Out (Option Int)} : sliceD fa lo hi (s :: l) = (fa (s :: l)).bind fun o e1 => (lo e1).bind fun lo e2 => (hi e2).bind fun hi e3 => Out.of ((deref o e3).bind fun d => d.cut lo hi) e3 := (rfl)
@[simp] theorem u_gap : gapP (s :: l) = .ok none (s :: l) := (rfl)
@[simp] theorem u_part : partP fe (s :: l) = (fe (s :: l)).bind fun d ee => match asI d with
  | some i => .ok (some i) ee
  | none => .bad := (rfl)
@[simp] theorem u_asI : asI (.int k) = some k := (rfl)
@[simp] theorem u_rdVar : rdVar i (s :: l) = match Env.get (s :: l) i with
  | .val d => .ok d (s :: l)
  | .own false d => .ok d (List.set (s :: l) i (.val d))
  | .lck d => if d.flat then .ok d (s :: l) else .bad
  | _ => .bad := (rfl)
@[simp] theorem u_callD {h : List D → Option D} : callD h fs (s :: l) = (fs (s :: l)).bind fun os ee => Out.of ((derefs os ee).bind h) ee := (rfl)
@[simp] theorem u_drs0 : derefs [] (s :: l) = some [] := (rfl)
@[simp] theorem u_drsC {o : Opd} {os : List Opd} : derefs (o :: os) (s :: l) = (deref o (s :: l)).bind fun d => (derefs os (s :: l)).map (d :: ·) := (rfl)
@[simp] theorem u_dispD {h : List D → D} : dispD h fs (s :: l) = (fs (s :: l)).bind fun os ee => match valsO os with
  | some ds => if lenOk ds.length then .ok (h ds) ee else .bad
  | none => .bad := (rfl)
@[simp] theorem u_vals0 : valsO [] = some [] := (rfl)
@[simp] theorem u_valsC {os : List Opd} : valsO (.v d :: os) = (valsO os).map (d :: ·) := (rfl)
@[simp] theorem u_ite {α : Type} {u v : Env → Out α} : iteV q u v (s :: l) = (q (s :: l)).bind fun c ee => if c then u ee else v ee := (rfl)
@[simp] theorem u_orB {q2 : Env → Out Bool} : orB q q2 (s :: l) = (q (s :: l)).bind fun c ee => if c then .ok true ee else q2 ee := (rfl)
@[simp] theorem u_andB {q2 : Env → Out Bool} : andB q q2 (s :: l) = (q (s :: l)).bind fun c ee => if c then q2 ee else .ok false ee := (rfl)
@[simp] theorem u_orV : orV fe fi (s :: l) = (fe (s :: l)).bind fun d ee => match d.truth with
  | some true => .ok d ee
  | some false => fi ee
  | none => .bad := (rfl)
@[simp] theorem u_andV : andV fe fi (s :: l) = (fe (s :: l)).bind fun d ee => match d.truth with
  | some true => fi ee
  | some false => .ok d ee
  | none => .bad := (rfl)
@[simp] theorem u_truB1 : D.truth (.bl b) = some b := (rfl)
@[simp] theorem u_notV : notV fa (s :: l) = (notB (truB fa) (s :: l)).bind fun b ee => .ok (.bl b) ee := (rfl)
@[simp] theorem u_negV : negV fe (s :: l) = (fe (s :: l)).bind fun d ee => Out.of (negD d) ee := (rfl)
@[simp] theorem u_negI : negD (.int k) = some (.int (-k)) := (rfl)
@[simp] theorem u_lcD {vs : List Nat} {it : Env → Out ItD} : lcD vs it gt q fe (s :: l) = (it (s :: l)).bind fun p e0 => if (decide (p.1.length < sizeLine) && vs.all (fun i => plainS (e0.get i))) = true then
      match p.2 with
      | none => (lcL vs gt q fe p.1 (wipeE e0 vs)).bind fun ds e => .ok (.lst ds) (backE e0 e vs)
      | some i => match e0.get i with
        | .own par _ => (lcL vs gt q fe p.1 (wipeE (lockE e0 i) vs)).bind fun ds e => match unlockE par (backE (lockE e0 i) e vs) i with
          | some e' => .ok (.lst ds) e'
          | none => .bad
        | _ => .bad
    else .bad := (rfl)
@[simp] theorem u_lc0 {vs : List Nat} : lcL vs gt q fe [] (s :: l) = .ok [] (s :: l) := (rfl)
@[simp] theorem u_lcC {vs : List Nat} : lcL vs gt q fe (x :: xs) (s :: l) = match gt x (s :: l) with
    | some e1 => (noX (q e1)).bind fun b e2 => if b then (noX (fe e2)).bind fun d e3 => (lcL vs gt q fe xs (wipeE e3 vs)).bind fun ds e4 => .ok (d :: ds) e4 else lcL vs gt q fe xs (wipeE e2 vs)
    | none => .bad := (rfl)
@[simp] theorem u_wip0 : wipeE (s :: l) [] = s :: l := (rfl)
@[simp] theorem u_wip {vs : List Nat} : wipeE (s :: l) (i :: vs) = List.set (wipeE (s :: l) vs) i .no := (rfl)
@[simp] theorem u_bk0 {e0 : Env} : backE e0 (s :: l) [] = s :: l := (rfl)
@[simp] theorem u_bk {e0 : Env} {vs : List Nat} : backE e0 (s :: l) (i :: vs) = List.set (backE e0 (s :: l) vs) i (e0.get i) := (rfl)
@[simp] theorem u_plv : plainS (.val d) = true := (rfl)
@[simp] theorem u_pln : plainS .no = true := (rfl)
@[simp] theorem u_dApp : dApp i fe (s :: l) = if (ownL (Env.get (s :: l) i)).isNone then .bad else (fe (s :: l)).stm fun d ee => match ownL (Env.get ee i) with
  | some (par, ds) => if decide (ds.length < sizeLine) then .nx (List.set ee i (.own par (.lst (ds ++ [d])))) else .bad
  | none => .bad := (rfl)
@[simp] theorem u_dRetO : dRetO i (s :: l) = match Env.get (s :: l) i with
  | .own false d => .rt d true (List.set (s :: l) i .no)
  | .val d => .rt d false (s :: l)
  | .lck d => if d.flat then .rt d false (s :: l) else .bad
  | _ => .bad := (rfl)
@[simp] theorem u_dRaise : dRaise z (s :: l) = .exc (.str z) (s :: l) := (rfl)
@[simp] theorem u_lendB : lendB q (s :: l) = match q (lendE (s :: l)) with
  | .ok b _ => .ok b (s :: l)
  | .exc x _ => .exc x (s :: l)
  | .bad => .bad := (rfl)
@[simp] theorem u_len0 : lendE [] = [] := (rfl)
@[simp] theorem u_lenC : lendE (s :: l) = lendS s :: lendE l := (rfl)
@[simp] theorem u_isiD {Ts : List String} : isiD Ts fa (s :: l) = (fa (s :: l)).bind fun o ee => Out.of ((((deref o ee).bind D.tyN).bind fun t => isTy t Ts).map .bl) ee := (rfl)
@[simp] theorem u_joinF {h : Str → Env → Out Str} : joinF h (s :: l) = (h Str.empty (s :: l)).bind fun z ee => .ok (.str z) ee := (rfl)
@[simp] theorem u_nilJ {acc : Str} : nilJ acc (s :: l) = .ok acc (s :: l) := (rfl)
@[simp] theorem u_conJ {h : Str → Env → Out Str} {acc : Str} : conJ z h acc (s :: l) = if lenOk (acc ++ z).length then h (acc ++ z) (s :: l) else .bad := (rfl)
@[simp] theorem u_fmtJ {h : Str → Env → Out Str} {acc : Str} : fmtJ fe h acc (s :: l) = (fe (s :: l)).bind fun d ee => match fmtD d with | some y => if lenOk (acc ++ y).length then h (acc ++ y) ee else .bad | none => .bad := (rfl)
@[simp] theorem u_fnDen {np : Nat} {body : Env → Res} {args : List Arg} : fnDen n np body args = if args.length = np then (body (startE n args)).chk args else .bad := (rfl)
end
@[simp] theorem u_cIn : cmpD .In = D.inD := (rfl)
@[simp] theorem u_cNe : cmpD .NotEq = D.neD := (rfl)
@[simp] theorem u_cIs : cmpD .Is = D.isD := (rfl)
@[simp] theorem u_cIsn : cmpD .IsNot = D.isnD := (rfl)
@[simp] theorem u_isNon {d : D} : D.isD d .non = some (.bl d.isN) := by cases d <;> rfl
@[simp] theorem u_isnNon {d : D} : D.isnD d .non = some (.bl (!d.isN)) := by cases d <;> rfl
@[simp] theorem u_dTryC {s : Slot} {l : Env} {i : Nat} {f : Env → Res} {h : Str → Option D} : dTryC i f h (s :: l) = match f (s :: l) with
  | .exc (.str nm) e => if decide (i < e.length) && !(e.get i).isLk then (match h nm with
      | some d => .rt d false (e.set i .no)
      | none => .bad) else .bad
  | .exc _ _ => .bad
  | .nx e => .nx e
  | .rt d b e => .rt d b e
  | .bk e => .bk e
  | .bad => .bad := (rfl)
/-- the elements one by one, each by the frame it is asked in -/
theorem lc_map {vs : List Nat} {s : Slot} {l : Env} {it : Env → Out ItD} {g : D → Env → Option Env} {f : Env → Out D} {F : D → D} {xs : List D} (hi : it (s :: l) = .ok (xs, none) (s :: l)) (hl : xs.length < 16777216) (hp : vs.all (fun i => plainS (Env.get (s :: l) i)) = true) (hb : backE (s :: l) (wipeE (s :: l) vs) vs = s :: l)
    (h : ∀ x ∈ xs, ∃ e1 e2, g x (wipeE (s :: l) vs) = some e1 ∧ f e1 = .ok (F x) e2 ∧ wipeE e2 vs = wipeE (s :: l) vs) : lcD vs it g (fun env => .ok true env) f (s :: l) = .ok (.lst (xs.map F)) (s :: l) := by
  rw [u_lcD, hi]
  have hl' : xs.length < sizeLine := by rw [sizeLine_eq]; exact hl
  simp only [u_bind, hl', decide_true, hp, Bool.and_self, if_true]
  rw [lcL_map h]
  simp only [u_bind, hb]
section
open PySem.Spec PyProof.Rows L2
theorem p62 : (2 : Int) ^ 62 = 4611686018427387904 := by decide +kernel
theorem rOk_b {n : Nat} (hn : n < 16777216) : -(4611686018427387904) ≤ (n : Int) ∧ (n : Int) < 4611686018427387904 := ⟨by omega, by omega⟩
theorem rOk_nat {n : Nat} (h : n < 16777216) : rOk (n : Int) = true := by
  unfold rOk
  rw [Bool.and_eq_true, decide_eq_true_eq, decide_eq_true_eq, p62]
  exact rOk_b h
end
def rngG (os : List Opd) (e : Env) : Out ItD := match valsO os with
  | some [.int j] => if rOk j then .ok (rngL 0 j.toNat, none) e else .bad
  | _ => .bad
theorem rng_eq {fs : Env → Out (List Opd)} {e : Env} : rng1I fs e = (fs e).bind rngG := rfl
theorem rngG_at {n : Nat} {e1 : Env} (r : rOk (n : Int) = true) : rngG [.v (.int (n : Int))] e1 = .ok (rngL 0 n, none) e1 := by
  unfold rngG
  simp [r]
theorem rng1_at {n : Nat} {fs : Env → Out (List Opd)} {e e1 : Env} (h : fs e = .ok [.v (.int (n : Int))] e1) (hn : n < 16777216) : rng1I fs e = .ok (rngL 0 n, none) e1 := by
  rw [rng_eq, h, u_bind, rngG_at (rOk_nat hn)]
theorem at_nat {α : Type} {ds : List α} {i : Nat} (h : i < ds.length) : L2.atI ds (i : Int) = some ds[i] := by
  unfold L2.atI L2.ixN
  simp [h]
end Rp
set_option Elab.async false
set_option linter.all false
set_option maxRecDepth 100000
namespace K62
open PySem Rp
theorem bits_le {i : Int} {k : Nat} (h0 : 0 ≤ i) (h : i < 2 ^ k) : Builtin.Int.intBits i ≤ k := by
  unfold Builtin.Int.intBits
  split
  · omega
  · rename_i hz
    have hz' : i ≠ 0 := by simpa using hz
    have : i.natAbs < 2 ^ k := by
      have e : (i.natAbs : Int) = i := Int.natAbs_of_nonneg h0
      have : (i.natAbs : Int) < (2 : Int) ^ k := by rw [e]; exact h
      exact_mod_cast this
    have h3 := (Nat.log2_lt (by omega)).mpr this
    exact h3
theorem powOk_by {i j : Int} {k : Nat} (h0 : 0 ≤ i) (h : i < 2 ^ k) (hj : 0 ≤ j) (hk : (k : Int) * j ≤ 1000000) : powOk i j = true := by
  unfold powOk
  simp only [hj, decide_true, Bool.true_and, decide_eq_true_eq]
  have : ((Builtin.Int.intBits i : Nat) : Int) ≤ k := by exact_mod_cast bits_le h0 h
  exact Int.le_trans (Int.mul_le_mul_of_nonneg_right this hj) hk
theorem draw1 (a b c n : Int) (hn : 1 ≤ n) (h2 : n.natAbs.log2 < 9000) (ha : 1 < a) : l_draw_den [.m (.lst [.int a, .int b, .int c]), .v (.int n)] = .rt (.int (a % n)) false [.own true (.lst [.int (a / n), .int b, .int c]), .val (.int n), .no, .val (.int (a % n))] := by
  have hn0 : 0 < n := by omega
  simp [l_draw_den, fnDen, startE, Arg.slot, l_draw_b, ha, dSet, setN, D.fdiv, hn0, h2, dPut, L2.ixN, dRetO, Res.chk, backsOk]
def mix1 (b c : Int) : Int := (b + 1299709 * (c + 1)) ^ 3 % 162259276829213363391578010288127
def mix2 (b c : Int) : Int := (mix1 b c + 15485863 * (c + 1)) ^ 5 % 618970019642690137449562111
theorem draw2 (a b c n : Int) (hn : 1 ≤ n) (ha : ¬ 1 < a) (hb : 0 ≤ b) (hb2 : b < 2 ^ 128) (hc : 0 ≤ c) (hc2 : c < 2 ^ 32) : l_draw_den [.m (.lst [.int a, .int b, .int c]), .v (.int n)] = .rt (.int (mix2 b c / 1048576 % n)) false [.own true (.lst [.int a, .int b, .int (c + 1)]), .val (.int n), .val (.int (mix2 b c)), .no] := by
  have hn0 : 0 < n := by omega
  have p1 : powOk (b + 1299709 * (c + 1)) 3 = true := powOk_by (k := 200) (by omega) (by omega) (by decide) (by decide)
  have m1 : 0 ≤ mix1 b c ∧ mix1 b c < 162259276829213363391578010288127 := ⟨Int.emod_nonneg _ (by decide), Int.emod_lt_of_pos _ (by decide)⟩
  have p2 : powOk (mix1 b c + 15485863 * (c + 1)) 5 = true := powOk_by (k := 200) (by omega) (by omega) (by decide) (by decide)
  simp [l_draw_den, fnDen, startE, Arg.slot, l_draw_b, ha, dSet, setN, D.mod, D.fdiv, hn0, dPut, L2.ixN, dRetO, Res.chk, backsOk, D.mul, mulOk, D.pow, p1]
  have e1 : (b + 1299709 * (c + 1)) ^ 3 % 162259276829213363391578010288127 = mix1 b c := rfl
  have e2 : (mix1 b c + 15485863 * (c + 1)) ^ 5 % 618970019642690137449562111 = mix2 b c := rfl
  have l : Nat.log2 1048576 < 9000 := by decide +kernel
  simp [e1, p2, e2, l, D.fdiv, D.mod, hn0, backsOk]
def Src (N : Int) (d : D) : Prop := ∃ a b c, d = .lst [.int a, .int b, .int c] ∧ 0 ≤ b ∧ b < 2 ^ 128 ∧ 0 ≤ c ∧ c ≤ N
theorem draw_ok {N n : Int} {d : D} (s : Src N d) (hN : N < 2 ^ 31) (hn : 1 ≤ n) (h2 : n.natAbs.log2 < 9000) : ∃ r d' l, 0 ≤ r ∧ r < n ∧ Src (N + 1) d' ∧ l_draw_den [.m d, .v (.int n)] = .rt (.int r) false (.own true d' :: l) := by
  obtain ⟨a, b, c, rfl, hb, hb2, hc, hc2⟩ := s
  by_cases ha : 1 < a
  · exact ⟨a % n, _, _, Int.emod_nonneg _ (by omega), Int.emod_lt_of_pos _ (by omega), ⟨a / n, b, c, rfl, hb, hb2, hc, by omega⟩, draw1 a b c n hn h2 ha⟩
  · exact ⟨mix2 b c / 1048576 % n, _, _, Int.emod_nonneg _ (by omega), Int.emod_lt_of_pos _ (by omega), ⟨a, b, c + 1, rfl, hb, hb2, by omega, by omega⟩, draw2 a b c n hn ha hb hb2 hc (by omega)⟩
theorem draw_call {N n : Int} {d : D} {e : Rp.Env} {i : Nat} {p : Bool} (h : e.get i = .own p d) (s : Src N d) (hN : N < 2 ^ 31) (hn : 1 ≤ n) (h2 : n.natAbs.log2 < 9000) :
    ∃ r d', 0 ≤ r ∧ r < n ∧ Src (N + 1) d' ∧ callR true l_draw_den [.s i, .v (.int n)] e = .ok (.int r) (e.set i (.own p d')) := by
  obtain ⟨r, d', l, h0, h1, hs, he⟩ := draw_ok s hN hn h2
  exact ⟨r, d', h0, h1, hs, by simp [callR, argsOf, h, lents, he, isLst, putBk]⟩
theorem source_ok (cell : Int) (k : Nat) (hk : k < 64) : ∃ d e, l_source_den [.v (.int cell), .v (.int k)] = .rt d true e ∧ Src 0 d := by
  refine ⟨.lst [.int (if cell - 10 ^ 18 > 0 then cell - 10 ^ 18 else 0), .int (cell % 162259276829213363391578010288127 + 7919 * (k + 1)), .int 0], [.val (.int cell), .val (.int k)], ?_, _, _, _, rfl, ?_, ?_, by decide, by decide⟩
  · have p : powOk 10 18 = true := by decide +kernel
    have l : lenOk 3 = true := by decide +kernel
    simp [l_source_den, fnDen, startE, Arg.slot, l_source_b, u_mulL, u_powI p, callD, derefs, maxD, dispD, valsO, l, Res.chk, backsOk]
  · have := Int.emod_nonneg cell (b := 162259276829213363391578010288127) (by decide)
    omega
  · have := Int.emod_lt_of_pos cell (b := 162259276829213363391578010288127) (by decide)
    omega
end K62
set_option Elab.async false
set_option linter.all false
set_option maxRecDepth 100000
namespace K62
open PySem Rp L2 TL
/-- a text of one sign -/
def one (c : Nat) : Str := ⟨#[c]⟩
theorem at_one (x : Str) (c i : Nat) : StrLaws.At x (one c) x.length i ↔ (tl x)[i]? = some c := by
  unfold StrLaws.At
  exact StrLaws.subAt_one x c i
theorem find1 (x : Str) (c : Nat) : (c ∉ tl x ∧ Txt.find x (one c) = -1) ∨ ∃ p q, tl x = p ++ c :: q ∧ c ∉ p ∧ Txt.find x (one c) = (p.length : Int) := by
  rcases PyProof.Rows.find_whole x (one c) with ⟨h1, h2⟩ | ⟨i, h1, h2, h3⟩
  · refine .inl ⟨fun hm => ?_, h1⟩
    obtain ⟨i, hi⟩ := List.mem_iff_getElem?.mp hm
    exact h2 i ((at_one x c i).mpr hi)
  · have hi := (at_one x c i).mp h2
    obtain ⟨hl, he⟩ := List.getElem?_eq_some_iff.mp hi
    refine .inr ⟨(tl x).take i, (tl x).drop (i + 1), ?_, fun hm => ?_, ?_⟩
    · conv => lhs; rw [← List.take_append_drop i (tl x), List.drop_eq_getElem_cons hl, he]
    · obtain ⟨k, hk⟩ := List.mem_iff_getElem?.mp hm
      rw [List.getElem?_take] at hk
      split at hk
      · rename_i hki; exact h3 k hki ((at_one x c k).mpr hk)
      · cases hk
    · rw [h1, List.length_take, Nat.min_eq_left (Nat.le_of_lt hl)]
end K62
namespace K62
open PySem Rp L2 TL
theorem tl_len (x : Str) : (tl x).length = x.length := by simp [tl, Str.length]
theorem tl_one (c : Nat) : tl (one c) = [c] := rfl
theorem tl_cut_to (x : Str) {n : Nat} (h : n ≤ (tl x).length) : tl (cutS x none (some (n : Int))) = (tl x).take n := by
  unfold cutS
  rw [HT.sIx_none, HT.sIx_nat]
  rw [tl_len] at h
  show ((x.cps.toList.drop 0).take (min n x.length - 0)) = _
  rw [Nat.min_eq_left h, List.drop_zero, Nat.sub_zero]
theorem tl_cut_from (x : Str) {n : Nat} (h : n ≤ (tl x).length) : tl (cutS x (some (n : Int)) none) = (tl x).drop n := by
  unfold cutS
  rw [HT.sIx_none, HT.sIx_nat]
  rw [tl_len] at h
  show ((x.cps.toList.drop (min n x.length)).take (x.length - min n x.length)) = _
  rw [Nat.min_eq_left h, List.take_of_length_le]
  rw [List.length_drop]
  show x.cps.toList.length - n ≤ x.length - n
  simp [Str.length]
end K62
set_option Elab.async false
set_option linter.all false
set_option maxRecDepth 100000
namespace K62
open PySem Rp L2 TL
theorem eq_str {a b : Str} (ha : PyData.strOk a = true) (hb : PyData.strOk b = true) : D.eqD (.str a) (.str b) = some (.bl (a == b)) := by
  simp [ha, hb, D.eqD, D.shp, D.eqq, D.py, SeqAt.shaped, PyData.eqv, PyData.canLay0, PyData.depth]
theorem ne_str {a b : Str} (ha : PyData.strOk a = true) (hb : PyData.strOk b = true) : D.neD (.str a) (.str b) = some (.bl (!(a == b))) := by
  simp [ha, hb, D.neD, D.shp, D.eqq, D.py, SeqAt.shaped, PyData.eqv, PyData.canLay0, PyData.depth]
@[simp] theorem eq_int (a b : Int) : D.eqD (.int a) (.int b) = some (.bl (a == b)) := by
  simp [D.eqD, D.shp, D.eqq, D.py, SeqAt.shaped, PyData.eqv, PyData.canLay0, PyData.depth]
def dig (c : Nat) : Bool := decide (48 ≤ c) && decide (c ≤ 57)
theorem in_digits (c : Nat) : D.inD (.str (one c)) (.str "0123456789") = some (.bl (dig c)) := by
  have e : (("0123456789" : Str)).cps.toList = [48, 49, 50, 51, 52, 53, 54, 55, 56, 57] := by decide +kernel
  show some (D.bl (decide (c ∈ (("0123456789" : Str)).cps.toList))) = _
  rw [e]
  congr 2
  rw [Bool.eq_iff_iff]
  simp [dig]
  omega
theorem bols_map {α : Type} (f : α → Bool) : ∀ xs : List α, bolsD (xs.map fun x => .bl (f x)) = some (xs.map f)
  | [] => rfl
  | x :: xs => by simp [bolsD, bols_map f xs]
/-- all([sign in DIGITS for sign in word]) -/
theorem all_digits (w : Str) (s1 : Slot) (hs : s1 = .no) (hl : (tl w).length < sizeLine) :
    callD allD (consA (asV (lcD [1] (strI (rdVar 0)) (setN 1) (fun env => .ok true env) (bin2 (cmpD .In) (borO 1) (asV (pureD (.str "0123456789")))))) nilA) [.val (.str w), s1] = .ok (.bl ((tl w).all dig)) [.val (.str w), s1] := by
  subst hs
  have hm := lcL_map (vs := [1]) (g := setN 1) (f := bin2 (cmpD .In) (borO 1) (asV (pureD (.str "0123456789")))) (e := [.val (.str w), .no]) (F := fun d => match d with | .str x => .bl ((tl x).all dig) | _ => .non) (xs := (tl w).map fun c => .str (one c)) (fun x hx => by
    obtain ⟨c, _, rfl⟩ := List.mem_map.mp hx
    refine ⟨[.val (.str w), .val (.str (one c))], [.val (.str w), .val (.str (one c))], rfl, ?_, rfl⟩
    simp [cmpD, in_digits, tl_one])
  simp only [callD, u_cons, u_asV, lcD, strI, rdVar, g0, u_bind]
  have e1 : (w.cps.toList.map fun c => D.str ⟨#[c]⟩) = (tl w).map fun c => .str (one c) := rfl
  simp only [e1, List.length_map, hl, decide_true, if_true]
  have e2 : wipeE [Slot.val (D.str w), Slot.no] [1] = [.val (.str w), .no] := rfl
  have e3 : ((tl w).map fun c => D.str (one c)).map (fun d => match d with | .str x => D.bl ((tl x).all dig) | _ => .non) = (tl w).map fun c => .bl (dig c) := by
    rw [List.map_map]; apply List.map_congr_left; intro c _; simp [one]
  rw [e2, hm, e3]
  simp [plainS, derefs, allD, bols_map, backE]
end K62
set_option Elab.async false
set_option linter.all false
set_option maxRecDepth 100000
namespace K62
open PySem Rp L2 TL
theorem small640 {n : Nat} (h : n ≤ 100000) : n < sizeLine := by rw [sizeLine_eq]; omega
theorem ok_of_dig {w : Str} (h : (tl w).all dig = true) : PyData.strOk w = true := by
  unfold PyData.strOk
  rw [← Array.all_toList, List.all_eq_true]
  intro c hc
  have := List.all_eq_true.mp h c hc
  simp [dig] at this ⊢
  omega
theorem empty_iff (w : Str) : (w == ("" : Str)) = decide (tl w = []) := by
  rw [Bool.eq_iff_iff, beq_iff_eq, decide_eq_true_eq]
  exact ⟨fun h => by rw [h]; decide +kernel, fun h => ext_tl (h.trans (by decide +kernel))⟩
theorem zero_iff (w : Str) : (w == ("0" : Str)) = decide (tl w = [48]) := by
  rw [Bool.eq_iff_iff, beq_iff_eq, decide_eq_true_eq]
  exact ⟨fun h => by rw [h]; decide +kernel, fun h => ext_tl (h.trans (by decide +kernel))⟩
theorem number_in1 (w : Str) (hw : PyData.strOk w = true) (hl : (tl w).length ≤ 100000) (h : (tl w = [] ∨ (tl w).all dig = false)) : number_in_den [.v (.str w)] = .rt .non false [.val (.str w), .no] := by
  have e1 := all_digits w .no rfl (small640 hl)
  have o1 : PyData.strOk ("" : Str) = true := by decide +kernel
  simp only [number_in_den, fnDen, startE, Arg.slot, number_in_b, List.map_cons, List.map_nil, List.length_cons, List.length_nil, List.replicate, List.cons_append, List.nil_append, if_true, u_dSeq, u_dIf, orB, u_bB, u_bin2, u_bor, g0, u_lkv, u_of, u_bind, u_asV, u_pure, u_drv, u_drs, u_eqB, Option.bind_some, eq_str hw o1, u_asB, u_notB, u_truB, e1, D.truth, Nat.reduceAdd, Nat.reduceSub]
  rw [empty_iff]
  rcases h with h | h
  · simp [h, Res.chk, backsOk]
  · simp [h, Res.chk, backsOk]
theorem u_neB : cmpD .NotEq = D.neD := rfl
/-- a number's reading -/
def numD (w : Str) : D := if tl w ≠ [] ∧ (tl w).all dig = true ∧ (tl w = [48] ∨ (tl w).head? ≠ some 48) then .int ((NumText.digitsVal (tl w) : Nat) : Int) else .non
theorem int_digits {w : Str} (h : (tl w).all dig = true) (h1 : tl w ≠ []) (hl : (tl w).length ≤ 640) : intD [.str w] = some (.int ((NumText.digitsVal (tl w) : Nat) : Int)) := by
  have h2 : w.length ≤ 640 := by rw [← tl_len]; exact hl
  have h3 : NumText.AllDigits w.cps.toList := fun c hc => by
    have := List.all_eq_true.mp h c hc
    simpa [dig] using this
  simp [intD, h2, PySem.intText_digits h3 h1 (by omega)]
theorem item0 {w : Str} {c : Nat} {r : List Nat} (h : tl w = c :: r) (hl : (tl w).length ≤ 100000) : D.idx (.str w) (.int 0) = some (.str (one c)) := by
  have h2 : lenOk w.length = true := by
    unfold lenOk
    rw [decide_eq_true_eq, sizeLine_eq, ← tl_len]; omega
  show (if lenOk w.length = true then Option.map (fun c => D.str ⟨#[c]⟩) (L2.atI (tl w) 0) else none) = _
  rw [if_pos h2]
  rw [h]
  simp [L2.atI, L2.ixN, one]
theorem number_in_ok (w : Str) (hw : PyData.strOk w = true) (hl : (tl w).length ≤ 100000) (hr : (tl w).all dig = true → (tl w).length ≤ 640) : ∃ b, number_in_den [.v (.str w)] = .rt (numD w) b [.val (.str w), .no] := by
  by_cases h0 : tl w = [] ∨ (tl w).all dig = false
  · refine ⟨false, (number_in1 w hw hl h0).trans ?_⟩
    have : numD w = .non := by
      unfold numD
      rw [if_neg]
      rintro ⟨a, b, _⟩
      rcases h0 with h0 | h0
      · exact a h0
      · rw [h0] at b; cases b
    rw [this]
  · have hne : tl w ≠ [] := fun z => h0 (.inl z)
    have hd : (tl w).all dig = true := by
      cases q : (tl w).all dig with
      | true => rfl
      | false => exact absurd (.inr q) h0
    obtain ⟨c, r, hc⟩ := List.exists_cons_of_ne_nil hne
    have e1 := all_digits w .no rfl (small640 hl)
    have o1 : PyData.strOk ("" : Str) = true := by decide +kernel
    have o2 : PyData.strOk ("0" : Str) = true := by decide +kernel
    have cl : dig c = true := List.all_eq_true.mp hd c (by rw [hc]; exact List.mem_cons_self ..)
    have o3 : PyData.strOk (one c) = true := ok_of_dig (by simp [tl_one, cl])
    have z1 : (one c == ("0" : Str)) = decide (c = 48) := by rw [zero_iff, tl_one]; simp
    refine ⟨true, ?_⟩
    simp only [number_in_den, fnDen, startE, Arg.slot, number_in_b, List.map_cons, List.map_nil, List.length_cons, List.length_nil, List.replicate, List.cons_append, List.nil_append, if_true, u_dSeq, u_dIf, orB, u_bB, u_bin2, u_bor, g0, u_lkv, u_of, u_bind, u_asV, u_pure, u_drv, u_drs, u_eqB, Option.bind_some, eq_str hw o1, u_asB, u_notB, u_truB, e1, D.truth, Nat.reduceAdd, Nat.reduceSub, empty_iff, hne, hd, Bool.not_true, decide_false, Bool.false_eq_true, if_false, u_stm, u_dNil, u_thn, u_dRetF, iteV, eq_str hw o2, item0 hc hl, u_neB, ne_str o3 o2, zero_iff, z1]
    unfold numD
    rw [hc]
    by_cases k1 : c = 48
    · subst k1
      by_cases k2 : r = []
      · subst k2
        have : intD [.str w] = some (.int ((NumText.digitsVal [48] : Nat) : Int)) := by rw [int_digits hd hne (hr hd), hc]
        simp [callD, derefs, this, Res.chk, backsOk, cl]
      · simp [k2, Res.chk, backsOk]
    · have : intD [.str w] = some (.int ((NumText.digitsVal (c :: r) : Nat) : Int)) := by rw [int_digits hd hne (hr hd), hc]
      have hd2 : (c :: r).all dig = true := by rw [← hc]; exact hd
      simp only [hd2]
      simp [k1, callD, derefs, this, Res.chk, backsOk]
end K62
set_option Elab.async false
set_option linter.all false
set_option maxRecDepth 100000
namespace K62
open PySem Rp L2 TL
theorem tw_len (p : Nat → Bool) : ∀ l : List Nat, (l.takeWhile p).length = l.length ↔ l.all p = true
  | [] => by simp
  | a :: l => by
    have ih := tw_len p l
    by_cases h : p a = true
    · simp [List.takeWhile_cons, h] at ih ⊢
      exact ih
    · simp [List.takeWhile_cons, h]
theorem tw_le (p : Nat → Bool) (l : List Nat) : (l.takeWhile p).length ≤ l.length := (List.takeWhile_sublist p).length_le
theorem drop_tw (p : Nat → Bool) : ∀ l : List Nat, l.drop (l.takeWhile p).length = l.dropWhile p
  | [] => rfl
  | a :: l => by
    by_cases h : p a = true
    · simp [List.takeWhile_cons, List.dropWhile_cons, h, drop_tw p l]
    · simp [List.takeWhile_cons, List.dropWhile_cons, h]
theorem all_tw (p : Nat → Bool) : ∀ l : List Nat, (l.takeWhile p).all p = true
  | [] => rfl
  | a :: l => by
    by_cases h : p a = true
    · simp only [List.takeWhile_cons, h, if_true, List.all_cons, Bool.true_and]; exact all_tw p l
    · simp [List.takeWhile_cons, h]
theorem strip_list (p : Nat → Bool) (l : List Nat) : (l.dropWhile p).take (l.length - ((l.dropWhile p).reverse.takeWhile p).length - (l.takeWhile p).length) = [] ↔ l.all p = true := by
  have h1 := tw_len p l
  have h2 := tw_le p l
  by_cases ha : l.all p = true
  · have : l.dropWhile p = [] := by rw [← drop_tw, h1.mpr ha, List.drop_length]
    rw [this]; simp [ha]
  · have hlt : (l.takeWhile p).length < l.length := by
      rcases Nat.lt_or_eq_of_le h2 with h | h
      · exact h
      · exact absurd (h1.mp h) ha
    have e : (l.dropWhile p).length = l.length - (l.takeWhile p).length := by rw [← drop_tw, List.length_drop]
    have hna : ¬ (l.dropWhile p).reverse.all p = true := by
      intro z
      rw [List.all_reverse] at z
      apply ha
      rw [← List.takeWhile_append_dropWhile (p := p) (l := l), List.all_append, z, Bool.and_true]
      exact all_tw p l
    have h3 : ((l.dropWhile p).reverse.takeWhile p).length < (l.dropWhile p).length := by
      have a := tw_le p (l.dropWhile p).reverse
      have b := tw_len p (l.dropWhile p).reverse
      rw [List.length_reverse] at a b
      rcases Nat.lt_or_eq_of_le a with h | h
      · exact h
      · exact absurd (b.mp h) hna
    constructor
    · intro z
      rw [List.take_eq_nil_iff] at z
      rcases z with z | z
      · omega
      · rw [z] at e h3; simp at h3
    · intro z; exact absurd z ha
theorem strip_empty (w y : Str) : tl (Txt.stripChars w y) = [] ↔ (tl w).all y.cps.contains = true := by
  unfold Txt.stripChars
  rw [PySem.W.stripBy_eq]
  unfold PySem.W.stripped
  simp only [if_true]
  generalize hp : y.cps.contains = p
  have ht : ∀ (lo hi : Nat), tl (Builtin.Str.strSub w lo hi) = ((tl w).drop lo).take (hi - lo) := by
    intro lo hi
    simp [Builtin.Str.strSub, tl]
  rw [ht, drop_tw]
  have hw : w.length = (tl w).length := (tl_len w).symm
  rw [hw]
  exact strip_list p (tl w)
end K62
set_option Elab.async false
set_option linter.all false
set_option maxRecDepth 100000
namespace K62
open PySem Rp L2 TL
theorem digs_contains (l : List Nat) : l.all (("0123456789" : Str)).cps.contains = l.all dig := by
  have e : (("0123456789" : Str)).cps = #[48, 49, 50, 51, 52, 53, 54, 55, 56, 57] := by decide +kernel
  rw [e]
  congr 1
  funext c
  rw [Bool.eq_iff_iff]
  simp [dig]
  omega
theorem strip_dig (w : Str) : (Txt.stripChars w "0123456789" == ("" : Str)) = (tl w).all dig := by
  rw [empty_iff, Bool.eq_iff_iff, decide_eq_true_eq, strip_empty, digs_contains]
theorem strip_ok {w : Str} (hw : PyData.strOk w = true) : PyData.strOk (Txt.stripChars w "0123456789") = true := by
  unfold PyData.strOk at hw ⊢
  rw [← Array.all_toList, List.all_eq_true] at hw ⊢
  intro c hc
  apply hw c
  unfold Txt.stripChars at hc
  rw [PySem.W.stripBy_eq] at hc
  unfold PySem.W.stripped at hc
  simp only [Builtin.Str.strSub, Array.toList_extract] at hc
  exact List.mem_of_mem_drop (List.mem_of_mem_take hc)
theorem l_number_ok (w : Str) (hw : PyData.strOk w = true) (hl : (tl w).length ≤ 100000) (hr : (tl w).all dig = true → (tl w).length ≤ 640) : ∃ b, l_number_den [.v (.str w)] = .rt (numD w) b [.val (.str w)] := by
  have o1 : PyData.strOk ("" : Str) = true := by decide +kernel
  have o2 : PyData.strOk ("0" : Str) = true := by decide +kernel
  have h2 : lenOk w.length = true := by
    unfold lenOk
    rw [decide_eq_true_eq, sizeLine_eq, ← tl_len]; omega
  have gt : (1 : Int) < (w.length : Int) ↔ 1 < (tl w).length := by rw [tl_len]; omega
  rcases hc : tl w with _ | ⟨c, r⟩
  · refine ⟨false, ?_⟩
    simp only [l_number_den, fnDen, startE, Arg.slot, l_number_b, List.map_cons, List.map_nil, List.length_cons, List.length_nil, List.replicate, List.cons_append, List.nil_append, if_true, u_dSeq, u_dIf, orB, u_bB, u_bin2, u_bor, g0, u_lkv, u_of, u_bind, u_asV, u_pure, u_drv, u_drs, u_eqB, Option.bind_some, eq_str hw o1, u_asB, Nat.reduceAdd, Nat.reduceSub, empty_iff, hc, decide_true, u_stm, u_dRet, u_thnr]
    simp [numD, hc, Res.chk, backsOk]
  · cases hd : (tl w).all dig with
    | false =>
      refine ⟨false, ?_⟩
      have nd : numD w = .non := by unfold numD; rw [if_neg]; rintro ⟨_, b, _⟩; rw [hd] at b; cases b
      simp only [l_number_den, fnDen, startE, Arg.slot, l_number_b, List.map_cons, List.map_nil, List.length_cons, List.length_nil, List.replicate, List.cons_append, List.nil_append, if_true, u_dSeq, u_dIf, orB, u_bB, u_bin2, u_bor, g0, u_lkv, u_of, u_bind, u_asV, u_pure, u_drv, u_drs, u_eqB, u_neB, Option.bind_some, eq_str hw o1, u_asB, Nat.reduceAdd, Nat.reduceSub, empty_iff, hc, strM, isStr, stripD, h2, ne_str (strip_ok hw) o1, nd]
      rw [← empty_iff, strip_dig, hd]
      simp [Res.chk, backsOk]
    | true =>
      have hne : tl w ≠ [] := by rw [hc]; simp
      have hi := int_digits hd hne (hr hd)
      have cl : dig c = true := List.all_eq_true.mp hd c (by rw [hc]; exact List.mem_cons_self ..)
      have o3 : PyData.strOk (one c) = true := ok_of_dig (by simp [tl_one, cl])
      have z1 : (one c == ("0" : Str)) = decide (c = 48) := by rw [zero_iff, tl_one]; simp
      have lw : (w.length : Int) = ((r.length + 1 : Nat) : Int) := by rw [← tl_len, hc]; rfl
      have sd : (Txt.stripChars w "0123456789" == ("" : Str)) = true := by rw [strip_dig, hd]
      have hlen : lenD [.str w] = some (.int ((r.length + 1 : Nat) : Int)) := by simp only [lenD, h2, if_true, lw]
      have h3 : w.length ≤ 16777216 := by rw [← tl_len]; omega
      have e0 : (w == ("" : Str)) = false := by rw [empty_iff, hc]; simp
      by_cases k : 0 < r.length ∧ c = 48
      · refine ⟨false, ?_⟩
        have nd : numD w = .non := by
          unfold numD; rw [if_neg]
          rintro ⟨_, _, b⟩
          rw [hc] at b
          rcases b with b | b
          · injection b with b1 b2; rw [b2] at k; simp at k
          · exact b (by rw [k.2]; rfl)
        have g1 : (1 : Int) < (r.length : Int) + 1 := by omega
        rw [nd]
        simp [l_number_den, startE, Arg.slot, l_number_b, eq_str hw o1, e0, stripD, h3, ne_str (strip_ok hw) o1, sd, hlen, g1, item0 hc hl, eq_str o3 o2, z1, Res.chk, backsOk]
        simp [k.2]
      · refine ⟨true, ?_⟩
        have nd : numD w = .int ((NumText.digitsVal (tl w) : Nat) : Int) := by
          unfold numD; rw [if_pos]
          refine ⟨hne, hd, ?_⟩
          by_cases q : c = 48
          · left
            rw [hc, q]
            have : r = [] := List.length_eq_zero_iff.mp (by omega)
            rw [this]
          · right; rw [hc]; simpa using q
        rw [nd]
        by_cases g1 : 0 < r.length
        · have q : c ≠ 48 := fun z => k ⟨g1, z⟩
          have g2 : (1 : Int) < (r.length : Int) + 1 := by omega
          simp [l_number_den, startE, Arg.slot, l_number_b, eq_str hw o1, e0, stripD, h3, ne_str (strip_ok hw) o1, sd, hlen, g2, item0 hc hl, eq_str o3 o2, z1, q, hi, Res.chk, backsOk]
        · have g2 : ¬ (1 : Int) < (r.length : Int) + 1 := by omega
          simp [l_number_den, startE, Arg.slot, l_number_b, eq_str hw o1, e0, stripD, h3, ne_str (strip_ok hw) o1, sd, hlen, g2, hi, Res.chk, backsOk]
end K62
set_option Elab.async false
set_option linter.all false
set_option maxRecDepth 100000
namespace K62
open PySem Rp L2 TL
def mk (l : List Nat) : Str := ⟨l.toArray⟩
theorem tl_mk0 (l : List Nat) : tl (mk l) = l := rfl
theorem mk_of {w : Str} {l : List Nat} (h : tl w = l) : w = mk l := ext_tl h
def Runs (R : Nat) (l : List Nat) : Prop := ∀ p q r, l = p ++ (q ++ r) → q.all dig = true → q.length ≤ R
/-- a text within the bounds: code points, length, runs of digits -/
structure Tx (R : Nat) (l : List Nat) : Prop where
  ok : ∀ c ∈ l, c < 1114112
  len : l.length ≤ 100000
  run : Runs R l
theorem Tx.sub {R : Nat} {p q r : List Nat} (h : Tx R (p ++ (q ++ r))) : Tx R q where
  ok c hc := h.ok c (by simp [hc])
  len := by have := h.len; simp at this; omega
  run a b c e d := h.run (p ++ a) b (c ++ r) (by rw [e]; simp) d
theorem Tx.left {R : Nat} {p r : List Nat} (h : Tx R (p ++ r)) : Tx R p := Tx.sub (p := []) (r := r) (by simpa using h)
theorem Tx.right {R : Nat} {p r : List Nat} (h : Tx R (p ++ r)) : Tx R r := Tx.sub (p := p) (r := []) (by simpa using h)
theorem Tx.behind {R c : Nat} {p r : List Nat} (h : Tx R (p ++ c :: r)) : Tx R r := Tx.right (p := [c]) (Tx.right h)
theorem Tx.str {R : Nat} {w : Str} (h : Tx R (tl w)) : PyData.strOk w = true := by
  unfold PyData.strOk
  rw [← Array.all_toList, List.all_eq_true]
  intro c hc
  have := h.ok c hc
  simp
  omega
theorem Tx.hr {R : Nat} {l : List Nat} (h : Tx R l) (d : l.all dig = true) : l.length ≤ R := h.run [] l [] (by simp) d
theorem strOk_iff {w : Str} (h : PyData.strOk w = true) : ∀ c ∈ tl w, c < 1114112 := by
  unfold PyData.strOk at h
  rw [← Array.all_toList, List.all_eq_true] at h
  intro c hc
  have := h c hc
  simp at this
  omega
def numM (l : List Nat) : D := numD (mk l)
def bef (c : Nat) (l : List Nat) : List Nat := l.takeWhile (· != c)
def aft (c : Nat) (l : List Nat) : List Nat := (l.dropWhile (· != c)).tail
theorem bef_app {c : Nat} {p q : List Nat} (h : c ∉ p) : bef c (p ++ c :: q) = p := by
  unfold bef
  rw [List.takeWhile_append_of_pos (by intro x hx; simp; rintro rfl; exact h hx)]
  simp
theorem aft_app {c : Nat} {p q : List Nat} (h : c ∉ p) : aft c (p ++ c :: q) = q := by
  unfold aft
  rw [List.dropWhile_append_of_pos (by intro x hx; simp; rintro rfl; exact h hx)]
  simp
def rideOf (ds : List D) : D := if ds.any D.isN then .non else .tup ds
/-- a word's reading -/
def wordD (l : List Nat) : D :=
  if 58 ∈ l then (if 58 ∈ aft 58 l then (if 45 ∈ aft 58 (aft 58 l) then rideOf [numM (bef 58 l), numM (bef 58 (aft 58 l)), numM (bef 45 (aft 58 (aft 58 l))), numM (aft 45 (aft 58 (aft 58 l)))] else .non) else .non) else .non
theorem numD_form (w : Str) : numD w = .non ∨ ∃ i, numD w = .int i := by
  unfold numD
  split
  · exact .inr ⟨_, rfl⟩
  · exact .inl rfl
theorem numM_nl (l : List Nat) : isLst (numM l) = false := by
  rcases numD_form (mk l) with h | ⟨i, h⟩ <;> simp [numM, h, isLst]
theorem numM_bad {l : List Nat} {c : Nat} (h : c ∈ l) (hc : dig c = false) : numM l = .non := by
  unfold numM numD
  rw [if_neg]
  rintro ⟨_, h2, _⟩
  have := List.all_eq_true.mp h2 c h
  rw [hc] at this
  cases this
theorem numM_sh (l : List Nat) : Sh 0 (numM l) := by
  rcases numD_form (mk l) with h | ⟨i, h⟩ <;> simp only [numM, h]
  · exact .non
  · exact .int
theorem find_at {w : Str} {c : Nat} {p q : List Nat} (h : tl w = p ++ c :: q) (hp : c ∉ p) : Txt.find w (one c) = (p.length : Int) := by
  rcases find1 w c with ⟨h1, h2⟩ | ⟨p2, q2, h1, h2, h3⟩
  · exact absurd (by rw [h]; simp) h1
  · rw [h3]
    have e := h.symm.trans h1
    have : bef c (p ++ c :: q) = bef c (p2 ++ c :: q2) := by rw [e]
    rw [bef_app hp, bef_app h2] at this
    rw [this]
theorem cut_to {w : Str} {p q : List Nat} (h : tl w = p ++ q) : cutS w none (some (p.length : Int)) = mk p := by
  apply mk_of
  rw [tl_cut_to w (by rw [h]; simp), h]
  simp
theorem cut_from {w : Str} {p q : List Nat} (h : tl w = p ++ q) : cutS w (some (p.length : Int)) none = mk q := by
  apply mk_of
  rw [tl_cut_from w (by rw [h]; simp), h]
  simp
theorem cut_from1 {w : Str} {c : Nat} {p q : List Nat} (h : tl w = p ++ c :: q) : cutS w (some ((p.length : Int) + 1)) none = mk q := by
  have := cut_from (w := w) (p := p ++ [c]) (q := q) (by rw [h]; simp)
  simpa using this
theorem lenOk_of {w : Str} (h : (tl w).length ≤ 100000) : w.length ≤ 16777216 := by
  rw [← tl_len]; omega
theorem num_call {l : List Nat} {e : Rp.Env} {f : Bool} (h : Tx 640 l) : callR f number_in_den [.v (.str (mk l))] e = .ok (numM l) e := by
  obtain ⟨b, hb⟩ := number_in_ok (mk l) (Tx.str (R := 640) h) h.len h.hr
  exact call1 hb (by show (f && isLst (numM l) && !b) = false; rw [numM_nl]; simp)
theorem signs : (("::-" : Str)).cps.toList = [58, 58, 45] := by decide +kernel
theorem numbers_in_ok (w : Str) (h : Tx 640 (tl w)) : ∃ b e, numbers_in_den [.v (.str w), .v (.str "::-")] = .rt (wordD (tl w)) b e := by
  have hw := lenOk_of h.len
  have o58 : (⟨#[58]⟩ : Str) = one 58 := rfl
  have o45 : (⟨#[45]⟩ : Str) = one 45 := rfl
  have lenk : ∀ l : List Nat, Tx 640 l → (mk l).length ≤ 16777216 := fun l hl => lenOk_of (w := mk l) hl.len
  have ng : ∀ l : List Nat, ¬ ((l.length : Int) < 0) := fun l => by omega
  rcases find1 w 58 with ⟨h1, f1⟩ | ⟨p1, q1, h1, n1, f1⟩
  · refine ⟨false, ?_⟩
    simp [numbers_in_den, startE, Arg.slot, numbers_in_b, signs, findD, o58, o45, f1, wordD, h1, Res.chk, backsOk]
  · have c1 := cut_to h1
    have d1 := cut_from1 h1
    have hx1 : Tx 640 (p1 ++ 58 :: q1) := h1 ▸ h
    have tp1 : Tx 640 p1 := hx1.left
    have tq1 : Tx 640 q1 := hx1.behind
    have k1 := lenk q1 tq1
    have W1 : wordD (tl w) = if 58 ∈ q1 then (if 45 ∈ aft 58 q1 then rideOf [numM p1, numM (bef 58 q1), numM (bef 45 (aft 58 q1)), numM (aft 45 (aft 58 q1))] else .non) else .non := by
      rw [h1]; simp [wordD, bef_app n1, aft_app n1]
    rw [W1]
    rcases find1 (mk q1) 58 with ⟨h2, f2⟩ | ⟨p2, q2, h2, n2, f2⟩
    · rw [tl_mk0] at h2
      refine ⟨false, ?_⟩
      simp [numbers_in_den, startE, Arg.slot, numbers_in_b, signs, findD, o58, o45, f1, h2, Res.chk, backsOk, D.cut, hw, c1, d1, num_call tp1, f2, k1, ng]
    · have c2 := cut_to h2
      have d2 := cut_from1 h2
      rw [tl_mk0] at h2
      have hx2 : Tx 640 (p2 ++ 58 :: q2) := h2 ▸ tq1
      have tp2 : Tx 640 p2 := hx2.left
      have tq2 : Tx 640 q2 := hx2.behind
      have k2 := lenk q2 tq2
      have W2 : (if 58 ∈ q1 then (if 45 ∈ aft 58 q1 then rideOf [numM p1, numM (bef 58 q1), numM (bef 45 (aft 58 q1)), numM (aft 45 (aft 58 q1))] else .non) else .non) = if 45 ∈ q2 then rideOf [numM p1, numM p2, numM (bef 45 q2), numM (aft 45 q2)] else .non := by
        rw [h2]; simp [bef_app n2, aft_app n2]
      rw [W2]
      rcases find1 (mk q2) 45 with ⟨h3, f3⟩ | ⟨p3, q3, h3, n3, f3⟩
      · rw [tl_mk0] at h3
        refine ⟨false, ?_⟩
        simp [numbers_in_den, startE, Arg.slot, numbers_in_b, signs, findD, o58, o45, f1, h3, Res.chk, backsOk, D.cut, hw, c1, d1, num_call tp1, f2, k1, ng, c2, d2, num_call tp2, f3, k2]
      · have c3 := cut_to h3
        have d3 := cut_from1 h3
        rw [tl_mk0] at h3
        have hx3 : Tx 640 (p3 ++ 45 :: q3) := h3 ▸ tq2
        have tp3 : Tx 640 p3 := hx3.left
        have tq3 : Tx 640 q3 := hx3.behind
        have k3 := lenk q3 tq3
        have W3 : (if 45 ∈ q2 then rideOf [numM p1, numM p2, numM (bef 45 q2), numM (aft 45 q2)] else .non) = rideOf [numM p1, numM p2, numM p3, numM q3] := by
          rw [h3]; simp [bef_app n3, aft_app n3]
        rw [W3]
        have hn : D.inD .non (.lst [numM p1, numM p2, numM p3, numM q3]) = some (.bl ([numM p1, numM p2, numM p3, numM q3].any D.isN)) := in_non (n := 0) (by
          intro d hd
          simp at hd
          rcases hd with rfl | rfl | rfl | rfl <;> exact numM_sh _) (by decide)
        unfold rideOf
        cases hh : [numM p1, numM p2, numM p3, numM q3].any D.isN with
        | true =>
          rw [hh] at hn
          refine ⟨true, ?_⟩
          simp [numbers_in_den, startE, Arg.slot, numbers_in_b, signs, findD, o58, o45, f1, Res.chk, backsOk, D.cut, hw, c1, d1, num_call tp1, f2, k1, ng, c2, d2, num_call tp2, f3, k2, c3, d3, num_call tp3, num_call tq3, k3, hn, tupleD]
        | false =>
          rw [hh] at hn
          refine ⟨true, ?_⟩
          simp [numbers_in_den, startE, Arg.slot, numbers_in_b, signs, findD, o58, o45, f1, Res.chk, backsOk, D.cut, hw, c1, d1, num_call tp1, f2, k1, ng, c2, d2, num_call tp2, f3, k2, c3, d3, num_call tp3, num_call tq3, k3, hn, tupleD]
end K62
set_option Elab.async false
set_option linter.all false
set_option maxRecDepth 100000
namespace K62
open PySem Rp L2 TL
theorem split_of (x : Str) (c : Nat) (hc : c < 256) : Txt.split x (one c) = (spl [c] 0 [] (tl x)).map mk := by
  apply map_tl_inj
  rw [split_spl x (one c) (by rw [tl_one]; simp) (kind_ok (by simp [one, hc])), tl_one, List.map_map]
  exact (List.map_id _).symm
theorem count_of (x : Str) (c : Nat) (hc : c < 256) : Txt.count x (one c) = (((spl [c] 0 [] (tl x)).length - 1 : Nat) : Int) := by
  have h := congrArg List.length (split_of x c hc)
  rw [List.length_map] at h
  rw [← h]
  have hk := kind_ok (x := x) (y := one c) (by simp [one, hc])
  unfold Txt.count Txt.split
  congr 1
  by_cases hl : x.length < (one c).length
  · rw [if_pos (by simp [hl])]
    rw [PySem.W.occ_nil_of_no (h := fun i hi => by omega)]
    rfl
  · rw [if_neg (by simp [hl]; simpa using hk)]
    split
    · rename_i he
      rw [List.isEmpty_iff] at he
      rw [he]; rfl
    · rw [PyProof.Rows.len_partsBetween]; rfl
theorem spl_pos (c : Nat) (hc : c < 256) (l : List Nat) : 1 ≤ (spl [c] 0 [] l).length := by
  have h := split_of (mk l) c hc
  rcases find1 (mk l) c with ⟨h1, _⟩ | ⟨p, q, h1, h2, _⟩
  · rw [tl_mk0] at h1
    rw [spl_last1 h1]; simp
  · rw [tl_mk0] at h1
    rw [h1]
    have := spl_part1 (s := c) (S := []) (p := p) (rest := q) (acc := []) h2
    simp at this
    rw [this]; simp
theorem spl_cons {c : Nat} {p q : List Nat} (h : c ∉ p) : spl [c] 0 [] (p ++ c :: q) = p :: spl [c] 0 [] q := by
  have := spl_part1 (s := c) (S := []) (p := p) (rest := q) (acc := []) h
  simpa using this
theorem spl_end {c : Nat} {p : List Nat} (h : c ∉ p) : spl [c] 0 [] p = [p] := by
  have := spl_last1 (s := c) (S := []) (p := p) (acc := []) h
  simpa using this
theorem spl_two {c : Nat} (hc : c < 256) {l : List Nat} (h : c ∈ l) : 2 ≤ (spl [c] 0 [] l).length := by
  rcases find1 (mk l) c with ⟨h1, _⟩ | ⟨p, q, h1, h2, _⟩
  · exact absurd h h1
  · rw [tl_mk0] at h1
    rw [h1, spl_cons h2]
    have := spl_pos c hc q
    simp; omega
theorem l_num_call {l : List Nat} {e : Rp.Env} {f : Bool} (h : Tx 640 l) : callR f l_number_den [.v (.str (mk l))] e = .ok (numM l) e := by
  obtain ⟨b, hb⟩ := l_number_ok (mk l) (Tx.str (R := 640) h) h.len h.hr
  exact call1 hb (by show (f && isLst (numM l) && !b) = false; rw [numM_nl]; simp)
@[simp] theorem ne_int (a b : Int) : D.neD (.int a) (.int b) = some (.bl (!(a == b))) := by
  simp [D.neD, D.shp, D.eqq, D.py, SeqAt.shaped, PyData.eqv, PyData.canLay0, PyData.depth]
def readB : Rp.Env → Res := (dSeq (dSetF 3 (strM splitD (borO 2) (asV (pureD (.str ":"))))) (dSeq (dIf (orB (bB (bin2 (cmpD .NotEq) (asV (callD lenD (consA (borO 3) nilA))) (asV (pureD (.int 3))))) (bB (bin2 (cmpD .NotEq) (asV (strM countD (asV (bin2 D.idx (borO 3) (asV (pureD (.int 2))))) (asV (pureD (.str "-"))))) (asV (pureD (.int 1)))))) (dRet (pureD .non)) dNil) (dSeq (dAsg (gLstD 2 (gConsD (setN 5) (gConsD (setN 6) gNilD))) (strM splitD (asV (bin2 D.idx (borO 3) (asV (pureD (.int 2))))) (asV (pureD (.str "-"))))) (dSeq (dSetF 4 (lcD [7] (lstI (dispD .lst (consA (asV (bin2 D.idx (borO 3) (asV (pureD (.int 0))))) (consA (asV (bin2 D.idx (borO 3) (asV (pureD (.int 1))))) (consA (asV (rdVar 5)) (consA (asV (rdVar 6)) nilA)))))) (setN 7) (fun env => .ok true env) (callU true l_number_den (consA (asV (rdVar 7)) nilA)))) (dSeq (dIf (bB (bin2 (cmpD .In) (asV (pureD .non)) (borO 4))) (dRet (pureD .non)) dNil) (dApp 1 (callD tupleD (consA (borO 4) nilA))))))))
theorem colon : (":" : Str) = one 58 := ext_tl (by decide +kernel)
theorem dash : ("-" : Str) = one 45 := ext_tl (by decide +kernel)
theorem space : (" " : Str) = one 32 := ext_tl (by decide +kernel)
theorem split_D {w : Str} (c : Nat) (hc : c < 256) (h : (tl w).length ≤ 100000) : splitD w (.str (one c)) = some (.lst ((spl [c] 0 [] (tl w)).map fun p => .str (mk p))) := by
  have hl : lenOk (w.length + 2) = true := by
    unfold lenOk
    rw [decide_eq_true_eq, sizeLine_eq, ← tl_len]; omega
  simp only [splitD, hl, Bool.and_true]
  rw [if_pos (by rfl), split_of w c hc, List.map_map]
  rfl
theorem count_D {w : Str} (c : Nat) (hc : c < 256) : countD w (.str (one c)) = some (.int (((spl [c] 0 [] (tl w)).length - 1 : Nat) : Int)) := by
  simp only [countD, count_of w c hc]
/-- the slots that the loop writes: none is locked -/
structure Fre (a b c d e : Slot) : Prop where
  a : a.isLk = false
  b : b.isLk = false
  c : c.isLk = false
  d : d.isLk = false
  e : e.isLk = false
theorem readB_ok (w : Str) (h : Tx 640 (tl w)) {s0 s3 s4 s5 s6 : Slot} {acc : List D} (F : Fre .no s3 s4 s5 s6) (hacc : acc.length < 200000) :
    (wordD (tl w) = .non ∧ ∃ e', readB [s0, .own false (.lst acc), .val (.str w), s3, s4, s5, s6, .no] = .rt .non false e') ∨
    (∃ a b c d : Int, wordD (tl w) = .tup [.int a, .int b, .int c, .int d] ∧ ∃ t2 t3 t4 t5 t6, Fre t2 t3 t4 t5 t6 ∧ readB [s0, .own false (.lst acc), .val (.str w), s3, s4, s5, s6, .no] = .nx [s0, .own false (.lst (acc ++ [wordD (tl w)])), t2, t3, t4, t5, t6, .no]) := by
  have f3 := F.b
  have f4 := F.c
  have f5 := F.d
  have f6 := F.e
  have sD := split_D 58 (by decide) h.len
  rcases find1 w 58 with ⟨h1, -⟩ | ⟨p1, q1, h1, n1, -⟩
  · left
    refine ⟨by simp [wordD, h1], ?_⟩
    rw [spl_end h1] at sD
    simp [readB, colon, sD, f3, lenD]
  rw [h1, spl_cons n1] at sD
  have hx1 : Tx 640 (p1 ++ 58 :: q1) := h1 ▸ h
  have tp1 : Tx 640 p1 := hx1.left
  have tq1 : Tx 640 q1 := hx1.behind
  rcases find1 (mk q1) 58 with ⟨h2, -⟩ | ⟨p2, q2, h2, n2, -⟩
  · rw [tl_mk0] at h2
    left
    refine ⟨by rw [h1]; simp [wordD, aft_app n1, h2], ?_⟩
    rw [spl_end h2] at sD
    simp [readB, colon, sD, f3, lenD]
  rw [tl_mk0] at h2
  have hx2 : Tx 640 (p2 ++ 58 :: q2) := h2 ▸ tq1
  have tp2 : Tx 640 p2 := hx2.left
  have tq2 : Tx 640 q2 := hx2.behind
  rw [h2, spl_cons n2] at sD
  have W2 : wordD (tl w) = if 45 ∈ q2 then rideOf [numM p1, numM p2, numM (bef 45 q2), numM (aft 45 q2)] else .non := by
    rw [h1, h2]; simp [wordD, bef_app n1, aft_app n1, bef_app n2, aft_app n2]
  rw [W2]
  by_cases k2 : 58 ∈ q2
  · left
    have two := spl_two (by decide) k2
    refine ⟨?_, ?_⟩
    · split
      · rename_i h45
        have : numM (bef 45 q2) = .non ∨ numM (aft 45 q2) = .non := by
          rcases find1 (mk q2) 45 with ⟨h3, -⟩ | ⟨p3, q3, h3, n3, -⟩
          · exact absurd h45 h3
          · rw [tl_mk0] at h3
            rw [h3, bef_app n3, aft_app n3]
            rw [h3] at k2
            simp at k2
            rcases k2 with k2 | k2
            · exact .inl (numM_bad k2 (by decide))
            · exact .inr (numM_bad k2 (by decide))
        unfold rideOf
        rw [if_pos]
        rcases this with h | h <;> simp [h, D.isN]
      · rfl
    · have three : ¬ ((spl [58] 0 [] q2).length : Int) + 1 + 1 = 3 := by omega
      simp [readB, colon, sD, f3, lenD, three]
  rw [spl_end k2] at sD
  have cD := count_D (w := mk q2) 45 (by decide)
  have tD := split_D (w := mk q2) 45 (by decide) tq2.len
  rcases find1 (mk q2) 45 with ⟨h3, -⟩ | ⟨p3, q3, h3, n3, -⟩
  · left
    rw [spl_end h3] at cD
    rw [tl_mk0] at h3
    refine ⟨by simp [h3], ?_⟩
    simp [readB, colon, dash, sD, f3, lenD, cD]
  rw [h3, spl_cons n3] at cD tD
  rw [tl_mk0] at h3
  have hx3 : Tx 640 (p3 ++ 45 :: q3) := h3 ▸ tq2
  have tp3 : Tx 640 p3 := hx3.left
  have tq3 : Tx 640 q3 := hx3.behind
  have W3 : (if 45 ∈ q2 then rideOf [numM p1, numM p2, numM (bef 45 q2), numM (aft 45 q2)] else .non) = rideOf [numM p1, numM p2, numM p3, numM q3] := by
    rw [h3]; simp [bef_app n3, aft_app n3]
  rw [W3]
  by_cases k3 : 45 ∈ q3
  · left
    have two := spl_two (by decide) k3
    have ne : ¬ (((spl [45] 0 [] q3).length + 1 - 1 : Nat) : Int) = 1 := by omega
    refine ⟨?_, ?_⟩
    · unfold rideOf
      rw [if_pos]
      simp [numM_bad k3 (by decide), D.isN]
    · have ne2 : ¬ ((spl [45] 0 [] q3).length : Int) = 1 := by omega
      simp [readB, colon, dash, sD, f3, lenD, cD, ne2]
  rw [spl_end k3] at cD tD
  have hn : D.inD .non (.lst [numM p1, numM p2, numM p3, numM q3]) = some (.bl ([numM p1, numM p2, numM p3, numM q3].any D.isN)) := in_non (n := 0) (by
    intro d hd
    simp at hd
    rcases hd with rfl | rfl | rfl | rfl <;> exact numM_sh _) (by decide)
  unfold rideOf
  cases hh : [numM p1, numM p2, numM p3, numM q3].any D.isN with
  | true =>
    left
    refine ⟨by simp, ?_⟩
    rw [hh] at hn
    simp [readB, colon, dash, sD, f3, f4, f5, f6, lenD, cD, tD, l_num_call tp1, l_num_call tp2, l_num_call tp3, l_num_call tq3, hn]
  | false =>
    right
    rw [hh] at hn
    simp at hh
    obtain ⟨a, ha⟩ := (numD_form (mk p1)).resolve_left (fun z => by have := hh.1; simp [numM, z, D.isN] at this)
    obtain ⟨b, hb⟩ := (numD_form (mk p2)).resolve_left (fun z => by have := hh.2.1; simp [numM, z, D.isN] at this)
    obtain ⟨c, hc⟩ := (numD_form (mk p3)).resolve_left (fun z => by have := hh.2.2.1; simp [numM, z, D.isN] at this)
    obtain ⟨d, hd⟩ := (numD_form (mk q3)).resolve_left (fun z => by have := hh.2.2.2; simp [numM, z, D.isN] at this)
    refine ⟨a, b, c, d, by simp [numM, ha, hb, hc, hd], ?_⟩
    refine ⟨.val (.str w), .own false (.lst [.str (mk p1), .str (mk p2), .str (mk q2)]), .own false (.lst [numM p1, numM p2, numM p3, numM q3]), .val (.str (mk p3)), .val (.str (mk q3)), ⟨rfl, rfl, rfl, rfl, rfl⟩, ?_⟩
    have hl : acc.length < 16777216 := by omega
    simp [readB, colon, dash, sD, f3, f4, f5, f6, lenD, cD, tD, l_num_call tp1, l_num_call tp2, l_num_call tp3, l_num_call tq3, hn, tupleD, hl]
end K62
set_option Elab.async false
set_option linter.all false
set_option maxRecDepth 100000
namespace K62
open PySem Rp L2 TL
theorem spl_ind {c : Nat} {P : List Nat → Prop} (h0 : ∀ l, c ∉ l → P l) (h1 : ∀ p q, c ∉ p → P q → P (p ++ c :: q)) : ∀ l, P l := by
  intro l
  induction hn : l.length using Nat.strongRecOn generalizing l with
  | _ n ih =>
    rcases find1 (mk l) c with ⟨a, -⟩ | ⟨p, q, a, b, -⟩
    · exact h0 l a
    · rw [tl_mk0] at a
      rw [a]
      refine h1 p q b (ih q.length ?_ q rfl)
      rw [← hn, a]; simp; omega
theorem spl_len {c : Nat} (l : List Nat) : (spl [c] 0 [] l).length ≤ l.length + 1 := by
  refine spl_ind (c := c) (P := fun l => (spl [c] 0 [] l).length ≤ l.length + 1) ?_ ?_ l
  · intro l h; rw [spl_end h]; simp
  · intro p q h ih; rw [spl_cons h]; simp; omega
theorem spl_tx {c R : Nat} (l : List Nat) : Tx R l → ∀ p ∈ spl [c] 0 [] l, Tx R p := by
  refine spl_ind (c := c) (P := fun l => Tx R l → ∀ p ∈ spl [c] 0 [] l, Tx R p) ?_ ?_ l
  · intro l h t p hp; rw [spl_end h] at hp; simp at hp; rw [hp]; exact t
  · intro p q h ih t x hx
    rw [spl_cons h] at hx
    rcases List.mem_cons.mp hx with rfl | hx
    · exact t.left
    · exact ih t.behind x hx
theorem num_int {l : List Nat} (h : (numM l).isN = false) : ∃ i, numM l = .int i :=
  (numD_form (mk l)).resolve_left (fun z => by rw [show numM l = .non from z] at h; cases h)
theorem wordD_form (l : List Nat) : wordD l = .non ∨ ∃ a b c d : Int, wordD l = .tup [.int a, .int b, .int c, .int d] := by
  unfold wordD
  split
  · split
    · split
      · unfold rideOf
        split
        · exact .inl rfl
        · rename_i hh
          right
          simp at hh
          obtain ⟨a, ha⟩ := num_int hh.1
          obtain ⟨b, hb⟩ := num_int hh.2.1
          obtain ⟨c, hc⟩ := num_int hh.2.2.1
          obtain ⟨d, hd⟩ := num_int hh.2.2.2
          exact ⟨a, b, c, d, by simp [ha, hb, hc, hd]⟩
      · exact .inl rfl
    · exact .inl rfl
  · exact .inl rfl
theorem wordD_sh (l : List Nat) : Sh 1 (wordD l) := by
  rcases wordD_form l with h | ⟨a, b, c, d, h⟩ <;> rw [h]
  · exact .non
  · refine Sh.tup ?_
    intro x hx
    simp at hx
    rcases hx with rfl | rfl | rfl | rfl <;> exact .int
theorem read_loop : ∀ (ws : List (List Nat)) (acc : List D) (s0 s2 s3 s4 s5 s6 : Slot), (∀ p ∈ ws, Tx 640 p) → acc.length + ws.length ≤ 150000 → Fre s2 s3 s4 s5 s6 →
    ((ws.map wordD).any D.isN = true ∧ ∃ e', forL (setN 2) readB (ws.map fun p => .str (mk p)) [s0, .own false (.lst acc), s2, s3, s4, s5, s6, .no] = .rt .non false e') ∨
    ((ws.map wordD).any D.isN = false ∧ ∃ t2 t3 t4 t5 t6, Fre t2 t3 t4 t5 t6 ∧ forL (setN 2) readB (ws.map fun p => .str (mk p)) [s0, .own false (.lst acc), s2, s3, s4, s5, s6, .no] = .nx [s0, .own false (.lst (acc ++ ws.map wordD)), t2, t3, t4, t5, t6, .no])
  | [], acc, s0, s2, s3, s4, s5, s6, _, _, F => .inr ⟨rfl, s2, s3, s4, s5, s6, F, by simp⟩
  | w :: ws, acc, s0, s2, s3, s4, s5, s6, h, hl, F => by
    simp only [List.length_cons] at hl
    have f2 := F.a
    rcases readB_ok (mk w) (h w (by simp)) (s0 := s0) (s3 := s3) (s4 := s4) (s5 := s5) (s6 := s6) (acc := acc) ⟨rfl, F.b, F.c, F.d, F.e⟩ (by omega) with ⟨h1, e', h2⟩ | ⟨a, b, c, d, h1, t2, t3, t4, t5, t6, F2, h2⟩
    · left
      rw [tl_mk0] at h1
      refine ⟨by simp [h1, D.isN], e', ?_⟩
      simp [f2, h2]
    · rw [tl_mk0] at h1 h2
      rcases read_loop ws (acc ++ [wordD w]) s0 t2 t3 t4 t5 t6 (fun p hp => h p (by simp [hp])) (by simp; omega) F2 with ⟨h3, e', h4⟩ | ⟨h3, u2, u3, u4, u5, u6, F3, h4⟩
      · left
        refine ⟨by simpa [h1, D.isN] using h3, e', ?_⟩
        simp [f2, h2, h4]
      · right
        refine ⟨by simpa [h1, D.isN] using h3, u2, u3, u4, u5, u6, F3, ?_⟩
        simp [f2, h2, h4]
def readP : Rp.Env → Res := (dSeq (dIf (notB (truB (asV (isiD ["str"] (borO 0))))) (dRet (pureD .non)) dNil) (dSeq (dSetF 1 (dispD .lst nilA)) (dSeq (dFor (lstI (iteV (bB (bin2 (cmpD .NotEq) (borO 0) (asV (pureD (.str ""))))) (strM splitD (borO 0) (asV (pureD (.str " ")))) (dispD .lst nilA))) (setN 2) readB) (dRetO 1))))
theorem readP_eq : l_read_den = fnDen 8 1 readP := rfl
/-- a line's reading -/
def readD (l : List Nat) : D := if l = [] then .lst [] else if ((spl [32] 0 [] l).map wordD).any D.isN then .non else .lst ((spl [32] 0 [] l).map wordD)
theorem l_read_ok (w : Str) (h : Tx 640 (tl w)) : ∃ b e, (isLst (readD (tl w)) = true → b = true) ∧ l_read_den [.v (.str w)] = .rt (readD (tl w)) b e := by
  have sw := Tx.str (R := 640) (w := w) h
  have o1 : PyData.strOk ("" : Str) = true := by decide +kernel
  have sD := split_D (w := w) 32 (by decide) h.len
  have isT : isTy "str" ["str"] = some true := by decide +kernel
  unfold readD
  by_cases h0 : tl w = []
  · refine ⟨true, ?_⟩
    have e0 : (w == ("" : Str)) = true := by rw [empty_iff, h0]; simp
    simp [readP_eq, startE, Arg.slot, readP, D.tyN, isT, ne_str sw o1, e0, h0, Res.chk, backsOk]
  · have e0 : (w == ("" : Str)) = false := by rw [empty_iff]; simp [h0]
    have hl := spl_len (c := 32) (tl w)
    have hll := h.len
    rcases read_loop (spl [32] 0 [] (tl w)) [] (.val (.str w)) .no .no .no .no .no (spl_tx _ h) (by simp; omega) ⟨rfl, rfl, rfl, rfl, rfl⟩ with ⟨h1, e', h2⟩ | ⟨h1, u2, u3, u4, u5, u6, F3, h2⟩
    · refine ⟨false, e', by simp [h0, h1, isLst], ?_⟩
      rw [if_neg h0, h1]
      simp [readP_eq, startE, Arg.slot, readP, D.tyN, isT, ne_str sw o1, e0, space, sD, h2, Res.chk, backsOk]
    · refine ⟨true, ?_⟩
      rw [if_neg h0, h1]
      simp [readP_eq, startE, Arg.slot, readP, D.tyN, isT, ne_str sw o1, e0, space, sD, h2, Res.chk, backsOk]
end K62
set_option Elab.async false
set_option linter.all false
set_option maxRecDepth 100000
namespace K62
open PySem Rp L2 TL
theorem numbers_call {l : List Nat} {e : Rp.Env} {f : Bool} (h : Tx 640 l) : callR f numbers_in_den [.v (.str (mk l)), .v (.str "::-")] e = .ok (wordD l) e := by
  obtain ⟨b, e', hb⟩ := numbers_in_ok (mk l) h
  refine call2 hb ?_
  rcases wordD_form l with h | ⟨a, b, c, d, h⟩ <;> simp [h, isLst]
theorem parse_ok (w : Str) (h : Tx 640 (tl w)) : (readD (tl w) = .non ∧ ∃ e, parse_journey_den [.v (.str w)] = .exc (.str "InvalidText") e) ∨ (isLst (readD (tl w)) = true ∧ ∃ e, parse_journey_den [.v (.str w)] = .rt (readD (tl w)) true e) := by
  have sw := Tx.str (R := 640) (w := w) h
  have o1 : PyData.strOk ("" : Str) = true := by decide +kernel
  have sD := split_D (w := w) 32 (by decide) h.len
  have isT : isTy "str" ["str"] = some true := by decide +kernel
  have i0 : D.inD .non (.lst []) = some (.bl false) := in_non (n := 0) (ds := []) (by simp) (by decide)
  unfold readD
  by_cases h0 : tl w = []
  · right
    have e0 : (w == ("" : Str)) = true := by rw [empty_iff, h0]; simp
    rw [if_pos h0]
    refine ⟨rfl, ?_⟩
    simp [parse_journey_den, startE, Arg.slot, parse_journey_b, D.tyN, isT, ne_str sw o1, e0, h0, Res.chk, backsOk, i0]
  · have e0 : (w == ("" : Str)) = false := by rw [empty_iff]; simp [h0]
    have hl := spl_len (c := 32) (tl w)
    have hll := h.len
    have ht := spl_tx (c := 32) (R := 640) (tl w) h
    have LC := lc_map (vs := [2]) (s := .val (.str w)) (l := [.no, .no]) (it := lstI (strM splitD (borO 0) (asV (pureD (.str " "))))) (g := setN 2) (f := callU true numbers_in_den (consA (asV (rdVar 2)) (consA (asV (pureD (.str "::-"))) nilA))) (F := fun d => match d with | .str x => wordD (tl x) | _ => .non) (xs := (spl [32] 0 [] (tl w)).map fun p => .str (mk p))
      (by simp [space, sD]) (by simp; omega) rfl rfl (by
        intro x hx
        obtain ⟨p, hp, rfl⟩ := List.mem_map.mp hx
        refine ⟨[.val (.str w), .no, .val (.str (mk p))], [.val (.str w), .no, .val (.str (mk p))], by simp, ?_, rfl⟩
        simp [numbers_call (ht p hp), tl_mk0])
    have e3 : (((spl [32] 0 [] (tl w)).map fun p => D.str (mk p)).map fun d => match d with | .str x => wordD (tl x) | _ => .non) = (spl [32] 0 [] (tl w)).map wordD := by
      rw [List.map_map]; apply List.map_congr_left; intro p _; rfl
    rw [e3] at LC
    have hn : D.inD .non (.lst ((spl [32] 0 [] (tl w)).map wordD)) = some (.bl (((spl [32] 0 [] (tl w)).map wordD).any D.isN)) := in_non (n := 1) (by
      intro d hd
      obtain ⟨p, _, rfl⟩ := List.mem_map.mp hd
      exact wordD_sh p) (by decide)
    rw [if_neg h0]
    cases hh : ((spl [32] 0 [] (tl w)).map wordD).any D.isN with
    | true =>
      left
      rw [hh] at hn
      refine ⟨rfl, ?_⟩
      simp [parse_journey_den, startE, Arg.slot, parse_journey_b, D.tyN, isT, ne_str sw o1, e0, LC, hn, Res.chk, backsOk]
    | false =>
      right
      rw [hh] at hn
      refine ⟨rfl, ?_⟩
      simp [parse_journey_den, startE, Arg.slot, parse_journey_b, D.tyN, isT, ne_str sw o1, e0, LC, hn, Res.chk, backsOk]
/-- the law's word of a reading -/
def dueD (l : List Nat) : D := if (readD l).isN then .str "text" else readD l
theorem isN_lst {d : D} (h : isLst d = true) : d.isN = false := by cases d <;> first | rfl | cases h
theorem told0 (w : Str) (h : Tx 640 (tl w)) : ∃ e b, (isLst (dueD (tl w)) = true → b = true) ∧ l_told_den [.v (.str w), .v (.int 0)] = .rt (dueD (tl w)) b e := by
  rcases parse_ok w h with ⟨h1, e', h2⟩ | ⟨h1, e', h2⟩
  · have := call1x (fresh := true) (e := [.val (.str w), .val (.int 0), .no]) h2
    simp [l_told_den, startE, Arg.slot, l_told_b, this, l_told_h, Res.chk, backsOk, dueD, h1, D.isN, isLst]
  · have := call1 (fresh := true) (e := [.val (.str w), .val (.int 0), .no]) h2 (by simp)
    refine ⟨[.val (.str w), .val (.int 0), .no], true, fun _ => rfl, ?_⟩
    simp [l_told_den, startE, Arg.slot, l_told_b, this, l_told_h, Res.chk, backsOk, dueD, isN_lst h1]
theorem told1 (w : Str) (h : Tx 640 (tl w)) : ∃ e b, (isLst (dueD (tl w)) = true → b = true) ∧ l_told_den [.v (.str w), .v (.int 1)] = .rt (dueD (tl w)) b e := by
  have hf : consA (asV (rdVar 0)) nilA [.val (.str w), .val (.int 1), .no] = .ok [.v (.str w)] [.val (.str w), .val (.int 1), .no] := by simp
  rcases parse_ok w h with ⟨h1, e', h2⟩ | ⟨h1, e', h2⟩
  · have := call1Kx (fresh := true) h2 hf
    simp [l_told_den, startE, Arg.slot, l_told_b, this, l_told_h, Res.chk, backsOk, dueD, h1, D.isN, isLst]
  · have := call1K (fresh := true) h2 (by simp) hf
    refine ⟨[.val (.str w), .val (.int 1), .no], true, fun _ => rfl, ?_⟩
    simp [l_told_den, startE, Arg.slot, l_told_b, this, l_told_h, Res.chk, backsOk, dueD, isN_lst h1]
end K62
set_option Elab.async false
set_option linter.all false
set_option maxRecDepth 100000
namespace K62
open PySem Rp L2 TL
def Sm (k : Nat) (d : D) : Prop := ∃ b e, l_same_den k [.v d, .v d] = .rt (.bl true) b e
theorem same_eq (k : Nat) : l_same_den (k + 1) = fnDen 3 2 (l_same_b (l_same_den k)) := rfl
@[simp] theorem ty1 : isTy "list" ["list", "tuple"] = some true := by decide +kernel
@[simp] theorem ty2 : isTy "tuple" ["list", "tuple"] = some true := by decide +kernel
@[simp] theorem ty3 : isTy "int" ["list", "tuple"] = some false := by decide +kernel
@[simp] theorem ty4 : isTy "str" ["list", "tuple"] = some false := by decide +kernel
@[simp] theorem ty5 : isTy "int" ["bool"] = some false := by decide +kernel
@[simp] theorem ty6 : isTy "str" ["bool"] = some false := by decide +kernel
@[simp] theorem ty7 : isTy "list" ["list"] = some true := by decide +kernel
@[simp] theorem ty8 : isTy "tuple" ["list"] = some false := by decide +kernel
@[simp] theorem ty9 : isTy "tuple" ["tuple"] = some true := by decide +kernel
@[simp] theorem ty10 : isTy "int" ["int"] = some true := by decide +kernel
@[simp] theorem ne_bl (a b : Bool) : D.neD (.bl a) (.bl b) = some (.bl (!(a == b))) := by
  simp [D.neD, D.shp, D.eqq, D.py, SeqAt.shaped, PyData.eqv, PyData.canLay0, PyData.depth]
theorem sm_int {k : Nat} {i : Int} : Sm (k + 1) (.int i) := by
  unfold Sm
  simp [same_eq, startE, Arg.slot, l_same_b, D.tyN, Res.chk, backsOk]
theorem sm_str {k : Nat} {w : Str} (h : PyData.strOk w = true) : Sm (k + 1) (.str w) := by
  unfold Sm
  simp [same_eq, startE, Arg.slot, l_same_b, D.tyN, Res.chk, backsOk, eq_str h h]
theorem all_rep {n : Nat} : allD [.lst (List.replicate n (.bl true))] = some (.bl true) := by
  have h := bols_map (fun _ : Nat => true) (List.range n)
  have e : (List.range n).map (fun _ => D.bl true) = List.replicate n (.bl true) := by rw [List.map_const']; simp
  simp only [e] at h
  simp [allD, h]
theorem call_all {s : Slot} {l : Rp.Env} {n : Nat} {X : Rp.Env → Out D} (LC : X (s :: l) = .ok (.lst (List.replicate n (.bl true))) (s :: l)) : callD allD (consA (asV X) nilA) (s :: l) = .ok (.bl true) (s :: l) := by
  simp [LC, all_rep]
theorem sm_lst {k : Nat} {ds : List D} (hl : ds.length < 16777216) (h : ∀ d ∈ ds, Sm k d) : Sm (k + 1) (.lst ds) := by
  have LC := lc_map (vs := [2]) (s := .val (.lst ds)) (l := [.val (.lst ds), .no]) (it := rng1I (consA (asV (callD lenD (consA (borO 1) nilA))) nilA)) (g := setN 2) (f := callU true (l_same_den k) (consA (asV (bin2 D.idx (borO 0) (borO 2))) (consA (asV (bin2 D.idx (borO 1) (borO 2))) nilA))) (F := fun _ => .bl true) (xs := rngL 0 ds.length)
    (rng1_at (by simp [lenD]) hl) (by simp [rngL]; omega) rfl rfl (by
      intro x hx
      simp only [rngL, List.mem_map, List.mem_range] at hx
      obtain ⟨i, hi, rfl⟩ := hx
      obtain ⟨b, e, hh⟩ := h ds[i] (List.getElem_mem hi)
      refine ⟨[.val (.lst ds), .val (.lst ds), .val (.int i)], [.val (.lst ds), .val (.lst ds), .val (.int i)], by simp, ?_, rfl⟩
      simp [at_nat hi, call2 (fresh := true) hh (by simp [isLst])])
  rw [List.map_const'] at LC
  have t1 : truB (asV (isiD ["list", "tuple"] (borO 1))) [.val (.lst ds), .val (.lst ds), .no] = .ok true [.val (.lst ds), .val (.lst ds), .no] := by simp [D.tyN]
  have t2 : (orB (bB (bin2 (cmpD .NotEq) (asV (isiD ["list"] (borO 0))) (asV (isiD ["list"] (borO 1))))) (notB (truB (asV (isiD ["list", "tuple"] (borO 0)))))) [.val (.lst ds), .val (.lst ds), .no] = .ok false [.val (.lst ds), .val (.lst ds), .no] := by simp [D.tyN]
  have t3 : (bB (bin2 (cmpD .NotEq) (asV (callD lenD (consA (borO 0) nilA))) (asV (callD lenD (consA (borO 1) nilA))))) [.val (.lst ds), .val (.lst ds), .no] = .ok false [.val (.lst ds), .val (.lst ds), .no] := by simp [lenD]
  have t4 := call_all LC
  refine ⟨true, [.val (.lst ds), .val (.lst ds), .no], ?_⟩
  rw [same_eq, u_fnDen, if_pos (by rfl)]
  show Res.chk _ (l_same_b (l_same_den k) [.val (.lst ds), .val (.lst ds), .no]) = _
  unfold l_same_b
  simp only [u_dSeq, u_dIf, t1, t2, t3, u_stm, if_true, Bool.false_eq_true, if_false, u_dNil, u_thn, u_dRetF, u_thnr, t4, Res.chk, backsOk]
theorem sm_tup {k : Nat} {ds : List D} (hl : ds.length < 16777216) (h : ∀ d ∈ ds, Sm k d) : Sm (k + 1) (.tup ds) := by
  have LC := lc_map (vs := [2]) (s := .val (.tup ds)) (l := [.val (.tup ds), .no]) (it := rng1I (consA (asV (callD lenD (consA (borO 1) nilA))) nilA)) (g := setN 2) (f := callU true (l_same_den k) (consA (asV (bin2 D.idx (borO 0) (borO 2))) (consA (asV (bin2 D.idx (borO 1) (borO 2))) nilA))) (F := fun _ => .bl true) (xs := rngL 0 ds.length)
    (rng1_at (by simp [lenD]) hl) (by simp [rngL]; omega) rfl rfl (by
      intro x hx
      simp only [rngL, List.mem_map, List.mem_range] at hx
      obtain ⟨i, hi, rfl⟩ := hx
      obtain ⟨b, e, hh⟩ := h ds[i] (List.getElem_mem hi)
      refine ⟨[.val (.tup ds), .val (.tup ds), .val (.int i)], [.val (.tup ds), .val (.tup ds), .val (.int i)], by simp, ?_, rfl⟩
      simp [at_nat hi, call2 (fresh := true) hh (by simp [isLst])])
  rw [List.map_const'] at LC
  have t1 : truB (asV (isiD ["list", "tuple"] (borO 1))) [.val (.tup ds), .val (.tup ds), .no] = .ok true [.val (.tup ds), .val (.tup ds), .no] := by simp [D.tyN]
  have t2 : (orB (bB (bin2 (cmpD .NotEq) (asV (isiD ["list"] (borO 0))) (asV (isiD ["list"] (borO 1))))) (notB (truB (asV (isiD ["list", "tuple"] (borO 0)))))) [.val (.tup ds), .val (.tup ds), .no] = .ok false [.val (.tup ds), .val (.tup ds), .no] := by simp [D.tyN]
  have t3 : (bB (bin2 (cmpD .NotEq) (asV (callD lenD (consA (borO 0) nilA))) (asV (callD lenD (consA (borO 1) nilA))))) [.val (.tup ds), .val (.tup ds), .no] = .ok false [.val (.tup ds), .val (.tup ds), .no] := by simp [lenD]
  have t4 := call_all LC
  refine ⟨true, [.val (.tup ds), .val (.tup ds), .no], ?_⟩
  rw [same_eq, u_fnDen, if_pos (by rfl)]
  show Res.chk _ (l_same_b (l_same_den k) [.val (.tup ds), .val (.tup ds), .no]) = _
  unfold l_same_b
  simp only [u_dSeq, u_dIf, t1, t2, t3, u_stm, if_true, Bool.false_eq_true, if_false, u_dNil, u_thn, u_dRetF, u_thnr, t4, Res.chk, backsOk]
end K62
set_option Elab.async false
set_option linter.all false
set_option maxRecDepth 100000
namespace K62
open PySem Rp L2 TL
/-- a number's text -/
def sN (n : Nat) : Str := Str.ofString (toString ((n : Nat) : Int))
theorem tl_sN (n : Nat) : tl (sN n) = numL n := tl_num n
def Ride := Nat × Nat × Nat × Nat
def rideD (q : Ride) : D := .tup [.int q.1, .int q.2.1, .int q.2.2.1, .int q.2.2.2]
def rideL (q : Ride) : List Nat := numL q.1 ++ 58 :: (numL q.2.1 ++ 58 :: (numL q.2.2.1 ++ 45 :: numL q.2.2.2))
def big : Nat := 10 ^ 39
def RideOk (q : Ride) : Prop := q.1 < 10 ^ 39 ∧ q.2.1 < 10 ^ 39 ∧ q.2.2.1 < 10 ^ 39 ∧ q.2.2.2 < 10 ^ 39
def tourL (rs : List Ride) : List Nat := joinL [32] (rs.map rideL)
theorem sN_len {n : Nat} (h : n < 10 ^ 39) : (sN n).length ≤ 39 := by
  rw [← tl_len, tl_sN]; exact numL_len (by decide) h
theorem p39 : (10 : Nat) ^ 39 = 1000000000000000000000000000000000000000 := by decide +kernel
theorem log_small {n : Nat} (h : n < 10 ^ 39) : ((n : Int)).natAbs.log2 < 1920 := by
  rw [Int.natAbs_natCast]
  by_cases h0 : n = 0
  · subst h0; decide
  · refine (Nat.log2_lt h0).mpr (Nat.lt_of_lt_of_le h ?_)
    rw [p39]
    exact Nat.le_trans (show _ ≤ 2 ^ 200 by decide +kernel) (Nat.pow_le_pow_right (by decide) (by decide))
theorem str_num {n : Nat} (h : n < 10 ^ 39) : strD [.int (n : Int)] = some (.str (sN n)) := by
  simp only [strD, log_small h, decide_true, if_true]
  rfl
theorem fmt_num {n : Nat} (h : n < 10 ^ 39) : fmtD (.int (n : Int)) = some (sN n) := by
  simp only [fmtD, log_small h, decide_true, if_true]
  rfl
theorem len_app (x y : Str) : (x ++ y).length = x.length + y.length := by rw [← tl_len, tl_append, List.length_append, tl_len, tl_len]
theorem len_colon : ((":" : Str)).length = 1 := by decide +kernel
theorem len_dash : (("-" : Str)).length = 1 := by decide +kernel
def word (q : Ride) : Str := sN q.1 ++ ":" ++ sN q.2.1 ++ ":" ++ sN q.2.2.1 ++ "-" ++ sN q.2.2.2
theorem tl_word (q : Ride) : tl (word q) = rideL q := by
  unfold word rideL
  simp only [tl_append, tl_sN, colon, dash, tl_one]
  simp
theorem word_mk (q : Ride) : word q = mk (rideL q) := mk_of (tl_word q)
theorem word_len {q : Ride} (h : RideOk q) : (word q).length ≤ 159 := by
  have a := sN_len h.1
  have b := sN_len h.2.1
  have c := sN_len h.2.2.1
  have d := sN_len h.2.2.2
  unfold word
  simp only [len_app, len_colon, len_dash]
  omega
theorem u_addS {x y : Str} (h : x.length + y.length ≤ 16777216) : D.add (.str x) (.str y) = some (.str (x ++ y)) := by
  simp [D.add, h]
def wrB : Rp.Env → Res := dApp 1 (bin2 (binD .Add) (asV (bin2 (binD .Add) (asV (bin2 (binD .Add) (asV (bin2 (binD .Add) (asV (bin2 (binD .Add) (asV (bin2 (binD .Add) (asV (callD strD (consA (borO 2) nilA))) (asV (pureD (.str ":"))))) (asV (callD strD (consA (borO 3) nilA))))) (asV (pureD (.str ":"))))) (asV (callD strD (consA (borO 4) nilA))))) (asV (pureD (.str "-"))))) (asV (callD strD (consA (borO 5) nilA))))
def wrG : D → Rp.Env → Option Rp.Env := gTupD 4 (gConsD (setN 2) (gConsD (setN 3) (gConsD (setN 4) (gConsD (setN 5) gNilD))))
def wrP : Rp.Env → Res := (dSeq (dSetF 1 (dispD .lst nilA)) (dSeq (dFor (borI 0) wrG wrB) (dRetF (strM joinD (asV (pureD (.str " "))) (borO 1)))))
theorem wrP_eq : l_written_den = fnDen 6 1 wrP := rfl
structure Fr4 (a b c d : Slot) : Prop where
  a : a.isLk = false
  b : b.isLk = false
  c : c.isLk = false
  d : d.isLk = false
theorem wrG_ok {q : Ride} {s0 s1 s2 s3 s4 s5 : Slot} (F : Fr4 s2 s3 s4 s5) : wrG (rideD q) [s0, s1, s2, s3, s4, s5] = some [s0, s1, .val (.int q.1), .val (.int q.2.1), .val (.int q.2.2.1), .val (.int q.2.2.2)] := by
  have a := F.a
  have b := F.b
  have c := F.c
  have d := F.d
  simp [wrG, rideD, a, b, c, d]
theorem wrB_ok {q : Ride} (h : RideOk q) {s0 : Slot} {acc : List D} (hl : acc.length < 16777216) : wrB [s0, .own false (.lst acc), .val (.int q.1), .val (.int q.2.1), .val (.int q.2.2.1), .val (.int q.2.2.2)] = .nx [s0, .own false (.lst (acc ++ [.str (word q)])), .val (.int q.1), .val (.int q.2.1), .val (.int q.2.2.1), .val (.int q.2.2.2)] := by
  have a := sN_len h.1
  have b := sN_len h.2.1
  have c := sN_len h.2.2.1
  have d := sN_len h.2.2.2
  unfold word
  have e1 := u_addS (x := sN q.1) (y := ":") (by simp only [len_app, len_colon, len_dash]; omega)
  have e2 := u_addS (x := sN q.1 ++ ":") (y := sN q.2.1) (by simp only [len_app, len_colon, len_dash]; omega)
  have e3 := u_addS (x := sN q.1 ++ ":" ++ sN q.2.1) (y := ":") (by simp only [len_app, len_colon, len_dash]; omega)
  have e4 := u_addS (x := sN q.1 ++ ":" ++ sN q.2.1 ++ ":") (y := sN q.2.2.1) (by simp only [len_app, len_colon, len_dash]; omega)
  have e5 := u_addS (x := sN q.1 ++ ":" ++ sN q.2.1 ++ ":" ++ sN q.2.2.1) (y := "-") (by simp only [len_app, len_colon, len_dash]; omega)
  have e6 := u_addS (x := sN q.1 ++ ":" ++ sN q.2.1 ++ ":" ++ sN q.2.2.1 ++ "-") (y := sN q.2.2.2) (by simp only [len_app, len_colon, len_dash]; omega)
  simp [wrB, str_num h.1, str_num h.2.1, str_num h.2.2.1, str_num h.2.2.2, e1, e2, e3, e4, e5, e6, hl]
theorem wr_loop : ∀ (rs : List Ride) (acc : List D) (s0 s2 s3 s4 s5 : Slot), (∀ q ∈ rs, RideOk q) → acc.length + rs.length ≤ 1000000 → Fr4 s2 s3 s4 s5 → ∃ t2 t3 t4 t5, forL wrG wrB (rs.map rideD) [s0, .own false (.lst acc), s2, s3, s4, s5] = .nx [s0, .own false (.lst (acc ++ rs.map fun q => .str (word q))), t2, t3, t4, t5]
  | [], acc, s0, s2, s3, s4, s5, _, _, _ => ⟨s2, s3, s4, s5, by simp⟩
  | q :: rs, acc, s0, s2, s3, s4, s5, h, hl, F => by
    simp only [List.length_cons] at hl
    obtain ⟨t2, t3, t4, t5, ih⟩ := wr_loop rs (acc ++ [.str (word q)]) s0 (.val (.int q.1)) (.val (.int q.2.1)) (.val (.int q.2.2.1)) (.val (.int q.2.2.2)) (fun p hp => h p (by simp [hp])) (by simp; omega) ⟨rfl, rfl, rfl, rfl⟩
    refine ⟨t2, t3, t4, t5, ?_⟩
    simp [wrG_ok F, wrB_ok (h q (by simp)) (s0 := s0) (acc := acc) (by omega), ih]
theorem strs_map : ∀ ws : List Str, strsD (ws.map D.str) = some ws
  | [] => rfl
  | w :: ws => by simp [strsD, strs_map ws]
theorem words_len : ∀ {rs : List Ride}, (∀ q ∈ rs, RideOk q) → ((rs.map word).map (·.length)).sum ≤ 159 * rs.length
  | [], _ => by simp
  | q :: rs, h => by
    have := words_len (rs := rs) fun p hp => h p (by simp [hp])
    have := word_len (h q (by simp))
    simp at *
    omega
theorem join_words {rs : List Ride} (h : ∀ q ∈ rs, RideOk q) (hl : rs.length ≤ 1000) : joinD (" " : Str) (.lst (rs.map fun q => .str (word q))) = some (.str (mk (tourL rs))) := by
  have e : (rs.map fun q => D.str (word q)) = (rs.map word).map D.str := by rw [List.map_map]; rfl
  have k : decide (((rs.map word).map (·.length)).sum + (rs.map word).length * ((" " : Str)).length ≤ 16777216) = true := by
    have := words_len h
    have l1 : ((" " : Str)).length = 1 := by decide +kernel
    rw [decide_eq_true_eq, l1, List.length_map]
    omega
  rw [e]
  simp only [joinD, strs_map, k, if_true]
  congr 2
  apply mk_of
  rw [join_eq, tl_join, space, tl_one, List.map_map]
  unfold tourL
  congr 1
  apply List.map_congr_left
  intro q _
  exact tl_word q
theorem written_ok {rs : List Ride} (h : ∀ q ∈ rs, RideOk q) (hl : rs.length ≤ 1000) : ∃ e, l_written_den [.v (.lst (rs.map rideD))] = .rt (.str (mk (tourL rs))) true e := by
  obtain ⟨t2, t3, t4, t5, ih⟩ := wr_loop rs [] (.val (.lst (rs.map rideD))) .no .no .no .no h (by simp; omega) ⟨rfl, rfl, rfl, rfl⟩
  have j := join_words h hl
  rw [List.nil_append] at ih
  simp [wrP_eq, startE, Arg.slot, wrP, ih, j, Res.chk, backsOk]
end K62
set_option Elab.async false
set_option linter.all false
set_option maxRecDepth 100000
namespace K62
open PySem Rp L2 TL
@[simp] theorem tz1 : isTy "bool" ["int"] = some true := by decide +kernel
@[simp] theorem tz2 : isTy "bool" ["bool"] = some true := by decide +kernel
@[simp] theorem tz3 : isTy "NoneType" ["int"] = some false := by decide +kernel
@[simp] theorem tz4 : isTy "str" ["int"] = some false := by decide +kernel
@[simp] theorem tz5 : isTy "list" ["int"] = some false := by decide +kernel
@[simp] theorem tz6 : isTy "NoneType" ["bool"] = some false := by decide +kernel
@[simp] theorem tz7 : isTy "list" ["bool"] = some false := by decide +kernel
@[simp] theorem tz8 : isTy "NoneType" ["tuple"] = some false := by decide +kernel
@[simp] theorem tz9 : isTy "list" ["tuple"] = some false := by decide +kernel
@[simp] theorem tz10 : isTy "NoneType" ["list"] = some false := by decide +kernel
@[simp] theorem tz11 : isTy "str" ["list"] = some false := by decide +kernel
@[simp] theorem tz12 : isTy "dict" ["list"] = some false := by decide +kernel
inductive Simp : D → Prop where
  | non : Simp .non
  | bl {b} : Simp (.bl b)
  | int {i} : Simp (.int i)
  | str {x} : Simp (.str x)
  | lst {xs} : Simp (.lst xs)
def intOk : D → Bool
  | .int i => decide (0 ≤ i)
  | _ => false
theorem is_int_ok {d : D} (h : Simp d) : ∃ b e, is_integer_den [.v d, .v (.int 0), .v .non] = .rt (.bl (intOk d)) b e := by
  cases h with
  | int =>
    rename_i i
    by_cases hi : 0 ≤ i
    · simp [is_integer_den, startE, Arg.slot, is_integer_b, D.tyN, Res.chk, backsOk, D.isN, intOk, hi]
    · simp [is_integer_den, startE, Arg.slot, is_integer_b, D.tyN, Res.chk, backsOk, D.isN, intOk, hi]
  | _ => simp [is_integer_den, startE, Arg.slot, is_integer_b, D.tyN, Res.chk, backsOk, D.isN, intOk]
theorem is_int_call {d : D} (h : Simp d) {e : Rp.Env} : callR true is_integer_den [.v d, .v (.int 0), .v .non] e = .ok (.bl (intOk d)) e := by
  obtain ⟨b, e', hh⟩ := is_int_ok h
  exact call3 hh (by simp [isLst])
def rideOk : D → Bool
  | .tup xs => decide (xs.length = 4) && xs.all intOk
  | _ => false
inductive El : D → Prop where
  | one {d} (h : Simp d) : El d
  | tup {xs} (h : ∀ d ∈ xs, Simp d) (l : xs.length < 1000) : El (.tup xs)
theorem ride_tuple_ok {d : D} (h : El d) : ∃ b e, is_ride_tuple_den [.v d] = .rt (.bl (rideOk d)) b e := by
  cases h with
  | one h =>
    cases h <;> simp [is_ride_tuple_den, startE, Arg.slot, is_ride_tuple_b, D.tyN, Res.chk, backsOk, rideOk, ty9, (show isTy "bool" ["tuple"] = some false by decide +kernel), (show isTy "int" ["tuple"] = some false by decide +kernel), (show isTy "str" ["tuple"] = some false by decide +kernel)]
  | tup h l =>
    rename_i xs
    have LC := lc_map (vs := [1]) (s := .val (.tup xs)) (l := [.no]) (it := tupI (rdVar 0)) (g := setN 1) (f := (callU true is_integer_den (consA (asV (rdVar 1)) (consA (asV (pureD (.int 0))) (consA (asV (pureD .non)) nilA))))) (F := fun d => .bl (intOk d)) (xs := xs)
      (by simp) (by omega) rfl rfl (by
        intro x hx
        refine ⟨[.val (.tup xs), .val x], [.val (.tup xs), .val x], by simp, ?_, rfl⟩
        simp [is_int_call (h x hx)])
    have hb := bols_map intOk xs
    by_cases hl : xs.length = 4
    · have e4 : (xs.length : Int) = 4 := by omega
      simp [is_ride_tuple_den, startE, Arg.slot, is_ride_tuple_b, D.tyN, Res.chk, backsOk, rideOk, lenD, e4, hl, LC, allD, hb]
    · have e4 : ((xs.length : Int) == 4) = false := by rw [beq_eq_false_iff_ne]; omega
      simp [is_ride_tuple_den, startE, Arg.slot, is_ride_tuple_b, D.tyN, Res.chk, backsOk, rideOk, lenD, e4, hl]
theorem ride_call {d : D} (h : El d) {e : Rp.Env} : callR true is_ride_tuple_den [.v d] e = .ok (.bl (rideOk d)) e := by
  obtain ⟨b, e', hh⟩ := ride_tuple_ok h
  exact call1 hh (by simp [isLst])
theorem el_list {ds : List D} (h : ∀ d ∈ ds, El d) (hl : ds.length < 1000000) : callD allD (consA (asV (lcD [5] (borI 0) (setN 5) (fun env => .ok true env) (callU true is_ride_tuple_den (consA (asV (rdVar 5)) nilA)))) nilA) [.val (.lst ds), .no, .no, .no, .no, .no] = .ok (.bl (ds.all rideOk)) [.val (.lst ds), .no, .no, .no, .no, .no] := by
  have LC := lc_map (vs := [5]) (s := .val (.lst ds)) (l := [.no, .no, .no, .no, .no]) (it := borI 0) (g := setN 5) (f := callU true is_ride_tuple_den (consA (asV (rdVar 5)) nilA)) (F := fun d => .bl (rideOk d)) (xs := ds)
    (by simp) (by omega) rfl rfl (by
      intro x hx
      refine ⟨[.val (.lst ds), .no, .no, .no, .no, .val x], [.val (.lst ds), .no, .no, .no, .no, .val x], by simp, ?_, rfl⟩
      simp [ride_call (h x hx)])
  have hb := bols_map rideOk ds
  simp [LC, allD, hb]
theorem fmt_bad {ds : List D} (h : ∀ d ∈ ds, El d) (hl : ds.length < 1000000) (hb : ds.all rideOk = false) : ∃ e, format_journey_den [.v (.lst ds)] = .exc (.str "InvalidJourney") e := by
  have E := el_list h hl
  simp [format_journey_den, startE, Arg.slot, format_journey_b, D.tyN, E, hb, Res.chk, backsOk]
theorem fmt_bad2 {d : D} (h : d = .non ∨ (∃ xs, d = .tup xs) ∨ (∃ x, d = .str x) ∨ d = .dct [] []) : ∃ e, format_journey_den [.v d] = .exc (.str "InvalidJourney") e := by
  rcases h with rfl | ⟨xs, rfl⟩ | ⟨x, rfl⟩ | rfl <;> simp [format_journey_den, startE, Arg.slot, format_journey_b, D.tyN, Res.chk, backsOk]
theorem ride_el (q : Ride) : El (rideD q) := by
  refine .tup ?_ (by simp)
  intro d hd
  simp at hd
  rcases hd with rfl | rfl | rfl | rfl <;> exact .int
theorem ride_good (q : Ride) : rideOk (rideD q) = true := by
  simp [rideOk, rideD, intOk]
def fmG : D → Rp.Env → Option Rp.Env := (gTupD 4 (gConsD (setN 1) (gConsD (setN 2) (gConsD (setN 3) (gConsD (setN 4) gNilD)))))
theorem fm_word {q : Ride} (h : RideOk q) {s0 s5 : Slot} : joinF (fmtJ (rdVar 1) (conJ ":" (fmtJ (rdVar 2) (conJ ":" (fmtJ (rdVar 3) (conJ "-" (fmtJ (rdVar 4) nilJ))))))) [s0, .val (.int q.1), .val (.int q.2.1), .val (.int q.2.2.1), .val (.int q.2.2.2), s5] = .ok (.str (word q)) [s0, .val (.int q.1), .val (.int q.2.1), .val (.int q.2.2.1), .val (.int q.2.2.2), s5] := by
  have a := sN_len h.1
  have b := sN_len h.2.1
  have c := sN_len h.2.2.1
  have d := sN_len h.2.2.2
  have z : ∀ x : Str, Str.empty ++ x = x := fun x => ext_tl (by rw [tl_append]; rfl)
  have l1 : (sN q.1).length ≤ 16777216 := by omega
  have l2 : (sN q.1).length + 1 ≤ 16777216 := by omega
  have l3 : (sN q.1).length + 1 + (sN q.2.1).length ≤ 16777216 := by omega
  have l4 : (sN q.1).length + 1 + (sN q.2.1).length + 1 ≤ 16777216 := by omega
  have l5 : (sN q.1).length + 1 + (sN q.2.1).length + 1 + (sN q.2.2.1).length ≤ 16777216 := by omega
  have l6 : (sN q.1).length + 1 + (sN q.2.1).length + 1 + (sN q.2.2.1).length + 1 ≤ 16777216 := by omega
  have l7 : (sN q.1).length + 1 + (sN q.2.1).length + 1 + (sN q.2.2.1).length + 1 + (sN q.2.2.2).length ≤ 16777216 := by omega
  unfold word
  simp [fmt_num h.1, fmt_num h.2.1, fmt_num h.2.2.1, fmt_num h.2.2.2, z, len_app, len_colon, len_dash, l1, l2, l3, l4, l5, l6, l7]
theorem fmt_ok {rs : List Ride} (h : ∀ q ∈ rs, RideOk q) (hl : rs.length ≤ 1000) : ∃ e, format_journey_den [.v (.lst (rs.map rideD))] = .rt (.str (mk (tourL rs))) true e := by
  have E := el_list (ds := rs.map rideD) (by intro d hd; obtain ⟨q, _, rfl⟩ := List.mem_map.mp hd; exact ride_el q) (by simp; omega)
  have A : (rs.map rideD).all rideOk = true := by
    rw [List.all_eq_true]; intro d hd; obtain ⟨q, _, rfl⟩ := List.mem_map.mp hd; exact ride_good q
  rw [A] at E
  have LC := lc_map (vs := [1, 2, 3, 4]) (s := .val (.lst (rs.map rideD))) (l := [.no, .no, .no, .no, .no]) (it := borI 0) (g := fmG) (f := joinF (fmtJ (rdVar 1) (conJ ":" (fmtJ (rdVar 2) (conJ ":" (fmtJ (rdVar 3) (conJ "-" (fmtJ (rdVar 4) nilJ)))))))) (F := fun d => match d with | .tup [.int a, .int b, .int c, .int d] => .str (word (a.toNat, b.toNat, c.toNat, d.toNat)) | _ => .non) (xs := rs.map rideD)
    (by simp) (by simp; omega) rfl rfl (by
      intro x hx
      obtain ⟨q, hq, rfl⟩ := List.mem_map.mp hx
      refine ⟨[.val (.lst (rs.map rideD)), .val (.int q.1), .val (.int q.2.1), .val (.int q.2.2.1), .val (.int q.2.2.2), .no], [.val (.lst (rs.map rideD)), .val (.int q.1), .val (.int q.2.1), .val (.int q.2.2.1), .val (.int q.2.2.2), .no], by simp [fmG, rideD], ?_, rfl⟩
      rw [fm_word (h q hq)]
      rfl)
  have e3 : ((rs.map rideD).map fun d => match d with | .tup [.int a, .int b, .int c, .int d] => D.str (word (a.toNat, b.toNat, c.toNat, d.toNat)) | _ => .non) = rs.map fun q => .str (word q) := by
    rw [List.map_map]; apply List.map_congr_left; intro q _; rfl
  rw [e3] at LC
  have j := join_words h hl
  unfold fmG at LC
  simp [format_journey_den, startE, Arg.slot, format_journey_b, D.tyN, E, LC, j, Res.chk, backsOk]
end K62
set_option Elab.async false
set_option linter.all false
set_option maxRecDepth 100000
namespace K62
open PySem Rp L2 TL
theorem told2 {rs : List Ride} (h : ∀ q ∈ rs, RideOk q) (hl : rs.length ≤ 1000) : ∃ b e, l_told_den [.v (.lst (rs.map rideD)), .v (.int 2)] = .rt (.str (mk (tourL rs))) b e := by
  obtain ⟨e', h2⟩ := fmt_ok h hl
  have := call1 (fresh := true) (e := [.val (.lst (rs.map rideD)), .val (.int 2), .no]) h2 (by simp)
  simp [l_told_den, startE, Arg.slot, l_told_b, this, l_told_h, Res.chk, backsOk]
theorem told3 {rs : List Ride} (h : ∀ q ∈ rs, RideOk q) (hl : rs.length ≤ 1000) : ∃ b e, l_told_den [.v (.lst (rs.map rideD)), .v (.int 3)] = .rt (.str (mk (tourL rs))) b e := by
  obtain ⟨e', h2⟩ := fmt_ok h hl
  have hf : consA (asV (rdVar 0)) nilA [.val (.lst (rs.map rideD)), .val (.int 3), .no] = .ok [.v (.lst (rs.map rideD))] [.val (.lst (rs.map rideD)), .val (.int 3), .no] := by simp
  have := call1K (fresh := true) h2 (by simp) hf
  simp [l_told_den, startE, Arg.slot, l_told_b, this, l_told_h, Res.chk, backsOk]
def Bad (d : D) : Prop := ∃ e, format_journey_den [.v d] = .exc (.str "InvalidJourney") e
theorem told_bad {d : D} (h : Bad d) {w : Int} (hw : w = 2 ∨ w = 3) : ∃ b e, l_told_den [.v d, .v (.int w)] = .rt (.str "journey") b e := by
  obtain ⟨e', h2⟩ := h
  rcases hw with rfl | rfl
  · have := call1x (fresh := true) (e := [.val d, .val (.int 2), .no]) h2
    simp [l_told_den, startE, Arg.slot, l_told_b, this, l_told_h, Res.chk, backsOk]
    simp [(show ¬ (("InvalidJourney" : Str)) = ("InvalidText" : Str) by decide +kernel)]
  · have hf : consA (asV (rdVar 0)) nilA [.val d, .val (.int 3), .no] = .ok [.v d] [.val d, .val (.int 3), .no] := by simp
    have := call1Kx (fresh := true) h2 hf
    simp [l_told_den, startE, Arg.slot, l_told_b, this, l_told_h, Res.chk, backsOk]
    simp [(show ¬ (("InvalidJourney" : Str)) = ("InvalidText" : Str) by decide +kernel)]
/-- a draw -/
def Draw (d : D) (n r : Int) (d' : D) : Prop := ∃ l, l_draw_den [.m d, .v (.int n)] = .rt (.int r) false (.own true d' :: l)
theorem draw_is {N n : Int} {d : D} (s : Src N d) (hN : N < 2147483648) (hn : 1 ≤ n) (h2 : n.natAbs.log2 < 9000) : ∃ r d', 0 ≤ r ∧ r < n ∧ Src (N + 1) d' ∧ Draw d n r d' := by
  obtain ⟨r, d', l, h0, h1, hs, he⟩ := draw_ok s (by omega) hn h2
  exact ⟨r, d', h0, h1, hs, l, he⟩
theorem draw0 {d d' : D} {n r : Int} (h : Draw d n r d') {p : Bool} {l : Rp.Env} : callR true l_draw_den [.s 0, .v (.int n)] (.own p d :: l) = .ok (.int r) (.own p d' :: l) := by
  obtain ⟨l', he⟩ := h
  simp [callR, argsOf, lents, he, isLst, putBk]
theorem draw2' {d d' : D} {n r : Int} (h : Draw d n r d') {p : Bool} {s0 s1 : Slot} {l : Rp.Env} : callR true l_draw_den [.s 2, .v (.int n)] (s0 :: s1 :: .own p d :: l) = .ok (.int r) (s0 :: s1 :: .own p d' :: l) := by
  obtain ⟨l', he⟩ := h
  simp [callR, argsOf, lents, he, isLst, putBk]
theorem cutL_to {α : Type} (xs : List α) {n : Nat} (h : n ≤ xs.length) : cutL xs none (some (n : Int)) = xs.take n := by
  unfold cutL
  rw [HT.sIx_none, HT.sIx_nat, List.drop_zero, Nat.sub_zero, Nat.min_eq_left h]
theorem cutL_from {α : Type} (xs : List α) {n : Nat} (h : n ≤ xs.length) : cutL xs (some (n : Int)) none = xs.drop n := by
  unfold cutL
  rw [HT.sIx_none, HT.sIx_nat, Nat.min_eq_left h, List.take_of_length_le]
  rw [List.length_drop]
  exact Nat.le_refl _
def good4 : List D := [.int 0, .int 1, .int 2, .int 3]
def odds : List D := [.int (-1), .bl true, .str "1", .non, .lst [.int 1], .bl false]
def base8 : List D := [.non, .tup [.int 0, .int 1, .int 2], .tup [.int 0, .int 1, .int 2, .int 3, .int 4], .lst [.int 0, .int 1, .int 2, .int 3], .tup [.int 0, .int 1, .int 2, .int (-1)], .tup [.bl true, .int 1, .int 2, .int 3], .tup [.int 0, .str "1", .int 2, .int 3], .tup [.int 0, .int 1, .non, .int 2]]
def bads (p : Nat) : List D := base8 ++ odds.map fun o => .tup (good4.take p ++ ([o] ++ good4.drop (p + 1)))
theorem bads_len {p : Nat} : (bads p).length = 14 := by simp [bads, base8, odds]
theorem bads_ok {p : Nat} (hp : p < 4) : ∀ d ∈ bads p, El d ∧ rideOk d = false := by
  have c0 : ∀ d ∈ base8, El d ∧ rideOk d = false := by
    intro d hd
    simp only [base8, List.mem_cons, List.not_mem_nil, or_false] at hd
    rcases hd with rfl | rfl | rfl | rfl | rfl | rfl | rfl | rfl
    · exact ⟨.one .non, rfl⟩
    all_goals first
      | exact ⟨.one .lst, rfl⟩
      | exact ⟨.tup (by intro d hd; simp at hd; rcases hd with rfl | rfl | rfl | rfl | rfl <;> constructor) (by simp), by simp [rideOk, intOk]⟩
      | exact ⟨.tup (by intro d hd; simp at hd; rcases hd with rfl | rfl | rfl | rfl <;> constructor) (by simp), by simp [rideOk, intOk]⟩
      | exact ⟨.tup (by intro d hd; simp at hd; rcases hd with rfl | rfl | rfl <;> constructor) (by simp), by simp [rideOk, intOk]⟩
  have g : ∀ d ∈ good4, Simp d := by intro d hd; simp [good4] at hd; rcases hd with rfl | rfl | rfl | rfl <;> constructor
  have o : ∀ d ∈ odds, Simp d ∧ intOk d = false := by
    intro d hd; simp [odds] at hd; rcases hd with rfl | rfl | rfl | rfl | rfl | rfl <;> exact ⟨by constructor, by simp [intOk]⟩
  intro d hd
  rcases List.mem_append.mp hd with hd | hd
  · exact c0 d hd
  · obtain ⟨x, hx, rfl⟩ := List.mem_map.mp hd
    refine ⟨.tup ?_ ?_, ?_⟩
    · intro y hy
      simp only [List.mem_append, List.mem_singleton] at hy
      rcases hy with hy | rfl | hy
      · exact g y (List.mem_of_mem_take hy)
      · exact (o _ hx).1
      · exact g y (List.mem_of_mem_drop hy)
    · simp [good4]; omega
    · simp [rideOk, (o x hx).2]
end K62
set_option Elab.async false
set_option linter.all false
set_option maxRecDepth 100000
namespace K62
open PySem Rp L2 TL
theorem bad_el {d : D} {p : Nat} (hp : p < 4) (hd : d ∈ bads p) (rs : List Ride) (n : Nat) (hl : rs.length ≤ 1000) : Bad (.lst ((rs.map rideD).take n ++ ([d] ++ (rs.map rideD).drop n))) := by
  obtain ⟨h1, h2⟩ := bads_ok hp d hd
  have g : ∀ x ∈ rs.map rideD, El x := by intro x hx; obtain ⟨q, _, rfl⟩ := List.mem_map.mp hx; exact ride_el q
  refine fmt_bad ?_ ?_ ?_
  · intro x hx
    simp only [List.mem_append, List.mem_singleton] at hx
    rcases hx with hx | rfl | hx
    · exact g x (List.mem_of_mem_take hx)
    · exact h1
    · exact g x (List.mem_of_mem_drop hx)
  · simp; omega
  · simp [h2]
theorem cut3 {p : Nat} (hp : p < 4) : D.cut (.tup [.int 0, .int 1, .int 2, .int 3]) none (some (p : Int)) = some (.tup (good4.take p)) := by
  show some (D.tup (cutL good4 _ _)) = _
  rw [cutL_to good4 (by simp [good4]; omega)]
theorem cut4 {p : Nat} (hp : p < 4) : D.cut (.tup [.int 0, .int 1, .int 2, .int 3]) (some ((p : Int) + 1)) none = some (.tup (good4.drop (p + 1))) := by
  show some (D.tup (cutL good4 _ _)) = _
  have := cutL_from good4 (n := p + 1) (by simp [good4]; omega)
  rw [← this]
  simp
theorem Src.mono {N M : Int} {d : D} (h : Src N d) (l : N ≤ M) : Src M d := by
  obtain ⟨a, b, c, e, h1, h2, h3, h4⟩ := h
  exact ⟨a, b, c, e, h1, h2, h3, by omega⟩
def badsAB (A B : List D) : List D := [.non, .tup [.int 0, .int 1, .int 2], .tup [.int 0, .int 1, .int 2, .int 3, .int 4], .lst [.int 0, .int 1, .int 2, .int 3], .tup [.int 0, .int 1, .int 2, .int (-1)], .tup [.bl true, .int 1, .int 2, .int 3], .tup [.int 0, .str "1", .int 2, .int 3], .tup [.int 0, .int 1, .non, .int 2],
  .tup (A ++ .int (-1) :: B), .tup (A ++ .bl true :: B), .tup (A ++ .str "1" :: B), .tup (A ++ .non :: B), .tup (A ++ .lst [.int 1] :: B), .tup (A ++ .bl false :: B)]
theorem badsAB_eq (p : Nat) : badsAB (good4.take p) (good4.drop (p + 1)) = bads p := rfl
theorem wrong_ok {N : Int} {src : D} {rs : List Ride} (s : Src N src) (hN : N < 1000000) (hl : rs.length ≤ 1000) : ∃ d b src' l, Src (N + 3) src' ∧ l_wrong_den [.m src, .v (.lst (rs.map rideD))] = .rt d b (.own true src' :: l) ∧ Bad d ∧ (isLst d = true → b = true) := by
  have lg : ∀ n : Int, 1 ≤ n → n < 100000 → n.natAbs.log2 < 9000 := fun n h1 h2 => by
    refine (Nat.log2_lt (by omega)).mpr (Nat.lt_of_lt_of_le (m := 2 ^ 17) (by omega) (Nat.pow_le_pow_right (by decide) (by decide)))
  obtain ⟨r1, s1, a1, b1, S1, D1⟩ := draw_is s (n := 4) (by omega) (by decide) (lg _ (by decide) (by decide))
  obtain ⟨r2, s2, a2, b2, S2, D2⟩ := draw_is S1 (n := 18) (by omega) (by decide) (lg _ (by decide) (by decide))
  obtain ⟨r3, s3, a3, b3, S3, D3⟩ := draw_is S2 (n := (rs.length : Int) + 1) (by omega) (by omega) (lg _ (by omega) (by omega))
  obtain ⟨p, rfl⟩ := Int.eq_ofNat_of_zero_le a1
  obtain ⟨k, rfl⟩ := Int.eq_ofNat_of_zero_le a2
  obtain ⟨n, rfl⟩ := Int.eq_ofNat_of_zero_le a3
  have hp : p < 4 := by omega
  have hn : n ≤ rs.length := by omega
  have e3 := cut3 hp
  have e4 := cut4 hp
  have tl4 : (good4.take p).length ≤ 4 := by simp [good4]; omega
  have dl4 : (good4.drop (p + 1)).length ≤ 4 := by simp [good4]; omega
  have c1 : D.cut (.lst (rs.map rideD)) none (some (n : Int)) = some (.lst ((rs.map rideD).take n)) := by
    show some (D.lst (cutL _ _ _)) = _
    rw [cutL_to _ (by simpa using hn)]
  have c2 : D.cut (.lst (rs.map rideD)) (some (n : Int)) none = some (.lst ((rs.map rideD).drop n)) := by
    show some (D.lst (cutL _ _ _)) = _
    rw [cutL_from _ (by simpa using hn)]
  by_cases hk : 13 < k
  · have ks : k = 14 ∨ k = 15 ∨ k = 16 ∨ k = 17 := by omega
    generalize good4.take p = A at *
    generalize good4.drop (p + 1) = B at *
    have l1 : A.length + 1 ≤ 16777216 := by omega
    have l2 : A.length + (B.length + 1) ≤ 16777216 := by omega
    have l3 : A.length + 1 + B.length ≤ 16777216 := by omega
    rcases ks with rfl | rfl | rfl | rfl
    · have key : ∃ l, l_wrong_den [.m src, .v (.lst (rs.map rideD))] = .rt (.non) false (.own true s2 :: l) := by
        simp [l_wrong_den, startE, Arg.slot, l_wrong_b, draw0 D1, draw0 D2, D.add, e3, e4, l1, l2, l3, tupleD, Res.chk, backsOk]
      obtain ⟨l, key⟩ := key
      exact ⟨_, _, s2, l, S2.mono (by omega), key, fmt_bad2 (.inl rfl), fun z => by cases z⟩
    · have key : ∃ l, l_wrong_den [.m src, .v (.lst (rs.map rideD))] = .rt (.tup (rs.map rideD)) false (.own true s2 :: l) := by
        simp [l_wrong_den, startE, Arg.slot, l_wrong_b, draw0 D1, draw0 D2, D.add, e3, e4, l1, l2, l3, tupleD, Res.chk, backsOk]
      obtain ⟨l, key⟩ := key
      exact ⟨_, _, s2, l, S2.mono (by omega), key, fmt_bad2 (.inr (.inl ⟨_, rfl⟩)), fun z => by cases z⟩
    · have key : ∃ l, l_wrong_den [.m src, .v (.lst (rs.map rideD))] = .rt (.str "0:1:2-3") false (.own true s2 :: l) := by
        simp [l_wrong_den, startE, Arg.slot, l_wrong_b, draw0 D1, draw0 D2, D.add, e3, e4, l1, l2, l3, tupleD, Res.chk, backsOk]
      obtain ⟨l, key⟩ := key
      exact ⟨_, _, s2, l, S2.mono (by omega), key, fmt_bad2 (.inr (.inr (.inl ⟨_, rfl⟩))), fun z => by cases z⟩
    · have key : ∃ l, l_wrong_den [.m src, .v (.lst (rs.map rideD))] = .rt (.dct [] []) false (.own true s2 :: l) := by
        simp [l_wrong_den, startE, Arg.slot, l_wrong_b, draw0 D1, draw0 D2, D.add, e3, e4, l1, l2, l3, tupleD, Res.chk, backsOk]
      obtain ⟨l, key⟩ := key
      exact ⟨_, _, s2, l, S2.mono (by omega), key, fmt_bad2 (.inr (.inr (.inr rfl))), fun z => by cases z⟩
  · have hk2 : k < 14 := by omega
    have hk3 : ¬ (13 : Int) < (k : Int) := by omega
    have hat : L2.atI (bads p) (k : Int) = some ((bads p)[k]'(by rw [bads_len]; omega)) := at_nat (by rw [bads_len]; omega)
    have hm : (bads p)[k]'(by rw [bads_len]; omega) ∈ bads p := List.getElem_mem _
    generalize (bads p)[k]'(by rw [bads_len]; omega) = x at hat hm
    have hbad := bad_el hp hm rs n hl
    rw [← badsAB_eq] at hat
    generalize good4.take p = A at *
    generalize good4.drop (p + 1) = B at *
    have l1 : A.length + 1 ≤ 16777216 := by omega
    have l2 : A.length + (B.length + 1) ≤ 16777216 := by omega
    have l3 : A.length + 1 + B.length ≤ 16777216 := by omega
    unfold badsAB at hat
    have m1 : min n rs.length + 1 ≤ 16777216 := by omega
    have m2 : min n rs.length + 1 + (rs.length - n) ≤ 16777216 := by omega
    have key : ∃ l, l_wrong_den [.m src, .v (.lst (rs.map rideD))] = .rt (.lst ((rs.map rideD).take n ++ ([x] ++ (rs.map rideD).drop n))) true (.own true s3 :: l) := by
      simp [l_wrong_den, startE, Arg.slot, l_wrong_b, draw0 D1, draw0 D2, draw0 D3, D.add, e3, e4, l1, l2, l3, lenD, hk3, hat, c1, c2, m1, m2, Res.chk, backsOk]
    obtain ⟨l, key⟩ := key
    exact ⟨_, _, s3, l, S3.mono (by omega), key, hbad, fun _ => rfl⟩
end K62
set_option Elab.async false
set_option linter.all false
set_option maxRecDepth 100000
namespace K62
open PySem Rp L2 TL
theorem runs_app {R S : Nat} {p q : List Nat} (h : Runs R p) (k : Runs S q) : Runs (R + S) (p ++ q) := by
  intro a b c e d
  rcases List.append_eq_append_iff.mp e with ⟨x, h1, h2⟩ | ⟨x, h1, h2⟩
  · have := k x b c h2 d
    omega
  · rcases List.append_eq_append_iff.mp h2.symm with ⟨y, h3, h4⟩ | ⟨y, h3, h4⟩
    · rw [h3, List.all_append, Bool.and_eq_true] at d
      have := h a x [] (by rw [h1]; simp) d.1
      have := k [] y c (by rw [h4]; rfl) d.2
      rw [h3, List.length_append]
      omega
    · have := h a b y (by rw [h1, h3]) d
      omega
theorem runs_sub {R : Nat} {p q r : List Nat} (h : Runs R (p ++ (q ++ r))) : Runs R q := fun a b c e d => h (p ++ a) b (c ++ r) (by rw [e]; simp) d
theorem runs_take {R n : Nat} {l : List Nat} (h : Runs R l) : Runs R (l.take n) := runs_sub (p := []) (r := l.drop n) (by simpa using h)
theorem runs_drop {R n : Nat} {l : List Nat} (h : Runs R l) : Runs R (l.drop n) := runs_sub (p := l.take n) (r := []) (by simpa using h)
theorem runs_short {m : List Nat} (h : m.length ≤ 1) : Runs 1 m := by
  intro a b c e d
  have := congrArg List.length e
  simp at this
  omega
theorem Tx.bend {R s t : Nat} {l m : List Nat} (h : Tx R l) (hm : m.length ≤ 1) (hc : ∀ c ∈ m, c < 1114112) (hl : l.length ≤ 99990) (st : s ≤ t) : Tx (2 * R + 1) (l.take s ++ (m ++ l.drop t)) where
  ok c hc' := by
    simp only [List.mem_append] at hc'
    rcases hc' with h1 | h1 | h1
    · exact h.ok c (List.mem_of_mem_take h1)
    · exact hc c h1
    · exact h.ok c (List.mem_of_mem_drop h1)
  len := by simp; omega
  run := by
    have := runs_app (runs_take (n := s) h.run) (runs_app (runs_short hm) (runs_drop (n := t) h.run))
    rw [show 2 * R + 1 = R + (1 + R) by omega]
    exact this
theorem cut_fromA {w : Str} {n : Nat} : tl (cutS w (some (n : Int)) none) = (tl w).drop n := by
  unfold cutS
  rw [HT.sIx_none, HT.sIx_nat]
  show ((w.cps.toList.drop (min n w.length)).take (w.length - min n w.length)) = _
  have e : w.length = w.cps.toList.length := by simp [Str.length]
  rw [List.take_of_length_le (by rw [List.length_drop, ← e]; exact Nat.le_refl _)]
  by_cases h : n ≤ w.length
  · rw [Nat.min_eq_left h]
  · rw [Nat.min_eq_right (by omega)]
    show w.cps.toList.drop w.length = w.cps.toList.drop n
    rw [List.drop_eq_nil_of_le (by omega), List.drop_eq_nil_of_le (by omega)]
theorem cut_toA {w : Str} {n : Nat} (h : n ≤ (tl w).length) : tl (cutS w none (some (n : Int))) = (tl w).take n := tl_cut_to w h
def signs16 : List Nat := [32, 58, 45, 48, 49, 50, 51, 53, 55, 57, 43, 95, 120, 46, 59, 47]
theorem signs_is : ((" :-0123579+_x.;/" : Str)).cps.toList = signs16 := by decide +kernel
theorem sign_at {r : Nat} (h : r < 16) : ∃ c, c < 128 ∧ D.idx (.str " :-0123579+_x.;/") (.int (r : Int)) = some (.str (one c)) := by
  have hl : r < signs16.length := h
  refine ⟨signs16[r], ?_, ?_⟩
  · have : ∀ c ∈ signs16, c < 128 := by decide
    exact this _ (List.getElem_mem hl)
  · have l1 : ((" :-0123579+_x.;/" : Str)).length ≤ 16777216 := by decide +kernel
    show (if lenOk ((" :-0123579+_x.;/" : Str)).length = true then (L2.atI ((" :-0123579+_x.;/" : Str)).cps.toList (r : Int)).map (fun c => D.str ⟨#[c]⟩) else none) = _
    rw [signs_is, at_nat hl]
    simp [l1]
    rfl
theorem bent_ok {N : Int} {R : Nat} {src : D} {w : Str} (s : Src N src) (hN : N < 1000000) (h : Tx R (tl w)) (hl : (tl w).length ≤ 99990) :
    ∃ w' src' l, Src (N + 4) src' ∧ l_bent_den [.m src, .v (.str w)] = .rt (.str w') true (.own true src' :: l) ∧ Tx (2 * R + 1) (tl w') ∧ (tl w').length ≤ (tl w).length + 1 := by
  have lg : ∀ n : Int, 1 ≤ n → n < 110000 → n.natAbs.log2 < 9000 := fun n h1 h2 => by
    refine (Nat.log2_lt (by omega)).mpr (Nat.lt_of_lt_of_le (m := 2 ^ 17) (by omega) (Nat.pow_le_pow_right (by decide) (by decide)))
  have wl : w.length = (tl w).length := (tl_len w).symm
  obtain ⟨r1, s1, a1, b1, S1, D1⟩ := draw_is s (n := (w.length : Int) + 1) (by omega) (by omega) (lg _ (by omega) (by omega))
  obtain ⟨r2, s2, a2, b2, S2, D2⟩ := draw_is S1 (n := 16) (by omega) (by decide) (lg _ (by decide) (by decide))
  obtain ⟨r3, s3, a3, b3, S3, D3⟩ := draw_is S2 (n := 4) (by omega) (by decide) (lg _ (by decide) (by decide))
  obtain ⟨r4, s4, a4, b4, S4, D4⟩ := draw_is S3 (n := 9) (by omega) (by decide) (lg _ (by decide) (by decide))
  obtain ⟨n, rfl⟩ := Int.eq_ofNat_of_zero_le a1
  obtain ⟨g, rfl⟩ := Int.eq_ofNat_of_zero_le a2
  obtain ⟨v, rfl⟩ := Int.eq_ofNat_of_zero_le a3
  obtain ⟨u, rfl⟩ := Int.eq_ofNat_of_zero_le a4
  have hn : n ≤ (tl w).length := by omega
  obtain ⟨c, hc, ec⟩ := sign_at (r := g) (by omega)
  have cA := cut_toA hn
  have l0 : w.length ≤ 16777216 := by omega
  have lt : (cutS w none (some (n : Int))).length = n := by rw [← tl_len, cA, List.length_take]; omega
  have lf : ∀ t : Nat, (cutS w (some (t : Int)) none).length = w.length - t := fun t => by rw [← tl_len, cut_fromA, List.length_drop, wl]
  have lo : (one c).length = 1 := rfl
  have le : ((" " : Str)).length = 1 := by decide +kernel
  have lz : (("" : Str)).length = 0 := by decide +kernel
  have tz : tl ("" : Str) = [] := by decide +kernel
  have vs : v = 0 ∨ v = 1 ∨ v = 2 ∨ v = 3 := by omega
  have lf0 := lf n
  have lf1 : (cutS w (some ((n : Int) + 1)) none).length = w.length - (n + 1) := by have := lf (n + 1); simpa using this
  have lf4 : (cutS w (some ((n : Int) + (u : Int))) none).length = w.length - (n + u) := by have := lf (n + u); simpa using this
  have f1 : tl (cutS w (some ((n : Int) + 1)) none) = (tl w).drop (n + 1) := by have := cut_fromA (w := w) (n := n + 1); simpa using this
  have f4 : tl (cutS w (some ((n : Int) + (u : Int))) none) = (tl w).drop (n + u) := by have := cut_fromA (w := w) (n := n + u); simpa using this
  have k1 : n + 1 ≤ 16777216 := by omega
  have k2 : n + 1 + (w.length - n) ≤ 16777216 := by omega
  have k3 : n + 1 + (w.length - (n + 1)) ≤ 16777216 := by omega
  have k4 : n ≤ 16777216 := by omega
  have k5 : n + (w.length - (n + 1)) ≤ 16777216 := by omega
  have k6 : n + (w.length - (n + u)) ≤ 16777216 := by omega
  rcases vs with rfl | rfl | rfl | rfl
  · refine ⟨cutS w none (some (n : Int)) ++ one c ++ cutS w (some (n : Int)) none, s3, [.val (.str w), .val (.int n), .val (.str (one c)), .val (.int 0)], S3.mono (by omega), ?_, ?_, ?_⟩
    · simp [l_bent_den, startE, Arg.slot, l_bent_b, lenD, l0, draw0 D1, draw0 D2, ec, draw0 D3, D.cut, D.add, len_app, lt, lf0, lo, k1, k2, Res.chk, backsOk]
    · rw [tl_append, tl_append, cA, cut_fromA, tl_one, List.append_assoc]
      exact h.bend (by simp) (by simp; omega) hl (Nat.le_refl _)
    · rw [tl_append, tl_append, cA, cut_fromA, tl_one]; simp; omega
  · refine ⟨cutS w none (some (n : Int)) ++ one c ++ cutS w (some ((n : Int) + 1)) none, s3, [.val (.str w), .val (.int n), .val (.str (one c)), .val (.int 1)], S3.mono (by omega), ?_, ?_, ?_⟩
    · simp [l_bent_den, startE, Arg.slot, l_bent_b, lenD, l0, draw0 D1, draw0 D2, ec, draw0 D3, D.cut, D.add, len_app, lt, lf1, lo, k1, k3, Res.chk, backsOk]
    · rw [tl_append, tl_append, cA, f1, tl_one, List.append_assoc]
      exact h.bend (by simp) (by simp; omega) hl (Nat.le_succ _)
    · rw [tl_append, tl_append, cA, f1, tl_one]; simp; omega
  · refine ⟨cutS w none (some (n : Int)) ++ ("" : Str) ++ cutS w (some ((n : Int) + 1)) none, s3, [.val (.str w), .val (.int n), .val (.str (one c)), .val (.int 2)], S3.mono (by omega), ?_, ?_, ?_⟩
    · simp [l_bent_den, startE, Arg.slot, l_bent_b, lenD, l0, draw0 D1, draw0 D2, ec, draw0 D3, D.cut, D.add, len_app, lt, lf1, lz, k4, k5, Res.chk, backsOk]
    · rw [tl_append, tl_append, cA, f1, tz, List.append_assoc]
      exact h.bend (by simp) (by simp) hl (Nat.le_succ _)
    · rw [tl_append, tl_append, cA, f1, tz]; simp; omega
  · refine ⟨cutS w none (some (n : Int)) ++ cutS w (some ((n : Int) + (u : Int))) none, s4, [.val (.str w), .val (.int n), .val (.str (one c)), .val (.int 3)], S4.mono (by omega), ?_, ?_, ?_⟩
    · simp [l_bent_den, startE, Arg.slot, l_bent_b, lenD, l0, draw0 D1, draw0 D2, ec, draw0 D3, draw0 D4, D.cut, D.add, len_app, lt, lf4, k6, Res.chk, backsOk]
    · rw [tl_append, cA, f4]
      exact h.bend (m := []) (by simp) (by simp) hl (Nat.le_add_right _ _)
    · rw [tl_append, cA, f4]; simp; omega
end K62
set_option Elab.async false
set_option linter.all false
set_option maxRecDepth 100000
namespace K62
open PySem Rp L2 TL
theorem word_form {l : List Nat} (h : (wordD l).isN = false) : ∃ a b c d : Int, wordD l = .tup [.int a, .int b, .int c, .int d] := by
  rcases wordD_form l with h' | h'
  · rw [h'] at h; cases h
  · exact h'
theorem sm_ride {k : Nat} {a b c d : Int} : Sm (k + 2) (.tup [.int a, .int b, .int c, .int d]) := by
  refine sm_tup (by simp) ?_
  intro x hx
  simp at hx
  rcases hx with rfl | rfl | rfl | rfl <;> exact sm_int
theorem text_ok : PyData.strOk ("text" : Str) = true := by decide +kernel
theorem due_sm {l : List Nat} (h : Tx 640 l) : Sm 4 (dueD l) := by
  unfold dueD
  split
  · exact sm_str text_ok
  · rename_i h1
    unfold readD at h1 ⊢
    split
    · exact sm_lst (by simp) (by simp)
    · rename_i h0
      rw [if_neg h0] at h1
      split
      · rename_i h2; rw [if_pos h2] at h1; exact absurd rfl h1
      · rename_i h2
        refine sm_lst ?_ ?_
        · have := spl_len (c := 32) l
          have := h.len
          simp; omega
        · intro d hd
          obtain ⟨p, hp, rfl⟩ := List.mem_map.mp hd
          have : (wordD p).isN = false := by
            cases q : (wordD p).isN with
            | false => rfl
            | true => exact absurd (List.any_eq_true.mpr ⟨_, hd, q⟩) h2
          obtain ⟨a, b, c, e, hh⟩ := word_form this
          rw [hh]
          exact sm_ride
theorem dig_num (n : Nat) : (numL n).all dig = true := by
  rw [List.all_eq_true]
  intro c hc
  have := numL_digits n c hc
  simpa [dig] using this
theorem numL_head (n : Nat) : numL n = [48] ∨ (numL n).head? ≠ some 48 := by
  induction n using Nat.strongRecOn with
  | _ n ih =>
    by_cases h : n < 10
    · rw [numL_lt h]
      by_cases h0 : n = 0
      · left; rw [h0]
      · right; simp; omega
    · right
      rw [numL_step (by omega)]
      rcases ih (n / 10) (by omega) with h1 | h1
      · have e := numL_val (n / 10)
        rw [h1] at e
        have : n / 10 = 0 := by rw [← e]; decide
        omega
      · have hne := numL_ne (n / 10)
        cases q : numL (n / 10) with
        | nil => exact absurd q hne
        | cons x xs => rw [q] at h1; simpa using h1
theorem num_back (n : Nat) : numM (numL n) = .int (n : Int) := by
  unfold numM numD
  rw [if_pos ⟨by rw [tl_mk0]; exact numL_ne n, by rw [tl_mk0]; exact dig_num n, by rw [tl_mk0]; exact numL_head n⟩, tl_mk0, numL_val]
theorem word_back (q : Ride) : wordD (rideL q) = rideD q := by
  have f (n : Nat) : 58 ∉ numL n := numL_free (.inr (by decide))
  have g (n : Nat) : 45 ∉ numL n := numL_free (.inl (by decide))
  unfold rideL
  simp [wordD, bef_app (f _), aft_app (f _), bef_app (g _), aft_app (g _), num_back, rideOf, D.isN]
  rfl
theorem ride_free (q : Ride) : 32 ∉ rideL q := by
  have f (n : Nat) : 32 ∉ numL n := numL_free (.inl (by decide))
  simp [rideL, f]
theorem tour_ne {rs : List Ride} (h : rs ≠ []) : tourL rs ≠ [] := by
  intro z
  cases rs with
  | nil => exact h rfl
  | cons q rs =>
    have : rideL q ≠ [] := by simp [rideL]
    cases rs with
    | nil => exact this z
    | cons p r =>
      have : rideL q ++ ([32] ++ joinL [32] (rideL p :: r.map rideL)) = [] := z
      simp at this
theorem tour_back (rs : List Ride) : readD (tourL rs) = .lst (rs.map rideD) := by
  unfold readD
  by_cases h : rs = []
  · subst h; rfl
  · rw [if_neg (tour_ne h)]
    have e : spl [32] 0 [] (tourL rs) = rs.map rideL := spl_join (by simpa using h) (by intro p hp; obtain ⟨q, _, rfl⟩ := List.mem_map.mp hp; exact ride_free q)
    have e2 : (rs.map rideL).map wordD = rs.map rideD := by
      rw [List.map_map]; apply List.map_congr_left; intro q _; exact word_back q
    rw [e, e2, if_neg]
    simp [rideD, D.isN]
theorem runs_num {n : Nat} (h : n < 10 ^ 39) : Runs 39 (numL n) := fun a b c e d => by
  have := congrArg List.length e
  have := numL_len (k := 39) (by decide) h
  simp at *
  omega
theorem runs_sep {R c : Nat} {p q : List Nat} (hc : dig c = false) (h : Runs R p) (k : Runs R q) : Runs R (p ++ c :: q) := by
  intro a b z e d
  rcases List.append_eq_append_iff.mp e with ⟨x, h1, h2⟩ | ⟨x, h1, h2⟩
  · cases x with
    | nil =>
      cases b with
      | nil => simp
      | cons y b =>
        simp at h2
        rw [← h2.1] at d
        simp [hc] at d
    | cons y x =>
      simp at h2
      exact k x b z (by rw [h2.2]) d
  · rcases List.append_eq_append_iff.mp h2.symm with ⟨y, h3, h4⟩ | ⟨y, h3, h4⟩
    · cases y with
      | nil => exact h a b [] (by rw [h1, h3]; simp) d
      | cons w y =>
        simp at h4
        rw [h3, ← h4.1] at d
        simp [hc] at d
    · exact h a b y (by rw [h1, h3]) d
theorem runs_ride {q : Ride} (h : RideOk q) : Runs 39 (rideL q) :=
  runs_sep (by decide) (runs_num h.1) (runs_sep (by decide) (runs_num h.2.1) (runs_sep (by decide) (runs_num h.2.2.1) (runs_num h.2.2.2)))
theorem runs_tour : ∀ {rs : List Ride}, (∀ q ∈ rs, RideOk q) → Runs 39 (tourL rs)
  | [], _ => fun a b c e d => by
    have := congrArg List.length e
    simp [tourL, joinL] at this
    simp; omega
  | [q], h => runs_ride (h q (by simp))
  | q :: p :: r, h => runs_sep (p := rideL q) (by decide) (runs_ride (h q (by simp))) (runs_tour (rs := p :: r) fun x hx => h x (by simp [hx]))
theorem ride_len {q : Ride} (h : RideOk q) : (rideL q).length ≤ 159 := by rw [← tl_word, tl_len]; exact word_len h
theorem tour_len : ∀ {rs : List Ride}, (∀ q ∈ rs, RideOk q) → (tourL rs).length ≤ 160 * rs.length
  | [], _ => by simp [tourL, joinL]
  | [q], h => by have := ride_len (h q (by simp)); simp [tourL, joinL]; omega
  | q :: p :: r, h => by
    have := ride_len (h q (by simp))
    have ih := tour_len (rs := p :: r) fun x hx => h x (by simp [hx])
    have e : tourL (q :: p :: r) = rideL q ++ ([32] ++ tourL (p :: r)) := rfl
    rw [e]
    simp at *
    omega
theorem ride_small (q : Ride) : ∀ c ∈ rideL q, c < 1114112 := by
  have f (n : Nat) : ∀ c ∈ numL n, c < 1114112 := fun c hc => by
    have := numL_digits n c hc
    omega
  intro c hc
  simp [rideL] at hc
  rcases hc with hc | rfl | hc | rfl | hc | rfl | hc <;> first | exact f _ _ hc | decide
theorem tour_small : ∀ (rs : List Ride), ∀ c ∈ tourL rs, c < 1114112
  | [] => by simp [tourL, joinL]
  | [q] => ride_small q
  | q :: p :: r => by
    have e : tourL (q :: p :: r) = rideL q ++ ([32] ++ tourL (p :: r)) := rfl
    rw [e]
    intro c hc
    simp at hc
    rcases hc with hc | rfl | hc
    · exact ride_small q c hc
    · decide
    · exact tour_small (p :: r) c hc
theorem tour_tx {rs : List Ride} (h : ∀ q ∈ rs, RideOk q) (hl : rs.length ≤ 100) : Tx 39 (tourL rs) :=
  ⟨tour_small rs, by have := tour_len h; omega, runs_tour h⟩
theorem Tx.wide {R S : Nat} {l : List Nat} (h : Tx R l) (k : R ≤ S) : Tx S l := ⟨h.ok, h.len, fun a b c e d => Nat.le_trans (h.run a b c e d) k⟩
end K62
set_option Elab.async false
set_option linter.all false
set_option maxRecDepth 100000
namespace K62
open PySem Rp L2 TL
theorem lgD {n : Int} (h1 : 1 ≤ n) (h2 : n ≤ 10 ^ 39) : n.natAbs.log2 < 9000 := by
  refine (Nat.log2_lt (by omega)).mpr (Nat.lt_of_lt_of_le (m := 2 ^ 200) ?_ (Nat.pow_le_pow_right (by decide) (by decide)))
  have e : (10 : Int) ^ 39 = 1000000000000000000000000000000000000000 := by decide +kernel
  have e2 : 2 ^ 200 = 1606938044258990275541962092341162602522202993782792835301376 := by decide +kernel
  rw [e] at h2
  rw [e2]
  omega
@[simp] theorem rOk_4 : rOk 4 = true := by decide +kernel
@[simp] theorem rOk_3 : rOk 3 = true := by decide +kernel
@[simp] theorem rng4 : rngL 0 4 = [.int 0, .int 1, .int 2, .int 3] := rfl
@[simp] theorem rng3 : rngL 0 3 = [.int 0, .int 1, .int 2] := rfl
def kinds : List D := [.int 3, .int 100, .int 100000000000000000000, .int 1000000000000000000000000000000000000000]
theorem kind_at {r : Int} (h0 : 0 ≤ r) (h1 : r < 4) : ∃ n : Int, 1 ≤ n ∧ n ≤ 10 ^ 39 ∧ L2.atI kinds r = some (.int n) := by
  have : r = 0 ∨ r = 1 ∨ r = 2 ∨ r = 3 := by omega
  rcases this with rfl | rfl | rfl | rfl
  · exact ⟨_, by decide, by decide +kernel, at0⟩
  · exact ⟨_, by decide, by decide +kernel, at1⟩
  · exact ⟨_, by decide, by decide +kernel, at2⟩
  · exact ⟨_, by decide, by decide +kernel, at3⟩
/-- two draws: a kind, a number -/
theorem draw_num {N : Int} {d : D} (s : Src N d) (hN : N < 1000000) : ∃ r k d1 d2, Src (N + 2) d2 ∧ Draw d 4 r d1 ∧ L2.atI kinds r = some (.int k) ∧ ∃ n : Nat, n < 10 ^ 39 ∧ Draw d1 k (n : Int) d2 := by
  obtain ⟨r1, s1, a1, b1, S1, D1⟩ := draw_is s (n := 4) (by omega) (by decide) (lgD (by decide) (by decide +kernel))
  obtain ⟨k, k1, k2, hk⟩ := kind_at a1 b1
  obtain ⟨r2, s2, a2, b2, S2, D2⟩ := draw_is S1 (n := k) (by omega) k1 (lgD k1 k2)
  obtain ⟨n, rfl⟩ := Int.eq_ofNat_of_zero_le a2
  refine ⟨r1, k, s1, s2, S2.mono (by omega), D1, hk, n, ?_, D2⟩
  have e : (10 : Int) ^ 39 = 1000000000000000000000000000000000000000 := by decide +kernel
  rw [e] at k2
  rw [p39]
  omega
def tourB : Rp.Env → Res := (dSeq (dSetF 10 (dispD .lst (consA (asV (pureD (.int 3))) (consA (asV (pureD (.int 100))) (consA (asV (bin2 (binD .Pow) (asV (pureD (.int 10))) (asV (pureD (.int 20))))) (consA (asV (bin2 (binD .Pow) (asV (pureD (.int 10))) (asV (pureD (.int 39))))) nilA)))))) (dApp 5 (callD tupleD (consA (asV (lcD [12] (rng1I (consA (asV (pureD (.int 4))) nilA)) (setN 12) (fun env => .ok true env) (callU true l_draw_den (consA (borO 2) (consA (asV (bin2 D.idx (borO 10) (asV (callU true l_draw_den (consA (borO 2) (consA (asV (pureD (.int 4))) nilA)))))) nilA))))) nilA))))
theorem tourB_ok {N : Int} {src : D} {rs : List Ride} (s : Src N src) (hN : N < 900000) (hl : rs.length ≤ 1000) {a0 a1 a3 a4 a6 a7 a8 a9 a10 a11 : Slot} (h10 : a10.isLk = false) :
    ∃ src' q, Src (N + 8) src' ∧ RideOk q ∧ tourB [a0, a1, .own false src, a3, a4, .own false (.lst (rs.map rideD)), a6, a7, a8, a9, a10, a11, .no] = .nx [a0, a1, .own false src', a3, a4, .own false (.lst (rs.map rideD ++ [rideD q])), a6, a7, a8, a9, .own false (.lst kinds), a11, .no] := by
  obtain ⟨r1, k1, c1, d1, S1, A1, K1, n1, L1, B1⟩ := draw_num s (by omega)
  obtain ⟨r2, k2, c2, d2, S2, A2, K2, n2, L2, B2⟩ := draw_num S1 (by omega)
  obtain ⟨r3, k3, c3, d3, S3, A3, K3, n3, L3, B3⟩ := draw_num S2 (by omega)
  obtain ⟨r4, k4, c4, d4, S4, A4, K4, n4, L4, B4⟩ := draw_num S3 (by omega)
  refine ⟨d4, (n1, n2, n3, n4), S4.mono (by omega), ⟨L1, L2, L3, L4⟩, ?_⟩
  have p1 : powOk 10 20 = true := by decide +kernel
  have p2 : powOk 10 39 = true := by decide +kernel
  have e1 : D.pow (.int 10) (.int 20) = some (.int 100000000000000000000) := (u_powI p1).trans (by rw [show (10 : Int) ^ ((20 : Int).toNat) = 100000000000000000000 by decide +kernel])
  have e2 : D.pow (.int 10) (.int 39) = some (.int 1000000000000000000000000000000000000000) := (u_powI p2).trans (by rw [show (10 : Int) ^ ((39 : Int).toNat) = 1000000000000000000000000000000000000000 by decide +kernel])
  have l2 : rs.length < 16777216 := by omega
  unfold kinds at K1 K2 K3 K4
  simp [tourB, e1, e2, h10, draw2' A1, draw2' B1, draw2' A2, draw2' B2, draw2' A3, draw2' B3, draw2' A4, draw2' B4, K1, K2, K3, K4, tupleD, l2, kinds, rideD]
theorem tour_loop : ∀ (xs : List D) {N : Int} {src : D} {rs : List Ride} {a0 a1 a3 a4 a6 a7 a8 a9 a10 a11 : Slot}, Src N src → N + 8 * xs.length < 900000 → rs.length + xs.length ≤ 1000 → (∀ q ∈ rs, RideOk q) → a6.isLk = false → a10.isLk = false →
    ∃ (src' : D) (rs' : List Ride) (b6 b10 : Slot), Src (N + 8 * xs.length) src' ∧ (∀ q ∈ rs', RideOk q) ∧ rs'.length = rs.length + xs.length ∧ b6.isLk = false ∧ b10.isLk = false ∧
      forL (setN 6) tourB xs [a0, a1, .own false src, a3, a4, .own false (.lst (rs.map rideD)), a6, a7, a8, a9, a10, a11, .no] = .nx [a0, a1, .own false src', a3, a4, .own false (.lst (rs'.map rideD)), b6, a7, a8, a9, b10, a11, .no]
  | [], N, src, rs, a0, a1, a3, a4, a6, a7, a8, a9, a10, a11, s, hN, hl, h, h6, h10 => ⟨src, rs, a6, a10, s.mono (by simp), h, by simp, h6, h10, by simp⟩
  | x :: xs, N, src, rs, a0, a1, a3, a4, a6, a7, a8, a9, a10, a11, s, hN, hl, h, h6, h10 => by
    simp only [List.length_cons] at hN hl
    obtain ⟨s1, q, S1, Q, E⟩ := tourB_ok (rs := rs) s (by omega) (by omega) (a0 := a0) (a1 := a1) (a3 := a3) (a4 := a4) (a6 := .val x) (a7 := a7) (a8 := a8) (a9 := a9) (a10 := a10) (a11 := a11) h10
    have e : rs.map rideD ++ [rideD q] = (rs ++ [q]).map rideD := by simp
    have E' := E
    rw [e] at E
    obtain ⟨s2, rs', b6, b10, S2, H, L, g6, g10, E2⟩ := tour_loop xs (rs := rs ++ [q]) (a0 := a0) (a1 := a1) (a3 := a3) (a4 := a4) (a6 := .val x) (a7 := a7) (a8 := a8) (a9 := a9) (a10 := .own false (.lst kinds)) (a11 := a11) S1 (by omega) (by simp; omega) (by
      intro p hp
      rcases List.mem_append.mp hp with hp | hp
      · exact h p hp
      · simp at hp; rw [hp]; exact Q) rfl rfl
    refine ⟨s2, rs', b6, b10, S2.mono (by simp; omega), H, by simp at L; simp; omega, g6, g10, ?_⟩
    rw [← e] at E2
    simp [E', E2, h6]
end K62
set_option Elab.async false
set_option linter.all false
set_option maxRecDepth 100000
namespace K62
open PySem Rp L2 TL
theorem bent_call {N : Int} {R : Nat} {src : D} {w : Str} (s : Src N src) (hN : N < 1000000) (h : Tx R (tl w)) (hl : (tl w).length ≤ 99990) :
    ∃ w' src', Src (N + 4) src' ∧ Tx (2 * R + 1) (tl w') ∧ (tl w').length ≤ (tl w).length + 1 ∧ ∀ p s0 s1 (l : Rp.Env), callR true l_bent_den [.s 2, .v (.str w)] (s0 :: s1 :: .own p src :: l) = .ok (.str w') (s0 :: s1 :: .own p src' :: l) := by
  obtain ⟨w', src', l, S, he, T, L⟩ := bent_ok s hN h hl
  exact ⟨w', src', S, T, L, fun p s0 s1 l => by simp [callR, argsOf, lents, he, isLst, putBk]⟩
theorem wrong_call {N : Int} {src : D} {rs : List Ride} (s : Src N src) (hN : N < 1000000) (hl : rs.length ≤ 1000) :
    ∃ d src', Src (N + 3) src' ∧ Bad d ∧ ∀ p s0 s1 (l : Rp.Env), callR true l_wrong_den [.s 2, .v (.lst (rs.map rideD))] (s0 :: s1 :: .own p src :: l) = .ok d (s0 :: s1 :: .own p src' :: l) := by
  obtain ⟨d, b, src', l, S, he, B, hb⟩ := wrong_ok s hN hl
  refine ⟨d, src', S, B, fun p s0 s1 l => ?_⟩
  have : (isLst d && !b) = false := by
    cases q : isLst d with
    | false => rfl
    | true => rw [hb q]; rfl
  simp [callR, argsOf, lents, he, this, putBk]
theorem read_call {w : Str} (h : Tx 640 (tl w)) {e : Rp.Env} : callR true l_read_den [.v (.str w)] e = .ok (readD (tl w)) e := by
  obtain ⟨b, e', hb, he⟩ := l_read_ok w h
  refine call1 he ?_
  cases q : isLst (readD (tl w)) with
  | false => rfl
  | true => rw [hb q]; rfl
theorem told0_call {w : Str} (h : Tx 640 (tl w)) {e : Rp.Env} : callR true l_told_den [.v (.str w), .v (.int 0)] e = .ok (dueD (tl w)) e := by
  obtain ⟨e', b, hb, he⟩ := told0 w h
  refine call2 he ?_
  cases q : isLst (dueD (tl w)) with
  | false => rfl
  | true => rw [hb q]; rfl
theorem told1_call {w : Str} (h : Tx 640 (tl w)) {e : Rp.Env} : callR true l_told_den [.v (.str w), .v (.int 1)] e = .ok (dueD (tl w)) e := by
  obtain ⟨e', b, hb, he⟩ := told1 w h
  refine call2 he ?_
  cases q : isLst (dueD (tl w)) with
  | false => rfl
  | true => rw [hb q]; rfl
theorem same_call {k : Nat} {d : D} (h : Sm k d) {e : Rp.Env} : callR true (l_same_den k) [.v d, .v d] e = .ok (.bl true) e := by
  obtain ⟨b, e', he⟩ := h
  exact call2 he (by simp [isLst])
theorem read_form (l : List Nat) : readD l = .non ∨ ∃ ds, readD l = .lst ds := by
  unfold readD
  split
  · exact .inr ⟨_, rfl⟩
  · split
    · exact .inl rfl
    · exact .inr ⟨_, rfl⟩
def bendB : Rp.Env → Res := (dSeq (dSetF 7 (callU true l_bent_den (consA (borO 2) (consA (asV (rdVar 7)) nilA)))) (dSeq (dSetF 11 (callU true l_read_den (consA (asV (rdVar 7)) nilA))) (dSeq (dSet 11 (iteV (bB (bin2 (cmpD .Is) (borO 11) (asV (pureD .non)))) (pureD (.str "text")) (rdVar 11))) (dIf (andB (bB (bin2 (cmpD .LtE) (asV (callD lenD (consA (borO 7) nilA))) (asV (pureD (.int 3000))))) (notB (truB (asV (callU true (l_same_den 4) (consA (asV (callU true l_told_den (consA (asV (rdVar 7)) (consA (asV (pureD (.int 0))) nilA)))) (consA (asV (rdVar 11)) nilA))))))) (dRet (pureD (.bl false))) dNil))))
theorem bendB_ok {N : Int} {R : Nat} {src : D} {w : Str} (s : Src N src) (hN : N < 1000000) (h : Tx R (tl w)) (hR : 2 * R + 1 ≤ 640) (hl : (tl w).length ≤ 99000) {a0 a1 a3 a4 a5 a6 a8 a9 a10 a11 a12 : Slot} (h11 : a11.isLk = false) :
    ∃ src' w' b11, Src (N + 4) src' ∧ Tx (2 * R + 1) (tl w') ∧ (tl w').length ≤ (tl w).length + 1 ∧ b11.isLk = false ∧ bendB [a0, a1, .own false src, a3, a4, a5, a6, .val (.str w), a8, a9, a10, a11, a12] = .nx [a0, a1, .own false src', a3, a4, a5, a6, .val (.str w'), a8, a9, a10, b11, a12] := by
  obtain ⟨w', src', S, T, L, C⟩ := bent_call s hN h (by omega)
  have T' := T.wide hR
  refine ⟨src', w', .val (dueD (tl w')), S, T, L, rfl, ?_⟩
  have sm := fun e => same_call (due_sm T') (e := e)
  have l0 : w'.length ≤ 16777216 := by rw [← tl_len]; omega
  rcases read_form (tl w') with hr | ⟨ds, hr⟩
  · have hd : dueD (tl w') = .str "text" := by unfold dueD; rw [hr]; rfl
    have R1 := fun e => read_call (w := w') T' (e := e)
    have R2 := fun e => told0_call (w := w') T' (e := e)
    rw [hd] at sm R2 ⊢
    rw [hr] at R1
    by_cases k : ((w'.length : Nat) : Int) ≤ 3000
    · simp [bendB, C, R1, R2, h11, D.isN, lenD, l0, k, sm]
    · simp [bendB, C, R1, R2, h11, D.isN, lenD, l0, k, sm]
  · have hd : dueD (tl w') = .lst ds := by unfold dueD; rw [hr]; rfl
    have R1 := fun e => read_call (w := w') T' (e := e)
    have R2 := fun e => told0_call (w := w') T' (e := e)
    rw [hd] at sm R2 ⊢
    rw [hr] at R1
    by_cases k : ((w'.length : Nat) : Int) ≤ 3000
    · simp [bendB, C, R1, R2, h11, D.isN, lenD, l0, k, sm]
    · simp [bendB, C, R1, R2, h11, D.isN, lenD, l0, k, sm]
theorem bend_loop {N : Int} {src : D} {w : Str} (s : Src N src) (hN : N < 900000) (h : Tx 39 (tl w)) (hl : (tl w).length ≤ 90000) {a0 a1 a3 a4 a5 a6 a8 a9 a10 a11 a12 : Slot} (h9 : a9.isLk = false) (h11 : a11.isLk = false) :
    ∃ src' w' b11, Src (N + 16) src' ∧ b11.isLk = false ∧ dFor (rng1I (consA (asV (pureD (.int 4))) nilA)) (setN 9) bendB [a0, a1, .own false src, a3, a4, a5, a6, .val (.str w), a8, a9, a10, a11, a12] = .nx [a0, a1, .own false src', a3, a4, a5, a6, .val (.str w'), a8, .val (.int 3), a10, b11, a12] := by
  obtain ⟨s1, w1, b1, S1, T1, L1, F1, E1⟩ := bendB_ok s (by omega) h (by omega) (by omega) (a0 := a0) (a1 := a1) (a3 := a3) (a4 := a4) (a5 := a5) (a6 := a6) (a8 := a8) (a9 := .val (.int 0)) (a10 := a10) (a12 := a12) h11
  obtain ⟨s2, w2, b2, S2, T2, L2, F2, E2⟩ := bendB_ok S1 (by omega) T1 (by omega) (by omega) (a0 := a0) (a1 := a1) (a3 := a3) (a4 := a4) (a5 := a5) (a6 := a6) (a8 := a8) (a9 := .val (.int 1)) (a10 := a10) (a12 := a12) F1
  obtain ⟨s3, w3, b3, S3, T3, L3, F3, E3⟩ := bendB_ok S2 (by omega) T2 (by omega) (by omega) (a0 := a0) (a1 := a1) (a3 := a3) (a4 := a4) (a5 := a5) (a6 := a6) (a8 := a8) (a9 := .val (.int 2)) (a10 := a10) (a12 := a12) F2
  obtain ⟨s4, w4, b4, S4, T4, L4, F4, E4⟩ := bendB_ok S3 (by omega) T3 (by omega) (by omega) (a0 := a0) (a1 := a1) (a3 := a3) (a4 := a4) (a5 := a5) (a6 := a6) (a8 := a8) (a9 := .val (.int 3)) (a10 := a10) (a12 := a12) F3
  refine ⟨s4, w4, b4, S4.mono (by omega), F4, ?_⟩
  simp [h9, E1, E2, E3, E4]
end K62
set_option Elab.async false
set_option linter.all false
set_option maxRecDepth 100000
namespace K62
open PySem Rp L2 TL
def turnB : Rp.Env → Res := (dSeq (dSetF 5 (dispD .lst nilA)) (dSeq (dFor (rng1I (consA (asV (callU true l_draw_den (consA (borO 2) (consA (asV (bin2 D.idx (asV (dispD .lst (consA (asV (pureD (.int 3))) (consA (asV (pureD (.int 9))) (consA (asV (pureD (.int 41))) nilA))))) (asV (callU true l_draw_den (consA (borO 2) (consA (asV (pureD (.int 3))) nilA)))))) nilA)))) nilA)) (setN 6) tourB) (dSeq (dSetF 7 (callU true l_written_den (consA (asV (rdVar 5)) nilA))) (dSeq (dIf (lendB (notB (truB (asV (callU true (l_same_den 4) (consA (asV (dispD .lst (consA (asV (callU true l_told_den (consA (asV (rdVar 5)) (consA (asV (pureD (.int 2))) nilA)))) (consA (asV (callU true l_told_den (consA (asV (rdVar 5)) (consA (asV (pureD (.int 3))) nilA)))) nilA)))) (consA (asV (dispD .lst (consA (asV (rdVar 7)) (consA (asV (rdVar 7)) nilA)))) nilA))))))) (dRet (pureD (.bl false))) dNil) (dSeq (dSetF 8 (callU true l_told_den (consA (asV (rdVar 7)) (consA (asV (pureD (.int 0))) nilA)))) (dSeq (dIf (lendB (notB (truB (asV (callU true (l_same_den 4) (consA (asV (dispD .lst (consA (asV (rdVar 8)) (consA (asV (callU true l_told_den (consA (asV (rdVar 7)) (consA (asV (pureD (.int 1))) nilA)))) nilA)))) (consA (asV (dispD .lst (consA (asV (rdVar 5)) (consA (asV (rdVar 5)) nilA)))) nilA))))))) (dRet (pureD (.bl false))) dNil) (dSeq (dApp 8 (pureD .non)) (dSeq (dIf (lendB (notB (truB (asV (callU true (l_same_den 4) (consA (asV (callU true l_told_den (consA (asV (rdVar 7)) (consA (asV (pureD (.int 0))) nilA)))) (consA (asV (rdVar 5)) nilA))))))) (dRet (pureD (.bl false))) dNil) (dSeq (dIf (bB (bin2 (cmpD .NotEq) (asV (callU true l_told_den (consA (asV (callU true l_wrong_den (consA (borO 2) (consA (asV (rdVar 5)) nilA)))) (consA (asV (bin2 (binD .Add) (asV (pureD (.int 2))) (asV (callU true l_draw_den (consA (borO 2) (consA (asV (pureD (.int 2))) nilA)))))) nilA)))) (asV (pureD (.str "journey"))))) (dRet (pureD (.bl false))) dNil) (dFor (rng1I (consA (asV (pureD (.int 4))) nilA)) (setN 9) bendB))))))))))
def kB : Rp.Env → Res := (dSeq (dSetF 2 (callU true l_source_den (consA (asV (callU false l_cell_at_den (consA (asV (rdVar 0)) (consA (asV (rdVar 1)) nilA)))) (consA (asV (rdVar 1)) nilA)))) (dSeq (dFor (rng1I (consA (asV (pureD (.int 3))) nilA)) (setN 3) turnB) (dSeq (dSetF 4 (dispD .lst (consA (asV (pureD .non)) (consA (asV (pureD (.int 5))) (consA (asV (pureD (.bl true))) (consA (asV (dispD .lst (consA (asV (pureD (.str "0:0:0-1"))) nilA))) (consA (asV (dispD .tup (consA (asV (pureD (.str "0:0:0-1"))) nilA))) (consA (asV (pureD (.dct [] []))) (consA (asV (pureD (.str " "))) (consA (asV (pureD (.str "0:0:0-1 "))) (consA (asV (pureD (.str "0:0:0:1"))) (consA (asV (pureD (.str "00:0:0-1"))) (consA (asV (pureD (.str "0:0:0--1"))) nilA))))))))))))) (dIf (bB (bin2 (cmpD .NotEq) (asV (callU true l_told_den (consA (asV (bin2 D.idx (borO 4) (asV (callU true l_draw_den (consA (borO 2) (consA (asV (pureD (.int 11))) nilA)))))) (consA (asV (pureD (.int 0))) nilA)))) (asV (pureD (.str "text"))))) (dRet (pureD (.bl false))) dNil))))
def lawP : Rp.Env → Res := (dSeq (dFor (rng1I (consA (asV (callD maxD (consA (asV (pureD (.int 1))) (consA (asV (callD minD (consA (asV (pureD (.int 6))) (consA (asV (callD lenD (consA (borO 0) nilA))) nilA)))) nilA)))) nilA)) (setN 1) kB) (dRet (andV (bin2 (cmpD .Eq) (asV (callU true l_told_den (consA (asV (pureD (.str ""))) (consA (asV (pureD (.int 0))) nilA)))) (asV (dispD .lst nilA))) (bin2 (cmpD .Eq) (asV (callU true l_told_den (consA (asV (dispD .lst nilA)) (consA (asV (pureD (.int 2))) nilA)))) (asV (pureD (.str "")))))))
theorem lawP_eq : law_den = fnDen 13 1 lawP := rfl
@[simp] theorem ln_v {d : D} : lendS (.val d) = .val d := (rfl)
@[simp] theorem ln_o {d : D} : lendS (.own false d) = .val d := (rfl)
@[simp] theorem ln_n : lendS .no = .no := (rfl)
theorem written_call {rs : List Ride} (h : ∀ q ∈ rs, RideOk q) (hl : rs.length ≤ 1000) {e : Rp.Env} : callR true l_written_den [.v (.lst (rs.map rideD))] e = .ok (.str (mk (tourL rs))) e := by
  obtain ⟨e', he⟩ := written_ok h hl
  exact call1 he (by simp [isLst])
theorem told2_call {rs : List Ride} (h : ∀ q ∈ rs, RideOk q) (hl : rs.length ≤ 1000) {e : Rp.Env} : callR true l_told_den [.v (.lst (rs.map rideD)), .v (.int 2)] e = .ok (.str (mk (tourL rs))) e := by
  obtain ⟨b, e', he⟩ := told2 h hl
  exact call2 he (by simp [isLst])
theorem told3_call {rs : List Ride} (h : ∀ q ∈ rs, RideOk q) (hl : rs.length ≤ 1000) {e : Rp.Env} : callR true l_told_den [.v (.lst (rs.map rideD)), .v (.int 3)] e = .ok (.str (mk (tourL rs))) e := by
  obtain ⟨b, e', he⟩ := told3 h hl
  exact call2 he (by simp [isLst])
theorem bad_call {d : D} (h : Bad d) {w : Int} (hw : w = 2 ∨ w = 3) {e : Rp.Env} : callR true l_told_den [.v d, .v (.int w)] e = .ok (.str "journey") e := by
  obtain ⟨b, e', he⟩ := told_bad h hw
  exact call2 he (by simp [isLst])
theorem sm_tour {k : Nat} {rs : List Ride} (hl : rs.length ≤ 1000) : Sm (k + 3) (.lst (rs.map rideD)) := by
  refine sm_lst (by simp; omega) ?_
  intro d hd
  obtain ⟨q, _, rfl⟩ := List.mem_map.mp hd
  exact sm_ride
theorem count_at {r : Int} (h0 : 0 ≤ r) (h1 : r < 3) : ∃ n : Int, 1 ≤ n ∧ n ≤ 41 ∧ L2.atI [D.int 3, .int 9, .int 41] r = some (.int n) := by
  have : r = 0 ∨ r = 1 ∨ r = 2 := by omega
  rcases this with rfl | rfl | rfl
  · exact ⟨_, by decide, by decide, at0⟩
  · exact ⟨_, by decide, by decide, at1⟩
  · exact ⟨_, by decide, by decide, at2⟩
theorem ne_journey : D.neD (.str "journey") (.str "journey") = some (.bl false) := by
  rw [ne_str (by decide +kernel) (by decide +kernel)]; simp
theorem turn_ok {N : Int} {src : D} (s : Src N src) (hN : N < 800000) {a0 a1 a3 a4 a5 a6 a7 a8 a9 a10 a11 : Slot} (h5 : a5.isLk = false) (h6 : a6.isLk = false) (h7 : a7.isLk = false) (h8 : a8.isLk = false) (h9 : a9.isLk = false) (h10 : a10.isLk = false) (h11 : a11.isLk = false) :
    ∃ src' b5 b6 b7 b8 b9 b10 b11, Src (N + 1000) src' ∧ b5.isLk = false ∧ b6.isLk = false ∧ b7.isLk = false ∧ b8.isLk = false ∧ b9.isLk = false ∧ b10.isLk = false ∧ b11.isLk = false ∧
      turnB [a0, a1, .own false src, a3, a4, a5, a6, a7, a8, a9, a10, a11, .no] = .nx [a0, a1, .own false src', a3, a4, b5, b6, b7, b8, b9, b10, b11, .no] := by
  obtain ⟨r1, s1, x1, y1, S1, D1⟩ := draw_is s (n := 3) (by omega) (by decide) (lgD (by decide) (by decide +kernel))
  obtain ⟨n, n1, n2, hn⟩ := count_at x1 y1
  obtain ⟨r2, s2, x2, y2, S2, D2⟩ := draw_is S1 (n := n) (by omega) n1 (lgD n1 (Int.le_trans n2 (by decide +kernel)))
  obtain ⟨m, rfl⟩ := Int.eq_ofNat_of_zero_le x2
  have hm : m ≤ 40 := by omega
  have rl : (rngL 0 m).length = m := by simp [rngL]
  obtain ⟨s3, rs, b6, b10, S3, H, L, g6, g10, TE⟩ := tour_loop (rngL 0 m) (rs := []) (a0 := a0) (a1 := a1) (a3 := a3) (a4 := a4) (a6 := a6) (a7 := a7) (a8 := a8) (a9 := a9) (a10 := a10) (a11 := a11) S2 (by rw [rl]; omega) (by rw [rl]; simp; omega) (by simp) h6 h10
  simp only [rl, List.length_nil, Nat.zero_add, List.map_nil] at L TE S3
  have hl : rs.length ≤ 1000 := by omega
  have tx : Tx 39 (tl (mk (tourL rs))) := tour_tx H (by omega)
  have tx6 := tx.wide (S := 640) (by decide)
  have due : dueD (tl (mk (tourL rs))) = .lst (rs.map rideD) := by
    rw [tl_mk0]; unfold dueD; rw [tour_back]; rfl
  have T0 := fun e => told0_call (w := mk (tourL rs)) tx6 (e := e)
  have T1 := fun e => told1_call (w := mk (tourL rs)) tx6 (e := e)
  rw [due] at T0 T1
  have sw := Tx.str (w := mk (tourL rs)) tx
  have m1 := fun e => same_call (k := 4) (d := .lst [.str (mk (tourL rs)), .str (mk (tourL rs))]) (sm_lst (by simp) (by intro d hd; simp at hd; rw [hd]; exact sm_str sw)) (e := e)
  have m2 := fun e => same_call (k := 4) (d := .lst [.lst (rs.map rideD), .lst (rs.map rideD)]) (sm_lst (by simp) (by intro d hd; simp at hd; rw [hd]; exact sm_tour hl)) (e := e)
  have m3 := fun e => same_call (k := 4) (d := .lst (rs.map rideD)) (sm_tour hl) (e := e)
  obtain ⟨bd, s4, S4, B, WC⟩ := wrong_call (rs := rs) S3 (by omega) hl
  obtain ⟨r5, s5, x5, y5, S5, D5⟩ := draw_is S4 (n := 2) (by omega) (by decide) (lgD (by decide) (by decide +kernel))
  have hw : 2 + r5 = 2 ∨ 2 + r5 = 3 := by omega
  have BC := fun e => bad_call B hw (e := e)
  obtain ⟨s6, w', b11, S6, g11, BE⟩ := bend_loop (w := mk (tourL rs)) S5 (by omega) tx (by
    rw [tl_mk0]; have := tour_len H; omega) (a0 := a0) (a1 := a1) (a3 := a3) (a4 := a4) (a5 := .val (.lst (rs.map rideD))) (a6 := b6) (a8 := .own false (.lst (rs.map rideD ++ [.non]))) (a9 := a9) (a10 := b10) (a11 := a11) (a12 := .no) h9 h11
  refine ⟨s6, .val (.lst (rs.map rideD)), b6, .val (.str w'), .own false (.lst (rs.map rideD ++ [.non])), .val (.int 3), b10, b11, S6.mono (by omega), rfl, g6, rfl, rfl, rfl, g10, g11, ?_⟩
  have lr : rs.length < 16777216 := by omega
  have rk := rOk_nat (n := m) (by omega)
  have W := fun e => written_call H hl (e := e)
  have T2 := fun e => told2_call H hl (e := e)
  have T3 := fun e => told3_call H hl (e := e)
  have TE' : dFor (rng1I (consA (asV (callU true l_draw_den (consA (borO 2) (consA (asV (bin2 D.idx (asV (dispD .lst (consA (asV (pureD (.int 3))) (consA (asV (pureD (.int 9))) (consA (asV (pureD (.int 41))) nilA))))) (asV (callU true l_draw_den (consA (borO 2) (consA (asV (pureD (.int 3))) nilA)))))) nilA)))) nilA)) (setN 6) tourB [a0, a1, .own false src, a3, a4, .own false (.lst []), a6, a7, a8, a9, a10, a11, .no] = .nx [a0, a1, .own false s3, a3, a4, .own false (.lst (rs.map rideD)), b6, a7, a8, a9, b10, a11, .no] := by
    simp [draw2' D1, hn, draw2' D2, rk, TE]
  simp [-u_dFor, turnB, h5, TE', W, h7, T2, T3, T0, T1, m1, m2, m3, h8, lr, WC, draw2' D5, BC, ne_journey, BE]
end K62
set_option Elab.async false
set_option linter.all false
set_option maxRecDepth 100000
namespace K62
open PySem Rp L2 TL
theorem parse_bad {d : D} {t : String} (h : d.tyN = some t) (h2 : isTy t ["str"] = some false) : ∃ e, parse_journey_den [.v d] = .exc (.str "InvalidText") e := by
  simp [parse_journey_den, startE, Arg.slot, parse_journey_b, h, h2, Res.chk, backsOk]
theorem told_odd {d : D} {t : String} (h : d.tyN = some t) (h0 : isTy t ["str"] = some false) : ∃ b e, l_told_den [.v d, .v (.int 0)] = .rt (.str "text") b e := by
  obtain ⟨e', h2⟩ := parse_bad h h0
  have := call1x (fresh := true) (e := [.val d, .val (.int 0), .no]) h2
  simp [l_told_den, startE, Arg.slot, l_told_b, this, l_told_h, Res.chk, backsOk]
theorem told_text {w : Str} (h1 : (tl w).all (fun c => decide (c < 1000)) = true) (h2 : (tl w).length ≤ 39) (h3 : (readD (tl w)).isN = true) : ∃ b e, l_told_den [.v (.str w), .v (.int 0)] = .rt (.str "text") b e := by
  have T : Tx 640 (tl w) := ⟨fun c hc => by have := List.all_eq_true.mp h1 c hc; simp at this; omega, by omega, fun a b c e d => by have := congrArg List.length e; simp only [List.length_append] at this; omega⟩
  obtain ⟨e, b, _, he⟩ := told0 w T
  have : dueD (tl w) = .str "text" := by unfold dueD; rw [if_pos h3]
  rw [this] at he
  exact ⟨b, e, he⟩
def oddL : List D := [.non, .int 5, .bl true, .lst [.str "0:0:0-1"], .tup [.str "0:0:0-1"], .dct [] [], .str " ", .str "0:0:0-1 ", .str "0:0:0:1", .str "00:0:0-1", .str "0:0:0--1"]
theorem odd_all : ∀ d ∈ oddL, ∃ b e, l_told_den [.v d, .v (.int 0)] = .rt (.str "text") b e := by
  intro d hd
  simp only [oddL, List.mem_cons, List.not_mem_nil, or_false] at hd
  rcases hd with rfl | rfl | rfl | rfl | rfl | rfl | rfl | rfl | rfl | rfl | rfl
  · exact told_odd rfl (by decide +kernel)
  · exact told_odd rfl (by decide +kernel)
  · exact told_odd rfl (by decide +kernel)
  · exact told_odd rfl (by decide +kernel)
  · exact told_odd rfl (by decide +kernel)
  · exact told_odd rfl (by decide +kernel)
  · exact told_text (by decide +kernel) (by decide +kernel) (by decide +kernel)
  · exact told_text (by decide +kernel) (by decide +kernel) (by decide +kernel)
  · exact told_text (by decide +kernel) (by decide +kernel) (by decide +kernel)
  · exact told_text (by decide +kernel) (by decide +kernel) (by decide +kernel)
  · exact told_text (by decide +kernel) (by decide +kernel) (by decide +kernel)
theorem cell_ok (ns : List Int) (k : Nat) (hl : ns.length ≤ 63) : ∃ c b e, l_cell_at_den [.v (.scr (ns.map D.int)), .v (.int (k : Int))] = .rt (.int c) b e := by
  by_cases h : k < ns.length
  · have e : L2.atI (ns.map D.int) (k : Int) = some (.int ns[k]) := by
      rw [at_nat (by simpa using h)]; simp
    have h' : (k : Int) < (ns.length : Int) := by omega
    refine ⟨ns[k], ?_⟩
    simp [l_cell_at_den, startE, Arg.slot, l_cell_at_b, lenD, h', e, Res.chk, backsOk]
  · have h' : ¬ (k : Int) < (ns.length : Int) := by omega
    refine ⟨0, ?_⟩
    simp [l_cell_at_den, startE, Arg.slot, l_cell_at_b, lenD, h', Res.chk, backsOk]
theorem source_call {c : Int} {k : Nat} (hk : k < 64) : ∃ d, Src 0 d ∧ (∃ ds, d = .lst ds) ∧ ∀ e, callR true l_source_den [.v (.int c), .v (.int (k : Int))] e = .ok d e := by
  obtain ⟨d, e', he, S⟩ := source_ok c k hk
  refine ⟨d, S, ?_, fun e => call2 he (by simp)⟩
  obtain ⟨a, b, c, e, _⟩ := S
  exact ⟨_, e⟩
structure Nl (b2 b3 b4 b5 b6 b7 b8 b9 b10 b11 : Slot) : Prop where
  h2 : b2.isLk = false
  h3 : b3.isLk = false
  h4 : b4.isLk = false
  h5 : b5.isLk = false
  h6 : b6.isLk = false
  h7 : b7.isLk = false
  h8 : b8.isLk = false
  h9 : b9.isLk = false
  h10 : b10.isLk = false
  h11 : b11.isLk = false
theorem ne_text : D.neD (.str "text") (.str "text") = some (.bl false) := by
  rw [ne_str (by decide +kernel) (by decide +kernel)]; simp
theorem kB_ok (ns : List Int) (k : Nat) (hk : k < 64) (hl : ns.length ≤ 63) {a2 a3 a4 a5 a6 a7 a8 a9 a10 a11 : Slot} (F : Nl a2 a3 a4 a5 a6 a7 a8 a9 a10 a11) :
    ∃ b2 b3 b4 b5 b6 b7 b8 b9 b10 b11, Nl b2 b3 b4 b5 b6 b7 b8 b9 b10 b11 ∧ kB [.val (.scr (ns.map D.int)), .val (.int (k : Int)), a2, a3, a4, a5, a6, a7, a8, a9, a10, a11, .no] = .nx [.val (.scr (ns.map D.int)), .val (.int (k : Int)), b2, b3, b4, b5, b6, b7, b8, b9, b10, b11, .no] := by
  obtain ⟨c, b, e', hc⟩ := cell_ok ns k hl
  have C := fun e => call2 (fresh := false) (e := e) hc (by simp)
  obtain ⟨src, S0, ⟨ds, hds⟩, SC⟩ := source_call (c := c) hk
  obtain ⟨s1, t5, t6, t7, t8, t9, t10, t11, S1, g5, g6, g7, g8, g9, g10, g11, E1⟩ := turn_ok S0 (by omega) (a0 := .val (.scr (ns.map D.int))) (a1 := .val (.int (k : Int))) (a3 := .val (.int 0)) (a4 := a4) F.h5 F.h6 F.h7 F.h8 F.h9 F.h10 F.h11
  obtain ⟨s2, u5, u6, u7, u8, u9, u10, u11, S2, i5, i6, i7, i8, i9, i10, i11, E2⟩ := turn_ok S1 (by omega) (a0 := .val (.scr (ns.map D.int))) (a1 := .val (.int (k : Int))) (a3 := .val (.int 1)) (a4 := a4) g5 g6 g7 g8 g9 g10 g11
  obtain ⟨s3, v5, v6, v7, v8, v9, v10, v11, S3, j5, j6, j7, j8, j9, j10, j11, E3⟩ := turn_ok S2 (by omega) (a0 := .val (.scr (ns.map D.int))) (a1 := .val (.int (k : Int))) (a3 := .val (.int 2)) (a4 := a4) i5 i6 i7 i8 i9 i10 i11
  obtain ⟨r, s4, x, y, S4, D4⟩ := draw_is S3 (n := 11) (by omega) (by decide) (lgD (by decide) (by decide +kernel))
  obtain ⟨m, rfl⟩ := Int.eq_ofNat_of_zero_le x
  have ho : m < oddL.length := by simp [oddL]; omega
  have hat := at_nat ho
  obtain ⟨b', e'', he⟩ := odd_all _ (List.getElem_mem ho)
  generalize oddL[m] = od at hat he
  have OC := fun e => call2 (fresh := true) (e := e) he (by simp [isLst])
  unfold oddL at hat
  subst hds
  have f2 := F.h2
  have f3 := F.h3
  have f4 := F.h4
  refine ⟨.own false s4, .val (.int 2), .own false (.lst oddL), v5, v6, v7, v8, v9, v10, v11, ⟨rfl, rfl, rfl, j5, j6, j7, j8, j9, j10, j11⟩, ?_⟩
  simp [kB, C, SC, f2, f3, E1, E2, E3, f4, draw2' D4, hat, OC, ne_text, oddL]
theorem k_loop (ns : List Int) (hl : ns.length ≤ 63) : ∀ (ks : List Nat), (∀ k ∈ ks, k < 64) → ∀ {a1 a2 a3 a4 a5 a6 a7 a8 a9 a10 a11 : Slot}, a1.isLk = false → Nl a2 a3 a4 a5 a6 a7 a8 a9 a10 a11 →
    ∃ b1 b2 b3 b4 b5 b6 b7 b8 b9 b10 b11, forL (setN 1) kB (ks.map fun (k : Nat) => D.int (k : Int)) [.val (.scr (ns.map D.int)), a1, a2, a3, a4, a5, a6, a7, a8, a9, a10, a11, .no] = .nx [.val (.scr (ns.map D.int)), b1, b2, b3, b4, b5, b6, b7, b8, b9, b10, b11, .no]
  | [], _, a1, a2, a3, a4, a5, a6, a7, a8, a9, a10, a11, h1, F => ⟨a1, a2, a3, a4, a5, a6, a7, a8, a9, a10, a11, by simp⟩
  | k :: ks, h, a1, a2, a3, a4, a5, a6, a7, a8, a9, a10, a11, h1, F => by
    obtain ⟨b2, b3, b4, b5, b6, b7, b8, b9, b10, b11, G, E⟩ := kB_ok ns k (h k (by simp)) hl F
    obtain ⟨c1, c2, c3, c4, c5, c6, c7, c8, c9, c10, c11, E2⟩ := k_loop ns hl ks (fun x hx => h x (by simp [hx])) (a1 := .val (.int (k : Int))) rfl G
    exact ⟨c1, c2, c3, c4, c5, c6, c7, c8, c9, c10, c11, by simp [h1, E, E2]⟩
theorem rng_nat (n : Nat) : rngL 0 n = (List.range n).map fun (k : Nat) => D.int (k : Int) := by
  unfold rngL
  apply List.map_congr_left
  intro i _
  simp
theorem fin1 : D.eqD (.lst []) (.lst []) = some (.bl true) := by
  rw [eq_of (n := 1) (m := 1) (.lst (by simp)) (.lst (by simp)) (by decide) (by decide), eqq_same (n := 1) (.lst (by simp))]
theorem law_true : ∀ ns : List Int, ns.length ≤ 63 → (∀ z ∈ ns, Builtin.Int.intBits z ≤ 1048576) → ∃ b e, law_den [.v (.scr (ns.map D.int))] = .rt (.bl true) b e := by
  intro ns hl _
  obtain ⟨n, hn, hc⟩ : ∃ n : Nat, n ≤ 6 ∧ callD maxD (consA (asV (pureD (.int 1))) (consA (asV (callD minD (consA (asV (pureD (.int 6))) (consA (asV (callD lenD (consA (borO 0) nilA))) nilA)))) nilA)) [.val (.scr (ns.map D.int)), .no, .no, .no, .no, .no, .no, .no, .no, .no, .no, .no, .no] = .ok (.int (n : Int)) [.val (.scr (ns.map D.int)), .no, .no, .no, .no, .no, .no, .no, .no, .no, .no, .no, .no] := by
    refine ⟨max 1 (min 6 ns.length), by omega, ?_⟩
    have e : (if (if (ns.length : Int) < 6 then (ns.length : Int) else 6) > 1 then (if (ns.length : Int) < 6 then (ns.length : Int) else 6) else 1) = ((max 1 (min 6 ns.length) : Nat) : Int) := by
      split <;> split <;> omega
    rw [← e]
    simp [lenD, minD, maxD]
  have rk := rOk_nat (n := n) (by omega)
  obtain ⟨b1, b2, b3, b4, b5, b6, b7, b8, b9, b10, b11, E⟩ := k_loop ns hl (List.range n) (by intro k hk; have := List.mem_range.mp hk; omega) (a1 := .no) (a2 := .no) (a3 := .no) (a4 := .no) (a5 := .no) (a6 := .no) (a7 := .no) (a8 := .no) (a9 := .no) (a10 := .no) (a11 := .no) rfl ⟨rfl, rfl, rfl, rfl, rfl, rfl, rfl, rfl, rfl, rfl⟩
  rw [← rng_nat] at E
  have t0 : dueD (tl ("" : Str)) = .lst [] := by
    have : tl ("" : Str) = [] := by decide +kernel
    rw [this]; rfl
  have T0 := fun e => told0_call (w := ("" : Str)) (by
    have : tl ("" : Str) = [] := by decide +kernel
    rw [this]
    exact ⟨by simp, by simp, fun a b c e d => by have := congrArg List.length e; simp at this; simp; omega⟩) (e := e)
  rw [t0] at T0
  have T2 := fun e => told2_call (rs := []) (by simp) (by simp) (e := e)
  have te : mk (tourL []) = ("" : Str) := (mk_of (w := ("" : Str)) (by decide +kernel)).symm
  rw [te, List.map_nil] at T2
  have fin2 : D.eqD (.str "") (.str "") = some (.bl true) := by
    rw [eq_str (by decide +kernel) (by decide +kernel)]; simp
  simp [lawP_eq, startE, Arg.slot, lawP, hc, rk, E, T0, T2, fin1, fin2, Res.chk, backsOk]
end K62
set_option Elab.async false
set_option linter.all false
set_option maxRecDepth 100000
set_option maxHeartbeats 0
/-! The head and the end, printed by end.py. -/
namespace K62
open PySem PySem.Spec PyProof.Rows L2 Rp
def d_is_integer : He.DefD := ⟨("is_integer", none), "is_integer", "is_integer", defArgs s_is_integer, defBody s_is_integer, defScope s_is_integer, [], []⟩
def d_number_in : He.DefD := ⟨("number_in", none), "number_in", "number_in", defArgs s_number_in, defBody s_number_in, defScope s_number_in, [], []⟩
def d_numbers_in : He.DefD := ⟨("numbers_in", none), "numbers_in", "numbers_in", defArgs s_numbers_in, defBody s_numbers_in, defScope s_numbers_in, [], []⟩
def d_is_ride_tuple : He.DefD := ⟨("is_ride_tuple", none), "is_ride_tuple", "is_ride_tuple", defArgs s_is_ride_tuple, defBody s_is_ride_tuple, defScope s_is_ride_tuple, [], []⟩
def d_format_journey : He.DefD := ⟨("format_journey", none), "format_journey", "format_journey", defArgs s_format_journey, defBody s_format_journey, defScope s_format_journey, [], []⟩
def d_parse_journey : He.DefD := ⟨("parse_journey", none), "parse_journey", "parse_journey", defArgs s_parse_journey, defBody s_parse_journey, defScope s_parse_journey, [], []⟩
def d_l_cell_at : He.DefD := ⟨("_law_cell_at", none), "_law_cell_at", "_law_cell_at", defArgs s_l_cell_at, defBody s_l_cell_at, defScope s_l_cell_at, [], []⟩
def d_l_source : He.DefD := ⟨("_law_source", none), "_law_source", "_law_source", defArgs s_l_source, defBody s_l_source, defScope s_l_source, [], []⟩
def d_l_draw : He.DefD := ⟨("_law_draw", none), "_law_draw", "_law_draw", defArgs s_l_draw, defBody s_l_draw, defScope s_l_draw, [], []⟩
def d_l_same : He.DefD := ⟨("_law_same", none), "_law_same", "_law_same", defArgs s_l_same, defBody s_l_same, defScope s_l_same, [], []⟩
def d_l_written : He.DefD := ⟨("_law_written", none), "_law_written", "_law_written", defArgs s_l_written, defBody s_l_written, defScope s_l_written, [], []⟩
def d_l_number : He.DefD := ⟨("_law_number", none), "_law_number", "_law_number", defArgs s_l_number, defBody s_l_number, defScope s_l_number, [], []⟩
def d_l_read : He.DefD := ⟨("_law_read", none), "_law_read", "_law_read", defArgs s_l_read, defBody s_l_read, defScope s_l_read, [], []⟩
def d_l_told : He.DefD := ⟨("_law_told", none), "_law_told", "_law_told", defArgs s_l_told, defBody s_l_told, defScope s_l_told, [], []⟩
def d_l_bent : He.DefD := ⟨("_law_bent", none), "_law_bent", "_law_bent", defArgs s_l_bent, defBody s_l_bent, defScope s_l_bent, [], []⟩
def d_l_wrong : He.DefD := ⟨("_law_wrong", none), "_law_wrong", "_law_wrong", defArgs s_l_wrong, defBody s_l_wrong, defScope s_l_wrong, [], []⟩
def d_law : He.DefD := ⟨("law", none), "law", "law", defArgs s_law, defBody s_law, defScope s_law, [], []⟩
def fn : List He.DefD := [d_is_integer, d_number_in, d_numbers_in, d_is_ride_tuple, d_format_journey, d_parse_journey, d_l_cell_at, d_l_source, d_l_draw, d_l_same, d_l_written, d_l_number, d_l_read, d_l_told, d_l_bent, d_l_wrong, d_law]
def fa : List He.Fa := [.glo "is_integer", .glo "number_in", .glo "numbers_in", .glo "is_ride_tuple", .glo "format_journey", .glo "parse_journey", .glo "_law_cell_at", .glo "_law_source", .glo "_law_draw", .glo "_law_same", .glo "_law_written", .glo "_law_number", .glo "_law_read", .glo "_law_told", .glo "_law_bent", .glo "_law_wrong", .glo "law", .glo "RideError", .glo "InvalidRide", .glo "InvalidText", .glo "InvalidJourney", .free "all", .free "bool", .free "int", .free "isinstance", .free "len", .free "list", .free "max", .free "min", .free "range", .free "str", .free "tuple", .free "ValueError", .str "DIGITS" "0123456789", .str "SPACE" " ", .exc "InvalidJourney", .exc "InvalidText", .exm "InvalidText" "RideError" true, .exm "InvalidJourney" "RideError" true]
def fx : List (PySem.W.Frag → Bool) := [excB "InvalidText", kitT "InvalidText" "ValueError" true, excB "InvalidJourney", kitT "InvalidJourney" "ValueError" true, kitB "InvalidText" "InvalidRide" false, kitB "InvalidText" "InvalidText" true, kitB "InvalidText" "InvalidJourney" false, kitB "InvalidJourney" "InvalidRide" false, kitB "InvalidJourney" "InvalidText" false, kitB "InvalidJourney" "InvalidJourney" true]
def names : List Str := ["RideError", "InvalidText", "InvalidJourney", "InvalidRide", "is_integer", "SPACE", "DIGITS", "number_in", "numbers_in", "is_ride_tuple", "format_journey", "parse_journey", "_law_cell_at", "_law_source", "_law_draw", "_law_same", "_law_written", "_law_number", "_law_read", "_law_told", "_law_bent", "_law_wrong"]
abbrev R : PySem.W.OpenRow := PySem.W.OpenLaw.row PySem.Challenge.rw_rideplans_k62_texts_of_journeys
abbrev hk : PySem.W.Hook := hookX 4 fx fa fn
def ob (s : PySem.W.SharedT) : Bool × He.AlD := obX 4 fx fa fn (HandSHeadRun.getT s)
theorem ob_eq (s : PySem.W.SharedT) : ob s = hk.obs s.abs := obX_eq (HandSHeadRun.getT_eq s)
theorem run (w : World) : HandSHeadRun.RunEq R (PySem.W.view R.prog [26]) hk ob 3000 names w := by
  intro os
  kernel_rfl
theorem wd {K : PySem.W.Frag} {h : Heap} {mg : Str → Option Value} (X : K.In h) (G : h.Ns mainGlobals mg) (cx : fx.all (fun c => c K) = true) (c : He.SaysD fa fn K) : Wd K mg where
  n_all := He.free_ok X G (c.fact 21 (f := .free "all") rfl)
  n_bool := He.free_ok X G (c.fact 22 (f := .free "bool") rfl)
  n_int := He.free_ok X G (c.fact 23 (f := .free "int") rfl)
  n_isinstance := He.free_ok X G (c.fact 24 (f := .free "isinstance") rfl)
  n_len := He.free_ok X G (c.fact 25 (f := .free "len") rfl)
  n_list := He.free_ok X G (c.fact 26 (f := .free "list") rfl)
  n_max := He.free_ok X G (c.fact 27 (f := .free "max") rfl)
  n_min := He.free_ok X G (c.fact 28 (f := .free "min") rfl)
  n_range := He.free_ok X G (c.fact 29 (f := .free "range") rfl)
  n_str := He.free_ok X G (c.fact 30 (f := .free "str") rfl)
  n_tuple := He.free_ok X G (c.fact 31 (f := .free "tuple") rfl)
  s_DIGITS := He.str_ok X G (c.fact 33 (f := .str "DIGITS" "0123456789") rfl)
  s_SPACE := He.str_ok X G (c.fact 34 (f := .str "SPACE" " ") rfl)
  e_InvalidJourney := by
    obtain ⟨a1, a2, a3, a4⟩ := He.exc_ok (c.fact 35 (f := .exc "InvalidJourney") rfl)
    exact ⟨a1, He.glo_ok X G (c.fact 20 (f := .glo "InvalidJourney") rfl), a2, a3, a4⟩
  e_InvalidText := by
    obtain ⟨a1, a2, a3, a4⟩ := He.exc_ok (c.fact 36 (f := .exc "InvalidText") rfl)
    exact ⟨a1, He.glo_ok X G (c.fact 19 (f := .glo "InvalidText") rfl), a2, a3, a4⟩
  g_RideError := He.glo_ok X G (c.fact 17 (f := .glo "RideError") rfl)
  g_InvalidRide := He.glo_ok X G (c.fact 18 (f := .glo "InvalidRide") rfl)
  g_InvalidText := He.glo_ok X G (c.fact 19 (f := .glo "InvalidText") rfl)
  g_InvalidJourney := He.glo_ok X G (c.fact 20 (f := .glo "InvalidJourney") rfl)
  n_ValueError := He.free_ok X G (c.fact 32 (f := .free "ValueError") rfl)
  x_InvalidText := excB_ok (fx_ok cx 0 (c := excB "InvalidText") rfl)
  m_InvalidText := He.exm_ok (c.fact 37 (f := .exm "InvalidText" "RideError" true) rfl)
  t_InvalidText := kitT_ok (fx_ok cx 1 (c := kitT "InvalidText" "ValueError" true) rfl)
  x_InvalidJourney := excB_ok (fx_ok cx 2 (c := excB "InvalidJourney") rfl)
  m_InvalidJourney := He.exm_ok (c.fact 38 (f := .exm "InvalidJourney" "RideError" true) rfl)
  t_InvalidJourney := kitT_ok (fx_ok cx 3 (c := kitT "InvalidJourney" "ValueError" true) rfl)
  k_InvalidText_InvalidRide := kitB_ok (fx_ok cx 4 (c := kitB "InvalidText" "InvalidRide" false) rfl)
  k_InvalidText_InvalidText := kitB_ok (fx_ok cx 5 (c := kitB "InvalidText" "InvalidText" true) rfl)
  k_InvalidText_InvalidJourney := kitB_ok (fx_ok cx 6 (c := kitB "InvalidText" "InvalidJourney" false) rfl)
  k_InvalidJourney_InvalidRide := kitB_ok (fx_ok cx 7 (c := kitB "InvalidJourney" "InvalidRide" false) rfl)
  k_InvalidJourney_InvalidText := kitB_ok (fx_ok cx 8 (c := kitB "InvalidJourney" "InvalidText" false) rfl)
  k_InvalidJourney_InvalidJourney := kitB_ok (fx_ok cx 9 (c := kitB "InvalidJourney" "InvalidJourney" true) rfl)
theorem facts {P : Program} {w : World} {K : PySem.W.Frag} {h : Heap} {mg : Str → Option Value} {f : Addr} (X : K.In h) (G : h.Ns mainGlobals mg) (hfa : mg ("law" : Str) = some (.ref f)) (cx : fx.all (fun c => c K) = true) (c : He.SaysD fa fn K) :
    ∃ fd : FuncData, (∀ (s : Shared) (v : Value), BindsTo s fd ⟨[v], []⟩ [("_law_script", v)]) ∧ ∀ base : Heap, K.In base → base.Ns mainGlobals mg → FnOk P w K mg base (L2.CX P w) 6 f fd ["_law_script"] (spD K mg 1 law_den) := by
  have W := wd X G cx c
  obtain ⟨fd_is_integer, F_is_integer⟩ := c.def_ 0 (d := d_is_integer) rfl
  have g_is_integer := He.glo_ok X G (c.fact 0 (f := .glo "is_integer") rfl)
  obtain ⟨fd_number_in, F_number_in⟩ := c.def_ 1 (d := d_number_in) rfl
  have g_number_in := He.glo_ok X G (c.fact 1 (f := .glo "number_in") rfl)
  obtain ⟨fd_numbers_in, F_numbers_in⟩ := c.def_ 2 (d := d_numbers_in) rfl
  have g_numbers_in := He.glo_ok X G (c.fact 2 (f := .glo "numbers_in") rfl)
  obtain ⟨fd_is_ride_tuple, F_is_ride_tuple⟩ := c.def_ 3 (d := d_is_ride_tuple) rfl
  have g_is_ride_tuple := He.glo_ok X G (c.fact 3 (f := .glo "is_ride_tuple") rfl)
  obtain ⟨fd_format_journey, F_format_journey⟩ := c.def_ 4 (d := d_format_journey) rfl
  have g_format_journey := He.glo_ok X G (c.fact 4 (f := .glo "format_journey") rfl)
  obtain ⟨fd_parse_journey, F_parse_journey⟩ := c.def_ 5 (d := d_parse_journey) rfl
  have g_parse_journey := He.glo_ok X G (c.fact 5 (f := .glo "parse_journey") rfl)
  obtain ⟨fd_l_cell_at, F_l_cell_at⟩ := c.def_ 6 (d := d_l_cell_at) rfl
  have g_l_cell_at := He.glo_ok X G (c.fact 6 (f := .glo "_law_cell_at") rfl)
  obtain ⟨fd_l_source, F_l_source⟩ := c.def_ 7 (d := d_l_source) rfl
  have g_l_source := He.glo_ok X G (c.fact 7 (f := .glo "_law_source") rfl)
  obtain ⟨fd_l_draw, F_l_draw⟩ := c.def_ 8 (d := d_l_draw) rfl
  have g_l_draw := He.glo_ok X G (c.fact 8 (f := .glo "_law_draw") rfl)
  obtain ⟨fd_l_same, F_l_same⟩ := c.def_ 9 (d := d_l_same) rfl
  have g_l_same := He.glo_ok X G (c.fact 9 (f := .glo "_law_same") rfl)
  obtain ⟨fd_l_written, F_l_written⟩ := c.def_ 10 (d := d_l_written) rfl
  have g_l_written := He.glo_ok X G (c.fact 10 (f := .glo "_law_written") rfl)
  obtain ⟨fd_l_number, F_l_number⟩ := c.def_ 11 (d := d_l_number) rfl
  have g_l_number := He.glo_ok X G (c.fact 11 (f := .glo "_law_number") rfl)
  obtain ⟨fd_l_read, F_l_read⟩ := c.def_ 12 (d := d_l_read) rfl
  have g_l_read := He.glo_ok X G (c.fact 12 (f := .glo "_law_read") rfl)
  obtain ⟨fd_l_told, F_l_told⟩ := c.def_ 13 (d := d_l_told) rfl
  have g_l_told := He.glo_ok X G (c.fact 13 (f := .glo "_law_told") rfl)
  obtain ⟨fd_l_bent, F_l_bent⟩ := c.def_ 14 (d := d_l_bent) rfl
  have g_l_bent := He.glo_ok X G (c.fact 14 (f := .glo "_law_bent") rfl)
  obtain ⟨fd_l_wrong, F_l_wrong⟩ := c.def_ 15 (d := d_l_wrong) rfl
  have g_l_wrong := He.glo_ok X G (c.fact 15 (f := .glo "_law_wrong") rfl)
  obtain ⟨fd_law, F_law⟩ := c.def_ 16 (d := d_law) rfl
  have g_law := He.glo_ok X G (c.fact 16 (f := .glo "law") rfl)
  have e := hfa.symm.trans g_law
  cases e
  have b := FunD.bindsA (ps := ["_law_script"]) F_law fun _ _ _ _ _ _ us hl => match us, hl with | [_], _ => rfl
  refine ⟨fd_law, fun s v => b s [v] rfl, fun base _ _ => ?_⟩
  have c_is_integer := c_is_integer (P := P) (w := w) (base := base) W F_is_integer g_is_integer
  have c_number_in := c_number_in (P := P) (w := w) (base := base) W F_number_in g_number_in
  have c_numbers_in := c_numbers_in (P := P) (w := w) (base := base) W F_numbers_in g_numbers_in c_number_in
  have c_is_ride_tuple := c_is_ride_tuple (P := P) (w := w) (base := base) W F_is_ride_tuple g_is_ride_tuple c_is_integer
  have c_format_journey := c_format_journey (P := P) (w := w) (base := base) W F_format_journey g_format_journey c_is_ride_tuple
  have k_format_journey := k_format_journey (P := P) (w := w) (base := base) W F_format_journey g_format_journey c_is_ride_tuple
  have c_parse_journey := c_parse_journey (P := P) (w := w) (base := base) W F_parse_journey g_parse_journey c_numbers_in
  have k_parse_journey := k_parse_journey (P := P) (w := w) (base := base) W F_parse_journey g_parse_journey c_numbers_in
  have c_l_cell_at := c_l_cell_at (P := P) (w := w) (base := base) W F_l_cell_at g_l_cell_at
  have c_l_source := c_l_source (P := P) (w := w) (base := base) W F_l_source g_l_source
  have c_l_draw := c_l_draw (P := P) (w := w) (base := base) W F_l_draw g_l_draw
  have c_l_same := (c_l_same (P := P) (w := w) (base := base) W F_l_same g_l_same 4).mono (k' := 5) (by decide)
  have c_l_written := c_l_written (P := P) (w := w) (base := base) W F_l_written g_l_written
  have c_l_number := c_l_number (P := P) (w := w) (base := base) W F_l_number g_l_number
  have c_l_read := c_l_read (P := P) (w := w) (base := base) W F_l_read g_l_read c_l_number
  have c_l_told := c_l_told (P := P) (w := w) (base := base) W F_l_told g_l_told c_parse_journey c_format_journey k_parse_journey k_format_journey
  have c_l_bent := c_l_bent (P := P) (w := w) (base := base) W F_l_bent g_l_bent c_l_draw
  have c_l_wrong := c_l_wrong (P := P) (w := w) (base := base) W F_l_wrong g_l_wrong c_l_draw
  exact o_law W F_law c_l_source c_l_cell_at c_l_draw c_l_written c_l_same c_l_told c_l_wrong c_l_bent c_l_read
end K62
open PySem PySem.W PySem.Calls PyProof.Rows
theorem PySem.Challenge.cw_rideplans_k62_texts_of_journeys_holds : PySem.Challenge.rw_rideplans_k62_texts_of_journeys.Holds := by
  w_on; o_law
  refine HandSHeadRun.head_any (r := OpenLaw.row PySem.Challenge.rw_rideplans_k62_texts_of_journeys) (q := view (OpenLaw.row PySem.Challenge.rw_rideplans_k62_texts_of_journeys).prog [26]) (H := K62.hk) (ob := K62.ob) (M := 3000) (loose := K62.names) (d := HandSHeadRun.topDef (OpenLaw.row PySem.Challenge.rw_rideplans_k62_texts_of_journeys).prog 26) (kwd := []) K62.ob_eq
    (by kernel_rfl) (fun s => by kernel_rfl) K62.run (by kernel_rfl) (by kernel_rfl) (by kernel_rfl) (by rfl) (by first | assumption | decide +kernel) (by decide +kernel) ⟨rfl, rfl, rfl, rfl, rfl, by decide +kernel⟩ ?hw ?hc
  case hw => w_witness2
  case hc =>
    refine Rp.walk_ofD (l := PySem.Challenge.rw_rideplans_k62_texts_of_journeys) (n := 63) (k := 6) (x := "_law_script") rfl (by decide) (by kernel_rfl) ⟨rfl, by decide, by decide⟩ ?F
    intro w mg fa h Y G hmg0
    obtain ⟨K, KX, cx, c⟩ := Y
    have hmg : mg ("law" : PySem.Str) = some (.ref fa) := by
      have e : (HandSHeadRun.topDef (OpenLaw.row PySem.Challenge.rw_rideplans_k62_texts_of_journeys).prog 26).name = ("law" : PySem.Str) := by kernel_rfl
      rw [← e]
      exact hmg0
    obtain ⟨fd, hb, hF⟩ := K62.facts (P := (PySem.Challenge.rw_rideplans_k62_texts_of_journeys).prog) (w := w) KX G hmg cx c
    exact ⟨K, fd, K62.law_den, KX, hb, K62.law_true, hF⟩
