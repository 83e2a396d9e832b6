import PyProof.Rows.All
import Wide.All
import OpenK.AllK
import Wide.FinOn
import HandS.ForMost
import HandS.ForExc
import HandS.Flow
import HandS.Zip
import HandS.TupLe
import HandS.Strs
import HandS.SortInts
import HandS.Wide
import HandS.IsInst
import HandS.Conv
import HandS.Style
import HandS.RevTup
import HandS.TupAny
import HandS.TupMul
import HandS.Defaults
import HandS.RaiseMore
import HandS.Keys
import HandS.Deep
import HandS.Star
import HandS.FStr
import HandS.StrMore
import HandS.TryOnly
import HandS.ExcIs
import HandS.ExcOwn
import HandS.ExcCtx
import HandS.HotCalls
import HandS.ExcInit
import HandS.HeadHook1
import PyProof.NeKinds
import PyProof.FactsAll.dict_2
import HandS.EndBits
import HandS.Head0
import HandS.Head1
import HandS.Head2
import HandS.HeadEnd
import HandS.HeadHook2
import KE.KIntText
import HandS.WideBits
import PyProof.ReprRoads
import PyProof.ReprText
import PyProof.CallFns
import HandS.ExcValue
import HandS.ExcField
import KE.KExcIs
import HandS.ExcBuiltin
import HandS.Sort
import PySem.Challenge.RW_rideplans_k01_times_and_days
import HandS.Text
set_option Elab.async false
set_option linter.all false
set_option maxRecDepth 100000
/-! RpA: plain data, slots, outcomes, the small language and what its pieces mean (no heap here). -/
namespace Rp
open PySem

/-- plain data: what a value holds, by content (scr: the law's own script, read only) -/
inductive D where
  | non
  | bl (b : Bool)
  | int (i : Int)
  | str (x : Str)
  | lst (xs : List D)
  | tup (xs : List D)
  | dct (ks vs : List D)
  | dctT (ks vs : List D)
  | obj (c : Nat) (vs : List D)
  | scr (xs : List D)
  deriving Inhabited

mutual
def D.py : D → PyData
  | .non => .none
  | .bl b => .bool b
  | .int i => .int i
  | .str x => .str x
  | .lst xs => .list (D.pys xs)
  | .tup xs => .tuple (D.pys xs)
  | .dct _ _ => .dict []
  | .dctT _ _ => .dict []
  | .obj _ _ => .dict []
  | .scr _ => .dict []
def D.pys : List D → List PyData
  | [] => []
  | x :: xs => x.py :: D.pys xs
end

/-- a local name: nothing yet; a value that nobody changes; a list, dict, object that this def alone changes (par: it is the caller's); one that is lent; an own one while a loop walks it -/
inductive Slot where
  | no
  | val (d : D)
  | own (par : Bool) (d : D)
  | lck (d : D)
  | lkd (par : Bool) (d : D)
  deriving Inhabited

abbrev Env := List Slot

inductive Out (α : Type) where
  | ok (a : α) (e : Env)
  | exc (x : D) (e : Env)
  | bad

def Out.bind {α β : Type} (o : Out α) (f : α → Env → Out β) : Out β :=
  match o with
  | .ok a e => f a e
  | .exc x e => .exc x e
  | .bad => .bad
def Out.of {α : Type} (o : Option α) (e : Env) : Out α :=
  match o with
  | some a => .ok a e
  | none => .bad

/-- an operand: a value, or what a lent name holds when the operation comes -/
inductive Opd where
  | v (d : D)
  | s (i : Nat)

def Env.get (e : Env) (i : Nat) : Slot := e.getD i .no
def Slot.look : Slot → Option D
  | .val d => some d
  | .own _ d => some d
  | .lck d => some d
  | .lkd _ d => some d
  | .no => none
def Slot.isLk : Slot → Bool
  | .lck _ => true
  | .lkd _ _ => true
  | _ => false
def deref (o : Opd) (e : Env) : Option D :=
  match o with
  | .v d => some d
  | .s i => (e.get i).look

/-- what a statement leads to -/
inductive Res where
  | nx (e : Env)
  | rt (d : D) (fresh : Bool) (e : Env)
  | bk (e : Env)
  | exc (x : D) (e : Env)
  | bad
end Rp
set_option Elab.async false
set_option linter.all false
set_option maxRecDepth 100000
/-! RpB: how plain data stands in the heap; what an expression's meaning says of its run. -/
namespace Rp
open PySem PySem.Spec PyProof.Rows L2

/-- exceptions bear no context here -/
abbrev Takes := @L2N.Takes

/-! ### keys -/
def keyD : Key → D
  | .inl i => .int i
  | .inr x => .str x
def keyT (k : List Key) : D := .tup (k.map keyD)

/-! ### data in the heap -/
def KL (K : PySem.W.Frag) (a : Addr) (xs : List V) : Prop :=
  ∃ (o : Obj) (its : Array Value) (n : Nat), K.lookup a = some o ∧ o.cls = .type "list" ∧ o.dict = none ∧ o.data = .seq its n ∧ its.size ≤ sizeLine ∧ Vals xs its.toList
def KT (K : PySem.W.Frag) (a : Addr) (xs : List V) : Prop :=
  ∃ (o : Obj) (its : Array Value) (n : Nat), K.lookup a = some o ∧ o.cls = .type "tuple" ∧ o.data = .seq its n ∧ its.size ≤ sizeLine ∧ Vals xs its.toList

mutual
inductive Rep (K : PySem.W.Frag) (H : Hp) (S : Addr → Prop) : V → D → Prop where
  | non : Rep K H S .non .non
  | bl (b : Bool) : Rep K H S (.bl b) (.bl b)
  | int (i : Int) : Rep K H S (.int i) (.int i)
  | str (x : Str) : Rep K H S (.str x) (.str x)
  | lst {a : Addr} {vs : List V} {ds : List D} : H a = some (.lst vs) → ¬ S a → Reps K H S vs ds → Rep K H S (.ref a) (.lst ds)
  | scr {a : Addr} {vs : List V} {ds : List D} : ((Rd H a (.lst vs) ∧ ¬ S a) ∨ KL K a vs) → Reps K H S vs ds → Rep K H S (.ref a) (.scr ds)
  | tup {a : Addr} {vs : List V} {ds : List D} : ((Rd H a (.tup vs) ∧ ¬ S a) ∨ KT K a vs) → Reps K H S vs ds → Rep K H S (.ref a) (.tup ds)
  | dctK {a : Addr} {kvs : List (Key × V)} {vs : List D} : Rd H a (.dK kvs) → ¬ S a → Reps K H S (kvs.map (·.2)) vs → Rep K H S (.ref a) (.dct (kvs.map fun p => keyD p.1) vs)
  | dctT {a : Addr} {kvs : List (List Key × V)} {vs : List D} : Rd H a (.dT kvs) → ¬ S a → Reps K H S (kvs.map (·.2)) vs → Rep K H S (.ref a) (.dctT (kvs.map fun p => keyT p.1) vs)
  | exc {a : Addr} : Rep K H S (.ref a) (.obj a [])
  | excN {a : Addr} {nm : Str} : Rd H a (exo a (He.ga K nm) none) → ¬ S a → Rep K H S (.ref a) (.obj 1 [.str nm])
  | excF {a dd : Addr} {nm : Str} {fs : List (Str × V)} {vs : List D} : Rd H a (exo a (He.ga K nm) (some dd)) → ¬ S a → Rd H dd (exd dd fs) → ¬ S dd → Reps K H S (fs.map (·.2)) vs → Rep K H S (.ref a) (.obj 1 [.str nm, .lst (fs.map fun p => .str p.1), .lst vs])
inductive Reps (K : PySem.W.Frag) (H : Hp) (S : Addr → Prop) : List V → List D → Prop where
  | nil : Reps K H S [] []
  | cons {v : V} {vs : List V} {d : D} {ds : List D} : Rep K H S v d → Reps K H S vs ds → Reps K H S (v :: vs) (d :: ds)
end

/-- what may be read outside W may be read as before; a list stays as it is -/
def FrR (W : Addr → Prop) (H H' : Hp) : Prop := (∀ a u, Rd H a u → ¬ W a → Rd H' a u) ∧ ∀ a xs, H a = some (.lst xs) → ¬ W a → H' a = some (.lst xs)
theorem FrR.sq {K : PySem.W.Frag} {W : Addr → Prop} {H H' : Hp} (f : FrR W H H') {a : Addr} {xs : List V} (h : SqL K H a xs) (n : ¬ W a) : SqL K H' a xs := h.elim (fun z => .inl (f.1 _ _ z n)) .inr
/-- W may be written; all else stays, and nothing is forgotten -/
structure Fr (W : Addr → Prop) (H H' : Hp) : Prop where
  eq : ∀ a u, H a = some u → ¬ W a → H' a = some u
  dom : ∀ a, H a ≠ none → H' a ≠ none
theorem Fr.rd {W : Addr → Prop} {H H' : Hp} (f : Fr W H H') : FrR W H H' := ⟨fun a u r n => by
  rcases r with r | ⟨o, r⟩
  · exact .inl (f.eq _ _ r n)
  · exact .inr ⟨o, f.eq _ _ r n⟩, fun a xs h n => f.eq _ _ h n⟩
theorem Fr.refl {W : Addr → Prop} {H : Hp} : Fr W H H := ⟨fun _ _ h _ => h, fun _ h => h⟩
theorem Fr.trans {W : Addr → Prop} {H H1 H2 : Hp} (a : Fr W H H1) (b : Fr W H1 H2) : Fr W H H2 :=
  ⟨fun c u h n => b.eq c u (a.eq c u h n) n, fun c h => b.dom c (a.dom c h)⟩
theorem Fr.mono {W W' : Addr → Prop} {H H' : Hp} (a : Fr W H H') (h : ∀ x, W x → W' x) : Fr W' H H' :=
  ⟨fun c u r n => a.eq c u r fun z => n (h c z), a.dom⟩
/-- the second part may also write what is new since H -/
theorem Fr.then {W W1 : Addr → Prop} {H H1 H2 : Hp} (a : Fr W H H1) (b : Fr W1 H1 H2) (h : ∀ p, W1 p → W p ∨ H p = none) : Fr W H H2 :=
  ⟨fun c u q n => b.eq c u (a.eq c u q n) fun z => (h c z).elim n fun e => (by rw [q] at e; cases e), fun c h => b.dom c (a.dom c h)⟩
theorem rd_some {H : Hp} {a : Addr} {u : HO} (r : Rd H a u) : H a ≠ none := by
  rcases r with r | ⟨o, r⟩ <;> rw [r] <;> simp
theorem Fr.new {W : Addr → Prop} {H : Hp} {p : Addr} {o : HO} (h : H p = none) : Fr W H (upd H p o) := by
  refine ⟨fun a u r _ => ?_, fun a n => ?_⟩
  · have ne : a ≠ p := fun e => by rw [e, h] at r; cases r
    rw [upd_ne ne]; exact r
  · have ne : a ≠ p := fun e => n (e ▸ h)
    rw [upd_ne ne]; exact n
theorem Fr.same {W : Addr → Prop} {H H' : Hp} (h : Same H H') : Fr W H H' := by
  refine ⟨fun a u r _ => h _ _ r, fun a n => ?_⟩
  cases q : H a with
  | none => exact absurd q n
  | some o => rw [h _ _ q]; simp
theorem Fr.write {W : Addr → Prop} {H : Hp} {p : Addr} {o : HO} (h : W p) : Fr W H (upd H p o) := by
  refine ⟨fun a u r n => ?_, fun a n => ?_⟩
  · have ne : a ≠ p := fun e => n (e ▸ h)
    rw [upd_ne ne]; exact r
  · by_cases e : a = p
    · subst e; rw [upd_same]; simp
    · rw [upd_ne e]; exact n

section
variable {K : PySem.W.Frag} {H H' : Hp} {S S' W : Addr → Prop}
mutual
theorem Rep.fr (f : FrR W H H') (hw : ∀ a, W a → S a) : ∀ {v : V} {d : D}, Rep K H S v d → Rep K H' S v d
  | _, _, .non => .non
  | _, _, .bl b => .bl b
  | _, _, .int i => .int i
  | _, _, .str x => .str x
  | _, _, .lst h n r => .lst (f.2 _ _ h fun z => n (hw _ z)) n (Reps.fr f hw r)
  | _, _, .scr h r => .scr (h.elim (fun ⟨h1, h2⟩ => .inl ⟨f.1 _ _ h1 fun z => h2 (hw _ z), h2⟩) .inr) (Reps.fr f hw r)
  | _, _, .tup h r => .tup (h.elim (fun ⟨h1, h2⟩ => .inl ⟨f.1 _ _ h1 fun z => h2 (hw _ z), h2⟩) .inr) (Reps.fr f hw r)
  | _, _, .dctK h n r => .dctK (f.1 _ _ h fun z => n (hw _ z)) n (Reps.fr f hw r)
  | _, _, .dctT h n r => .dctT (f.1 _ _ h fun z => n (hw _ z)) n (Reps.fr f hw r)
  | _, _, .exc => .exc
  | _, _, .excN h n => .excN (f.1 _ _ h fun z => n (hw _ z)) n
  | _, _, .excF h n k m r => .excF (f.1 _ _ h fun z => n (hw _ z)) n (f.1 _ _ k fun z => m (hw _ z)) m (Reps.fr f hw r)
theorem Reps.fr (f : FrR W H H') (hw : ∀ a, W a → S a) : ∀ {vs : List V} {ds : List D}, Reps K H S vs ds → Reps K H' S vs ds
  | _, _, .nil => .nil
  | _, _, .cons r t => .cons (Rep.fr f hw r) (Reps.fr f hw t)
end
mutual
theorem Rep.mono (h : ∀ a, S' a → S a) : ∀ {v : V} {d : D}, Rep K H S v d → Rep K H S' v d
  | _, _, .non => .non
  | _, _, .bl b => .bl b
  | _, _, .int i => .int i
  | _, _, .str x => .str x
  | _, _, .lst q n r => .lst q (fun z => n (h _ z)) (Reps.mono h r)
  | _, _, .scr q r => .scr (q.elim (fun ⟨h1, h2⟩ => .inl ⟨h1, fun z => h2 (h _ z)⟩) .inr) (Reps.mono h r)
  | _, _, .tup q r => .tup (q.elim (fun ⟨h1, h2⟩ => .inl ⟨h1, fun z => h2 (h _ z)⟩) .inr) (Reps.mono h r)
  | _, _, .dctK q n r => .dctK q (fun z => n (h _ z)) (Reps.mono h r)
  | _, _, .dctT q n r => .dctT q (fun z => n (h _ z)) (Reps.mono h r)
  | _, _, .exc => .exc
  | _, _, .excN q n => .excN q (fun z => n (h _ z))
  | _, _, .excF q n k m r => .excF q (fun z => n (h _ z)) k (fun z => m (h _ z)) (Reps.mono h r)
theorem Reps.mono (h : ∀ a, S' a → S a) : ∀ {vs : List V} {ds : List D}, Reps K H S vs ds → Reps K H S' vs ds
  | _, _, .nil => .nil
  | _, _, .cons r t => .cons (Rep.mono h r) (Reps.mono h t)
end
mutual
theorem Rep.free {p : Addr} (hp : H p = none) (hs : ∀ a, S' a → S a ∨ a = p) : ∀ {v : V} {d : D}, Rep K H S v d → Rep K H S' v d
  | _, _, .non => .non
  | _, _, .bl b => .bl b
  | _, _, .int i => .int i
  | _, _, .str x => .str x
  | _, _, .lst q n r => .lst q (fun z => (hs _ z).elim n fun e => by rw [e, hp] at q; cases q) (Reps.free hp hs r)
  | _, _, .scr q r => .scr (q.elim (fun ⟨h1, h2⟩ => .inl ⟨h1, fun z => (hs _ z).elim h2 fun e => rd_some h1 (e ▸ hp)⟩) .inr) (Reps.free hp hs r)
  | _, _, .tup q r => .tup (q.elim (fun ⟨h1, h2⟩ => .inl ⟨h1, fun z => (hs _ z).elim h2 fun e => rd_some h1 (e ▸ hp)⟩) .inr) (Reps.free hp hs r)
  | _, _, .dctK q n r => .dctK q (fun z => (hs _ z).elim n fun e => rd_some q (e ▸ hp)) (Reps.free hp hs r)
  | _, _, .dctT q n r => .dctT q (fun z => (hs _ z).elim n fun e => rd_some q (e ▸ hp)) (Reps.free hp hs r)
  | _, _, .exc => .exc
  | _, _, .excN q n => .excN q (fun z => (hs _ z).elim n fun e => rd_some q (e ▸ hp))
  | _, _, .excF q n k m r => .excF q (fun z => (hs _ z).elim n fun e => rd_some q (e ▸ hp)) k (fun z => (hs _ z).elim m fun e => rd_some k (e ▸ hp)) (Reps.free hp hs r)
theorem Reps.free {p : Addr} (hp : H p = none) (hs : ∀ a, S' a → S a ∨ a = p) : ∀ {vs : List V} {ds : List D}, Reps K H S vs ds → Reps K H S' vs ds
  | _, _, .nil => .nil
  | _, _, .cons r t => .cons (Rep.free hp hs r) (Reps.free hp hs t)
end
theorem Reps.length : ∀ {vs : List V} {ds : List D}, Reps K H S vs ds → vs.length = ds.length
  | _, _, .nil => rfl
  | _, _, .cons _ t => by simp [Reps.length t]
theorem Reps.append : ∀ {vs ws : List V} {ds es : List D}, Reps K H S vs ds → Reps K H S ws es → Reps K H S (vs ++ ws) (ds ++ es)
  | _, _, _, _, .nil, q => q
  | _, _, _, _, .cons r t, q => .cons r (Reps.append t q)
theorem Reps.get : ∀ {vs : List V} {ds : List D} {i : Nat} {d : D}, Reps K H S vs ds → ds[i]? = some d → ∃ v, vs[i]? = some v ∧ Rep K H S v d
  | _, _, _, _, .nil, e => by simp at e
  | _, _, 0, _, .cons r _, e => ⟨_, rfl, by simp at e; subst e; exact r⟩
  | _, _, i + 1, _, .cons _ t, e => by
    obtain ⟨v, h1, h2⟩ := Reps.get (i := i) t (by simpa using e)
    exact ⟨v, by simpa using h1, h2⟩
theorem Reps.getV : ∀ {vs : List V} {ds : List D} {i : Nat} {v : V}, Reps K H S vs ds → vs[i]? = some v → ∃ d, ds[i]? = some d ∧ Rep K H S v d
  | _, _, _, _, .nil, e => by simp at e
  | _, _, 0, _, .cons r _, e => ⟨_, rfl, by simp at e; subst e; exact r⟩
  | _, _, i + 1, _, .cons _ t, e => by
    obtain ⟨d, h1, h2⟩ := Reps.getV (i := i) t (by simpa using e)
    exact ⟨d, by simpa using h1, h2⟩
theorem Reps.set {v : V} {d : D} (r : Rep K H S v d) : ∀ {vs : List V} {ds : List D} (i : Nat), Reps K H S vs ds → Reps K H S (vs.set i v) (ds.set i d)
  | _, _, _, .nil => .nil
  | _, _, 0, .cons _ t => .cons r t
  | _, _, i + 1, .cons q t => .cons q (Reps.set r i t)
theorem Reps.take : ∀ {vs : List V} {ds : List D} (n : Nat), Reps K H S vs ds → Reps K H S (vs.take n) (ds.take n)
  | _, _, 0, _ => .nil
  | _, _, _ + 1, .nil => .nil
  | _, _, n + 1, .cons r t => .cons r (Reps.take n t)
theorem Reps.drop : ∀ {vs : List V} {ds : List D} (n : Nat), Reps K H S vs ds → Reps K H S (vs.drop n) (ds.drop n)
  | _, _, 0, r => r
  | _, _, _ + 1, .nil => .nil
  | _, _, n + 1, .cons _ t => Reps.drop n t
theorem Reps.replicate {v : V} {d : D} (r : Rep K H S v d) : ∀ n, Reps K H S (List.replicate n v) (List.replicate n d)
  | 0 => .nil
  | n + 1 => .cons r (Reps.replicate r n)
theorem Reps.reverse {vs : List V} {ds : List D} (r : Reps K H S vs ds) : Reps K H S vs.reverse ds.reverse := by
  induction r using Reps.rec (motive_1 := fun _ _ _ => True) with
  | nil => exact .nil
  | cons r t _ ih => rw [List.reverse_cons, List.reverse_cons]; exact Reps.append ih (.cons r .nil)
  | _ => trivial
end

/-! ### what a lent or owned thing holds: its first layer is not asked to be out of reach -/
def OwnRep (K : PySem.W.Frag) (H : Hp) (S : Addr → Prop) (p : Addr) (d : D) : Prop :=
  (∃ vs ds, d = .lst ds ∧ H p = some (.lst vs) ∧ Reps K H S vs ds) ∨
  (∃ kvs vs, d = .dct (kvs.map fun q => keyD q.1) vs ∧ H p = some (.dK kvs) ∧ Reps K H S (kvs.map (·.2)) vs) ∨
  (∃ kvs vs, d = .dctT (kvs.map fun q => keyT q.1) vs ∧ H p = some (.dT kvs) ∧ Reps K H S (kvs.map (·.2)) vs)
/-- readable now, by the first layer -/
inductive RepB (K : PySem.W.Frag) (H : Hp) (S : Addr → Prop) : V → D → Prop where
  | non : RepB K H S .non .non
  | bl (b : Bool) : RepB K H S (.bl b) (.bl b)
  | int (i : Int) : RepB K H S (.int i) (.int i)
  | str (x : Str) : RepB K H S (.str x) (.str x)
  | lst {a : Addr} {vs : List V} {ds : List D} : H a = some (.lst vs) → Reps K H S vs ds → RepB K H S (.ref a) (.lst ds)
  | scr {a : Addr} {vs : List V} {ds : List D} : SqL K H a vs → Reps K H S vs ds → RepB K H S (.ref a) (.scr ds)
  | tup {a : Addr} {vs : List V} {ds : List D} : ((Rd H a (.tup vs) ∧ ¬ S a) ∨ KT K a vs) → Reps K H S vs ds → RepB K H S (.ref a) (.tup ds)
  | dctK {a : Addr} {kvs : List (Key × V)} {vs : List D} : Rd H a (.dK kvs) → Reps K H S (kvs.map (·.2)) vs → RepB K H S (.ref a) (.dct (kvs.map fun p => keyD p.1) vs)
  | dctT {a : Addr} {kvs : List (List Key × V)} {vs : List D} : Rd H a (.dT kvs) → Reps K H S (kvs.map (·.2)) vs → RepB K H S (.ref a) (.dctT (kvs.map fun p => keyT p.1) vs)
  | exc {a : Addr} : RepB K H S (.ref a) (.obj a [])
  | excN {a : Addr} {nm : Str} : Rd H a (exo a (He.ga K nm) none) → ¬ S a → RepB K H S (.ref a) (.obj 1 [.str nm])
  | excF {a dd : Addr} {nm : Str} {fs : List (Str × V)} {vs : List D} : Rd H a (exo a (He.ga K nm) (some dd)) → ¬ S a → Rd H dd (exd dd fs) → ¬ S dd → Reps K H S (fs.map (·.2)) vs → RepB K H S (.ref a) (.obj 1 [.str nm, .lst (fs.map fun p => .str p.1), .lst vs])
section
variable {K : PySem.W.Frag} {H H' : Hp} {S S' W : Addr → Prop}
theorem Rep.b {v : V} {d : D} (r : Rep K H S v d) : RepB K H S v d := by
  cases r with
  | non => exact .non
  | bl b => exact .bl b
  | int i => exact .int i
  | str x => exact .str x
  | lst h n r => exact .lst h r
  | scr h r => exact .scr (h.elim (fun z => .inl z.1) .inr) r
  | tup h r => exact .tup h r
  | dctK h n r => exact .dctK h r
  | dctT h n r => exact .dctT h r
  | exc => exact .exc
  | excN h n => exact .excN h n
  | excF h n k m r => exact .excF h n k m r
theorem sqT_of {a : Addr} {vs : List V} (h : (Rd H a (.tup vs) ∧ ¬ S a) ∨ KT K a vs) : SqT K H a vs := h.elim (fun z => .inl z.1) .inr
theorem OwnRep.b {p : Addr} {d : D} (r : OwnRep K H S p d) : RepB K H S (.ref p) d := by
  rcases r with ⟨vs, ds, rfl, h, r⟩ | ⟨kvs, vs, rfl, h, r⟩ | ⟨kvs, vs, rfl, h, r⟩
  · exact .lst h r
  · exact .dctK (.inl h) r
  · exact .dctT (.inl h) r
theorem OwnRep.rep {p : Addr} {d : D} (r : OwnRep K H S p d) (n : ¬ S p) : Rep K H S (.ref p) d := by
  rcases r with ⟨vs, ds, rfl, h, r⟩ | ⟨kvs, vs, rfl, h, r⟩ | ⟨kvs, vs, rfl, h, r⟩
  · exact .lst h n r
  · exact .dctK (.inl h) n r
  · exact .dctT (.inl h) n r
theorem OwnRep.mono {p : Addr} {d : D} (h : ∀ a, S' a → S a) (r : OwnRep K H S p d) : OwnRep K H S' p d := by
  rcases r with ⟨vs, ds, rfl, q, r⟩ | ⟨kvs, vs, rfl, q, r⟩ | ⟨kvs, vs, rfl, q, r⟩
  · exact .inl ⟨vs, ds, rfl, q, Reps.mono h r⟩
  · exact .inr (.inl ⟨kvs, vs, rfl, q, Reps.mono h r⟩)
  · exact .inr (.inr ⟨kvs, vs, rfl, q, Reps.mono h r⟩)
theorem OwnRep.free {p q : Addr} {d : D} (hp : H p = none) (hs : ∀ a, S' a → S a ∨ a = p) (r : OwnRep K H S q d) : OwnRep K H S' q d := by
  rcases r with ⟨vs, ds, rfl, q, r⟩ | ⟨kvs, vs, rfl, q, r⟩ | ⟨kvs, vs, rfl, q, r⟩
  · exact .inl ⟨vs, ds, rfl, q, Reps.free hp hs r⟩
  · exact .inr (.inl ⟨kvs, vs, rfl, q, Reps.free hp hs r⟩)
  · exact .inr (.inr ⟨kvs, vs, rfl, q, Reps.free hp hs r⟩)
/-- .. while a loop walks it: a dict may be locked -/
def OwnR (K : PySem.W.Frag) (H : Hp) (S : Addr → Prop) (p : Addr) (d : D) : Prop :=
  (∃ vs ds, d = .lst ds ∧ H p = some (.lst vs) ∧ Reps K H S vs ds) ∨
  (∃ kvs vs, d = .dct (kvs.map fun q => keyD q.1) vs ∧ Rd H p (.dK kvs) ∧ Reps K H S (kvs.map (·.2)) vs) ∨
  (∃ kvs vs, d = .dctT (kvs.map fun q => keyT q.1) vs ∧ Rd H p (.dT kvs) ∧ Reps K H S (kvs.map (·.2)) vs)
theorem OwnRep.r {p : Addr} {d : D} (r : OwnRep K H S p d) : OwnR K H S p d := by
  rcases r with ⟨vs, ds, rfl, h, r⟩ | ⟨kvs, vs, rfl, h, r⟩ | ⟨kvs, vs, rfl, h, r⟩
  · exact .inl ⟨_, _, rfl, h, r⟩
  · exact .inr (.inl ⟨_, _, rfl, .inl h, r⟩)
  · exact .inr (.inr ⟨_, _, rfl, .inl h, r⟩)
theorem OwnR.b {p : Addr} {d : D} (r : OwnR K H S p d) : RepB K H S (.ref p) d := by
  rcases r with ⟨vs, ds, rfl, h, r⟩ | ⟨kvs, vs, rfl, h, r⟩ | ⟨kvs, vs, rfl, h, r⟩
  · exact .lst h r
  · exact .dctK h r
  · exact .dctT h r
theorem OwnR.mono {p : Addr} {d : D} (h : ∀ a, S' a → S a) (r : OwnR K H S p d) : OwnR K H S' p d := by
  rcases r with ⟨vs, ds, rfl, q, r⟩ | ⟨kvs, vs, rfl, q, r⟩ | ⟨kvs, vs, rfl, q, r⟩
  · exact .inl ⟨vs, ds, rfl, q, Reps.mono h r⟩
  · exact .inr (.inl ⟨kvs, vs, rfl, q, Reps.mono h r⟩)
  · exact .inr (.inr ⟨kvs, vs, rfl, q, Reps.mono h r⟩)
theorem OwnR.fr {p : Addr} {d : D} (r : OwnR K H S p d) (f : FrR W H H') (hw : ∀ a, W a → S a) (hp : ¬ W p) : OwnR K H' S p d := by
  rcases r with ⟨vs, ds, rfl, q, r⟩ | ⟨kvs, vs, rfl, q, r⟩ | ⟨kvs, vs, rfl, q, r⟩
  · exact .inl ⟨vs, ds, rfl, f.2 _ _ q hp, Reps.fr f hw r⟩
  · exact .inr (.inl ⟨kvs, vs, rfl, f.1 _ _ q hp, Reps.fr f hw r⟩)
  · exact .inr (.inr ⟨kvs, vs, rfl, f.1 _ _ q hp, Reps.fr f hw r⟩)
/-- .. and what was to be changed before may be changed again -/
theorem OwnR.own {p : Addr} {d : D} {u : HO} (r : OwnR K H S p d) (h : H p = some u) (m : Mut (some u)) : OwnRep K H S p d := by
  rcases r with ⟨vs, ds, rfl, q, r⟩ | ⟨kvs, vs, rfl, q, r⟩ | ⟨kvs, vs, rfl, q, r⟩
  · exact .inl ⟨vs, ds, rfl, q, r⟩
  · rcases q with q | ⟨o, q⟩
    · exact .inr (.inl ⟨kvs, vs, rfl, q, r⟩)
    · rw [h] at q; cases q; exact m.elim
  · rcases q with q | ⟨o, q⟩
    · exact .inr (.inr ⟨kvs, vs, rfl, q, r⟩)
    · rw [h] at q; cases q; exact m.elim
theorem rd_plain {H : Hp} {a : Addr} {u : HO} (h : H a = some u) : Rd H a u := .inl h
end
end Rp
set_option Elab.async false
set_option linter.all false
set_option maxRecDepth 100000
/-! RpC: what an expression's meaning says of its run: the frame's names, the judgements, the first rules. -/
namespace Rp
open PySem PySem.Spec PyProof.Rows L2

abbrev Own := Nat → Option Addr
def Oset (O : Own) (a : Addr) : Prop := ∃ i, O i = some a
def Sx (S0 : Addr → Prop) (O : Own) (a : Addr) : Prop := S0 a ∨ Oset O a
def Sub (O' O : Own) : Prop := ∀ i, O' i = O i ∨ O' i = none
theorem Sub.refl {O : Own} : Sub O O := fun _ => .inl rfl
theorem Sub.trans {O O1 O2 : Own} (a : Sub O2 O1) (b : Sub O1 O) : Sub O2 O := fun i => by
  rcases a i with h | h
  · rw [h]; exact b i
  · exact .inr h
theorem Sub.set {O' O : Own} (a : Sub O' O) {p : Addr} (h : Oset O' p) : Oset O p := by
  obtain ⟨i, e⟩ := h
  rcases a i with q | q
  · exact ⟨i, q ▸ e⟩
  · rw [q] at e; cases e
theorem Sub.sx {O' O : Own} (a : Sub O' O) {S0 : Addr → Prop} {p : Addr} (h : Sx S0 O' p) : Sx S0 O p := h.elim .inl fun z => .inr (a.set z)

/-- what stays through a body: the places that others hold (S0), the callers' things by slot (P), what is lent by slot (L), the heap at the def's entry (H0) -/
structure Fx where
  S0 : Addr → Prop
  P : Own
  L : Own
  H0 : Hp
def SlotOk (K : PySem.W.Frag) (F : Fx) (S : Addr → Prop) (Oi Pi Li : Option Addr) (H : Hp) (c : Option V) : Slot → Prop
  | .no => Oi = none
  | .val d => Oi = none ∧ ∃ v, c = some v ∧ Rep K H S v d
  | .own par d => ∃ p, Oi = some p ∧ c = some (.ref p) ∧ OwnRep K H S p d ∧ (par = true → F.S0 p ∧ Pi = some p) ∧ (par = false → ¬ F.S0 p ∧ F.H0 p = none)
  | .lck d => Oi = none ∧ ∃ v, c = some v ∧ (Rep K H S v d ∨ ∃ p, v = .ref p ∧ Li = some p ∧ F.S0 p ∧ RepB K H S (.ref p) d)
  | .lkd par d => Oi = none ∧ ∃ p, c = some (.ref p) ∧ Li = some p ∧ F.S0 p ∧ OwnR K H S p d ∧ (par = true → Pi = some p)

structure Good (K : PySem.W.Frag) (F : Fx) (O : Own) (σ : L2.St) (H : Hp) (e : Env) : Prop where
  len : e.length = σ.length
  s0 : ∀ a, F.S0 a → H a ≠ none
  d0 : ∀ a, F.H0 a ≠ none → H a ≠ none
  inj : ∀ i j p, O i = some p → O j = some p → i = j
  lo : ∀ i j p, F.L i = some p → O j = some p → False
  ls : ∀ i p, F.L i = some p → F.S0 p
  ps : ∀ i p, F.P i = some p → F.S0 p
  ln : ∀ i p, F.L i = some p → (e.get i).isLk = true
  slot : ∀ i, SlotOk K F (Sx F.S0 O) (O i) (F.P i) (F.L i) H (σ.getD i none) (e.get i)

section
variable {K : PySem.W.Frag} {F : Fx} {S S' W : Addr → Prop} {O O' : Own} {σ : L2.St} {H H' : Hp} {e e' : Env} {i : Nat} {d : D} {par : Bool} {v : V}
theorem RepB.fr {v : V} {d : D} (r : RepB K H S v d) (f : FrR W H H') (hw : ∀ a, W a → S a) (h0 : ∀ a, v = .ref a → ¬ W a) : RepB K H' S v d := by
  cases r with
  | non => exact .non
  | bl b => exact .bl b
  | int i => exact .int i
  | str x => exact .str x
  | lst h r => exact .lst (f.2 _ _ h (h0 _ rfl)) (Reps.fr f hw r)
  | scr h r => exact .scr (f.sq h (h0 _ rfl)) (Reps.fr f hw r)
  | tup h r => exact .tup (h.elim (fun z => .inl ⟨f.1 _ _ z.1 (h0 _ rfl), z.2⟩) .inr) (Reps.fr f hw r)
  | dctK h r => exact .dctK (f.1 _ _ h (h0 _ rfl)) (Reps.fr f hw r)
  | dctT h r => exact .dctT (f.1 _ _ h (h0 _ rfl)) (Reps.fr f hw r)
  | exc => exact .exc
  | excN h n => exact .excN (f.1 _ _ h fun z => n (hw _ z)) n
  | excF h n k m r => exact .excF (f.1 _ _ h fun z => n (hw _ z)) n (f.1 _ _ k fun z => m (hw _ z)) m (Reps.fr f hw r)
theorem RepB.mono {v : V} {d : D} (h : ∀ a, S' a → S a) (r : RepB K H S v d) : RepB K H S' v d := by
  cases r with
  | non => exact .non
  | bl b => exact .bl b
  | int i => exact .int i
  | str x => exact .str x
  | lst q r => exact .lst q (Reps.mono h r)
  | scr q r => exact .scr q (Reps.mono h r)
  | tup q r => exact .tup (q.elim (fun ⟨h1, h2⟩ => .inl ⟨h1, fun z => h2 (h _ z)⟩) .inr) (Reps.mono h r)
  | dctK q r => exact .dctK q (Reps.mono h r)
  | dctT q r => exact .dctT q (Reps.mono h r)
  | exc => exact .exc
  | excN q n => exact .excN q (fun z => n (h _ z))
  | excF q n k m r => exact .excF q (fun z => n (h _ z)) k (fun z => m (h _ z)) (Reps.mono h r)
theorem RepB.free {p : Addr} {v : V} {d : D} (hp : H p = none) (hs : ∀ a, S' a → S a ∨ a = p) (r : RepB K H S v d) : RepB K H S' v d := by
  cases r with
  | non => exact .non
  | bl b => exact .bl b
  | int i => exact .int i
  | str x => exact .str x
  | lst q r => exact .lst q (Reps.free hp hs r)
  | scr q r => exact .scr q (Reps.free hp hs r)
  | tup q r => exact .tup (q.elim (fun ⟨h1, h2⟩ => .inl ⟨h1, fun z => (hs _ z).elim h2 fun e => rd_some h1 (e ▸ hp)⟩) .inr) (Reps.free hp hs r)
  | dctK q r => exact .dctK q (Reps.free hp hs r)
  | dctT q r => exact .dctT q (Reps.free hp hs r)
  | exc => exact .exc
  | excN q n => exact .excN q (fun z => (hs _ z).elim n fun e => rd_some q (e ▸ hp))
  | excF q n k m r => exact .excF q (fun z => (hs _ z).elim n fun e => rd_some q (e ▸ hp)) k (fun z => (hs _ z).elim m fun e => rd_some k (e ▸ hp)) (Reps.free hp hs r)
theorem OwnRep.fr {p : Addr} {d : D} (r : OwnRep K H S p d) (f : FrR W H H') (hw : ∀ a, W a → S a) (he : ∀ u, H p = some u → H' p = some u) : OwnRep K H' S p d := by
  rcases r with ⟨vs, ds, rfl, q, r⟩ | ⟨kvs, vs, rfl, q, r⟩ | ⟨kvs, vs, rfl, q, r⟩
  · exact .inl ⟨vs, ds, rfl, he _ q, Reps.fr f hw r⟩
  · exact .inr (.inl ⟨kvs, vs, rfl, he _ q, Reps.fr f hw r⟩)
  · exact .inr (.inr ⟨kvs, vs, rfl, he _ q, Reps.fr f hw r⟩)
theorem OwnRep.mut {p : Addr} {d : D} (r : OwnRep K H S p d) : ∃ u, H p = some u ∧ Mut (some u) := by
  rcases r with ⟨vs, ds, rfl, q, r⟩ | ⟨kvs, vs, rfl, q, r⟩ | ⟨kvs, vs, rfl, q, r⟩
  · exact ⟨_, q, trivial⟩
  · exact ⟨_, q, trivial⟩
  · exact ⟨_, q, trivial⟩

theorem Good.at (g : Good K F O σ H e) {s : Slot} (h : e.get i = s) : SlotOk K F (Sx F.S0 O) (O i) (F.P i) (F.L i) H (σ.getD i none) s := h ▸ g.slot i
theorem Good.own (g : Good K F O σ H e) {p : Addr} (h : O i = some p) : ∃ par d, e.get i = .own par d ∧ σ.getD i none = some (.ref p) ∧ OwnRep K H (Sx F.S0 O) p d := by
  have q := g.slot i
  cases c : e.get i with
  | no => rw [c] at q; rw [show O i = none from q] at h; cases h
  | val d => rw [c] at q; rw [q.1] at h; cases h
  | lck d => rw [c] at q; rw [q.1] at h; cases h
  | lkd par d => rw [c] at q; rw [q.1] at h; cases h
  | own par d =>
    rw [c] at q
    obtain ⟨p', e1, e2, r, _⟩ := q
    rw [h] at e1; cases e1
    exact ⟨par, d, rfl, e2, r⟩
theorem Good.dom (g : Good K F O σ H e) {p : Addr} (h : Sx F.S0 O p) : H p ≠ none := by
  rcases h with h | ⟨i, h⟩
  · exact g.s0 _ h
  · obtain ⟨_, _, _, _, r⟩ := g.own h
    obtain ⟨u, q, _⟩ := r.mut
    rw [q]; simp
/-- only new places, and places outside everything held here, are written -/
theorem Good.fr (g : Good K F O σ H e) (f : Fr W H H') (h : ∀ a, W a → ¬ Sx F.S0 O a) (h2 : ∀ a, W a → H a = none) : Good K F O σ H' e := by
  refine ⟨g.len, fun a z => f.dom a (g.s0 a z), fun a z => f.dom a (g.d0 a z), g.inj, g.lo, g.ls, g.ps, g.ln, fun i => ?_⟩
  have hf : FrR (fun _ => False) H H' := ⟨fun a u r _ => f.rd.1 a u r fun z => rd_some r (h2 a z), fun a xs q _ => f.eq a _ q fun z => by rw [h2 a z] at q; cases q⟩
  have q := g.slot i
  cases c : e.get i with
  | no => rw [c] at q; exact q
  | val d =>
    rw [c] at q
    obtain ⟨q1, v, q2, q3⟩ := q
    exact ⟨q1, v, q2, Rep.fr hf (fun _ z => z.elim) q3⟩
  | own par d =>
    rw [c] at q
    obtain ⟨p, q1, q2, q3, q4⟩ := q
    exact ⟨p, q1, q2, q3.fr hf (fun _ z => z.elim) (fun u e => f.eq _ _ e fun z => h _ z (.inr ⟨i, q1⟩)), q4⟩
  | lck d =>
    rw [c] at q
    obtain ⟨q1, v, q2, q3⟩ := q
    refine ⟨q1, v, q2, q3.elim (fun z => .inl (Rep.fr hf (fun _ z => z.elim) z)) fun ⟨p, z1, z2, z3, z4⟩ => .inr ⟨p, z1, z2, z3, z4.fr hf (fun _ z => z.elim) (fun _ _ z => z.elim)⟩⟩
  | lkd par d =>
    rw [c] at q
    obtain ⟨q1, p, q2, q3, q4, q5, q6⟩ := q
    exact ⟨q1, p, q2, q3, q4, q5.fr hf (fun _ z => z.elim) (fun z => z.elim), q6⟩
theorem Good.new (g : Good K F O σ H e) {p : Addr} {o : HO} (h : H p = none) : Good K F O σ (upd H p o) e :=
  g.fr (W := fun _ => False) (Fr.new h) (fun _ z => z.elim) (fun _ z => z.elim)
theorem Good.same (g : Good K F O σ H e) (h : Same H H') : Good K F O σ H' e :=
  g.fr (W := fun _ => False) (Fr.same h) (fun _ z => z.elim) (fun _ z => z.elim)
end

/-! ### what is wanted behind an expression -/
/-- how an exception lies: its class by name, no fields of its own -/
def XRep (mg : Str → Option Value) (cls : Value) (dx : Option Addr) (x : D) : Prop :=
  ∃ (nm : Str) (C : Addr), x = .str nm ∧ mg nm = some (.ref C) ∧ cls = .ref C ∧ dx = none

def Pst (K : PySem.W.Frag) (mg : Str → Option Value) (Wx : WX) (F : Fx) (O : Own) (σ : L2.St) (H : Hp) {β α : Type} (R : Hp → (Addr → Prop) → β → α → Prop) (Q : β → Hp → Prop) : Out α → Prop
  | .ok d e' => ∀ v H' O', Sub O' O → Fr (Oset O) H H' → Good K F O' σ H' e' → R H' (Sx F.S0 O') v d → Q v H'
  | .exc x e' => ∀ cls dx H' O', Sub O' O → Fr (Oset O) H H' → Good K F O' σ H' e' → XRep mg cls dx x → Wx cls dx σ H'
  | .bad => False

section
variable {K : PySem.W.Frag} {mg : Str → Option Value} {Wx : WX} {F : Fx} {O O1 : Own} {σ : L2.St} {H H1 : Hp} {α β γ δ : Type}
/-- from a later place the same is wanted -/
theorem Pst.step {R : Hp → (Addr → Prop) → β → α → Prop} {Q : β → Hp → Prop} {o : Out α} (h : Pst K mg Wx F O σ H R Q o) (s : Sub O1 O) (f : Fr (Oset O) H H1) : Pst K mg Wx F O1 σ H1 R Q o := by
  cases o with
  | ok d e' => exact fun v H' O' s' f' g r => h v H' O' (s'.trans s) (f.trans (f'.mono fun _ z => s.set z)) g r
  | exc x e' => exact fun cls dx H' O' s' f' g r => h cls dx H' O' (s'.trans s) (f.trans (f'.mono fun _ z => s.set z)) g r
  | bad => exact h
/-- what is wanted of a part, from what is wanted of the whole -/
theorem Pst.bind {R : Hp → (Addr → Prop) → β → α → Prop} {R1 : Hp → (Addr → Prop) → δ → γ → Prop} {Q : β → Hp → Prop} {Q1 : δ → Hp → Prop} {o : Out γ} {f : γ → Env → Out α}
    (h : Pst K mg Wx F O σ H R Q (o.bind f))
    (k : ∀ d e1 v H1 O1, Sub O1 O → Fr (Oset O) H H1 → Good K F O1 σ H1 e1 → R1 H1 (Sx F.S0 O1) v d → Pst K mg Wx F O1 σ H1 R Q (f d e1) → Q1 v H1) : Pst K mg Wx F O σ H R1 Q1 o := by
  cases o with
  | ok d e' => exact fun v H' O' s' f' g r => k d e' v H' O' s' f' g r (Pst.step h s' f')
  | exc x e' => exact h
  | bad => exact h
theorem Pst.ok {R : Hp → (Addr → Prop) → β → α → Prop} {Q : β → Hp → Prop} {d : α} {e : Env} {v : β} (h : Pst K mg Wx F O σ H R Q (.ok d e)) (g : Good K F O σ H e) (r : R H (Sx F.S0 O) v d) : Q v H :=
  h v H O .refl .refl g r
theorem Pst.okN {R : Hp → (Addr → Prop) → β → α → Prop} {Q : β → Hp → Prop} {d : α} {e : Env} {v : β} {H' : Hp} (h : Pst K mg Wx F O σ H R Q (.ok d e)) (g : Good K F O σ H e) (s : Same H H') (r : R H' (Sx F.S0 O) v d) : Q v H' :=
  h v H' O .refl (Fr.same s) (g.same s) r
end

/-! ### the judgements -/
def TE.of (X : Cx) (e : Expr) : TE := fun σ H Q => ∀ pins s, Inv X pins σ H s → wpAny (model X.prog X.w) X.A (eval e X.env) (EP X pins σ Q) X.xe s
theorem pe_of {X : Cx} {e : Expr} : PE X e (TE.of X e) := ⟨fun pins s _ _ _ I h => h pins s I⟩
theorem TE.by {X : Cx} {e : Expr} {t : TE} (h : PE X e t) {σ : L2.St} {H : Hp} {Q : VK} (q : t σ H Q) : TE.of X e σ H Q := fun pins s I => h.run pins s σ H Q I q
def TT.of (X : Cx) (e : Expr) : TT := fun σ H Q => ∀ pins s, Inv X pins σ H s → wpAny (model X.prog X.w) X.A (isTrue e X.env (eval e X.env)) (TP X pins σ Q) X.xe s
theorem pt_of {X : Cx} {e : Expr} : PT X e (TT.of X e) := ⟨fun pins s _ _ _ I h => h pins s I⟩
theorem TT.by {X : Cx} {e : Expr} {t : TT} (h : PT X e t) {σ : L2.St} {H : Hp} {Q : Bool → Hp → Prop} (q : t σ H Q) : TT.of X e σ H Q := fun pins s I => h.run pins s σ H Q I q
def TA.of (X : Cx) (es : List Expr) : TA := fun σ H Q => ∀ (pos : Pos) pins s, Inv X pins σ H s → wpAny (model X.prog X.w) X.A (spliced (backTo pos (starEach es X.env))) (AP X pins σ Q) X.xe s
theorem pa_of {X : Cx} {es : List Expr} : PA X es (TA.of X es) := ⟨fun pos pins s _ _ _ I h => h pos pins s I⟩
theorem TA.by {X : Cx} {es : List Expr} {t : TA} (h : PA X es t) {σ : L2.St} {H : Hp} {Q : List V → Hp → Prop} (q : t σ H Q) : TA.of X es σ H Q := fun pos pins s I => h.run pos pins s σ H Q I q

/-- an operand's value -/
def RepO (K : PySem.W.Frag) (σ : L2.St) (H : Hp) (S : Addr → Prop) (v : V) : Opd → Prop
  | .v d => Rep K H S v d
  | .s i => σ[i]? = some (some v)
def ReposO (K : PySem.W.Frag) (σ : L2.St) (H : Hp) (S : Addr → Prop) : List V → List Opd → Prop
  | [], [] => True
  | v :: vs, o :: os => RepO K σ H S v o ∧ ReposO K σ H S vs os
  | _, _ => False
theorem getD_of {σ : L2.St} {i : Nat} {v : V} (h : σ[i]? = some (some v)) : σ.getD i none = some v := by
  rw [List.getD_eq_getElem?_getD, h]; rfl
theorem of_getD {σ : L2.St} {i : Nat} {v : V} (h : σ.getD i none = some v) : σ[i]? = some (some v) := by
  rw [List.getD_eq_getElem?_getD] at h
  cases q : σ[i]? with
  | none => rw [q] at h; cases h
  | some o => rw [q] at h; simp at h; rw [h]
section
variable {K : PySem.W.Frag} {F : Fx} {S S' W : Addr → Prop} {O : Own} {σ : L2.St} {H H' : Hp} {e : Env}
theorem Good.deref (g : Good K F O σ H e) {o : Opd} {v : V} {d : D} (r : RepO K σ H (Sx F.S0 O) v o) (h : deref o e = some d) : RepB K H (Sx F.S0 O) v d := by
  cases o with
  | v d' => cases h; exact Rep.b r
  | s i =>
    have hv := getD_of (show σ[i]? = some (some v) from r)
    have q := g.slot i
    rw [hv] at q
    cases c : e.get i with
    | no => rw [Rp.deref, c] at h; cases h
    | val d' =>
      rw [Rp.deref, c] at h; cases h; rw [c] at q
      obtain ⟨_, w, e1, r⟩ := q
      cases e1; exact r.b
    | own par d' =>
      rw [Rp.deref, c] at h; cases h; rw [c] at q
      obtain ⟨p, _, e1, r', _⟩ := q
      cases e1; exact r'.b
    | lck d' =>
      rw [Rp.deref, c] at h; cases h; rw [c] at q
      obtain ⟨_, w, e1, r⟩ := q
      cases e1
      rcases r with r | ⟨p, rfl, _, _, r⟩
      · exact r.b
      · exact r
    | lkd par d' =>
      rw [Rp.deref, c] at h; cases h; rw [c] at q
      obtain ⟨_, p, e1, _, _, r', _⟩ := q
      cases e1; exact r'.b
theorem RepO.fr {o : Opd} {v : V} (r : RepO K σ H S v o) (f : FrR W H H') (hw : ∀ a, W a → S a) : RepO K σ H' S v o := by
  cases o with
  | v d => exact Rep.fr f hw r
  | s i => exact r
theorem RepO.mono {o : Opd} {v : V} (r : RepO K σ H S v o) (h : ∀ a, S' a → S a) : RepO K σ H S' v o := by
  cases o with
  | v d => exact Rep.mono h r
  | s i => exact r
theorem ReposO.fr (f : FrR W H H') (hw : ∀ a, W a → S a) : ∀ {vs : List V} {os : List Opd}, ReposO K σ H S vs os → ReposO K σ H' S vs os
  | [], [], _ => trivial
  | _ :: _, _ :: _, h => ⟨h.1.fr f hw, ReposO.fr f hw h.2⟩
theorem ReposO.mono (h : ∀ a, S' a → S a) : ∀ {vs : List V} {os : List Opd}, ReposO K σ H S vs os → ReposO K σ H S' vs os
  | [], [], _ => trivial
  | _ :: _, _ :: _, r => ⟨r.1.mono h, ReposO.mono h r.2⟩
end

def SE (X : Cx) (e : Expr) (f : Env → Out D) : Prop :=
  ∀ Wx, Takes X Wx → ∀ F O σ H env, Good X.K F O σ H env → ∀ Q : VK, Pst X.K X.mg Wx F O σ H (Rep X.K) Q (f env) → TE.of X e σ H Q
def SO (X : Cx) (e : Expr) (f : Env → Out Opd) : Prop :=
  ∀ Wx, Takes X Wx → ∀ F O σ H env, Good X.K F O σ H env → ∀ Q : VK, Pst X.K X.mg Wx F O σ H (RepO X.K σ) Q (f env) → TE.of X e σ H Q
def SA (X : Cx) (es : List Expr) (f : Env → Out (List Opd)) : Prop :=
  ∀ Wx, Takes X Wx → ∀ F O σ H env, Good X.K F O σ H env → ∀ Q : List V → Hp → Prop, Pst X.K X.mg Wx F O σ H (ReposO X.K σ) Q (f env) → TA.of X es σ H Q
def ST (X : Cx) (e : Expr) (f : Env → Out Bool) : Prop :=
  ∀ Wx, Takes X Wx → ∀ F O σ H env, Good X.K F O σ H env → ∀ Q : Bool → Hp → Prop, Pst X.K X.mg Wx F O σ H (fun _ _ b c => b = c) Q (f env) → TT.of X e σ H Q

/-! ### operands -/
def asV (f : Env → Out D) : Env → Out Opd := fun env => (f env).bind fun d e => .ok (.v d) e
theorem SE.opd {X : Cx} {e : Expr} {f : Env → Out D} (h : SE X e f) : SO X e (asV f) := by
  intro Wx tk F O σ H env g Q p
  refine h Wx tk F O σ H env g Q (Pst.bind p fun d e1 v H1 O1 s f g1 r p1 => ?_)
  exact p1.ok g1 r
theorem so_bor {X : Cx} {i : Nat} {x : Str} {pos : Pos} (hN : X.N[i]? = some x) (hv : Vis X.env.scope x) (hd : (x == ("__debug__" : Str)) = false) (hcd : (x == ("__classdict__" : Str)) = false) :
    SO X (.Name x pos) (fun env => (Out.of ((env.get i).look) env).bind fun _ e => .ok (.s i) e) := by
  intro Wx tk F O σ H env g Q p
  refine TE.by (pe_var hN hv hd hcd) ?_
  have q := g.slot i
  have key : ∀ v, σ.getD i none = some v → ∃ w, σ[i]? = some (some w) ∧ Pst X.K X.mg Wx F O σ H (RepO X.K σ) Q (.ok (.s i) env) → ∃ w, σ[i]? = some (some w) ∧ Q w H := by
    intro v hv
    refine ⟨v, fun ⟨e1, p⟩ => ⟨v, e1, p.ok g e1⟩⟩
  cases c : env.get i with
  | no => simp only [c] at p; exact p.elim
  | val d =>
    simp only [c] at p; rw [c] at q
    obtain ⟨_, v, e1, _⟩ := q
    exact ⟨v, of_getD e1, p.ok g (show σ[i]? = some (some v) from of_getD e1)⟩
  | own par d =>
    simp only [c] at p; rw [c] at q
    obtain ⟨v, _, e1, _⟩ := q
    exact ⟨.ref v, of_getD e1, p.ok g (show σ[i]? = some (some (.ref v)) from of_getD e1)⟩
  | lck d =>
    simp only [c] at p; rw [c] at q
    obtain ⟨_, v, e1, _⟩ := q
    exact ⟨v, of_getD e1, p.ok g (show σ[i]? = some (some v) from of_getD e1)⟩
  | lkd par d =>
    simp only [c] at p; rw [c] at q
    obtain ⟨_, v, e1, _⟩ := q
    exact ⟨.ref v, of_getD e1, p.ok g (show σ[i]? = some (some (.ref v)) from of_getD e1)⟩

/-! ### two operands, an operation by values -/
/-- what a two-place operation gives, by data: new objects at most -/
def OpS (X : Cx) (f : Value → Value → Sem Value) (g : D → D → Option D) : Prop :=
  ∀ S x y H d1 d2 d, RepB X.K H S x d1 → RepB X.K H S y d2 → g d1 d2 = some d →
    ∃ r, OpR X f r ∧ ∀ Q : VK, (∀ v H', Same H H' → ((∀ a, S a → H a ≠ none) → Rep X.K H' S v d) → Q v H') → r x y H Q
def bin2 (g : D → D → Option D) (fa fb : Env → Out Opd) : Env → Out D := fun env =>
  (fa env).bind fun a e1 => (fb e1).bind fun b e2 => Out.of (do let x ← deref a e2; let y ← deref b e2; g x y) e2
theorem SO.two {X : Cx} {a b : Expr} {fa fb : Env → Out Opd} {g : D → D → Option D} (ha : SO X a fa) (hb : SO X b fb) {Wx : WX} (tk : Takes X Wx) {F : Fx} {O : Own} {σ : L2.St} {H : Hp} {env : Env} (gd : Good X.K F O σ H env) {Q : VK}
    (p : Pst X.K X.mg Wx F O σ H (Rep X.K) Q (bin2 g fa fb env)) {M : V → V → Hp → Prop}
    (k : ∀ x y H2 O2 e2 d1 d2 d, Good X.K F O2 σ H2 e2 → RepB X.K H2 (Sx F.S0 O2) x d1 → RepB X.K H2 (Sx F.S0 O2) y d2 → g d1 d2 = some d → (∀ v H', Same H2 H' → Rep X.K H' (Sx F.S0 O2) v d → Q v H') → M x y H2) :
    TE.of X a σ H fun x H1 => TE.of X b σ H1 fun y H2 => M x y H2 := by
  refine ha Wx tk F O σ H env gd _ (Pst.bind p fun o1 e1 x H1 O1 s1 f1 g1 r1 p1 => ?_)
  refine hb Wx tk F O1 σ H1 e1 g1 _ (Pst.bind p1 fun o2 e2 y H2 O2 s2 f2 g2 r2 p2 => ?_)
  cases q1 : deref o1 e2 with
  | none => simp only [q1] at p2; exact p2.elim
  | some d1 =>
    cases q2 : deref o2 e2 with
    | none => simp only [q1, q2] at p2; exact p2.elim
    | some d2 =>
      have p2' : Pst X.K X.mg Wx F O2 σ H2 (Rep X.K) Q (Out.of (g d1 d2) e2) := by
        simp only [q1, q2] at p2; exact p2
      cases q3 : g d1 d2 with
      | none => rw [q3] at p2'; exact p2'.elim
      | some d =>
        rw [q3] at p2'
        have r1' := (r1.fr f2.rd fun _ z => .inr z).mono (S' := Sx F.S0 O2) fun _ z => s2.sx z
        exact k x y H2 O2 e2 d1 d2 d g2 (g2.deref r1' q1) (g2.deref r2 q2) q3 fun v H' sm r => Pst.okN p2' g2 sm r
theorem se_op {X : Cx} {a b : Expr} {fa fb : Env → Out Opd} {op : Operator} {pos : Pos} {g : D → D → Option D} (ho : OpS X (binaryOp op) g) (ha : SO X a fa) (hb : SO X b fb) : SE X (.BinOp a op b pos) (bin2 g fa fb) := by
  intro Wx tk F O σ H env gd Q p
  have key : TE.of X a σ H fun x H1 => TE.of X b σ H1 fun y H2 => ∃ r, OpR X (binaryOp op) r ∧ r x y H2 Q := by
    refine SO.two ha hb tk gd p fun x y H2 O2 e2 d1 d2 d g2 r1 r2 e k => ?_
    obtain ⟨r, h1, h2⟩ := ho _ x y H2 d1 d2 d r1 r2 e
    exact ⟨r, h1, h2 Q fun v H' sm rep => k v H' sm (rep fun a z => g2.dom z)⟩
  refine TE.by (pe_op (r := fun x y H Q => ∃ r, OpR X (binaryOp op) r ∧ r x y H Q) ?_ pe_of pe_of) key
  intro pins s σ H x y v u Q I r1 r2 ⟨r, h1, h2⟩
  exact h1 pins s σ H x y v u Q I r1 r2 h2
end Rp
set_option Elab.async false
set_option linter.all false
set_option maxRecDepth 100000
/-! RpD: operations by values. -/
namespace Rp
open PySem PySem.Spec PyProof.Rows L2

/-! ### arithmetic by data -/
def mulOk (i j : Int) : Bool := (decide (-(2 ^ 64) < i) && decide (i < 2 ^ 64)) || (decide (-(2 ^ 64) < j) && decide (j < 2 ^ 64))
def powOk (i j : Int) : Bool := decide (0 ≤ j) && decide ((((Builtin.Int.intBits i : Nat) : Int) * j) ≤ 1000000)
def lenOk (n : Nat) : Bool := decide (n ≤ sizeLine)
def D.add : D → D → Option D
  | .int i, .int j => some (.int (i + j))
  | .str x, .str y => if lenOk (x.length + y.length) then some (.str (x ++ y)) else none
  | .lst xs, .lst ys => if lenOk (xs.length + ys.length) then some (.lst (xs ++ ys)) else none
  | .tup xs, .tup ys => if lenOk (xs.length + ys.length) then some (.tup (xs ++ ys)) else none
  | _, _ => none
def D.sub : D → D → Option D
  | .int i, .int j => some (.int (i - j))
  | _, _ => none
def repOk (n : Nat) (k : Int) : Bool := decide (0 ≤ k) && decide (k ≤ 1000000) && decide (n * k.toNat ≤ sizeLine)
/-- a text, n times -/
def repS (x : Str) (n : Nat) : Str := ⟨((List.replicate n x.cps.toList).flatten).toArray⟩
theorem fold_rep (x : Str) : ∀ (n : Nat) (a : Array Nat), ((List.replicate n x.cps).foldl (· ++ ·) a).toList = a.toList ++ (List.replicate n x.cps.toList).flatten
  | 0, a => by simp
  | n + 1, a => by rw [List.replicate_succ, List.foldl_cons, fold_rep x n, List.replicate_succ, List.flatten_cons]; simp
theorem repS_fold (x : Str) (n : Nat) : (⟨(List.replicate n x.cps).foldl (· ++ ·) #[]⟩ : Str) = repS x n := by
  have h := fold_rep x n #[]
  unfold repS
  congr 1
  apply Array.toList_inj.mp
  simpa using h
theorem op_repS {X : Cx} : OpR X (binaryOp .Mult) (fun x y H Q => ∃ (a : Str) (k : Int), x = .str a ∧ y = .int k ∧ 1 ≤ k ∧ k ≤ 1000000 ∧ a.length * k.toNat ≤ 16777216 ∧ Q (.str (repS a k.toNat)) H) := by
  intro pins s σ H x y v u Q I r1 r2 ⟨a, k, e1, e2, h1, h2, h3, q⟩
  subst e1; subst e2
  obtain ⟨t, rfl⟩ := r1; obtain ⟨t', rfl⟩ := r2
  have p63 : (2 : Int) ^ 63 = 9223372036854775808 := by decide +kernel
  have al : a.length ≤ 16777216 := Nat.le_trans (Nat.le_mul_of_pos_right _ (by omega)) h3
  refine PySem.P.mul_str (by rw [p63]; simp; omega) (fun _ _ => ?_) (fun _ _ => ?_) ?_
  · have : (9223372036854775808 - 1) / k ≥ 16777216 := (Int.le_ediv_iff_mul_le (by omega)).mpr (by omega)
    rw [p63]; omega
  · unfold PySem.Builtin.Str.tooLong; rw [decide_eq_false_iff_not, sizeLine_eq]; omega
  rw [if_neg (by omega)]
  by_cases hk : (k == 1 || a.length == 0) = true
  · rw [if_pos hk]
    have e : repS a k.toNat = a := by
      rw [Bool.or_eq_true] at hk
      rcases hk with hk | hk
      · have : k = 1 := by simpa using hk
        subst this; unfold repS; simp
      · have : a.cps.toList = [] := by
          have z : a.length = 0 := by simpa using hk
          have : a.cps.toList.length = 0 := by simpa [Str.length] using z
          exact List.length_eq_zero_iff.mp this
        unfold repS; rw [this]
        obtain ⟨c⟩ := a
        simp at this
        subst this
        simp
    exact ⟨.str a, H, I, ⟨t, rfl⟩, e ▸ q⟩
  · rw [if_neg hk, repS_fold]
    refine ⟨?_, .str _, H, I.tok _, ⟨_, rfl⟩, q⟩
    have : (repS a k.toNat).length = k.toNat * a.length := by unfold repS; simp [Str.length]
    show (repS a k.toNat).length ≤ sizeLine
    rw [this, Nat.mul_comm, sizeLine_eq]; exact h3
def D.mul : D → D → Option D
  | .int i, .int j => if mulOk i j then some (.int (i * j)) else none
  | .str x, .int k => if decide (1 ≤ k) && decide (k ≤ 1000000) && decide (x.length * k.toNat ≤ 16777216) then some (.str (repS x k.toNat)) else none
  | .lst xs, .int k => if repOk xs.length k then some (.lst (List.replicate k.toNat xs).flatten) else none
  | .tup xs, .int k => if decide (xs ≠ []) && decide (2 ≤ k) && decide (k ≤ 1000) && decide (xs.length ≤ 1000) then some (.tup (List.replicate k.toNat xs).flatten) else none
  | _, _ => none
def D.fdiv : D → D → Option D
  | .int i, .int j => if decide (0 < j) && decide (j.natAbs.log2 < 9000) then some (.int (i / j)) else none
  | _, _ => none
def D.mod : D → D → Option D
  | .int i, .int j => if decide (0 < j) then some (.int (i % j)) else none
  | _, _ => none
def D.pow : D → D → Option D
  | .int i, .int j => if powOk i j then some (.int (i ^ j.toNat)) else none
  | _, _ => none

/-- a new list -/
structure FreshR (K : PySem.W.Frag) (S : Addr → Prop) (H H' : Hp) (v : V) (d : D) : Prop where
  ex : ∃ p vs ds, v = .ref p ∧ d = .lst ds ∧ H p = none ∧ H' p = some (.lst vs) ∧ Reps K H' (fun a => S a ∨ a = p) vs ds
section
variable {K : PySem.W.Frag} {S : Addr → Prop} {H H' : Hp} {v : V} {d : D} {p : Addr} {vs : List V} {ds : List D}
theorem FreshR.rep (f : FreshR K S H H' v d) (h : ∀ a, S a → H a ≠ none) : Rep K H' S v d := by
  obtain ⟨p, vs, ds, rfl, rfl, e, e', r⟩ := f.ex
  exact .lst e' (fun z => h _ z e) (Reps.mono (fun _ z => .inl z) r)
theorem FreshR.mk' (h : H p = none) (r : Reps K H S vs ds) : FreshR K S H (upd H p (.lst vs)) (.ref p) (.lst ds) :=
  ⟨p, vs, ds, rfl, rfl, h, upd_same, Reps.fr (W := fun _ => False) (Fr.new h).rd (fun _ z => z.elim) (Reps.free h (fun _ z => z) r)⟩
theorem FreshR.mono {H0 : Hp} (f : FreshR K S H H' v d) (h : ∀ a, H a = none → H0 a = none) : FreshR K S H0 H' v d := by
  obtain ⟨p, vs, ds, e1, e2, e, e', r⟩ := f.ex
  exact ⟨p, vs, ds, e1, e2, h _ e, e', r⟩
theorem tup_new (h : H p = none) (hs : ∀ a, S a → H a ≠ none) (r : Reps K H S vs ds) : Rep K (upd H p (.tup vs)) S (.ref p) (.tup ds) :=
  .tup (.inl ⟨.inl upd_same, fun z => hs _ z h⟩) (Reps.fr (W := fun _ => False) (Fr.new h).rd (fun _ z => z.elim) r)
theorem same_new {o : HO} (h : H p = none) : Same H (upd H p o) := fun b x e => by
  rw [upd_ne (ne_of_none e h)]
  exact e
end

/-- .. and its list is new, where it is a list -/
def OpF (X : Cx) (f : Value → Value → Sem Value) (g : D → D → Option D) : Prop :=
  ∀ S x y H d1 d2 d, RepB X.K H S x d1 → RepB X.K H S y d2 → g d1 d2 = some d → (∃ ds, d = .lst ds) →
    ∃ r, OpR X f r ∧ ∀ Q : VK, (∀ v H', Same H H' → FreshR X.K S H H' v d → Q v H') → r x y H Q
section
variable {X : Cx}
theorem opS_int {f : Value → Value → Sem Value} {C : Int → Int → Prop} {h : Int → Int → V} {g : D → D → Option D} (ho : OpR X f (rI C h))
    (hg : ∀ d1 d2 d, g d1 d2 = some d → ∃ i j, d1 = .int i ∧ d2 = .int j ∧ C i j ∧ ((∃ k, h i j = .int k ∧ d = .int k) ∨ ∃ k, h i j = .bl k ∧ d = .bl k)) : OpS X f g := by
  intro S x y H d1 d2 d r1 r2 e
  obtain ⟨i, j, rfl, rfl, c, q⟩ := hg d1 d2 d e
  cases r1; cases r2
  refine ⟨_, ho, fun Q k => ⟨i, j, rfl, rfl, c, ?_⟩⟩
  rcases q with ⟨n, e1, rfl⟩ | ⟨n, e1, rfl⟩
  · rw [e1]; exact k _ _ (fun _ _ h => h) fun _ => .int n
  · rw [e1]; exact k _ _ (fun _ _ h => h) fun _ => .bl n
theorem opr_rI0 {f : Value → Value → Sem Value} {h : Int → Int → V} (ho : OpR X f (rI0 h)) : OpR X f (rI (fun _ _ => True) h) := by
  intro pins s σ H x y v u Q I r1 r2 ⟨i, j, e1, e2, _, q⟩
  exact ho pins s σ H x y v u Q I r1 r2 ⟨i, j, e1, e2, q⟩
theorem s_sub : OpS X (binaryOp .Sub) D.sub := by
  refine opS_int (opr_rI0 op_sub) fun d1 d2 d e => ?_
  cases d1 <;> cases d2 <;> simp only [D.sub] at e <;> first | (cases e; done) | skip
  injection e with e; subst e
  exact ⟨_, _, rfl, rfl, trivial, .inl ⟨_, rfl, rfl⟩⟩
theorem s_fdiv : OpS X (binaryOp .FloorDiv) D.fdiv := by
  refine opS_int op_fdivW fun d1 d2 d e => ?_
  cases d1 <;> cases d2 <;> simp only [D.fdiv] at e <;> first | (cases e; done) | skip
  split at e
  · rename_i h
    injection e with e; subst e
    rw [Bool.and_eq_true, decide_eq_true_eq, decide_eq_true_eq] at h
    exact ⟨_, _, rfl, rfl, h, .inl ⟨_, rfl, rfl⟩⟩
  · cases e
theorem s_mod : OpS X (binaryOp .Mod) D.mod := by
  refine opS_int op_mod fun d1 d2 d e => ?_
  cases d1 <;> cases d2 <;> simp only [D.mod] at e <;> first | (cases e; done) | skip
  split at e
  · rename_i h
    injection e with e; subst e
    exact ⟨_, _, rfl, rfl, of_decide_eq_true h, .inl ⟨_, rfl, rfl⟩⟩
  · cases e
/-- a power of any base, by its size -/
theorem op_powW : OpR X (binaryOp .Pow) (rI (fun i j => powOk i j = true) fun i j => .int (i ^ j.toNat)) := by
  refine opI fun i j t u s Q E hc q => ?_
  have h := hc
  simp only [powOk, Bool.and_eq_true, decide_eq_true_eq] at h
  obtain ⟨h0, h1⟩ := h
  by_cases hj : j = 0
  · subst hj
    refine AutoIntOps.pow_0 (by omega) rfl ?_
    show Q (.int 1 s.toks) _
    have e : i ^ (0 : Int).toNat = 1 := by simp
    rw [e] at q; exact q
  by_cases h01 : (i == 0 || i == 1) = true
  · refine AutoIntOps.pow_1 (by omega) (by simpa using hj) h01 ?_
    show Q (.int i s.toks) _
    have e : i ^ j.toNat = i := by
      have hn : j.toNat ≠ 0 := by omega
      rcases (Bool.or_eq_true _ _).mp h01 with z | z
      · have : i = 0 := by simpa using z
        subst this; exact Int.zero_pow hn
      · have : i = 1 := by simpa using z
        subst this; exact Int.one_pow
    rw [e] at q; exact q
  by_cases hm : (i == -1) = true
  · refine AutoIntOps.pow_2 (by omega) (by simpa using hj) h01 hm ?_
    show Q (.int _ s.toks) _
    have hi : i = -1 := by simpa using hm
    subst hi
    have e : (-1 : Int) ^ j.toNat = if (j % 2 == 0) = true then 1 else -1 := by
      have key : ∀ n : Nat, (-1 : Int) ^ n = if n % 2 = 0 then 1 else -1 := by
        intro n
        induction n with
        | zero => rfl
        | succ n ih =>
          rw [Int.pow_succ, ih]
          by_cases hn : n % 2 = 0
          · rw [if_pos hn, if_neg (by omega)]; rfl
          · rw [if_neg hn, if_pos (by omega)]; rfl
      rw [key]
      by_cases hn : j.toNat % 2 = 0
      · rw [if_pos hn, if_pos (by simp; omega)]
      · rw [if_neg hn, if_neg (by simp; omega)]
    rw [e] at q; exact q
  · refine AutoIntOps.pow_4 (by omega) (by simpa using hj) h01 hm ?_ q
    unfold Builtin.Int.intTooBig
    have e : (bitsLine : Nat) = 134217728 := by decide
    rw [e]
    intro z
    have z2 := of_decide_eq_true z
    omega
theorem s_pow : OpS X (binaryOp .Pow) D.pow := by
  refine opS_int op_powW fun d1 d2 d e => ?_
  cases d1 <;> cases d2 <;> simp only [D.pow] at e <;> first | (cases e; done) | skip
  split at e
  · rename_i h
    injection e with e; subst e
    exact ⟨_, _, rfl, rfl, h, .inl ⟨_, rfl, rfl⟩⟩
  · cases e
theorem f_add : OpF X (binaryOp .Add) D.add := by
  intro S x y H d1 d2 d r1 r2 e hl
  cases d1 <;> cases d2 <;> simp only [D.add] at e <;> first | (cases e; done) | skip
  · injection e with e; subst e; obtain ⟨_, h⟩ := hl; cases h
  · split at e
    · injection e with e; subst e; obtain ⟨_, h⟩ := hl; cases h
    · cases e
  · split at e
    · rename_i h
      injection e with e; subst e
      cases r1 with
      | lst h1 q1 =>
        cases r2 with
        | lst h2 q2 =>
          refine ⟨_, op_cat, fun Q k => ⟨_, _, _, _, rfl, rfl, h1, h2, ?_, fun p hp => k _ _ (same_new hp) (.mk' hp (q1.append q2))⟩⟩
          rw [q1.length, q2.length]; exact of_decide_eq_true h
    · cases e
  · split at e
    · injection e with e; subst e; obtain ⟨_, h⟩ := hl; cases h
    · cases e
theorem s_add : OpS X (binaryOp .Add) D.add := by
  intro S x y H d1 d2 d r1 r2 e
  have hF := @f_add X S x y H d1 d2 d r1 r2 e
  cases d1 <;> cases d2 <;> simp only [D.add] at e <;> first | (cases e; done) | skip
  · injection e with e; subst e
    cases r1; cases r2
    exact ⟨_, op_add, fun Q k => ⟨_, _, rfl, rfl, k _ _ (fun _ _ h => h) fun _ => .int _⟩⟩
  · split at e
    · rename_i h
      injection e with e; subst e
      cases r1; cases r2
      exact ⟨_, op_add_str, fun Q k => ⟨_, _, rfl, rfl, of_decide_eq_true h, k _ _ (fun _ _ h => h) fun _ => .str _⟩⟩
    · cases e
  · split at e
    · injection e with e; subst e
      obtain ⟨r, h1, h2⟩ := hF ⟨_, rfl⟩
      exact ⟨r, h1, fun Q k => h2 Q fun v H' sm fr => k v H' sm fr.rep⟩
    · cases e
  · split at e
    · rename_i h
      injection e with e; subst e
      cases r1 with
      | tup h1 q1 =>
        cases r2 with
        | tup h2 q2 =>
          refine ⟨_, op_catA, fun Q k => ⟨_, _, _, _, rfl, rfl, sqT_of h1, sqT_of h2, ?_, fun z => ?_, fun _ z => ?_, fun _ _ p hp => k _ _ (same_new hp) fun hs => tup_new hp hs (q1.append q2)⟩⟩
          · rw [q1.length, q2.length]; exact of_decide_eq_true h
          · subst z; cases q1
            exact k _ _ (fun _ _ h => h) fun _ => .tup h2 q2
          · subst z; cases q2
            rw [List.append_nil] at k
            exact k _ _ (fun _ _ h => h) fun _ => .tup h1 q1
    · cases e
/-! ### times -/
theorem f_mul : OpF X (binaryOp .Mult) D.mul := by
  intro S x y H d1 d2 d r1 r2 e hl
  cases d1 <;> cases d2 <;> simp only [D.mul] at e <;> first | (cases e; done) | skip
  · split at e
    · injection e with e; subst e; obtain ⟨_, h⟩ := hl; cases h
    · cases e
  · split at e
    · injection e with e; subst e; obtain ⟨_, h⟩ := hl; cases h
    · cases e
  · split at e
    · rename_i h
      injection e with e; subst e
      simp only [repOk, Bool.and_eq_true, decide_eq_true_eq] at h
      cases r2
      cases r1 with
      | lst h1 q1 =>
        refine ⟨_, op_rep, fun Q k => ⟨_, _, _, rfl, rfl, h1, by omega, by omega, by rw [q1.length]; exact h.2, fun p hp => k _ _ (same_new hp) (.mk' hp ?_)⟩⟩
        have key : ∀ n : Nat, Reps X.K H S (List.replicate n _).flatten (List.replicate n _).flatten := fun n => by
          induction n with
          | zero => exact .nil
          | succ n ih => rw [List.replicate_succ, List.replicate_succ, List.flatten_cons, List.flatten_cons]; exact q1.append ih
        exact key _
    · cases e
  · split at e
    · injection e with e; subst e; obtain ⟨_, h⟩ := hl; cases h
    · cases e
theorem s_mul : OpS X (binaryOp .Mult) D.mul := by
  intro S x y H d1 d2 d r1 r2 e
  have hF := @f_mul X S x y H d1 d2 d r1 r2 e
  cases d1 <;> cases d2 <;> simp only [D.mul] at e <;> first | (cases e; done) | skip
  · split at e
    · rename_i h
      injection e with e; subst e
      cases r1; cases r2
      refine ⟨_, op_mul, fun Q k => ⟨_, _, rfl, rfl, ?_, k _ _ (fun _ _ h => h) fun _ => .int _⟩⟩
      show CMul _ _
      unfold CMul
      simp only [mulOk, Bool.or_eq_true, Bool.and_eq_true, decide_eq_true_eq] at h
      exact h
    · cases e
  · split at e
    · rename_i h
      injection e with e; subst e
      simp only [Bool.and_eq_true, decide_eq_true_eq] at h
      cases r1; cases r2
      exact ⟨_, op_repS, fun Q k => ⟨_, _, rfl, rfl, h.1.1, h.1.2, h.2, k _ _ (fun _ _ h => h) fun _ => .str _⟩⟩
    · cases e
  · split at e
    · injection e with e; subst e
      obtain ⟨r, h1, h2⟩ := hF ⟨_, rfl⟩
      exact ⟨r, h1, fun Q k => h2 Q fun v H' sm fr => k v H' sm fr.rep⟩
    · cases e
  · split at e
    · rename_i h
      injection e with e; subst e
      simp only [Bool.and_eq_true, decide_eq_true_eq] at h
      obtain ⟨⟨⟨g1, g2⟩, g3⟩, g4⟩ := h
      cases r2
      cases r1 with
      | tup h1 q1 =>
        refine ⟨_, op_repT, fun Q k => ⟨_, _, _, rfl, rfl, sqT_of h1, fun z => ?_, g2, g3, by rw [q1.length]; exact g4, fun p hp => k _ _ (same_new hp) fun hs => tup_new hp hs ?_⟩⟩
        · subst z; cases q1; exact g1 rfl
        · have key : ∀ n : Nat, Reps X.K H S (List.replicate n _).flatten (List.replicate n _).flatten := fun n => by
            induction n with
            | zero => exact .nil
            | succ n ih => rw [List.replicate_succ, List.replicate_succ, List.flatten_cons, List.flatten_cons]; exact q1.append ih
          exact key _
    · cases e
end
end Rp
set_option Elab.async false
set_option linter.all false
set_option maxRecDepth 100000
/-! RpE: comparisons, truth, subscripts, slices, by values. -/
namespace Rp
open PySem PySem.Spec PyProof.Rows L2

/-! ### data that == can compare -/
def D.shp (d : D) : Bool := SeqAt.shaped d.py
def D.eqq (a b : D) : Bool := PyData.eqv a.py b.py
section
variable {K : PySem.W.Frag} {H : Hp} {S : Addr → Prop}
mutual
theorem Rep.dp : ∀ {v : V} {d : D}, Rep K H S v d → d.py.canLay0 = true → Dp K H v d.py
  | _, _, .non, _ => .non
  | _, _, .bl b, _ => .bl b
  | _, _, .int i, _ => .int i
  | _, _, .str x, _ => .str x
  | _, _, .lst h n r, c => .lst (.inl (.inl h)) (Reps.dp r (by simpa [D.py, PyData.canLay0] using c))
  | _, _, .scr h r, c => by simp [D.py, PyData.canLay0] at c
  | _, _, .tup h r, c => .tup (sqT_of h) (Reps.dp r (by simpa [D.py, PyData.canLay0] using c))
  | _, _, .dctK h n r, c => by simp [D.py, PyData.canLay0] at c
  | _, _, .dctT h n r, c => by simp [D.py, PyData.canLay0] at c
  | _, _, .exc, c => by simp [D.py, PyData.canLay0] at c
  | _, _, .excN _ _, c => by simp [D.py, PyData.canLay0] at c
  | _, _, .excF _ _ _ _ _, c => by simp [D.py, PyData.canLay0] at c
theorem Reps.dp : ∀ {vs : List V} {ds : List D}, Reps K H S vs ds → PyData.canLayAll0 (D.pys ds) = true → DpAll K H vs (D.pys ds)
  | _, _, .nil, _ => .nil
  | _, _, .cons r t, c => by
    simp only [D.pys, PyData.canLayAll0, Bool.and_eq_true] at c
    exact .cons (Rep.dp r c.1) (Reps.dp t c.2)
end
theorem RepB.dp {v : V} {d : D} (r : RepB K H S v d) (c : d.py.canLay0 = true) : Dp K H v d.py := by
  cases r with
  | non => exact .non
  | bl b => exact .bl b
  | int i => exact .int i
  | str x => exact .str x
  | lst h r => exact .lst (.inl (.inl h)) (Reps.dp r (by simpa [D.py, PyData.canLay0] using c))
  | scr h r => simp [D.py, PyData.canLay0] at c
  | tup h r => exact .tup (sqT_of h) (Reps.dp r (by simpa [D.py, PyData.canLay0] using c))
  | dctK h r => simp [D.py, PyData.canLay0] at c
  | dctT h r => simp [D.py, PyData.canLay0] at c
  | exc => simp [D.py, PyData.canLay0] at c
  | excN _ _ => simp [D.py, PyData.canLay0] at c
  | excF _ _ _ _ _ => simp [D.py, PyData.canLay0] at c
end
def D.eqD (a b : D) : Option D := if a.shp && b.shp then some (.bl (a.eqq b)) else none
def D.neD (a b : D) : Option D := if a.shp && b.shp then some (.bl (!a.eqq b)) else match a, b with
  | .dct _ _, .str _ => some (.bl true)
  | _, _ => none
def D.ltD : D → D → Option D
  | .int i, .int j => some (.bl (decide (i < j)))
  | _, _ => none
def D.leD : D → D → Option D
  | .int i, .int j => some (.bl (decide (i ≤ j)))
  | _, _ => none
def D.gtD : D → D → Option D
  | .int i, .int j => some (.bl (decide (j < i)))
  | _, _ => none
def D.geD : D → D → Option D
  | .int i, .int j => some (.bl (decide (j ≤ i)))
  | _, _ => none
def D.isN : D → Bool
  | .non => true
  | _ => false
def D.isD : D → D → Option D
  | a, .non => some (.bl a.isN)
  | .bl a, .bl b => some (.bl (decide (a = b)))
  | _, _ => none
def D.isnD : D → D → Option D
  | a, .non => some (.bl (!a.isN))
  | .bl a, .bl b => some (.bl (!decide (a = b)))
  | _, _ => none
def D.flat : D → Bool
  | .non => true
  | .bl _ => true
  | .int _ => true
  | .str _ => true
  | _ => false
def D.inB (x : D) (ys : List D) : Bool := ys.any fun y => y.eqq x
def D.inD (x : D) : D → Option D
  | .lst ys => if x.flat && ys.all D.flat then some (.bl (x.inB ys)) else if x.shp && (D.lst ys).shp then some (.bl (x.inB ys)) else none
  | .tup ys => if x.flat && ys.all D.flat then some (.bl (x.inB ys)) else none
  | .str z => match x with
    | .str y => (match y.cps.toList with | [c] => some (.bl (decide (c ∈ z.cps.toList))) | _ => none)
    | _ => none
  | _ => none
def D.ninD (x : D) (c : D) : Option D := match x.inD c with
  | some (.bl b) => some (.bl (!b))
  | _ => none
def cmpD : CmpOp → D → D → Option D
  | .Eq => D.eqD
  | .NotEq => D.neD
  | .Lt => D.ltD
  | .LtE => D.leD
  | .Gt => D.gtD
  | .GtE => D.geD
  | .Is => D.isD
  | .IsNot => D.isnD
  | .In => D.inD
  | .NotIn => D.ninD
def binD : Operator → D → D → Option D
  | .Add => D.add
  | .Sub => D.sub
  | .Mult => D.mul
  | .FloorDiv => D.fdiv
  | .Mod => D.mod
  | .Pow => D.pow
  | _ => fun _ _ => none

section
variable {X : Cx}
theorem s_cmpI {f : Value → Value → Sem Value} {p : Int → Int → Bool} {g : D → D → Option D} (ho : OpR X f (rI0 fun i j => .bl (p i j)))
    (hg : ∀ d1 d2 d, g d1 d2 = some d → ∃ i j, d1 = .int i ∧ d2 = .int j ∧ d = .bl (p i j)) : OpS X f g := by
  intro S x y H d1 d2 d r1 r2 e
  obtain ⟨i, j, rfl, rfl, rfl⟩ := hg d1 d2 d e
  cases r1; cases r2
  exact ⟨_, ho, fun Q k => ⟨i, j, rfl, rfl, k _ _ (fun _ _ h => h) fun _ => .bl _⟩⟩
theorem s_lt : OpS X (compareOp .Lt) D.ltD := by
  refine s_cmpI op_lt fun d1 d2 d e => ?_
  cases d1 <;> cases d2 <;> simp only [D.ltD] at e <;> first | (cases e; done) | skip
  injection e with e; exact ⟨_, _, rfl, rfl, e.symm⟩
theorem s_le : OpS X (compareOp .LtE) D.leD := by
  refine s_cmpI op_le fun d1 d2 d e => ?_
  cases d1 <;> cases d2 <;> simp only [D.leD] at e <;> first | (cases e; done) | skip
  injection e with e; exact ⟨_, _, rfl, rfl, e.symm⟩
theorem s_gt : OpS X (compareOp .Gt) D.gtD := by
  refine s_cmpI op_gt fun d1 d2 d e => ?_
  cases d1 <;> cases d2 <;> simp only [D.gtD] at e <;> first | (cases e; done) | skip
  injection e with e; exact ⟨_, _, rfl, rfl, e.symm⟩
theorem s_ge : OpS X (compareOp .GtE) D.geD := by
  refine s_cmpI op_ge fun d1 d2 d e => ?_
  cases d1 <;> cases d2 <;> simp only [D.geD] at e <;> first | (cases e; done) | skip
  injection e with e; exact ⟨_, _, rfl, rfl, e.symm⟩
theorem s_eq (hu : X.A.units + 64 < cLine) : OpS X (compareOp .Eq) D.eqD := by
  intro S x y H d1 d2 d r1 r2 e
  unfold D.eqD at e
  split at e
  · rename_i h
    injection e with e; subst e
    rw [Bool.and_eq_true] at h
    exact ⟨_, op_eqD hu, fun Q k => ⟨_, _, r1.dp (SeqAt.canLay_of_shaped h.1), r2.dp (SeqAt.canLay_of_shaped h.2), h.1, h.2, k _ _ (fun _ _ h => h) fun _ => .bl _⟩⟩
  · cases e
theorem dict_not_text (l : Addr) (b : Str) (u : Tok) : Meets (Builtin.«dict.__ne__» ⟨[.ref l, .str b u], []⟩) (fun _ R s => (∃ o, s.heap.get? l = some o ∧ o.ExactDict) ∧ R (.ok (.ret .notImplemented)) s) :=
  .of_wp fun prog w A R s h => by
    obtain ⟨hp, g, d, tk, os⟩ := s
    obtain ⟨⟨o, ho, hx⟩, h⟩ := h
    have f1 := F.sub_str_dict
    wp_walk using wpAny_loadPart' ho
    exact ⟨_, rfl, h⟩
theorem text_not_dict (b : Str) (u : Tok) (l : Addr) (es : Array DictEntry) (ep : Nat) (cl : Value) (dd : Option Addr) (sl : Array (Option Value)) :
    Meets (Builtin.«str.__ne__» ⟨[.str b u, .ref l], []⟩) (fun _ R s => s.heap.get? l = some { cls := cl, dict := dd, data := .dict es ep, slots := sl } ∧ R (.ok (.ret .notImplemented)) s) :=
  .of_wp fun prog w A R s h => by
    obtain ⟨hp, g, d, tk, os⟩ := s
    obtain ⟨ho, h⟩ := h
    wp_walk using wpAny_loadPart' ho, wpAny_load ho
    exact ⟨_, rfl, h⟩
theorem rcNe_dict {A : Around} {s : Shared} {l : Addr} {o : Obj} {es : Array DictEntry} {ep : Nat} (b : Str) (u : Tok) (ho : s.heap.get? l = some o) (hx : o.ExactDict) (hd : o.data = .dict es ep) (hu : A.units < cLine) : SeqAt.RcNeAt A s (.ref l) (.str b u) true := fun prog w E Q h => by
  obtain ⟨cl, dd, dt, sl⟩ := o
  simp only at hd
  subst hd
  exact SeqAt.rc_ne_decline_or (k := false) ⟨_, ho, hx.1⟩ (typeIs_str s b u) (by decide) F.sub_str_dict F.slot_dict_ne F.slot_str_ne_refl
    (fun _ hq => call_meets F.slot_dict_ne ⟨_, ho, hx.1⟩ F.entry_dict_ne (F.args_dict_ne_2 _ _) (dict_not_text l b u) ⟨⟨_, ho, hx⟩, hq⟩)
    (fun _ hq => call_meets F.slot_str_ne_refl (typeIs_str s b u) F.entry_str_ne (F.args_str_ne_2 _ _) (text_not_dict b u l es ep cl dd sl) ⟨ho, hq⟩)
    (fun _ hq => wpAny_of_eq (rfl : isSame (.ref l) (.str b u) = pure false) hq) (.inr hu) h
theorem op_neDct (hu : X.A.units + 64 < cLine) : OpR X (compareOp .NotEq) (fun x y H Q => ∃ a z kvs, x = .ref a ∧ y = .str z ∧ Rd H a (.dK kvs) ∧ Q (.bl true) H) := by
  intro pins s σ H x y v u Q I rx ry ⟨a, z, kvs, e1, e2, hr, q⟩
  subst e1; subst e2
  cases rx
  obtain ⟨t, rfl⟩ := ry
  obtain ⟨_, _, vs, _, o, es, ep, ho, hx, hd, _⟩ := hr.ok I.hok
  exact rcNe_dict z t ho hx hd (by omega) X.prog X.w _ _ ⟨.bl true, H, I, rfl, q⟩
theorem s_ne (hu : X.A.units + 64 < cLine) : OpS X (compareOp .NotEq) D.neD := by
  intro S x y H d1 d2 d r1 r2 e
  unfold D.neD at e
  split at e
  · rename_i h
    injection e with e; subst e
    rw [Bool.and_eq_true] at h
    exact ⟨_, op_neD hu, fun Q k => ⟨_, _, r1.dp (SeqAt.canLay_of_shaped h.1), r2.dp (SeqAt.canLay_of_shaped h.2), h.1, h.2, k _ _ (fun _ _ h => h) fun _ => .bl _⟩⟩
  · split at e
    · injection e with e; subst e
      cases r2
      cases r1 with
      | dctK h r => exact ⟨_, op_neDct hu, fun Q k => ⟨_, _, _, rfl, rfl, h, k _ _ (fun _ _ h => h) fun _ => .bl _⟩⟩
    · cases e
theorem RepB.isN {K : PySem.W.Frag} {H : Hp} {S : Addr → Prop} {v : V} {d : D} (r : RepB K H S v d) : decide (v = .non) = d.isN := by
  cases r <;> simp [D.isN]
theorem s_is : OpS X (compareOp .Is) D.isD := by
  intro S x y H d1 d2 d r1 r2 e
  cases r2 with
  | non =>
    have e' : d = .bl d1.isN := by cases d1 <;> simp only [D.isD] at e <;> (injection e with e; exact e.symm)
    subst e'
    exact ⟨_, op_isN, fun Q k => ⟨rfl, by rw [r1.isN]; exact k _ _ (fun _ _ h => h) fun _ => .bl _⟩⟩
  | bl b =>
    cases r1 <;> simp only [D.isD] at e <;> first | (cases e; done) | skip
    injection e with e; subst e
    exact ⟨_, op_is_bl, fun Q k => ⟨_, _, rfl, rfl, k _ _ (fun _ _ h => h) fun _ => .bl _⟩⟩
  | _ => cases d1 <;> simp only [D.isD] at e <;> cases e
theorem s_isn : OpS X (compareOp .IsNot) D.isnD := by
  intro S x y H d1 d2 d r1 r2 e
  cases r2 with
  | non =>
    have e' : d = .bl (!d1.isN) := by cases d1 <;> simp only [D.isnD] at e <;> (injection e with e; exact e.symm)
    subst e'
    exact ⟨_, op_notN, fun Q k => ⟨rfl, by rw [r1.isN]; exact k _ _ (fun _ _ h => h) fun _ => .bl _⟩⟩
  | bl b =>
    cases r1 <;> simp only [D.isnD] at e <;> first | (cases e; done) | skip
    injection e with e; subst e
    exact ⟨_, op_isnot_bl, fun Q k => ⟨_, _, rfl, rfl, k _ _ (fun _ _ h => h) fun _ => .bl _⟩⟩
  | _ => cases d1 <;> simp only [D.isnD] at e <;> cases e

/-! ### in -/
theorem flat_rep {K : PySem.W.Frag} {H : Hp} {S : Addr → Prop} {v : V} {d : D} (r : Rep K H S v d) (f : d.flat = true) : flatV v = true ∧ ∀ w c, Rep K H S w c → c.flat = true → eqV v w = d.eqq c := by
  cases r with
  | non => exact ⟨rfl, fun w c r2 f2 => by cases r2 <;> simp [D.flat] at f2 <;> simp [eqV, D.eqq, D.py, PyData.eqv]⟩
  | bl b => exact ⟨rfl, fun w c r2 f2 => by cases r2 <;> simp [D.flat] at f2 <;> simp [eqV, D.eqq, D.py, PyData.eqv]⟩
  | int i => exact ⟨rfl, fun w c r2 f2 => by cases r2 <;> simp [D.flat] at f2 <;> simp [eqV, D.eqq, D.py, PyData.eqv]⟩
  | str x => exact ⟨rfl, fun w c r2 f2 => by cases r2 <;> simp [D.flat] at f2 <;> simp [eqV, D.eqq, D.py, PyData.eqv]⟩
  | _ => simp [D.flat] at f
theorem flat_reps {K : PySem.W.Frag} {H : Hp} {S : Addr → Prop} {x : V} {dx : D} (rx : Rep K H S x dx) (fx : dx.flat = true) : ∀ {vs : List V} {ds : List D}, Reps K H S vs ds → ds.all D.flat = true → vs.all flatV = true ∧ inV x vs = dx.inB ds
  | _, _, .nil, _ => ⟨rfl, rfl⟩
  | _, _, .cons r t, f => by
    rw [List.all_cons, Bool.and_eq_true] at f
    obtain ⟨h1, h2⟩ := flat_rep r f.1
    obtain ⟨g1, g2⟩ := flat_reps rx fx t f.2
    refine ⟨by rw [List.all_cons, h1, g1]; rfl, ?_⟩
    unfold inV D.inB at g2 ⊢
    rw [List.any_cons, List.any_cons, h2 _ _ rx fx, g2]
theorem any_pys (x : D) : ∀ ys : List D, ((D.pys ys).any fun z => PyData.eqv z x.py) = x.inB ys
  | [] => rfl
  | y :: ys => by
    have := any_pys x ys
    unfold D.inB at this ⊢
    rw [D.pys, List.any_cons, List.any_cons, this]
    rfl
theorem RepB.flat {K : PySem.W.Frag} {H : Hp} {S : Addr → Prop} {v : V} {d : D} (r : RepB K H S v d) (f : d.flat = true) : Rep K H S v d := by
  cases r with
  | non => exact .non
  | bl b => exact .bl b
  | int i => exact .int i
  | str x => exact .str x
  | _ => simp [D.flat] at f
theorem op_notIn_of {r : R2} (h : OpR X (compareOp .In) r) : True := trivial
theorem s_in (hu : X.A.units + 65 < cLine) : OpS X (compareOp .In) D.inD := by
  intro S x y H d1 d2 d r1 r2 e
  cases r2 with
  | lst h2 q2 =>
    simp only [D.inD] at e
    split at e
    · rename_i hf
      injection e with e; subst e
      rw [Bool.and_eq_true] at hf
      obtain ⟨g1, g2⟩ := flat_reps (r1.flat hf.1) hf.1 q2 hf.2
      exact ⟨_, op_in_seq, fun Q k => ⟨_, _, rfl, .inl (.inl (.inl h2)), (flat_rep (r1.flat hf.1) hf.1).1, g1, by rw [if_neg Bool.false_ne_true, g2]; exact k _ _ (fun _ _ h => h) fun _ => .bl _⟩⟩
    · split at e
      · rename_i hs
        injection e with e; subst e
        rw [Bool.and_eq_true] at hs
        have c2 := SeqAt.canLay_of_shaped hs.2
        refine ⟨_, op_inD hu, fun Q k => ⟨_, _, r1.dp (SeqAt.canLay_of_shaped hs.1), (RepB.lst h2 q2).dp c2, hs.1, hs.2, ?_⟩⟩
        rw [any_pys]; exact k _ _ (fun _ _ h => h) fun _ => .bl _
      · cases e
  | tup h2 q2 =>
    simp only [D.inD] at e
    split at e
    · rename_i hf
      injection e with e; subst e
      rw [Bool.and_eq_true] at hf
      obtain ⟨g1, g2⟩ := flat_reps (r1.flat hf.1) hf.1 q2 hf.2
      exact ⟨_, op_in_seq, fun Q k => ⟨_, _, rfl, .inr (sqT_of h2), (flat_rep (r1.flat hf.1) hf.1).1, g1, by rw [if_neg Bool.false_ne_true, g2]; exact k _ _ (fun _ _ h => h) fun _ => .bl _⟩⟩
    · cases e
  | str z =>
    cases r1 with
    | str x =>
      simp only [D.inD] at e
      split at e
      · rename_i c hc
        injection e with e; subst e
        refine ⟨_, op_in_sign, fun Q k => ⟨c, z, ?_, rfl, k _ _ (fun _ _ h => h) fun _ => .bl _⟩⟩
        have : x.cps = #[c] := by apply Array.toList_inj.mp; rw [hc]
        cases x; simp at this; rw [this]
      · cases e
    | _ => simp only [D.inD] at e; cases e
  | _ => simp only [D.inD] at e; cases e
theorem s_nin (hu : X.A.units + 65 < cLine) : OpS X (compareOp .NotIn) D.ninD := by
  intro S x y H d1 d2 d r1 r2 e
  unfold D.ninD at e
  cases r2 with
  | lst h2 q2 =>
    simp only [D.inD] at e
    split at e
    · rename_i b eb
      injection e with e; subst e
      split at eb
      · rename_i hf
        injection eb with eb; injection eb with eb; subst eb
        rw [Bool.and_eq_true] at hf
        obtain ⟨g1, g2⟩ := flat_reps (r1.flat hf.1) hf.1 q2 hf.2
        exact ⟨_, op_notIn_seq, fun Q k => ⟨_, _, rfl, .inl (.inl (.inl h2)), (flat_rep (r1.flat hf.1) hf.1).1, g1, by rw [if_pos rfl, g2]; exact k _ _ (fun _ _ h => h) fun _ => .bl _⟩⟩
      · split at eb
        · rename_i hs
          injection eb with eb; injection eb with eb; subst eb
          rw [Bool.and_eq_true] at hs
          have c2 := SeqAt.canLay_of_shaped hs.2
          refine ⟨_, op_notInD hu, fun Q k => ⟨_, _, r1.dp (SeqAt.canLay_of_shaped hs.1), (RepB.lst h2 q2).dp c2, hs.1, hs.2, ?_⟩⟩
          rw [any_pys]; exact k _ _ (fun _ _ h => h) fun _ => .bl _
        · cases eb
    · cases e
  | tup h2 q2 =>
    simp only [D.inD] at e
    split at e
    · rename_i b eb
      injection e with e; subst e
      split at eb
      · rename_i hf
        injection eb with eb; injection eb with eb; subst eb
        rw [Bool.and_eq_true] at hf
        obtain ⟨g1, g2⟩ := flat_reps (r1.flat hf.1) hf.1 q2 hf.2
        exact ⟨_, op_notIn_seq, fun Q k => ⟨_, _, rfl, .inr (sqT_of h2), (flat_rep (r1.flat hf.1) hf.1).1, g1, by rw [if_pos rfl, g2]; exact k _ _ (fun _ _ h => h) fun _ => .bl _⟩⟩
      · cases eb
    · cases e
  | str z =>
    cases r1 with
    | str x =>
      simp only [D.inD] at e
      split at e
      · rename_i b eb
        injection e with e; subst e
        split at eb
        · rename_i c hc
          injection eb with eb; injection eb with eb; subst eb
          refine ⟨_, op_notIn_sign, fun Q k => ⟨c, z, ?_, rfl, k _ _ (fun _ _ h => h) fun _ => .bl _⟩⟩
          have : x.cps = #[c] := by apply Array.toList_inj.mp; rw [hc]
          cases x; simp at this; rw [this]
        · cases eb
      · cases e
    | _ => simp [D.inD] at e
  | _ => simp [D.inD] at e
theorem s_bin (op : Operator) : OpS X (binaryOp op) (binD op) := by
  cases op
  case Add => exact s_add
  case Sub => exact s_sub
  case Mult => exact s_mul
  case FloorDiv => exact s_fdiv
  case Mod => exact s_mod
  case Pow => exact s_pow
  all_goals (intro S x y H d1 d2 d r1 r2 e; simp [binD] at e)
theorem s_cmp (hu : X.A.units + 65 < cLine) (op : CmpOp) : OpS X (compareOp op) (cmpD op) := by
  cases op
  case Eq => exact s_eq (by omega)
  case NotEq => exact s_ne (by omega)
  case Lt => exact s_lt
  case LtE => exact s_le
  case Gt => exact s_gt
  case GtE => exact s_ge
  case Is => exact s_is
  case IsNot => exact s_isn
  case In => exact s_in hu
  case NotIn => exact s_nin hu

/-! ### truth -/
def D.truth : D → Option Bool
  | .non => some false
  | .bl b => some b
  | .int i => some (i != 0)
  | .str x => if lenOk x.length then some ((x.length : Int) != 0) else none
  | .lst xs => some (!xs.isEmpty)
  | .tup xs => some (!xs.isEmpty)
  | .scr xs => some (!xs.isEmpty)
  | _ => none
theorem Reps.empty {K : PySem.W.Frag} {H : Hp} {S : Addr → Prop} {vs : List V} {ds : List D} (r : Reps K H S vs ds) : vs.isEmpty = ds.isEmpty := by
  cases r <;> rfl
theorem RepB.tru {K : PySem.W.Frag} {H : Hp} {S : Addr → Prop} {v : V} {d : D} {b : Bool} (r : RepB K H S v d) (e : d.truth = some b) : TruV K v H b := by
  cases r with
  | non => simp only [D.truth] at e; injection e with e; exact e.symm
  | bl b => simp only [D.truth] at e; injection e with e; exact e.symm
  | int i => simp only [D.truth] at e; injection e with e; exact e.symm
  | str x =>
    simp only [D.truth] at e
    split at e
    · rename_i h; injection e with e; exact ⟨of_decide_eq_true h, e.symm⟩
    · cases e
  | lst h r => simp only [D.truth] at e; injection e with e; exact .inl ⟨_, .inl (.inl h), by rw [← e, r.empty]⟩
  | scr h r => simp only [D.truth] at e; injection e with e; exact .inl ⟨_, h, by rw [← e, r.empty]⟩
  | tup h r => simp only [D.truth] at e; injection e with e; exact .inr (.inl ⟨_, sqT_of h, by rw [← e, r.empty]⟩)
  | dctK h r => simp [D.truth] at e
  | dctT h r => simp [D.truth] at e
  | exc => simp [D.truth] at e
  | excN _ _ => simp [D.truth] at e
  | excF _ _ _ _ _ => simp [D.truth] at e

/-! ### subscripts -/
def D.idx : D → D → Option D
  | .lst xs, .int i => atI xs i
  | .scr xs, .int i => atI xs i
  | .tup xs, .int i => atI xs i
  | .str x, .int i => if lenOk x.length then (atI x.cps.toList i).map fun c => .str ⟨#[c]⟩ else none
  | _, _ => none
def IxS (X : Cx) (g : D → D → Option D) : Prop :=
  ∀ S x y H d1 d2 d, RepB X.K H S x d1 → RepB X.K H S y d2 → g d1 d2 = some d →
    ∃ r, IxR X r ∧ ∀ Q : VK, (∀ v, Rep X.K H S v d → Q v H) → r x y H Q
theorem Reps.at {K : PySem.W.Frag} {H : Hp} {S : Addr → Prop} {vs : List V} {ds : List D} {i : Int} {d : D} (r : Reps K H S vs ds) (e : atI ds i = some d) : ∃ v, atI vs i = some v ∧ Rep K H S v d := by
  unfold atI at e ⊢
  rw [r.length]
  cases q : ixN ds.length i with
  | none => rw [q] at e; cases e
  | some j =>
    rw [q] at e
    obtain ⟨v, h1, h2⟩ := r.get (i := j) e
    exact ⟨v, h1, h2⟩
theorem s_idx : IxS X D.idx := by
  intro S x y H d1 d2 d r1 r2 e
  cases r2 with
  | int i =>
    cases r1 with
    | lst h r =>
      obtain ⟨v, h1, h2⟩ := r.at (show atI _ i = some d from e)
      exact ⟨_, ix_list, fun Q k => ⟨_, _, _, v, rfl, rfl, .inl (.inl h), h1, k v h2⟩⟩
    | scr h r =>
      obtain ⟨v, h1, h2⟩ := r.at (show atI _ i = some d from e)
      exact ⟨_, ix_list, fun Q k => ⟨_, _, _, v, rfl, rfl, h, h1, k v h2⟩⟩
    | tup h r =>
      obtain ⟨v, h1, h2⟩ := r.at (show atI _ i = some d from e)
      exact ⟨_, ix_tup, fun Q k => ⟨_, _, _, v, rfl, rfl, sqT_of h, h1, k v h2⟩⟩
    | str z =>
      simp only [D.idx] at e
      split at e
      · rename_i hz
        cases q : atI z.cps.toList i with
        | none => rw [q] at e; cases e
        | some c =>
          rw [q] at e; injection e with e; subst e
          exact ⟨_, ix_str, fun Q k => ⟨_, _, c, rfl, rfl, of_decide_eq_true hz, q, k _ (.str _)⟩⟩
      · cases e
    | _ => simp only [D.idx] at e; cases e
  | _ => cases d1 <;> simp only [D.idx] at e <;> cases e
end
end Rp
set_option Elab.async false
set_option linter.all false
set_option maxRecDepth 100000
/-! RpF: the forms of expressions. -/
namespace Rp
open PySem PySem.Spec PyProof.Rows L2

section
variable {X : Cx}

/-! ### names, constants -/
def D.flatS (d : D) : Bool := d.flat
theorem flat_any {K : PySem.W.Frag} {H H' : Hp} {S S' : Addr → Prop} {v : V} {d : D} (r : RepB K H S v d) (f : d.flat = true) : Rep K H' S' v d := by
  cases r with
  | non => exact .non
  | bl b => exact .bl b
  | int i => exact .int i
  | str x => exact .str x
  | _ => simp [D.flat] at f
def rdVar (i : Nat) : Env → Out D := fun env => match env.get i with
  | .val d => .ok d env
  | .own false d => .ok d (env.set i (.val d))
  | .lck d => if d.flat then .ok d env else .bad
  | _ => .bad
theorem get_set_self {e : Env} {i : Nat} {s : Slot} (h : i < e.length) : Env.get (e.set i s) i = s := by
  unfold Env.get; rw [List.getD_eq_getElem?_getD, List.getElem?_set_self h]; rfl
theorem get_set_ne {e : Env} {i j : Nat} {s : Slot} (h : i ≠ j) : Env.get (e.set i s) j = e.get j := by
  unfold Env.get; rw [List.getD_eq_getElem?_getD, List.getD_eq_getElem?_getD, List.getElem?_set_ne h]
theorem get_lt {e : Env} {i : Nat} (h : e.get i ≠ .no) : i < e.length := by
  apply Decidable.byContradiction; intro n
  exact h (by unfold Env.get; rw [List.getD_eq_getElem?_getD, List.getElem?_eq_none (by omega)]; rfl)
def Own.drop (O : Own) (i : Nat) : Own := fun j => if j = i then none else O j
theorem Own.drop_sub {O : Own} {i : Nat} : Sub (O.drop i) O := fun j => by unfold Own.drop; split; exact .inr rfl; exact .inl rfl
/-- a slot is let go of, its thing stays as a value -/
theorem Good.freeze {K : PySem.W.Frag} {F : Fx} {O : Own} {σ : L2.St} {H : Hp} {e : Env} {i : Nat} {d : D} (g : Good K F O σ H e) (h : e.get i = .own false d) :
    ∃ p, σ[i]? = some (some (.ref p)) ∧ Good K F (O.drop i) σ H (e.set i (.val d)) ∧ Rep K H (Sx F.S0 (O.drop i)) (.ref p) d := by
  have q := g.at h
  obtain ⟨p, q1, q2, q3, _, q4⟩ := q
  have hn : ¬ Sx F.S0 (O.drop i) p := by
    rintro (z | ⟨j, z⟩)
    · exact (q4 rfl).1 z
    · unfold Own.drop at z
      split at z
      · cases z
      · rename_i ne; exact ne (g.inj _ _ _ z q1)
  have hm : ∀ a, Sx F.S0 (O.drop i) a → Sx F.S0 O a := fun a z => Own.drop_sub.sx z
  have r := (q3.mono hm).rep hn
  refine ⟨p, of_getD q2, ⟨by rw [List.length_set]; exact g.len, g.s0, g.d0, fun a b c h1 h2 => ?_, fun a b c h1 h2 => g.lo a b c h1 (by unfold Own.drop at h2; split at h2; cases h2; exact h2), g.ls, g.ps, fun j a z => ?_, fun j => ?_⟩, r⟩
  · refine g.inj a b c ?_ ?_
    · unfold Own.drop at h1; split at h1; cases h1; exact h1
    · unfold Own.drop at h2; split at h2; cases h2; exact h2
  · have := g.ln j a z
    by_cases hj : j = i
    · subst hj; rw [h] at this; cases this
    · rw [get_set_ne (Ne.symm hj)]; exact this
  · by_cases hj : j = i
    · subst hj
      rw [get_set_self (get_lt (by rw [h]; simp))]
      exact ⟨by unfold Own.drop; rw [if_pos rfl], _, q2, r⟩
    · rw [get_set_ne (Ne.symm hj)]
      have qj := g.slot j
      have ej : (O.drop i) j = O j := by unfold Own.drop; rw [if_neg hj]
      rw [ej]
      cases c : e.get j with
      | no => rw [c] at qj; exact qj
      | val d' => rw [c] at qj; obtain ⟨a1, v, a2, a3⟩ := qj; exact ⟨a1, v, a2, Rep.mono hm a3⟩
      | own par d' => rw [c] at qj; obtain ⟨p', a1, a2, a3, a4⟩ := qj; exact ⟨p', a1, a2, a3.mono hm, a4⟩
      | lck d' =>
        rw [c] at qj; obtain ⟨a1, v, a2, a3⟩ := qj
        exact ⟨a1, v, a2, a3.elim (fun z => .inl (Rep.mono hm z)) fun ⟨p', z1, z2, z3, z4⟩ => .inr ⟨p', z1, z2, z3, z4.mono hm⟩⟩
      | lkd par d' =>
        rw [c] at qj; obtain ⟨a1, p', a2, a3, a4, a5, a6⟩ := qj
        exact ⟨a1, p', a2, a3, a4, a5.mono hm, a6⟩
theorem se_var {i : Nat} {x : Str} {pos : Pos} (hN : X.N[i]? = some x) (hv : Vis X.env.scope x) (hd : (x == ("__debug__" : Str)) = false) (hcd : (x == ("__classdict__" : Str)) = false) : SE X (.Name x pos) (rdVar i) := by
  intro Wx tk F O σ H env g Q p
  refine TE.by (pe_var hN hv hd hcd) ?_
  have q := g.slot i
  unfold rdVar at p
  cases c : env.get i with
  | no => rw [c] at p; exact p.elim
  | val d =>
    rw [c] at p q
    obtain ⟨_, v, e1, r⟩ := q
    exact ⟨v, of_getD e1, p.ok g r⟩
  | own par d =>
    cases par with
    | true => rw [c] at p; exact p.elim
    | false =>
      rw [c] at p
      obtain ⟨a, e1, g', r⟩ := g.freeze c
      exact ⟨_, e1, p _ H _ Own.drop_sub .refl g' r⟩
  | lck d =>
    rw [c] at p q
    obtain ⟨_, v, e1, r⟩ := q
    have p' : Pst X.K X.mg Wx F O σ H (Rep X.K) Q (if d.flat = true then .ok d env else .bad) := p
    split at p'
    · rename_i f
      refine ⟨v, of_getD e1, p'.ok g ?_⟩
      rcases r with r | ⟨a, rfl, _, _, r⟩
      · exact r
      · exact flat_any r f
    · exact p'.elim
  | lkd par d => rw [c] at p; exact p.elim
/-- a written constant -/
def constD : Const → Option D
  | .none => some .non
  | .bool b => some (.bl b)
  | .int i => some (.int i)
  | .str x => some (.str x)
  | _ => none
def pureD (d : D) : Env → Out D := fun env => .ok d env
theorem se_const {c : Const} {d : D} {j : Nat} {pos : Pos} (h : constD c = some d) : SE X (.Constant c j pos) (pureD d) := by
  intro Wx tk F O σ H env g Q p
  cases c <;> simp only [constD] at h <;> first | (cases h; done) | (injection h with h; subst h)
  · exact TE.by pe_non (p.ok g .non)
  · exact TE.by pe_bl (p.ok g (.bl _))
  · exact TE.by pe_int (p.ok g (.int _))
  · exact TE.by pe_str (p.ok g (.str _))
/-- a constant of the module -/
def scalV : D → Option V
  | .non => some .non
  | .bl b => some (.bl b)
  | .int i => some (.int i)
  | .str x => some (.str x)
  | _ => none
theorem se_glb {x : Str} {d : D} {v : V} {u : Value} {pos : Pos} (hg : Gl X x) (hm : X.mg x = some u) (r : RelV v u) (h : scalV d = some v) (hd : (x == ("__debug__" : Str)) = false) : SE X (.Name x pos) (pureD d) := by
  intro Wx tk F O σ H env g Q p
  refine TE.by (pe_glob hg hm r hd) ?_
  cases d <;> simp only [scalV] at h <;> first | (cases h; done) | (injection h with h; subst h)
  · exact p.ok g .non
  · exact p.ok g (.bl _)
  · exact p.ok g (.int _)
  · exact p.ok g (.str _)

/-! ### comparisons -/
theorem oprX {f : Value → Value → Sem Value} : OpR X f (fun x y H Q => ∃ r, OpR X f r ∧ r x y H Q) := by
  intro pins s σ H x y v u Q I r1 r2 ⟨r, h1, h2⟩
  exact h1 pins s σ H x y v u Q I r1 r2 h2
variable {a b c : Expr} {fa fb fc : Env → Out Opd} {pos : Pos}
theorem se_cmp {op : CmpOp} (hu : X.A.units + 65 < cLine) (ha : SO X a fa) (hb : SO X b fb) (hm : behindInMarks op b = false) : SE X (.Compare a [op] [b] pos) (bin2 (cmpD op) fa fb) := by
  intro Wx tk F O σ H env gd Q p
  refine TE.by (pe_cmpR oprX pe_of pe_of hm) ?_
  refine SO.two ha hb tk gd p fun x y H2 O2 e2 d1 d2 d g2 r1 r2 e k => ?_
  obtain ⟨r, h1, h2⟩ := s_cmp hu op _ x y H2 d1 d2 d r1 r2 e
  exact ⟨r, h1, h2 Q fun v H' sm rep => k v H' sm (rep fun a z => g2.dom z)⟩
def asB : D → Option Bool
  | .bl b => some b
  | _ => none
def chain3 (op op2 : CmpOp) (fa fb fc : Env → Out Opd) : Env → Out D := fun env =>
  (fa env).bind fun a e1 => (fb e1).bind fun b e2 =>
    match (do let x ← deref a e2; let y ← deref b e2; (cmpD op x y).bind asB) with
    | some true => (fc e2).bind fun c e3 => Out.of (do let y ← deref b e3; let z ← deref c e3; cmpD op2 y z) e3
    | some false => .ok (.bl false) e2
    | none => .bad
abbrev RX (X : Cx) (op : CmpOp) : R2 := fun x y H Q => ∃ r, OpR X (compareOp op) r ∧ r x y H Q
theorem chain_key {op op2 : CmpOp} (hu : X.A.units + 65 < cLine) (ha : SO X a fa) (hb : SO X b fb) (hc : SO X c fc) {Wx : WX} (tk : Takes X Wx) {F : Fx} {O : Own} {σ : L2.St} {H : Hp} {env : Env} (gd : Good X.K F O σ H env) {Q : VK}
    (p : Pst X.K X.mg Wx F O σ H (Rep X.K) Q (chain3 op op2 fa fb fc env)) : tChain (RX X op) (RX X op2) (TE.of X a) (TE.of X b) (TE.of X c) σ H Q := by
  refine ha Wx tk F O σ H env gd _ (Pst.bind p fun o1 e1 x H1 O1 s1 f1 g1 r1 p1 => ?_)
  refine hb Wx tk F O1 σ H1 e1 g1 _ (Pst.bind p1 fun o2 e2 y H2 O2 s2 f2 g2 r2 p2 => ?_)
  have r1' := (r1.fr f2.rd fun _ z => .inr z).mono (S' := Sx F.S0 O2) fun _ z => s2.sx z
  cases q1 : deref o1 e2 with
  | none => simp only [q1] at p2; exact p2.elim
  | some d1 =>
    cases q2 : deref o2 e2 with
    | none => simp only [q1, q2] at p2; exact p2.elim
    | some d2 =>
      have b1 := g2.deref r1' q1
      have b2 := g2.deref r2 q2
      have p2' : Pst X.K X.mg Wx F O2 σ H2 (Rep X.K) Q (match (cmpD op d1 d2).bind asB with
        | some true => (fc e2).bind fun c e3 => Out.of (do let y ← deref o2 e3; let z ← deref c e3; cmpD op2 y z) e3
        | some false => .ok (.bl false) e2
        | none => .bad) := by simp only [q1, q2] at p2; exact p2
      cases q3 : cmpD op d1 d2 with
      | none => rw [q3] at p2'; exact p2'.elim
      | some d =>
        rw [q3] at p2'
        obtain ⟨r, h1, h2⟩ := s_cmp hu op _ x y H2 d1 d2 d b1 b2 q3
        refine ⟨r, h1, h2 _ fun v H' sm rep => ?_⟩
        have rep' := rep fun a z => g2.dom z
        cases rep' with
        | bl k =>
          refine ⟨k, rfl, ?_⟩
          have g3 := g2.same sm
          have p3 := p2'.step .refl (Fr.same sm)
          cases k with
          | false => exact p3.ok g3 (.bl false)
          | true =>
            rw [if_pos rfl]
            have r2' : RepO X.K σ H' (Sx F.S0 O2) y o2 := r2.fr (W := fun _ => False) (Fr.same sm).rd fun _ z => z.elim
            refine hc Wx tk F O2 σ H' e2 g3 _ (Pst.bind p3 fun o3 e3 z H3 O3 s3 f3 g4 r3 p4 => ?_)
            have r2'' := (r2'.fr f3.rd fun _ z => .inr z).mono (S' := Sx F.S0 O3) fun _ z => s3.sx z
            cases q4 : deref o2 e3 with
            | none => simp only [q4] at p4; exact p4.elim
            | some d2' =>
              cases q5 : deref o3 e3 with
              | none => simp only [q4, q5] at p4; exact p4.elim
              | some d3 =>
                have p4' : Pst X.K X.mg Wx F O3 σ H3 (Rep X.K) Q (Out.of (cmpD op2 d2' d3) e3) := by simp only [q4, q5] at p4; exact p4
                cases q6 : cmpD op2 d2' d3 with
                | none => rw [q6] at p4'; exact p4'.elim
                | some d' =>
                  rw [q6] at p4'
                  obtain ⟨r', h1', h2'⟩ := s_cmp hu op2 _ y z H3 d2' d3 d' (g4.deref r2'' q4) (g4.deref r3 q5) q6
                  exact ⟨r', h1', h2' Q fun v H' sm rep => p4'.okN g4 sm (rep fun a z => g4.dom z)⟩
        | _ => exact p2'.elim

theorem se_chain {op op2 : CmpOp} (hu : X.A.units + 65 < cLine) (ha : SO X a fa) (hb : SO X b fb) (hc : SO X c fc) (hm : lastMarks [op, op2] [b, c] = false) : SE X (.Compare a [op, op2] [b, c] pos) (chain3 op op2 fa fb fc) := by
  intro Wx tk F O σ H env gd Q p
  exact TE.by (pe_chain oprX oprX pe_of pe_of pe_of hm) (chain_key hu ha hb hc tk gd p)

/-! ### tests -/
def truB (f : Env → Out Opd) : Env → Out Bool := fun env => (f env).bind fun o e => Out.of ((deref o e).bind D.truth) e
theorem st_val (ha : SO X a fa) (he : ∀ whole, isTrue a X.env whole = (do let v ← whole; standAt a.pos; holding [v] (truthy v))) : ST X a (truB fa) := by
  intro Wx tk F O σ H env g Q p
  refine TT.by (pt_truth pe_of he) ?_
  refine ha Wx tk F O σ H env g _ (Pst.bind p fun o e1 v H1 O1 s f1 g1 r1 p1 => ?_)
  cases q1 : deref o e1 with
  | none => simp only [q1] at p1; exact p1.elim
  | some d =>
    have p1' : Pst X.K X.mg Wx F O1 σ H1 (fun _ _ b c => b = c) Q (Out.of d.truth e1) := by simp only [q1] at p1; exact p1
    cases q2 : d.truth with
    | none => rw [q2] at p1'; exact p1'.elim
    | some b => rw [q2] at p1'; exact ⟨b, (g1.deref r1 q1).tru q2, p1'.ok g1 rfl⟩
/-- a comparison, as a test -/
def bB (f : Env → Out D) : Env → Out Bool := fun env => (f env).bind fun d e => Out.of (asB d) e
theorem st_cmp {op : CmpOp} (hu : X.A.units + 65 < cLine) (ha : SO X a fa) (hb : SO X b fb) (hm : behindInMarks op b = false) : ST X (.Compare a [op] [b] pos) (bB (bin2 (cmpD op) fa fb)) := by
  intro Wx tk F O σ H env gd Q p
  refine TT.by (pt_cmpR oprX pe_of pe_of hm) ?_
  have key := Pst.bind (R1 := Rep X.K) (Q1 := fun v H => ∃ k, v = .bl k ∧ Q k H) p fun d e1 v H1 O1 s f1 g1 r1 p1 => ?_
  · show TE.of X a σ H fun x H1 => TE.of X b σ H1 fun y H2 => _
    refine SO.two ha hb tk gd key fun x y H2 O2 e2 d1 d2 d g2 r1 r2 e k => ?_
    obtain ⟨r, h1, h2⟩ := s_cmp hu op _ x y H2 d1 d2 d r1 r2 e
    exact ⟨r, h1, h2 _ fun v H' sm rep => k v H' sm (rep fun a z => g2.dom z)⟩
  · cases r1 with
    | bl k => exact ⟨k, rfl, p1.ok g1 rfl⟩
    | _ => exact p1.elim
theorem st_chain {op op2 : CmpOp} (hu : X.A.units + 65 < cLine) (ha : SO X a fa) (hb : SO X b fb) (hc : SO X c fc) (hm : lastMarks [op, op2] [b, c] = false) : ST X (.Compare a [op, op2] [b, c] pos) (bB (chain3 op op2 fa fb fc)) := by
  intro Wx tk F O σ H env gd Q p
  have key := Pst.bind (R1 := Rep X.K) (Q1 := fun v H => ∃ k, v = .bl k ∧ Q k H) p fun d e1 v H1 O1 s f1 g1 r1 p1 => ?_
  · exact TT.by (pt_chain oprX oprX pe_of pe_of pe_of hm) (chain_key hu ha hb hc tk gd key)
  · cases r1 with
    | bl k => exact ⟨k, rfl, p1.ok g1 rfl⟩
    | _ => exact p1.elim
def notB (f : Env → Out Bool) : Env → Out Bool := fun env => (f env).bind fun b e => .ok (!b) e
theorem st_not {f : Env → Out Bool} (ha : ST X a f) : ST X (.UnaryOp .Not a pos) (notB f) := by
  intro Wx tk F O σ H env g Q p
  refine TT.by (pt_not pt_of) ?_
  refine ha Wx tk F O σ H env g _ (Pst.bind p fun b e1 v H1 O1 s f1 g1 r1 p1 => ?_)
  cases r1
  exact p1.ok g1 rfl
theorem se_not (ha : SO X a fa) : SE X (.UnaryOp .Not a pos) (fun env => (notB (truB fa) env).bind fun b e => .ok (.bl b) e) := by
  intro Wx tk F O σ H env g Q p
  refine TE.by (pe_notT pe_of) ?_
  have p1 := Pst.bind (R1 := fun _ _ b c => b = c) (Q1 := fun b H => Q (.bl b) H) p fun d e1 v H1 O1 s f1 g1 r1 p1 => by cases r1; exact p1.ok g1 (.bl _)
  have p2 := Pst.bind (R1 := fun _ _ b c => b = c) (Q1 := fun b H => Q (.bl !b) H) p1 fun d e1 v H1 O1 s f1 g1 r1 p1 => by cases r1; exact p1.ok g1 rfl
  refine ha Wx tk F O σ H env g _ (Pst.bind p2 fun o e1 v H1 O1 s f1 g1 r1 p1 => ?_)
  cases q1 : deref o e1 with
  | none => simp only [q1] at p1; exact p1.elim
  | some d =>
    have p1' : Pst X.K X.mg Wx F O1 σ H1 (fun _ _ b c => b = c) (fun b H => Q (.bl !b) H) (Out.of d.truth e1) := by simp only [q1] at p1; exact p1
    cases q2 : d.truth with
    | none => rw [q2] at p1'; exact p1'.elim
    | some b => rw [q2] at p1'; exact ⟨b, (g1.deref r1 q1).tru q2, p1'.ok g1 rfl⟩
/-! ### and, or -/
def andB (f g : Env → Out Bool) : Env → Out Bool := fun env => (f env).bind fun c e => if c then g e else .ok false e
def orB (f g : Env → Out Bool) : Env → Out Bool := fun env => (f env).bind fun c e => if c then .ok true e else g e
variable {rest : List Expr} {f g : Env → Out Bool} {h : Env → Out D}
theorem pw_of {op : BoolOp} {vs : List Expr} : PW X (.BoolOp op vs pos) (TT.of X (.BoolOp op vs pos)) := ⟨fun _ pins s _ _ _ I h => h pins s I⟩
theorem st_one {op : BoolOp} (ha : ST X a f) : ST X (.BoolOp op [a] pos) f := by
  intro Wx tk F O σ H env g Q p
  cases op with
  | And => exact TT.by (pw_and1 pt_of).pt (ha Wx tk F O σ H env g Q p)
  | Or => exact TT.by (pw_or1 pt_of).pt (ha Wx tk F O σ H env g Q p)
theorem st_and (ha : ST X a f) (hb : ST X (.BoolOp .And (b :: rest) pos) g) : ST X (.BoolOp .And (a :: b :: rest) pos) (andB f g) := by
  intro Wx tk F O σ H env gd Q p
  refine TT.by (pw_and pt_of pw_of).pt ?_
  refine ha Wx tk F O σ H env gd _ (Pst.bind p fun c e1 v H1 O1 s f1 g1 r1 p1 => ?_)
  cases r1
  cases c with
  | true => rw [if_pos rfl]; exact hb Wx tk F O1 σ H1 e1 g1 _ p1
  | false => rw [if_neg Bool.false_ne_true]; exact p1.ok g1 rfl
theorem st_or (ha : ST X a f) (hb : ST X (.BoolOp .Or (b :: rest) pos) g) : ST X (.BoolOp .Or (a :: b :: rest) pos) (orB f g) := by
  intro Wx tk F O σ H env gd Q p
  refine TT.by (pw_or pt_of pw_of).pt ?_
  refine ha Wx tk F O σ H env gd _ (Pst.bind p fun c e1 v H1 O1 s f1 g1 r1 p1 => ?_)
  cases r1
  cases c with
  | true => rw [if_pos rfl]; exact p1.ok g1 rfl
  | false => rw [if_neg Bool.false_ne_true]; exact hb Wx tk F O1 σ H1 e1 g1 _ p1
def andV (f h : Env → Out D) : Env → Out D := fun env => (f env).bind fun d e => match d.truth with
  | some true => h e
  | some false => .ok d e
  | none => .bad
def orV (f h : Env → Out D) : Env → Out D := fun env => (f env).bind fun d e => match d.truth with
  | some true => .ok d e
  | some false => h e
  | none => .bad
variable {va : Env → Out D}
theorem se_one {op : BoolOp} (ha : SE X a va) : SE X (.BoolOp op [a] pos) va := fun Wx tk F O σ H env g Q p => TE.by (pe_one pe_of) (ha Wx tk F O σ H env g Q p)
theorem se_and (ha : SE X a va) (hb : SE X (.BoolOp .And (b :: rest) pos) h) : SE X (.BoolOp .And (a :: b :: rest) pos) (andV va h) := by
  intro Wx tk F O σ H env gd Q p
  refine TE.by (pe_andT pe_of pe_of) ?_
  refine ha Wx tk F O σ H env gd _ (Pst.bind p fun d e1 v H1 O1 s f1 g1 r1 p1 => ?_)
  cases q : d.truth with
  | none => simp only [q] at p1; exact p1.elim
  | some k =>
    cases k with
    | true => simp only [q] at p1; exact ⟨true, r1.b.tru q, by rw [if_pos rfl]; exact hb Wx tk F O1 σ H1 e1 g1 _ p1⟩
    | false => simp only [q] at p1; exact ⟨false, r1.b.tru q, by rw [if_neg Bool.false_ne_true]; exact p1.ok g1 r1⟩
theorem se_or (ha : SE X a va) (hb : SE X (.BoolOp .Or (b :: rest) pos) h) : SE X (.BoolOp .Or (a :: b :: rest) pos) (orV va h) := by
  intro Wx tk F O σ H env gd Q p
  refine TE.by (pe_orT pe_of pe_of) ?_
  refine ha Wx tk F O σ H env gd _ (Pst.bind p fun d e1 v H1 O1 s f1 g1 r1 p1 => ?_)
  cases q : d.truth with
  | none => simp only [q] at p1; exact p1.elim
  | some k =>
    cases k with
    | true => simp only [q] at p1; exact ⟨true, r1.b.tru q, by rw [if_pos rfl]; exact p1.ok g1 r1⟩
    | false => simp only [q] at p1; exact ⟨false, r1.b.tru q, by rw [if_neg Bool.false_ne_true]; exact hb Wx tk F O1 σ H1 e1 g1 _ p1⟩
/-- a if c else b -/
def iteV {α : Type} (f : Env → Out Bool) (u v : Env → Out α) : Env → Out α := fun env => (f env).bind fun c e => if c then u e else v e
theorem se_ite {u v : Env → Out D} (hc : ST X c f) (ha : SE X a u) (hb : SE X b v) : SE X (.IfExp c a b pos) (iteV f u v) := by
  intro Wx tk F O σ H env gd Q p
  refine TE.by (pe_ifExp pt_of pe_of pe_of) ?_
  refine hc Wx tk F O σ H env gd _ (Pst.bind p fun k e1 v H1 O1 s f1 g1 r1 p1 => ?_)
  cases r1
  cases k with
  | true => rw [if_pos rfl]; exact ha Wx tk F O1 σ H1 e1 g1 _ p1
  | false => rw [if_neg Bool.false_ne_true]; exact hb Wx tk F O1 σ H1 e1 g1 _ p1
/-- -a -/
def negD : D → Option D
  | .int i => some (.int (-i))
  | _ => none
theorem se_neg (ha : SE X a va) : SE X (.UnaryOp .USub a pos) (fun env => (va env).bind fun d e => Out.of (negD d) e) := by
  intro Wx tk F O σ H env gd Q p
  refine TE.by (pe_un un_neg pe_of) ?_
  refine ha Wx tk F O σ H env gd _ (Pst.bind p fun d e1 v H1 O1 s f1 g1 r1 p1 => ?_)
  cases r1 with
  | int i => exact ⟨i, rfl, p1.ok g1 (.int _)⟩
  | _ => exact p1.elim

/-! ### lists of arguments, displays -/
def nilA : Env → Out (List Opd) := fun env => .ok [] env
def consA (f : Env → Out Opd) (fs : Env → Out (List Opd)) : Env → Out (List Opd) := fun env => (f env).bind fun o e => (fs e).bind fun os e2 => .ok (o :: os) e2
variable {es : List Expr} {fs : Env → Out (List Opd)}
theorem sa_nil : SA X [] nilA := fun Wx tk F O σ H env g Q p => TA.by pa_nil (p.ok g trivial)
theorem starEach_plain {e : Expr} (h : PySem.W.isStarred e = false) (env : PySem.Env) : starEach (e :: es) env = (false, eval e env) :: starEach es env := by
  cases e <;> first | rfl | (simp [PySem.W.isStarred] at h)
theorem sa_cons (hs : PySem.W.isStarred a = false) (ha : SO X a fa) (hr : SA X es fs) : SA X (a :: es) (consA fa fs) := by
  intro Wx tk F O σ H env gd Q p
  refine TA.by (pa_cons pe_of pa_of (starEach_plain hs _)) ?_
  refine ha Wx tk F O σ H env gd _ (Pst.bind p fun o e1 v H1 O1 s f1 g1 r1 p1 => ?_)
  refine hr Wx tk F O1 σ H1 e1 g1 _ (Pst.bind p1 fun os e2 vs H2 O2 s2 f2 g2 r2 p2 => ?_)
  exact p2.ok g2 ⟨(r1.fr f2.rd fun _ z => .inr z).mono fun _ z => s2.sx z, r2⟩
/-- *a: the items of a list or a tuple -/
def itemsD : D → Option (List D)
  | .lst xs => some xs
  | .tup xs => some xs
  | .scr xs => some xs
  | _ => none
def starA (f : Env → Out Opd) (fs : Env → Out (List Opd)) : Env → Out (List Opd) := fun env => (f env).bind fun o e => match (deref o e).bind itemsD with
  | some xs => (fs e).bind fun os e2 => .ok (xs.map .v ++ os) e2
  | none => .bad
theorem reposO_append {K : PySem.W.Frag} {σ : L2.St} {H : Hp} {S : Addr → Prop} : ∀ {vs : List V} {ds : List D} {ws : List V} {os : List Opd}, Reps K H S vs ds → ReposO K σ H S ws os → ReposO K σ H S (vs ++ ws) (ds.map .v ++ os)
  | _, _, _, _, .nil, h => h
  | _, _, _, _, .cons r t, h => ⟨r, reposO_append t h⟩
theorem sa_star {ps : Pos} (ha : SO X a fa) (hr : SA X es fs) : SA X (.Starred a ps :: es) (starA fa fs) := by
  intro Wx tk F O σ H env gd Q p
  refine TA.by (StX.pa_star pe_of pa_of) ?_
  refine ha Wx tk F O σ H env gd _ (Pst.bind p fun o e1 v H1 O1 s f1 g1 r1 p1 => ?_)
  cases q1 : deref o e1 with
  | none => simp only [q1] at p1; exact p1.elim
  | some d =>
    have b1 := g1.deref r1 q1
    cases q2 : itemsD d with
    | none => simp only [q1, Option.bind_some, q2] at p1; exact p1.elim
    | some xs =>
      simp only [q1, Option.bind_some, q2] at p1
      have key : ∃ p vs, v = .ref p ∧ (SqT X.K H1 p vs ∨ SqL X.K H1 p vs) ∧ Reps X.K H1 (Sx F.S0 O1) vs xs := by
        cases b1 <;> simp only [itemsD] at q2 <;> first | (cases q2; done) | (injection q2 with q2; subst q2)
        · rename_i h r; exact ⟨_, _, rfl, .inr (.inl (.inl h)), r⟩
        · rename_i h r; exact ⟨_, _, rfl, .inr h, r⟩
        · rename_i h r; exact ⟨_, _, rfl, .inl (sqT_of h), r⟩
      obtain ⟨q, vs, rfl, hq, rv⟩ := key
      refine ⟨q, vs, rfl, hq, ?_⟩
      refine hr Wx tk F O1 σ H1 e1 g1 _ (Pst.bind p1 fun os e2 ws H2 O2 s2 f2 g2 r2 p2 => ?_)
      exact p2.ok g2 (reposO_append (Reps.mono (fun _ z => s2.sx z) (Reps.fr f2.rd (fun _ z => .inr z) rv)) r2)
def valsO : List Opd → Option (List D)
  | [] => some []
  | .v d :: os => (valsO os).map (d :: ·)
  | .s _ :: _ => none
theorem valsO_reps {K : PySem.W.Frag} {σ : L2.St} {H : Hp} {S : Addr → Prop} : ∀ {vs : List V} {os : List Opd} {ds : List D}, ReposO K σ H S vs os → valsO os = some ds → Reps K H S vs ds
  | [], [], _, _, e => by cases e; exact .nil
  | _ :: _, .v d :: os, _, h, e => by
    simp only [valsO] at e
    cases q : valsO os with
    | none => rw [q] at e; cases e
    | some ds => rw [q] at e; injection e with e; subst e; exact .cons h.1 (valsO_reps h.2 q)
  | _ :: _, .s _ :: _, _, _, e => by cases e
def dispD (f : List D → D) (fs : Env → Out (List Opd)) : Env → Out D := fun env => (fs env).bind fun os e => match valsO os with
  | some ds => if lenOk ds.length then .ok (f ds) e else .bad
  | none => .bad
theorem se_tup {k : Nat} (h : SA X es fs) : SE X (.Tuple es k pos) (dispD .tup fs) := by
  intro Wx tk F O σ H env gd Q p
  refine TE.by (pe_tup pa_of) ?_
  refine h Wx tk F O σ H env gd _ (Pst.bind p fun os e1 vs H1 O1 s f1 g1 r1 p1 => ?_)
  cases q : valsO os with
  | none => simp only [q] at p1; exact p1.elim
  | some ds =>
    simp only [q] at p1
    have r := valsO_reps r1 q
    have p1' : Pst X.K X.mg Wx F O1 σ H1 (Rep X.K) Q (if lenOk ds.length then .ok (.tup ds) e1 else .bad) := p1
    split at p1'
    · rename_i hl
      exact ⟨by rw [r.length]; exact of_decide_eq_true hl, fun a ha => p1'.okN g1 (same_new ha) (tup_new ha (fun z hz => g1.dom hz) r)⟩
    · exact p1'.elim

/-! ### new lists -/
/-- as a value; and as a list that nobody else holds -/
def FreshV (K : PySem.W.Frag) (H0 : Hp) (H : Hp) (S : Addr → Prop) (v : V) (d : D) : Prop := Rep K H S v d ∧ (∀ ds, d = .lst ds → ∃ p vs, v = .ref p ∧ H0 p = none ∧ H p = some (.lst vs) ∧ Reps K H (fun a => S a ∨ a = p) vs ds)
/-- the frame with one thing more that is held elsewhere -/
def Fx.more (F : Fx) (D : Addr) : Fx := { F with S0 := fun a => F.S0 a ∨ a = D }
theorem Good.moreS {K : PySem.W.Frag} {F : Fx} {O : Own} {σ : L2.St} {H H' : Hp} {e : Env} {D0 : Addr} (g : Good K F O σ H e) (h : H D0 = none) (sm : Same H H') (h' : H' D0 ≠ none) : Good K (F.more D0) O σ H' e := by
  have hS : ∀ a, Sx (F.more D0).S0 O a → Sx F.S0 O a ∨ a = D0 := by
    rintro a ((z | z) | z)
    · exact .inl (.inl z)
    · exact .inr z
    · exact .inl (.inr z)
  have f : Fr (fun _ => False) H H' := Fr.same sm
  refine ⟨g.len, ?_, fun a z => f.dom a (g.d0 a z), g.inj, g.lo, fun i p z => .inl (g.ls i p z), fun i p z => .inl (g.ps i p z), g.ln, fun i => ?_⟩
  · rintro a (z | rfl)
    · exact f.dom a (g.s0 a z)
    · exact h'
  · have q := g.slot i
    cases c : e.get i with
    | no => rw [c] at q; exact q
    | val d => rw [c] at q; obtain ⟨q1, v, q2, q3⟩ := q; exact ⟨q1, v, q2, Rep.fr f.rd (fun _ z => z.elim) (Rep.free h hS q3)⟩
    | own par d =>
      rw [c] at q; obtain ⟨p, q1, q2, q3, q4, q5⟩ := q
      have hp : p ≠ D0 := fun z => g.dom (.inr ⟨i, q1⟩) (z ▸ h)
      refine ⟨p, q1, q2, (q3.free h hS).fr f.rd (fun _ z => z.elim) (fun u z => f.eq _ _ z fun w => w), fun hq => ⟨.inl (q4 hq).1, (q4 hq).2⟩, fun hq => ⟨?_, (q5 hq).2⟩⟩
      rintro (z | z)
      · exact (q5 hq).1 z
      · exact hp z
    | lck d =>
      rw [c] at q; obtain ⟨q1, v, q2, q3⟩ := q
      exact ⟨q1, v, q2, q3.elim (fun z => .inl (Rep.fr f.rd (fun _ z => z.elim) (Rep.free h hS z))) fun ⟨p, z1, z2, z3, z4⟩ => .inr ⟨p, z1, z2, .inl z3, (z4.free h hS).fr f.rd (fun _ z => z.elim) (fun _ _ z => z.elim)⟩⟩
    | lkd par d =>
      rw [c] at q; obtain ⟨q1, p, q2, q3, q4, q5, q6⟩ := q
      refine ⟨q1, p, q2, q3, .inl q4, ?_, q6⟩
      rcases q5 with ⟨xs, ds, rfl, w, r⟩ | ⟨xs, ds, rfl, w, r⟩ | ⟨xs, ds, rfl, w, r⟩
      · exact .inl ⟨_, _, rfl, f.eq _ _ w fun z => z, Reps.fr f.rd (fun _ z => z.elim) (Reps.free h hS r)⟩
      · exact .inr (.inl ⟨_, _, rfl, f.rd.1 _ _ w fun z => z, Reps.fr f.rd (fun _ z => z.elim) (Reps.free h hS r)⟩)
      · exact .inr (.inr ⟨_, _, rfl, f.rd.1 _ _ w fun z => z, Reps.fr f.rd (fun _ z => z.elim) (Reps.free h hS r)⟩)
theorem Fr.none {W : Addr → Prop} {H H' : Hp} (f : Fr W H H') {a : Addr} (h : H' a = none) : H a = none := by
  cases q : H a with
  | none => rfl
  | some o => exact absurd h (f.dom a (by rw [q]; simp))
/-- wanted behind an expression that may give a new list -/
def PstF (K : PySem.W.Frag) (mg : Str → Option Value) (Wx : WX) (F : Fx) (O : Own) (σ : L2.St) (H : Hp) (Q : VK) : Out D → Prop
  | .ok d e' => ∀ v H' O', Sub O' O → Fr (Oset O) H H' → Good K F O' σ H' e' → FreshV K H H' (Sx F.S0 O') v d → (∀ ds, d = .lst ds → ∀ p, v = .ref p → Good K (F.more p) O' σ H' e') → Q v H'
  | .exc x e' => ∀ cls dx H' O', Sub O' O → Fr (Oset O) H H' → Good K F O' σ H' e' → XRep mg cls dx x → Wx cls dx σ H'
  | .bad => False
section
variable {K : PySem.W.Frag} {mg : Str → Option Value} {Wx : WX} {F : Fx} {O O1 : Own} {σ : L2.St} {H H1 : Hp} {α β γ δ : Type} {Q : VK}
theorem PstF.step {o : Out D} (h : PstF K mg Wx F O σ H Q o) (s : Sub O1 O) (f : Fr (Oset O) H H1) : PstF K mg Wx F O1 σ H1 Q o := by
  cases o with
  | ok d e' => exact fun v H' O' s' f' g r k => h v H' O' (s'.trans s) (f.trans (f'.mono fun _ z => s.set z)) g ⟨r.1, fun ds e => by
      obtain ⟨p, vs, a1, a2, a3, a4⟩ := r.2 ds e
      exact ⟨p, vs, a1, f.none a2, a3, a4⟩⟩ k
  | exc x e' => exact fun cls dx H' O' s' f' g r => h cls dx H' O' (s'.trans s) (f.trans (f'.mono fun _ z => s.set z)) g r
  | bad => exact h
theorem PstF.bind {R1 : Hp → (Addr → Prop) → δ → γ → Prop} {Q1 : δ → Hp → Prop} {o : Out γ} {f : γ → Env → Out D}
    (h : PstF K mg Wx F O σ H Q (o.bind f))
    (k : ∀ d e1 v H1 O1, Sub O1 O → Fr (Oset O) H H1 → Good K F O1 σ H1 e1 → R1 H1 (Sx F.S0 O1) v d → PstF K mg Wx F O1 σ H1 Q (f d e1) → Q1 v H1) : Pst K mg Wx F O σ H R1 Q1 o := by
  cases o with
  | ok d e' => exact fun v H' O' s' f' g r => k d e' v H' O' s' f' g r (PstF.step h s' f')
  | exc x e' => exact h
  | bad => exact h
theorem PstF.okN {d : D} {e : Env} {v : V} {H' : Hp} (h : PstF K mg Wx F O σ H Q (.ok d e)) (g : Good K F O σ H e) (s : Same H H') (r : FreshV K H H' (Sx F.S0 O) v d) : Q v H' :=
  h v H' O .refl (Fr.same s) (g.same s) r fun ds e p e1 => by
    obtain ⟨p', vs, a1, a2, a3, a4⟩ := r.2 ds e
    rw [a1] at e1; cases e1
    exact g.moreS a2 s (by rw [a3]; simp)
theorem Pst.fv {o : Out D} (h : Pst K mg Wx F O σ H (Rep K) Q o) : PstF K mg Wx F O σ H Q o := by
  cases o with
  | ok d e => exact fun v H' O' s f g r k => h v H' O' s f g r.1
  | exc x e => exact h
  | bad => exact h
end
def SF (X : Cx) (e : Expr) (f : Env → Out D) : Prop :=
  ∀ Wx, Takes X Wx → ∀ F O σ H env, Good X.K F O σ H env → ∀ Q : VK, PstF X.K X.mg Wx F O σ H Q (f env) → TE.of X e σ H Q
theorem SF.se {e : Expr} {f : Env → Out D} (h : SF X e f) : SE X e f := fun Wx tk F O σ H env g Q p => h Wx tk F O σ H env g Q (Pst.fv p)
theorem SE.sf {e : Expr} {f : Env → Out D} (h : SE X e f) (n : ∀ env d e', f env = .ok d e' → ∀ ds, d ≠ .lst ds) : SF X e f := by
  intro Wx tk F O σ H env g Q p
  refine h Wx tk F O σ H env g Q ?_
  cases q : f env with
  | ok d e' =>
    rw [q] at p
    exact fun v H' O' s fr gd r => p v H' O' s fr gd ⟨r, fun ds e => absurd e (n env d e' q ds)⟩ fun ds e => absurd e (n env d e' q ds)
  | exc x e' => rw [q] at p; exact p
  | bad => rw [q] at p; exact p
theorem FreshR.freshV {K : PySem.W.Frag} {S : Addr → Prop} {H0 H H' : Hp} {v : V} {d : D} (f : FreshR K S H H' v d) (h : ∀ a, S a → H a ≠ none) (d0 : ∀ a, H a = none → H0 a = none) : FreshV K H0 H' S v d := by
  refine ⟨f.rep h, fun ds e => ?_⟩
  obtain ⟨p, vs, ds', e1, e2, e3, e4, r⟩ := f.ex
  rw [e] at e2; cases e2
  exact ⟨p, vs, e1, d0 _ e3, e4, r⟩
theorem sf_lst (h : SA X es fs) : SF X (.List es pos) (dispD .lst fs) := by
  intro Wx tk F O σ H env gd Q p
  refine TE.by (pe_lst pa_of) ?_
  refine h Wx tk F O σ H env gd _ (PstF.bind p fun os e1 vs H1 O1 s f1 g1 r1 p1 => ?_)
  cases q : valsO os with
  | none => simp only [q] at p1; exact p1.elim
  | some ds =>
    simp only [q] at p1
    have r := valsO_reps r1 q
    have p1' : PstF X.K X.mg Wx F O1 σ H1 Q (if lenOk ds.length then .ok (.lst ds) e1 else .bad) := p1
    split at p1'
    · rename_i hl
      exact ⟨by rw [r.length]; exact of_decide_eq_true hl, fun a ha => p1'.okN g1 (same_new ha) ((FreshR.mk' ha r).freshV (fun z hz => g1.dom hz) fun z hz => hz)⟩
    · exact p1'.elim
theorem sf_op {op : Operator} (ho : OpF X (binaryOp op) (binD op)) (ha : SO X a fa) (hb : SO X b fb) : SF X (.BinOp a op b pos) (bin2 (binD op) fa fb) := by
  intro Wx tk F O σ H env gd Q p
  refine TE.by (pe_op oprX pe_of pe_of) ?_
  refine ha Wx tk F O σ H env gd _ (PstF.bind p fun o1 e1 x H1 O1 s1 f1 g1 r1 p1 => ?_)
  refine hb Wx tk F O1 σ H1 e1 g1 _ (PstF.bind p1 fun o2 e2 y H2 O2 s2 f2 g2 r2 p2 => ?_)
  have r1' := (r1.fr f2.rd fun _ z => .inr z).mono (S' := Sx F.S0 O2) fun _ z => s2.sx z
  cases q1 : deref o1 e2 with
  | none => simp only [q1] at p2; exact p2.elim
  | some d1 =>
    cases q2 : deref o2 e2 with
    | none => simp only [q1, q2] at p2; exact p2.elim
    | some d2 =>
      have p2' : PstF X.K X.mg Wx F O2 σ H2 Q (Out.of (binD op d1 d2) e2) := by
        simp only [q1, q2] at p2; exact p2
      cases q3 : binD op d1 d2 with
      | none => rw [q3] at p2'; exact p2'.elim
      | some d =>
        rw [q3] at p2'
        by_cases hl : ∃ ds, d = .lst ds
        · obtain ⟨r, h1, h2⟩ := ho _ x y H2 d1 d2 d (g2.deref r1' q1) (g2.deref r2 q2) q3 hl
          exact ⟨r, h1, h2 Q fun v H' sm fr => p2'.okN g2 sm (fr.freshV (fun z hz => g2.dom hz) fun z hz => hz)⟩
        · obtain ⟨r, h1, h2⟩ := s_bin op _ x y H2 d1 d2 d (g2.deref r1' q1) (g2.deref r2 q2) q3
          exact ⟨r, h1, h2 Q fun v H' sm rep => p2'.okN g2 sm ⟨rep fun z hz => g2.dom hz, fun ds e => absurd ⟨ds, e⟩ hl⟩⟩

/-! ### subscripts, slices -/
theorem se_idx (hs : PlainIx b) (ha : SO X a fa) (hb : SO X b fb) : SE X (.Subscript a b pos) (bin2 D.idx fa fb) := by
  intro Wx tk F O σ H env gd Q p
  refine TE.by (pe_ix (r := fun x y H Q => ∃ r, IxR X r ∧ r x y H Q) ?_ pe_of pe_of hs) ?_
  · intro v0 sl pins s σ H x y v u Q I r1 r2 ⟨r, h1, h2⟩ hh
    exact h1 v0 sl pins s σ H x y v u Q I r1 r2 h2 hh
  · refine SO.two ha hb tk gd p fun x y H2 O2 e2 d1 d2 d g2 r1 r2 e k => ?_
    obtain ⟨r, h1, h2⟩ := s_idx _ x y H2 d1 d2 d r1 r2 e
    exact ⟨r, h1, h2 Q fun v rep => k v H2 (fun _ _ h => h) rep⟩
end
end Rp
set_option Elab.async false
set_option linter.all false
set_option maxRecDepth 100000
/-! RpG: slices, calls of built-ins. -/
namespace Rp
open PySem PySem.Spec PyProof.Rows L2

section
variable {X : Cx} {a b c : Expr} {fa fb fc : Env → Out Opd} {va vb vc : Env → Out D} {pos : Pos}
/-! ### slices -/
def cutL {α : Type} (xs : List α) (lo hi : Option Int) : List α := (xs.drop (HT.sIx xs.length 0 lo)).take (HT.sIx xs.length xs.length hi - HT.sIx xs.length 0 lo)
def D.cut : D → Option Int → Option Int → Option D
  | .lst xs, lo, hi => some (.lst (cutL xs lo hi))
  | .tup xs, lo, hi => some (.tup (cutL xs lo hi))
  | .str x, lo, hi => if lenOk x.length then some (.str (cutS x lo hi)) else none
  | _, _, _ => none
theorem Reps.cut {K : PySem.W.Frag} {H : Hp} {S : Addr → Prop} {vs : List V} {ds : List D} (r : Reps K H S vs ds) (lo hi : Option Int) : Reps K H S (cutV vs lo hi) (cutL ds lo hi) := by
  unfold cutV cutL
  rw [r.length]
  exact (r.drop _).take _
theorem sIx_le' (n : Nat) (o : Option Int) : HT.sIx n 0 o ≤ n := HT.sIx_le n 0 (Nat.zero_le _) o
/-- a slice's part: left out, or an int -/
def SP (X : Cx) (e : Option Expr) (f : Env → Out (Option Int)) : Prop :=
  ∀ Wx, Takes X Wx → ∀ F O σ H env, Good X.K F O σ H env → ∀ Q : Option Int → Hp → Prop, Pst X.K X.mg Wx F O σ H (fun _ _ b c => b = c) Q (f env) → ∃ t, PO X e t ∧ t σ H Q
def gapP : Env → Out (Option Int) := fun env => .ok none env
def asI : D → Option Int
  | .int i => some i
  | _ => none
def partP (f : Env → Out D) : Env → Out (Option Int) := fun env => (f env).bind fun d e => match asI d with
  | some i => .ok (some i) e
  | none => .bad
theorem sp_gap : SP X none gapP := fun Wx tk F O σ H env g Q p => ⟨_, po_none, p.ok g rfl⟩
theorem sp_part (ha : SE X a va) : SP X (some a) (partP va) := by
  intro Wx tk F O σ H env g Q p
  refine ⟨_, po_some pe_of, ?_⟩
  refine ha Wx tk F O σ H env g _ (Pst.bind p fun d e1 v H1 O1 s f1 g1 r1 p1 => ?_)
  cases r1 with
  | int i => exact ⟨i, rfl, p1.ok g1 rfl⟩
  | _ => exact p1.elim
def TO.of (X : Cx) (e : Option Expr) : TO := fun σ H Q => ∃ t, PO X e t ∧ t σ H Q
theorem po_of {e : Option Expr} : PO X e (TO.of X e) := ⟨fun pins s σ H Q I ⟨t, h, q⟩ => h.run pins s σ H Q I q⟩
def SlS (X : Cx) : Prop := ∀ S x H d1 lo hi d, RepB X.K H S x d1 → D.cut d1 lo hi = some d →
    ∃ r, SlR X r ∧ ∀ Q : VK, (∀ v H', Same H H' → ((∀ a, S a → H a ≠ none) → FreshV X.K H H' S v d) → Q v H') → r x lo hi H Q
theorem s_slice : SlS X := by
  intro S x H d1 lo hi d r1 e
  cases r1 with
  | lst h r =>
    simp only [D.cut] at e; injection e with e; subst e
    exact ⟨_, sl_list, fun Q k => ⟨_, _, rfl, .inl (.inl h), fun p hp => k _ _ (same_new hp) fun hs => (FreshR.mk' hp (r.cut lo hi)).freshV hs fun _ z => z⟩⟩
  | tup h r =>
    simp only [D.cut] at e; injection e with e; subst e
    refine ⟨_, sl_tupA, fun Q k => ⟨_, _, rfl, sqT_of h, fun hw => ?_, fun hw p hp => k _ _ (same_new hp) fun hs => ⟨tup_new hp hs (r.cut lo hi), fun _ e => by cases e⟩⟩⟩
    refine k _ _ (fun _ _ h => h) fun hs => ⟨?_, fun _ e => by cases e⟩
    have e2 : cutL _ lo hi = _ := show cutL _ lo hi = _ by
      unfold cutL
      rw [← r.length, hw.1, hw.2, List.drop_zero, Nat.sub_zero, r.length, List.take_length]
    rw [e2]
    exact .tup h r
  | str z =>
    simp only [D.cut] at e
    split at e
    · rename_i hz
      injection e with e; subst e
      exact ⟨_, sl_str, fun Q k => ⟨_, rfl, of_decide_eq_true hz, k _ _ (fun _ _ h => h) fun _ => ⟨.str _, fun _ e => by cases e⟩⟩⟩
    · cases e
  | _ => simp only [D.cut] at e; cases e
def sliceD (fa : Env → Out Opd) (flo fhi : Env → Out (Option Int)) : Env → Out D := fun env =>
  (fa env).bind fun o e1 => (flo e1).bind fun lo e2 => (fhi e2).bind fun hi e3 => Out.of ((deref o e3).bind fun d => d.cut lo hi) e3
theorem sf_slice {lo hi : Option Expr} {flo fhi : Env → Out (Option Int)} {p2 : Pos} (ha : SO X a fa) (hl : SP X lo flo) (hh : SP X hi fhi) : SF X (.Subscript a (.Slice lo hi none p2) pos) (sliceD fa flo fhi) := by
  intro Wx tk F O σ H env gd Q p
  refine TE.by (pe_slice (r := fun x lo hi H Q => ∃ r, SlR X r ∧ r x lo hi H Q) ?_ pe_of po_of po_of) ?_
  · intro pins s σ H x v vl vu lo hi sl Q I r1 h1 h2 h3 ⟨r, q1, q2⟩
    exact q1 pins s σ H x v vl vu lo hi sl Q I r1 h1 h2 h3 q2
  refine ha Wx tk F O σ H env gd _ (PstF.bind p fun o1 e1 x H1 O1 s1 f1 g1 r1 p1 => ?_)
  refine hl Wx tk F O1 σ H1 e1 g1 _ (PstF.bind p1 fun l e2 l' H2 O2 s2 f2 g2 r2 p2 => ?_)
  cases r2
  refine hh Wx tk F O2 σ H2 e2 g2 _ (PstF.bind p2 fun u e3 u' H3 O3 s3 f3 g3 r3 p3 => ?_)
  cases r3
  have r1' := ((r1.fr f2.rd fun _ z => .inr z).mono (S' := Sx F.S0 O2) fun _ z => s2.sx z)
  have r1'' := ((r1'.fr f3.rd fun _ z => .inr z).mono (S' := Sx F.S0 O3) fun _ z => s3.sx z)
  cases q1 : deref o1 e3 with
  | none => simp only [q1] at p3; exact p3.elim
  | some d1 =>
    have p3' : PstF X.K X.mg Wx F O3 σ H3 Q (Out.of (d1.cut l u) e3) := by simp only [q1] at p3; exact p3
    cases q2 : d1.cut l u with
    | none => rw [q2] at p3'; exact p3'.elim
    | some d =>
      rw [q2] at p3'
      obtain ⟨r, h1, h2⟩ := s_slice _ x H3 d1 l u d (g3.deref r1'' q1) q2
      refine ⟨r, h1, h2 Q fun v H' sm fr => p3'.okN g3 sm (fr fun z hz => g3.dom hz)⟩

/-! ### calls of built-ins by name -/
def RepBs (K : PySem.W.Frag) (H : Hp) (S : Addr → Prop) : List V → List D → Prop
  | [], [] => True
  | v :: vs, d :: ds => RepB K H S v d ∧ RepBs K H S vs ds
  | _, _ => False
def derefs : List Opd → Env → Option (List D)
  | [], _ => some []
  | o :: os, e => (deref o e).bind fun d => (derefs os e).map (d :: ·)
theorem Good.derefs {K : PySem.W.Frag} {F : Fx} {O : Own} {σ : L2.St} {H : Hp} {e : Env} (g : Good K F O σ H e) : ∀ {os : List Opd} {vs : List V} {ds : List D}, ReposO K σ H (Sx F.S0 O) vs os → Rp.derefs os e = some ds → RepBs K H (Sx F.S0 O) vs ds
  | [], [], _, _, h => by cases h; trivial
  | o :: os, v :: vs, _, r, h => by
    simp only [Rp.derefs] at h
    cases q1 : Rp.deref o e with
    | none => rw [q1] at h; cases h
    | some d =>
      cases q2 : Rp.derefs os e with
      | none => rw [q1, q2] at h; cases h
      | some ds =>
        rw [q1, q2] at h; injection h with h; subst h
        exact ⟨g.deref r.1 q1, g.derefs r.2 q2⟩
  | [], _ :: _, _, r, _ => r.elim
  | _ :: _, [], _, r, _ => r.elim
def CallS (X : Cx) (f : Value) (g : List D → Option D) : Prop :=
  ∀ S xs H ds d, RepBs X.K H S xs ds → g ds = some d →
    ∃ r, CallR X f r ∧ ∀ Q : VK, (∀ v H', Same H H' → ((∀ a, S a → H a ≠ none) → FreshV X.K H H' S v d) → Q v H') → r xs H Q
theorem callX {f : Value} : CallR X f (fun xs H Q => ∃ r, CallR X f r ∧ r xs H Q) := by
  intro pins s σ H xs us Q I rv ⟨r, h1, h2⟩
  exact h1 pins s σ H xs us Q I rv h2
def callD (g : List D → Option D) (fs : Env → Out (List Opd)) : Env → Out D := fun env => (fs env).bind fun os e => Out.of ((derefs os e).bind g) e
variable {es : List Expr} {fs : Env → Out (List Opd)} {x : Str} {pf : Pos}
theorem SA.call {f : Value} {g : List D → Option D} (hc : CallS X f g) (h : SA X es fs) {Wx : WX} (tk : Takes X Wx) {F : Fx} {O : Own} {σ : L2.St} {H : Hp} {env : Env} (gd : Good X.K F O σ H env) {Q : VK}
    (p : PstF X.K X.mg Wx F O σ H Q (callD g fs env)) : TA.of X es σ H fun vs H1 => ∃ r, CallR X f r ∧ r vs H1 Q := by
  refine h Wx tk F O σ H env gd _ (PstF.bind p fun os e1 vs H1 O1 s f1 g1 r1 p1 => ?_)
  cases q1 : derefs os e1 with
  | none => simp only [q1] at p1; exact p1.elim
  | some ds =>
    have p1' : PstF X.K X.mg Wx F O1 σ H1 Q (Out.of (g ds) e1) := by simp only [q1] at p1; exact p1
    cases q2 : g ds with
    | none => rw [q2] at p1'; exact p1'.elim
    | some d =>
      rw [q2] at p1'
      obtain ⟨r, h1, h2⟩ := hc _ vs H1 ds d (g1.derefs r1 q1) q2
      refine ⟨r, h1, h2 Q fun v H' sm fr => p1'.okN g1 sm (fr fun z hz => g1.dom hz)⟩
theorem pl_of (h : es.all (fun e => !PySem.W.isStarred e) = true) (pos : Pos) (env : PySem.Env) : (backTo pos (starEach es env)).any (·.1) = false := by
  have key : ∀ es : List Expr, es.all (fun e => !PySem.W.isStarred e) = true → (starEach es env).any (·.1) = false := by
    intro es
    induction es with
    | nil => intro _; rfl
    | cons e r ih =>
      intro h
      rw [List.all_cons, Bool.and_eq_true] at h
      rw [starEach_plain (by simpa using h.1), List.any_cons, ih h.2]
      rfl
  unfold backTo
  rw [List.any_map]
  exact key es h
theorem sf_callB {id : String} {g : List D → Option D} (hc : CallS X (.builtin id) g) (hg : Gl X x) (hm : X.mg x = none) (hv : bootBuiltins x = some (.builtin id)) (hn : x ≠ "__name__") (hdb : (x == ("__debug__" : Str)) = false)
    (hst : (a :: es).all (fun e => !PySem.W.isStarred e) = true) (h : SA X (a :: es) fs) : SF X (.Call (.Name x pf) (a :: es) [] pos) (callD g fs) := by
  intro Wx tk F O σ H env gd Q p
  rw [List.all_cons, Bool.and_eq_true] at hst
  exact TE.by (pe_callB callX hg hm hv pa_of hn hdb (starEach_plain (by simpa using hst.1) _) (pl_of hst.2 _ _)) (SA.call hc h tk gd p)
theorem sf_callTy {T : String} {g : List D → Option D} (hc : CallS X (.type T) g) (hg : Gl X x) (hm : X.mg x = none) (hv : bootBuiltins x = some (.type T)) (hn : x ≠ "__name__") (hdb : (x == ("__debug__" : Str)) = false)
    (hst : (a :: es).all (fun e => !PySem.W.isStarred e) = true) (h : SA X (a :: es) fs) : SF X (.Call (.Name x pf) (a :: es) [] pos) (callD g fs) := by
  intro Wx tk F O σ H env gd Q p
  rw [List.all_cons, Bool.and_eq_true] at hst
  exact TE.by (pe_callTy callX hg hm hv pa_of hn hdb (starEach_plain (by simpa using hst.1) _) (pl_of hst.2 _ _)) (SA.call hc h tk gd p)
end
end Rp
set_option Elab.async false
set_option linter.all false
set_option maxRecDepth 100000
/-! RpH: the built-ins, by data. -/
namespace Rp
open PySem PySem.Spec PyProof.Rows L2

section
variable {X : Cx}
theorem fv_flat {K : PySem.W.Frag} {H0 H : Hp} {S : Addr → Prop} {v : V} {d : D} (r : Rep K H S v d) (n : ∀ ds, d ≠ .lst ds) : FreshV K H0 H S v d := ⟨r, fun ds e => absurd e (n ds)⟩
def lenD : List D → Option D
  | [.lst xs] => some (.int xs.length)
  | [.tup xs] => some (.int xs.length)
  | [.scr xs] => some (.int xs.length)
  | [.str x] => if lenOk x.length then some (.int x.length) else none
  | _ => none
theorem rb1 {K : PySem.W.Frag} {H : Hp} {S : Addr → Prop} {xs : List V} {d : D} (r : RepBs K H S xs [d]) : ∃ v, xs = [v] ∧ RepB K H S v d := by
  match xs, r with
  | [v], r => exact ⟨v, rfl, r.1⟩
  | [], r => exact r.elim
  | _ :: _ :: _, r => exact r.2.elim
theorem rb2 {K : PySem.W.Frag} {H : Hp} {S : Addr → Prop} {xs : List V} {d d' : D} (r : RepBs K H S xs [d, d']) : ∃ v v', xs = [v, v'] ∧ RepB K H S v d ∧ RepB K H S v' d' := by
  match xs, r with
  | [v, w], r => exact ⟨v, w, rfl, r.1, r.2.1⟩
  | [], r => exact r.elim
  | [_], r => exact r.2.elim
  | _ :: _ :: _ :: _, r => exact r.2.2.elim
theorem c_len : CallS X (.builtin "len") lenD := by
  intro S xs H ds d r e
  unfold lenD at e
  split at e
  · injection e with e; subst e
    obtain ⟨v, rfl, r'⟩ := rb1 r
    cases r' with
    | lst h r => exact ⟨_, call_len, fun Q k => ⟨_, _, rfl, .inl ⟨_, .inl (.inl h), rfl⟩, by rw [r.length]; exact k _ _ (fun _ _ h => h) fun _ => fv_flat (.int _) (by intros; simp)⟩⟩
  · injection e with e; subst e
    obtain ⟨v, rfl, r'⟩ := rb1 r
    cases r' with
    | tup h r => exact ⟨_, call_len, fun Q k => ⟨_, _, rfl, .inr ⟨_, sqT_of h, rfl⟩, by rw [r.length]; exact k _ _ (fun _ _ h => h) fun _ => fv_flat (.int _) (by intros; simp)⟩⟩
  · injection e with e; subst e
    obtain ⟨v, rfl, r'⟩ := rb1 r
    cases r' with
    | scr h r => exact ⟨_, call_len, fun Q k => ⟨_, _, rfl, .inl ⟨_, h, rfl⟩, by rw [r.length]; exact k _ _ (fun _ _ h => h) fun _ => fv_flat (.int _) (by intros; simp)⟩⟩
  · split at e
    · rename_i hz
      injection e with e; subst e
      obtain ⟨v, rfl, r'⟩ := rb1 r
      cases r' with
      | str x => exact ⟨_, call_len, fun Q k => ⟨_, _, rfl, ⟨of_decide_eq_true hz, rfl⟩, k _ _ (fun _ _ h => h) fun _ => fv_flat (.int _) (by intros; simp)⟩⟩
    · cases e
  · cases e
def absD : List D → Option D
  | [.int i] => some (.int (if i < 0 then -i else i))
  | _ => none
theorem c_abs : CallS X (.builtin "abs") absD := by
  intro S xs H ds d r e
  unfold absD at e
  split at e
  · injection e with e; subst e
    obtain ⟨v, rfl, r'⟩ := rb1 r
    cases r'
    exact ⟨_, call_abs, fun Q k => ⟨_, rfl, k _ _ (fun _ _ h => h) fun _ => fv_flat (.int _) (by intros; simp)⟩⟩
  · cases e
/-- ints of a list -/
def intsD : List D → Option (List Int)
  | [] => some []
  | .int i :: ds => (intsD ds).map (i :: ·)
  | _ :: _ => none
theorem intsD_reps {K : PySem.W.Frag} {H : Hp} {S : Addr → Prop} : ∀ {vs : List V} {ds : List D} {ns : List Int}, Reps K H S vs ds → intsD ds = some ns → vs = ns.map V.int
  | _, _, _, .nil, e => by cases e; rfl
  | _, _, _, .cons r t, e => by
    cases r <;> simp only [intsD] at e <;> first | (cases e; done) | skip
    rename_i i
    cases q : intsD _ with
    | none => rw [q] at e; cases e
    | some ns => rw [q] at e; injection e with e; subst e; rw [intsD_reps t q]; rfl
def maxL : List Int → Option Int
  | [] => none
  | x :: xs => some (xs.foldl (fun m y => if y > m then y else m) x)
def minL : List Int → Option Int
  | [] => none
  | x :: xs => some (xs.foldl (fun m y => if y < m then y else m) x)
theorem maxL_is {ns : List Int} (h : 0 < ns.length) : ∃ m, maxL ns = some m ∧ m ∈ ns ∧ ∀ y ∈ ns, y ≤ m := by
  cases ns with
  | nil => simp at h
  | cons x xs =>
    refine ⟨_, rfl, ?_⟩
    clear h
    induction xs generalizing x with
    | nil => simp
    | cons y ys ih =>
      simp only [List.foldl_cons]
      by_cases c : y > x
      · rw [if_pos c]
        obtain ⟨h1, h2⟩ := ih y
        have hy := h2 y (by simp)
        refine ⟨List.mem_cons_of_mem _ h1, fun z hz => ?_⟩
        rcases List.mem_cons.mp hz with rfl | hz
        · omega
        · exact h2 z hz
      · rw [if_neg c]
        obtain ⟨h1, h2⟩ := ih x
        have hx := h2 x (by simp)
        refine ⟨?_, fun z hz => ?_⟩
        · rcases List.mem_cons.mp h1 with e | e
          · rw [e]; simp
          · exact List.mem_cons_of_mem _ (List.mem_cons_of_mem _ e)
        · rcases List.mem_cons.mp hz with rfl | hz
          · exact hx
          · rcases List.mem_cons.mp hz with rfl | hz
            · omega
            · exact h2 z (List.mem_cons_of_mem _ hz)
theorem minL_is {ns : List Int} (h : 0 < ns.length) : ∃ m, minL ns = some m ∧ m ∈ ns ∧ ∀ y ∈ ns, m ≤ y := by
  cases ns with
  | nil => simp at h
  | cons x xs =>
    refine ⟨_, rfl, ?_⟩
    clear h
    induction xs generalizing x with
    | nil => simp
    | cons y ys ih =>
      simp only [List.foldl_cons]
      by_cases c : y < x
      · rw [if_pos c]
        obtain ⟨h1, h2⟩ := ih y
        have hy := h2 y (by simp)
        refine ⟨List.mem_cons_of_mem _ h1, fun z hz => ?_⟩
        rcases List.mem_cons.mp hz with rfl | hz
        · omega
        · exact h2 z hz
      · rw [if_neg c]
        obtain ⟨h1, h2⟩ := ih x
        have hx := h2 x (by simp)
        refine ⟨?_, fun z hz => ?_⟩
        · rcases List.mem_cons.mp h1 with e | e
          · rw [e]; simp
          · exact List.mem_cons_of_mem _ (List.mem_cons_of_mem _ e)
        · rcases List.mem_cons.mp hz with rfl | hz
          · exact hx
          · rcases List.mem_cons.mp hz with rfl | hz
            · omega
            · exact h2 z (List.mem_cons_of_mem _ hz)
def maxD : List D → Option D
  | [.int i, .int j] => some (.int (if j > i then j else i))
  | [.lst xs] => ((intsD xs).bind maxL).map .int
  | _ => none
def minD : List D → Option D
  | [.int i, .int j] => some (.int (if j < i then j else i))
  | [.lst xs] => ((intsD xs).bind minL).map .int
  | _ => none
theorem maxL_pos {ns : List Int} {m : Int} (h : maxL ns = some m) : 0 < ns.length := by
  cases ns with
  | nil => cases h
  | cons => simp
theorem minL_pos {ns : List Int} {m : Int} (h : minL ns = some m) : 0 < ns.length := by
  cases ns with
  | nil => cases h
  | cons => simp
theorem c_max (hc : X.calm = true) : CallS X (.builtin "max") maxD := by
  intro S xs H ds d r e
  unfold maxD at e
  split at e
  · injection e with e; subst e
    obtain ⟨v, w, rfl, r1, r2⟩ := rb2 r
    cases r1; cases r2
    exact ⟨_, call_max2 hc, fun Q k => ⟨_, _, rfl, k _ _ (fun _ _ h => h) fun _ => fv_flat (.int _) (by intros; simp)⟩⟩
  · obtain ⟨v, rfl, r'⟩ := rb1 r
    cases r' with
    | lst h r =>
      cases q : intsD _ with
      | none => rw [q] at e; cases e
      | some bs =>
        rw [q] at e
        cases q2 : maxL bs with
        | none => simp [q2] at e
        | some m =>
          simp [q2] at e; subst e
          rw [intsD_reps r q] at h
          refine ⟨_, cr_max hc, fun Q k => ⟨_, bs, rfl, .inl (.inl h), maxL_pos q2, fun m' h1 h2 => ?_⟩⟩
          obtain ⟨m2, e1, h3, h4⟩ := maxL_is (maxL_pos q2)
          rw [q2] at e1; cases e1
          have : m' = m := Int.le_antisymm (h4 _ h1) (h2 _ h3)
          subst this
          exact k _ _ (fun _ _ h => h) fun _ => fv_flat (.int _) (by intros; simp)
  · cases e
theorem c_min (hc : X.calm = true) : CallS X (.builtin "min") minD := by
  intro S xs H ds d r e
  unfold minD at e
  split at e
  · injection e with e; subst e
    obtain ⟨v, w, rfl, r1, r2⟩ := rb2 r
    cases r1; cases r2
    exact ⟨_, call_min2 hc, fun Q k => ⟨_, _, rfl, k _ _ (fun _ _ h => h) fun _ => fv_flat (.int _) (by intros; simp)⟩⟩
  · obtain ⟨v, rfl, r'⟩ := rb1 r
    cases r' with
    | lst h r =>
      cases q : intsD _ with
      | none => rw [q] at e; cases e
      | some bs =>
        rw [q] at e
        cases q2 : minL bs with
        | none => simp [q2] at e
        | some m =>
          simp [q2] at e; subst e
          rw [intsD_reps r q] at h
          refine ⟨_, cr_min hc, fun Q k => ⟨_, bs, rfl, .inl (.inl h), minL_pos q2, fun m' h1 h2 => ?_⟩⟩
          obtain ⟨m2, e1, h3, h4⟩ := minL_is (minL_pos q2)
          rw [q2] at e1; cases e1
          have : m' = m := Int.le_antisymm (h2 _ h3) (h4 _ h1)
          subst this
          exact k _ _ (fun _ _ h => h) fun _ => fv_flat (.int _) (by intros; simp)
  · cases e
def bolsD : List D → Option (List Bool)
  | [] => some []
  | .bl b :: ds => (bolsD ds).map (b :: ·)
  | _ :: _ => none
theorem bolsD_reps {K : PySem.W.Frag} {H : Hp} {S : Addr → Prop} : ∀ {vs : List V} {ds : List D} {ns : List Bool}, Reps K H S vs ds → bolsD ds = some ns → vs = ns.map V.bl
  | _, _, _, .nil, e => by cases e; rfl
  | _, _, _, .cons r t, e => by
    cases r <;> simp only [bolsD] at e <;> first | (cases e; done) | skip
    rename_i i
    cases q : bolsD _ with
    | none => rw [q] at e; cases e
    | some ns => rw [q] at e; injection e with e; subst e; rw [bolsD_reps t q]; rfl
def allD : List D → Option D
  | [.lst xs] => (bolsD xs).map fun bs => .bl (bs.all id)
  | _ => none
theorem c_all (hc : X.calm = true) : CallS X (.builtin "all") allD := by
  intro S xs H ds d r e
  unfold allD at e
  split at e
  · obtain ⟨v, rfl, r'⟩ := rb1 r
    cases r' with
    | lst h r =>
      cases q : bolsD _ with
      | none => rw [q] at e; cases e
      | some bs =>
        rw [q] at e; injection e with e; subst e
        rw [bolsD_reps r q] at h
        exact ⟨_, cr_all hc, fun Q k => ⟨_, bs, rfl, .inl (.inl h), k _ _ (fun _ _ h => h) fun _ => fv_flat (.bl _) (by intros; simp)⟩⟩
  · cases e
def anyD : List D → Option D
  | [.lst xs] => (bolsD xs).map fun bs => .bl (bs.any id)
  | _ => none
theorem c_any (hc : X.calm = true) : CallS X (.builtin "any") anyD := by
  intro S xs H ds d r e
  unfold anyD at e
  split at e
  · obtain ⟨v, rfl, r'⟩ := rb1 r
    cases r' with
    | lst h r =>
      cases q : bolsD _ with
      | none => rw [q] at e; cases e
      | some bs =>
        rw [q] at e; injection e with e; subst e
        rw [bolsD_reps r q] at h
        exact ⟨_, cr_any hc, fun Q k => ⟨_, bs, rfl, .inl (.inl h), k _ _ (fun _ _ h => h) fun _ => fv_flat (.bl _) (by intros; simp)⟩⟩
  · cases e
def sumD : List D → Option D
  | [.lst xs] => (intsD xs).map fun ns => .int ns.sum
  | _ => none
theorem c_sum (hc : X.calm = true) : CallS X (.builtin "sum") sumD := by
  intro S xs H ds d r e
  unfold sumD at e
  split at e
  · obtain ⟨v, rfl, r'⟩ := rb1 r
    cases r' with
    | lst h r =>
      cases q : intsD _ with
      | none => rw [q] at e; cases e
      | some bs =>
        rw [q] at e; injection e with e; subst e
        rw [intsD_reps r q] at h
        exact ⟨_, cr_sum hc, fun Q k => ⟨_, bs, rfl, .inl (.inl h), k _ _ (fun _ _ h => h) fun _ => fv_flat (.int _) (by intros; simp)⟩⟩
  · cases e
def tupleD : List D → Option D
  | [.lst xs] => some (.tup xs)
  | [.tup xs] => some (.tup xs)
  | _ => none
theorem c_tuple : CallS X (.type "tuple") tupleD := by
  intro S xs H ds d r e
  unfold tupleD at e
  split at e
  · obtain ⟨v, rfl, r'⟩ := rb1 r
    injection e with e; subst e
    cases r' with
    | lst h r => exact ⟨_, call_tuple_of, fun Q k => ⟨_, _, rfl, .inl ⟨.inl (.inl h), fun l hl => k _ _ (same_new hl) fun hs => fv_flat (tup_new hl hs r) (by intros; simp)⟩⟩⟩
  · obtain ⟨v, rfl, r'⟩ := rb1 r
    injection e with e; subst e
    cases r' with
    | tup h r => exact ⟨_, call_tuple_of, fun Q k => ⟨_, _, rfl, .inr ⟨sqT_of h, k _ _ (fun _ _ h => h) fun _ => fv_flat (.tup h r) (by intros; simp)⟩⟩⟩
  · cases e
def listD : List D → Option D
  | [.lst xs] => some (.lst xs)
  | [.tup xs] => some (.lst xs)
  | [.scr xs] => some (.lst xs)
  | _ => none
theorem c_list : CallS X (.type "list") listD := by
  intro S xs H ds d r e
  unfold listD at e
  split at e
  · obtain ⟨v, rfl, r'⟩ := rb1 r
    injection e with e; subst e
    cases r' with
    | lst h r => exact ⟨_, call_list_of, fun Q k => ⟨_, _, rfl, .inl (.inl (.inl h)), fun l hl => k _ _ (same_new hl) fun hs => (FreshR.mk' hl r).freshV hs fun _ z => z⟩⟩
  · obtain ⟨v, rfl, r'⟩ := rb1 r
    injection e with e; subst e
    cases r' with
    | tup h r => exact ⟨_, call_list_of, fun Q k => ⟨_, _, rfl, .inr (sqT_of h), fun l hl => k _ _ (same_new hl) fun hs => (FreshR.mk' hl r).freshV hs fun _ z => z⟩⟩
  · obtain ⟨v, rfl, r'⟩ := rb1 r
    injection e with e; subst e
    cases r' with
    | scr h r => exact ⟨_, call_list_of, fun Q k => ⟨_, _, rfl, .inl h, fun l hl => k _ _ (same_new hl) fun hs => (FreshR.mk' hl r).freshV hs fun _ z => z⟩⟩
  · cases e
def intD : List D → Option D
  | [.int i] => some (.int i)
  | [.bl b] => some (.int (if b then 1 else 0))
  | [.str x] => if decide (x.length ≤ 640) then (PySem.intText? x).map .int else none
  | _ => none
theorem c_int : CallS X (.type "int") intD := by
  intro S xs H ds d r e
  unfold intD at e
  split at e
  · obtain ⟨v, rfl, r'⟩ := rb1 r
    injection e with e; subst e
    cases r'
    exact ⟨_, call_int1, fun Q k => .inl ⟨_, rfl, k _ _ (fun _ _ h => h) fun _ => fv_flat (.int _) (by intros; simp)⟩⟩
  · obtain ⟨v, rfl, r'⟩ := rb1 r
    injection e with e; subst e
    cases r'
    exact ⟨_, call_int1, fun Q k => .inr ⟨_, rfl, k _ _ (fun _ _ h => h) fun _ => fv_flat (.int _) (by intros; simp)⟩⟩
  · split at e
    · rename_i hz
      obtain ⟨v, rfl, r'⟩ := rb1 r
      cases r'
      cases q : PySem.intText? _ with
      | none => rw [q] at e; cases e
      | some n =>
        rw [q] at e; injection e with e; subst e
        exact ⟨_, call_int_str, fun Q k => ⟨_, n, rfl, q, of_decide_eq_true hz, k _ _ (fun _ _ h => h) fun _ => fv_flat (.int _) (by intros; simp)⟩⟩
    · cases e
  · cases e
def strD : List D → Option D
  | [.int i] => if decide (i.natAbs.log2 < 1920) then some (.str (toString i)) else none
  | _ => none
theorem c_str : CallS X (.type "str") strD := by
  intro S xs H ds d r e
  unfold strD at e
  split at e
  · split at e
    · rename_i hz
      obtain ⟨v, rfl, r'⟩ := rb1 r
      injection e with e; subst e
      cases r'
      exact ⟨_, call_str_int, fun Q k => ⟨_, rfl, of_decide_eq_true hz, k _ _ (fun _ _ h => h) fun _ => fv_flat (.str _) (by intros; simp)⟩⟩
    · cases e
  · cases e
end
end Rp
set_option Elab.async false
set_option linter.all false
set_option maxRecDepth 100000
/-! RpI: methods of texts, f-strings, isinstance. -/
namespace Rp
open PySem PySem.Spec PyProof.Rows L2

section
variable {X : Cx} {a b c : Expr} {fa fb fc : Env → Out Opd} {va vb vc : Env → Out D} {pos apos : Pos}
/-! ### methods of texts with one argument -/
def MtS (X : Cx) (id : String) (g : Str → D → Option D) : Prop :=
  ∀ S y H z d2 d, RepB X.K H S y d2 → g z d2 = some d →
    ∃ r, MtR X id r ∧ ∀ Q : VK, (∀ v H', Same H H' → ((∀ a, S a → H a ≠ none) → FreshV X.K H H' S v d) → Q v H') → r (.str z) [y] H Q
theorem mtX {id : String} : MtR X id (fun x xs H Q => ∃ r, MtR X id r ∧ r x xs H Q) := by
  intro pins s σ H x xs v us Q I r1 rv ⟨r, h1, h2⟩
  exact h1 pins s σ H x xs v us Q I r1 rv h2
def isStr : D → Option Str
  | .str z => some z
  | _ => none
def strM (g : Str → D → Option D) (fa fb : Env → Out Opd) : Env → Out D := fun env => (fa env).bind fun o e1 => match (deref o e1).bind isStr with
  | some z => (fb e1).bind fun o2 e2 => Out.of ((deref o2 e2).bind (g z)) e2
  | none => .bad
theorem isStr_of {K : PySem.W.Frag} {H : Hp} {S : Addr → Prop} {v : V} {d : D} {z : Str} (r : RepB K H S v d) (e : isStr d = some z) : v = .str z := by
  cases r <;> simp only [isStr] at e <;> first | (cases e; done) | (injection e with e; subst e; rfl)
theorem sf_m1 {id : String} {name : Str} {g : Str → D → Option D} (slot : PySem.Slot "str" name id) (ty : typeOf (.builtin id) = pure (.type "method_descriptor")) (hm : MtS X id g) (hst : PySem.W.isStarred b = false)
    (hbase : attributeBase a name X.env (eval a X.env) = eval a X.env) (hline : (apos.endLine == pos.line) = true) (ha : SO X a fa) (hb : SO X b fb) : SF X (.Call (.Attribute a name apos) [b] [] pos) (strM g fa fb) := by
  intro Wx tk F O σ H env gd Q p
  refine TE.by (pe_m1 slot ty mtX pe_of pe_of (starEach_plain hst _) hbase hline) ?_
  refine ha Wx tk F O σ H env gd _ (PstF.bind p fun o1 e1 x H1 O1 s1 f1 g1 r1 p1 => ?_)
  cases q1 : deref o1 e1 with
  | none => simp only [q1] at p1; exact p1.elim
  | some d1 =>
    cases q2 : isStr d1 with
    | none => simp only [q1, Option.bind_some, q2] at p1; exact p1.elim
    | some z =>
      simp only [q1, Option.bind_some, q2] at p1
      have ex := isStr_of (g1.deref r1 q1) q2
      subst ex
      refine ⟨⟨z, rfl⟩, ?_⟩
      refine hb Wx tk F O1 σ H1 e1 g1 _ (PstF.bind p1 fun o2 e2 y H2 O2 s2 f2 g2 r2 p2 => ?_)
      cases q3 : deref o2 e2 with
      | none => simp only [q3] at p2; exact p2.elim
      | some d2 =>
        have p2' : PstF X.K X.mg Wx F O2 σ H2 Q (Out.of (g z d2) e2) := by simp only [q3] at p2; exact p2
        cases q4 : g z d2 with
        | none => rw [q4] at p2'; exact p2'.elim
        | some d =>
          rw [q4] at p2'
          obtain ⟨r, h1, h2⟩ := hm _ y H2 z d2 d (g2.deref r2 q3) q4
          refine ⟨r, h1, h2 Q fun v H' sm fr => p2'.okN g2 sm (fr fun z hz => g2.dom hz)⟩
def findD (z : Str) : D → Option D
  | .str y => some (.int (Txt.find z y))
  | _ => none
theorem m_find : MtS X "str.find" findD := by
  intro S y H z d2 d r e
  cases r <;> simp only [findD] at e <;> first | (cases e; done) | skip
  injection e with e; subst e
  exact ⟨_, mt_find, fun Q k => ⟨_, _, rfl, rfl, k _ _ (fun _ _ h => h) fun _ => fv_flat (.int _) (by intros; simp)⟩⟩
def countD (z : Str) : D → Option D
  | .str y => some (.int (Txt.count z y))
  | _ => none
theorem m_count : MtS X "str.count" countD := by
  intro S y H z d2 d r e
  cases r <;> simp only [countD] at e <;> first | (cases e; done) | skip
  injection e with e; subst e
  exact ⟨_, mt_count, fun Q k => ⟨_, _, rfl, rfl, k _ _ (fun _ _ h => h) fun _ => fv_flat (.int _) (by intros; simp)⟩⟩
def stripD (z : Str) : D → Option D
  | .str y => if lenOk z.length then some (.str (Txt.stripChars z y)) else none
  | _ => none
theorem m_strip : MtS X "str.strip" stripD := by
  intro S y H z d2 d r e
  cases r <;> simp only [stripD] at e <;> first | (cases e; done) | skip
  split at e
  · rename_i hz
    injection e with e; subst e
    exact ⟨_, mt_stripChars, fun Q k => ⟨_, _, rfl, rfl, of_decide_eq_true hz, k _ _ (fun _ _ h => h) fun _ => fv_flat (.str _) (by intros; simp)⟩⟩
  · cases e
def splitD (z : Str) : D → Option D
  | .str y => if !(y.length == 0) && lenOk (z.length + 2) then some (.lst ((Txt.split z y).map .str)) else none
  | _ => none
theorem reps_strs {K : PySem.W.Frag} {H : Hp} {S : Addr → Prop} : ∀ ys : List Str, Reps K H S (ys.map V.str) (ys.map D.str)
  | [] => .nil
  | y :: ys => .cons (.str y) (reps_strs ys)
theorem m_split : MtS X "str.split" splitD := by
  intro S y H z d2 d r e
  cases r <;> simp only [splitD] at e <;> first | (cases e; done) | skip
  split at e
  · rename_i hz
    injection e with e; subst e
    rw [Bool.and_eq_true] at hz
    refine ⟨_, mt_split, fun Q k => ⟨_, _, rfl, rfl, by simpa using hz.1, of_decide_eq_true hz.2, fun p hp => k _ _ (same_new hp) fun hs => (FreshR.mk' hp (reps_strs _)).freshV hs fun _ z => z⟩⟩
  · cases e
def strsD : List D → Option (List Str)
  | [] => some []
  | .str x :: ds => (strsD ds).map (x :: ·)
  | _ :: _ => none
theorem strsD_reps {K : PySem.W.Frag} {H : Hp} {S : Addr → Prop} : ∀ {vs : List V} {ds : List D} {ns : List Str}, Reps K H S vs ds → strsD ds = some ns → vs = ns.map V.str
  | _, _, _, .nil, e => by cases e; rfl
  | _, _, _, .cons r t, e => by
    cases r <;> simp only [strsD] at e <;> first | (cases e; done) | skip
    rename_i i
    cases q : strsD _ with
    | none => rw [q] at e; cases e
    | some ns => rw [q] at e; injection e with e; subst e; rw [strsD_reps t q]; rfl
def joinD (z : Str) : D → Option D
  | .lst xs => match strsD xs with
    | some ys => if decide ((ys.map (·.length)).sum + ys.length * z.length ≤ 16777216) then some (.str (Txt.join z ys)) else none
    | none => none
  | _ => none
theorem m_join : MtS X "str.join" joinD := by
  intro S y H z d2 d r e
  cases r <;> simp only [joinD] at e <;> first | (cases e; done) | skip
  rename_i h r
  cases q : strsD _ with
  | none => rw [q] at e; cases e
  | some ys =>
    rw [q] at e
    simp only at e
    split at e
    · rename_i hz
      injection e with e; subst e
      rw [strsD_reps r q] at h
      exact ⟨_, mt_join, fun Q k => ⟨_, _, ys, rfl, rfl, .inl (.inl (.inl h)), of_decide_eq_true hz, k _ _ (fun _ _ h => h) fun _ => fv_flat (.str _) (by intros; simp)⟩⟩
    · cases e

/-! ### f-strings -/
def fmtD : D → Option Str
  | .str y => if lenOk y.length then some y else none
  | .int i => if decide (i.natAbs.log2 < 1920) then some (toString i) else none
  | _ => none
/-- the pieces, one behind the other -/
def SJ (X : Cx) (es : List Expr) (f : Str → Env → Out Str) : Prop :=
  ∃ ts, PJ X es ts ∧ ∀ Wx, Takes X Wx → ∀ F O σ H env, Good X.K F O σ H env → ∀ acc (Q : Str → Hp → Prop), Pst X.K X.mg Wx F O σ H (fun _ _ b c => b = c) Q (f acc env) → tJs ts acc σ H Q
theorem sj_nil : SJ X [] (fun acc env => .ok acc env) := ⟨_, .nil, fun Wx tk F O σ H env g acc Q p => p.ok g rfl⟩
theorem sj_const {x : Str} {j : Nat} {es : List Expr} {f : Str → Env → Out Str} (h : SJ X es f) : SJ X (.Constant (.str x) j pos :: es) (fun acc env => if lenOk (acc ++ x).length then f (acc ++ x) env else .bad) := by
  obtain ⟨ts, h1, h2⟩ := h
  refine ⟨_, .cons pe_str h1, fun Wx tk F O σ H env g acc Q p => ?_⟩
  have p' : Pst X.K X.mg Wx F O σ H (fun _ _ b c => b = c) Q (if lenOk (acc ++ x).length then f (acc ++ x) env else .bad) := p
  split at p'
  · rename_i hl
    exact ⟨x, rfl, of_decide_eq_true hl, h2 Wx tk F O σ H env g _ Q p'⟩
  · exact p'.elim
theorem sj_fmt {es : List Expr} {f : Str → Env → Out Str} (ha : SE X a va) (h : SJ X es f) : SJ X (.FormattedValue a (-1) none pos :: es)
    (fun acc env => (va env).bind fun d e => match fmtD d with | some y => if lenOk (acc ++ y).length then f (acc ++ y) e else .bad | none => .bad) := by
  obtain ⟨ts, h1, h2⟩ := h
  refine ⟨_, .cons (pe_fmt pe_of) h1, fun Wx tk F O σ H env g acc Q p => ?_⟩
  refine ha Wx tk F O σ H env g _ (Pst.bind p fun d e1 v H1 O1 s f1 g1 r1 p1 => ?_)
  cases q : fmtD d with
  | none => simp only [q] at p1; exact p1.elim
  | some y =>
    simp only [q] at p1
    have p' : Pst X.K X.mg Wx F O1 σ H1 (fun _ _ b c => b = c) Q (if lenOk (acc ++ y).length then f (acc ++ y) e1 else .bad) := p1
    split at p'
    · rename_i hl
      have fin : ∃ y' : Str, V.str y = .str y' ∧ (acc ++ y').length ≤ sizeLine ∧ tJs ts (acc ++ y') σ H1 Q := ⟨y, rfl, of_decide_eq_true hl, (fun t => h2 Wx tk F O1 σ H1 e1 g1 _ Q t) p'⟩
      cases r1 <;> simp only [fmtD] at q <;> first | (cases q; done) | skip
      · split at q
        · rename_i hi; injection q with q; subst q; exact .inr ⟨_, rfl, of_decide_eq_true hi, fin⟩
        · cases q
      · split at q
        · rename_i hi; injection q with q; subst q; exact .inl ⟨_, rfl, of_decide_eq_true hi, fin⟩
        · cases q
    · exact p'.elim
def joinF (f : Str → Env → Out Str) : Env → Out D := fun env => (f Str.empty env).bind fun z e => .ok (.str z) e
theorem se_joined {es : List Expr} {f : Str → Env → Out Str} (h : SJ X (a :: b :: es) f) : SE X (.JoinedStr (a :: b :: es) pos) (joinF f) := by
  obtain ⟨ts, h1, h2⟩ := h
  intro Wx tk F O σ H env g Q p
  refine TE.by (pe_joined h1) ?_
  exact h2 Wx tk F O σ H env g _ _ (Pst.bind p fun d e1 v H1 O1 s f1 g1 r1 p1 => by subst r1; exact p1.ok g1 (.str _))

/-! ### isinstance against built-in types -/
def D.tyN : D → Option String
  | .non => some "NoneType"
  | .bl _ => some "bool"
  | .int _ => some "int"
  | .str _ => some "str"
  | .lst _ => some "list"
  | .tup _ => some "tuple"
  | .dct _ _ => some "dict"
  | .dctT _ _ => none
  | .scr _ => some "list"
  | .obj _ _ => none
theorem RepB.ty {K : PySem.W.Frag} {H : Hp} {S : Addr → Prop} {v : V} {d : D} {t : String} (r : RepB K H S v d) (e : d.tyN = some t) : TyX K H v (.type t) := by
  cases r <;> simp only [D.tyN] at e <;> first | (cases e; done) | (injection e with e; subst e)
  · exact .base .non
  · exact .base (.bl _)
  · exact .base (.int _)
  · exact .base (.str _)
  · rename_i h _; exact .base (.lst h)
  · rename_i h _
    rcases h with (h | ⟨o, h⟩) | ⟨o, its, n, h1, h2, _⟩
    · exact .base (.lst h)
    · exact .base (.frz h)
    · exact .kList h1 h2
  · rename_i h _
    rcases h with ⟨h | ⟨o, h⟩, _⟩ | ⟨o, its, n, h1, h2, _⟩
    · exact .base (.tup h)
    · exact .fTuple h
    · exact .kTuple h1 h2
  · rename_i h _
    rcases h with h | ⟨o, h⟩
    · exact .base (.dK h)
    · exact .fDict h
/-- the answer by type names: T (int takes bools) -/
def isTy (t : String) : List String → Option Bool
  | [] => some false
  | T :: Ts => match kitB t T with
    | some true => some true
    | some false => isTy t Ts
    | none => none
theorem isTy_any {K : PySem.W.Frag} {t : String} : ∀ {Ts : List String} {b : Bool}, isTy t Ts = some b → PySem.W.kitAny K (.type t) (Ts.map Value.type) = some b
  | [], b, e => by cases e; rfl
  | T :: Ts, b, e => by
    simp only [isTy] at e
    cases q : kitB t T with
    | none => rw [q] at e; cases e
    | some k =>
      rw [q] at e
      cases k with
      | true => injection e with e; subst e; exact kitAny_cons (kit_ty q) (fun h => by cases h) fun _ => rfl
      | false => exact kitAny_cons (kit_ty q) (fun _ => isTy_any e) fun h => by cases h
def isiD (Ts : List String) (fa : Env → Out Opd) : Env → Out D := fun env => (fa env).bind fun o e => Out.of ((((deref o e).bind D.tyN).bind fun t => isTy t Ts).map .bl) e
/-- a built-in type's name -/
structure TyName (X : Cx) (x : Str) (T : String) : Prop where
  gl : Gl X x
  mg : X.mg x = none
  bt : bootBuiltins x = some (.type T)
  nn : x ≠ "__name__"
  db : (x == ("__debug__" : Str)) = false
theorem TyName.pe {x : Str} {T : String} (h : TyName X x T) {pos : Pos} : PE X (.Name x pos) (tC (.ty T)) := pe_bltn h.gl h.mg h.bt rfl h.nn h.db
variable {pf px ps : Pos}
theorem isiD_cases {Ts : List String} {o1 : Opd} {e1 : Env} {K : PySem.W.Frag} {mg : Str → Option Value} {Wx : WX} {F : Fx} {O1 : Own} {σ : L2.St} {H1 : Hp} {Q : VK} (p1 : Pst K mg Wx F O1 σ H1 (Rep K) Q (Out.of ((((deref o1 e1).bind D.tyN).bind fun t => isTy t Ts).map .bl) e1)) :
    ∃ d t k, deref o1 e1 = some d ∧ d.tyN = some t ∧ isTy t Ts = some k ∧ Pst K mg Wx F O1 σ H1 (Rep K) Q (.ok (.bl k) e1) := by
  cases q1 : deref o1 e1 with
  | none => simp only [q1] at p1; exact p1.elim
  | some d =>
    cases q2 : d.tyN with
    | none => simp only [q1, Option.bind_some, q2] at p1; exact p1.elim
    | some t =>
      cases q3 : isTy t Ts with
      | none => simp only [q1, Option.bind_some, q2, q3] at p1; exact p1.elim
      | some k => simp only [q1, Option.bind_some, q2, q3] at p1; exact ⟨d, t, k, rfl, q2, q3, p1⟩
theorem se_isi {fx x : Str} {T : String} (hg : Gl X fx) (hm : X.mg fx = none) (hv : bootBuiltins fx = some (.builtin "isinstance")) (hn : fx ≠ "__name__") (hdb : (fx == ("__debug__" : Str)) = false)
    (hst : PySem.W.isStarred a = false) (ht : TyName X x T) (ha : SO X a fa) : SE X (.Call (.Name fx pf) [a, .Name x px] [] pos) (isiD [T] fa) := by
  intro Wx tk F O σ H env gd Q p
  refine TE.by (pe_callB call_isi hg hm hv (pa_cons pe_of (pa_cons ht.pe pa_nil) (starEach_plain hst _)) hn hdb (starEach_plain hst _) rfl) ?_
  refine ha Wx tk F O σ H env gd _ (Pst.bind p fun o1 e1 v H1 O1 s1 f1 g1 r1 p1 => ?_)
  obtain ⟨d, t, k, q1, q2, q3, p1⟩ := isiD_cases p1
  refine ⟨v, .ty T, .type t, .type T, k, rfl, .ty T, (g1.deref r1 q1).ty q2, kit_ty ?_, p1.ok g1 (.bl _)⟩
  simp only [isTy] at q3
  cases q : kitB t T with
  | none => rw [q] at q3; cases q3
  | some b => rw [q] at q3; cases b <;> (injection q3 with q3; rw [← q3])
theorem paired_ty : ∀ Ts : List String, Paired ClsV (Ts.map V.ty) (Ts.map Value.type)
  | [] => .nil
  | T :: Ts => .cons (.ty T) (paired_ty Ts)
/-- names of built-in types, as a tuple's items -/
inductive TyNames (X : Cx) : List Expr → List String → Prop where
  | nil : TyNames X [] []
  | cons {x : Str} {T : String} {px : Pos} {es : List Expr} {Ts : List String} (h : TyName X x T) (r : TyNames X es Ts) : TyNames X (.Name x px :: es) (T :: Ts)
theorem TyNames.pa : ∀ {es : List Expr} {Ts : List String}, TyNames X es Ts → PA X es (fun σ H Q => Q (Ts.map V.ty) H)
  | _, _, .nil => pa_nil
  | _, _, .cons h r => pa_cons h.pe r.pa
theorem TyNames.len : ∀ {es : List Expr} {Ts : List String}, TyNames X es Ts → es.length = Ts.length
  | _, _, .nil => rfl
  | _, _, .cons _ r => by simp [r.len]
theorem se_isiT {fx : Str} {es : List Expr} {Ts : List String} {kk : Nat} (hg : Gl X fx) (hm : X.mg fx = none) (hv : bootBuiltins fx = some (.builtin "isinstance")) (hn : fx ≠ "__name__") (hdb : (fx == ("__debug__" : Str)) = false)
    (hst : PySem.W.isStarred a = false) (ht : TyNames X es Ts) (hl : Ts.length ≤ sizeLine) (ha : SO X a fa) : SE X (.Call (.Name fx pf) [a, .Tuple es kk px] [] pos) (isiD Ts fa) := by
  intro Wx tk F O σ H env gd Q p
  refine TE.by (pe_callB call_isiT hg hm hv (pa_cons pe_of (pa_cons (pe_tup ht.pa) pa_nil) (starEach_plain hst _)) hn hdb (starEach_plain hst _) rfl) ?_
  refine ha Wx tk F O σ H env gd _ (Pst.bind p fun o1 e1 v H1 O1 s1 f1 g1 r1 p1 => ?_)
  obtain ⟨d, t, k, q1, q2, q3, p1⟩ := isiD_cases p1
  refine ⟨by simpa using hl, fun q hq => ?_⟩
  have sm := same_new (o := HO.tup (Ts.map V.ty)) hq
  have b1 := (g1.deref r1 q1).fr (W := fun _ => False) (Fr.same sm).rd (fun _ z => z.elim) (fun _ _ z => z)
  exact ⟨v, q, Ts.map V.ty, .type t, Ts.map Value.type, k, rfl, upd_same, paired_ty Ts, b1.ty q2, isTy_any q3, p1.okN g1 sm (.bl _)⟩
end
end Rp
set_option Elab.async false
set_option linter.all false
set_option maxRecDepth 100000
/-! RpJ: targets; what a loop walks. -/
namespace Rp
open PySem PySem.Spec PyProof.Rows L2

section
variable {X : Cx}
/-! ### a name is stored -/
theorem getD_set_self {σ : L2.St} {i : Nat} {x : Option V} (h : i < σ.length) : (σ.set i x).getD i none = x := by
  rw [List.getD_eq_getElem?_getD, List.getElem?_set_self h]; rfl
theorem getD_set_ne {σ : L2.St} {i j : Nat} {x : Option V} (h : i ≠ j) : (σ.set i x).getD j none = σ.getD j none := by
  rw [List.getD_eq_getElem?_getD, List.getD_eq_getElem?_getD, List.getElem?_set_ne h]
theorem SlotOk.mono {K : PySem.W.Frag} {F : Fx} {S S' : Addr → Prop} {Oi Pi Li : Option Addr} {H : Hp} {c : Option V} {s : Slot} (h : ∀ a, S' a → S a) (q : SlotOk K F S Oi Pi Li H c s) : SlotOk K F S' Oi Pi Li H c s := by
  cases s with
  | no => exact q
  | val d => obtain ⟨a1, v, a2, a3⟩ := q; exact ⟨a1, v, a2, Rep.mono h a3⟩
  | own par d => obtain ⟨p, a1, a2, a3, a4⟩ := q; exact ⟨p, a1, a2, a3.mono h, a4⟩
  | lck d => obtain ⟨a1, v, a2, a3⟩ := q; exact ⟨a1, v, a2, a3.elim (fun z => .inl (Rep.mono h z)) fun ⟨p', z1, z2, z3, z4⟩ => .inr ⟨p', z1, z2, z3, z4.mono h⟩⟩
  | lkd par d => obtain ⟨a1, p', a2, a3, a4, a5, a6⟩ := q; exact ⟨a1, p', a2, a3, a4, a5.mono h, a6⟩
theorem Good.setVal {K : PySem.W.Frag} {F : Fx} {O : Own} {σ : L2.St} {H : Hp} {e : Env} {i : Nat} {d : D} {v : V} (g : Good K F O σ H e) (r : Rep K H (Sx F.S0 O) v d) (h : i < e.length) (hk : (e.get i).isLk = false) :
    Good K F (O.drop i) (σ.set i (some v)) H (e.set i (.val d)) := by
  have hm : ∀ a, Sx F.S0 (O.drop i) a → Sx F.S0 O a := fun a z => Own.drop_sub.sx z
  refine ⟨by rw [List.length_set, List.length_set]; exact g.len, g.s0, g.d0, fun a b c h1 h2 => ?_, fun a b c h1 h2 => g.lo a b c h1 (by unfold Own.drop at h2; split at h2; cases h2; exact h2), g.ls, g.ps, fun j a z => ?_, fun j => ?_⟩
  · refine g.inj a b c ?_ ?_
    · unfold Own.drop at h1; split at h1; cases h1; exact h1
    · unfold Own.drop at h2; split at h2; cases h2; exact h2
  · have := g.ln j a z
    by_cases hj : j = i
    · subst hj; rw [hk] at this; cases this
    · rw [get_set_ne (Ne.symm hj)]; exact this
  · by_cases hj : j = i
    · subst hj
      rw [get_set_self h, getD_set_self (by rw [← g.len]; exact h)]
      exact ⟨by unfold Own.drop; rw [if_pos rfl], v, rfl, Rep.mono hm r⟩
    · rw [get_set_ne (Ne.symm hj), getD_set_ne (Ne.symm hj)]
      have ej : (O.drop i) j = O j := by unfold Own.drop; rw [if_neg hj]
      rw [ej]
      exact (g.slot j).mono hm

/-! ### targets -/
def TG.of (X : Cx) (tg : Expr) : TG := fun v σ H Q => ∀ pins s u, Inv X pins σ H s → RelV v u → wpAny (model X.prog X.w) X.A (assign tg X.env u) (fun _ s' => ∃ σ' H', Inv X pins σ' H' s' ∧ Q σ' H') X.xe s
theorem pg_of {tg : Expr} : PG X tg (TG.of X tg) := ⟨fun pins s _ _ _ u _ I r h => h pins s u I r⟩
theorem TG.by {tg : Expr} {t : TG} (h : PG X tg t) {v : V} {σ : L2.St} {H : Hp} {Q : L2.St → Hp → Prop} (q : t v σ H Q) : TG.of X tg v σ H Q := fun pins s u I r => h.run pins s σ H v u Q I r q
/-- the target stores d, in the slots is alone -/
def SG (X : Cx) (tg : Expr) (is : List Nat) (g : D → Env → Option Env) : Prop :=
  ∀ F O σ H env v d env', Good X.K F O σ H env → Rep X.K H (Sx F.S0 O) v d → g d env = some env' → ∀ Q : L2.St → Hp → Prop,
    (∀ σ' O', Sub O' O → σ'.length = σ.length → (∀ j, j ∉ is → σ'[j]? = σ[j]?) → Good X.K F O' σ' H env' → Q σ' H) → TG.of X tg v σ H Q
def setN (i : Nat) : D → Env → Option Env := fun d e => if decide (i < e.length) && !(e.get i).isLk then some (e.set i (.val d)) else none
theorem sg_name {i : Nat} {x : Str} {pos : Pos} (hN : X.N.Nodup) (hi : X.N[i]? = some x) (hx : Loc X.env.scope x) (hf : X.fn x = true ∨ X.env.scope.names.lookup x = some .local) : SG X (.Name x pos) [i] (setN i) := by
  intro F O σ H env v d env' g r e Q k
  unfold setN at e
  split at e
  · rename_i hl
    rw [Bool.and_eq_true, decide_eq_true_eq] at hl
    injection e with e; subst e
    refine TG.by (pg_name hN hi hx hf) (k _ _ Own.drop_sub (by rw [List.length_set]) (fun j hj => ?_) (g.setVal r hl.1 (by simpa using hl.2)))
    rw [List.getElem?_set_ne (fun h => hj (by simp [h]))]
  · cases e
/-- several targets, one after another -/
def SGs (X : Cx) (ts : List Expr) (is : List Nat) (g : List D → Env → Option Env) : Prop :=
  ∃ t, PGs X ts t ∧ ∀ F O σ H env vs ds env', Good X.K F O σ H env → Reps X.K H (Sx F.S0 O) vs ds → g ds env = some env' → ∀ Q : L2.St → Hp → Prop,
    (∀ σ' O', Sub O' O → σ'.length = σ.length → (∀ j, j ∉ is → σ'[j]? = σ[j]?) → Good X.K F O' σ' H env' → Q σ' H) → t vs σ H Q
def gNilD : List D → Env → Option Env := fun ds e => if ds.isEmpty then some e else none
def gConsD (g : D → Env → Option Env) (gs : List D → Env → Option Env) : List D → Env → Option Env := fun ds e => match ds with
  | d :: ds => (g d e).bind fun e1 => gs ds e1
  | [] => none
theorem sgs_nil : SGs X [] [] gNilD := by
  refine ⟨_, pgs_nil, fun F O σ H env vs ds env' g r e Q k => ?_⟩
  cases r with
  | nil => simp [gNilD] at e; subst e; exact ⟨rfl, k σ O .refl rfl (fun _ _ => rfl) g⟩
  | cons => simp [gNilD] at e
theorem assignEach_plain {e : Expr} {es : List Expr} (h : PySem.W.isStarred e = false) (env : PySem.Env) : assignEach (e :: es) env = (false, assign e env) :: assignEach es env := by
  cases e <;> first | rfl | (simp [PySem.W.isStarred] at h)
theorem sgs_cons {e : Expr} {es : List Expr} {i1 i2 : List Nat} {g : D → Env → Option Env} {gs : List D → Env → Option Env} (hs : PySem.W.isStarred e = false) (h1 : SG X e i1 g) (h2 : SGs X es i2 gs) : SGs X (e :: es) (i1 ++ i2) (gConsD g gs) := by
  obtain ⟨t, p2, q2⟩ := h2
  refine ⟨_, pgs_cons pg_of p2 (by rw [assignEach_plain hs]; rfl), fun F O σ H env vs ds env' gd r he Q k => ?_⟩
  cases r with
  | nil => cases he
  | @cons v vs d ds r rs =>
    simp only [gConsD] at he
    cases q : g d env with
    | none => rw [q] at he; cases he
    | some e1 =>
      rw [q] at he
      refine ⟨v, vs, rfl, h1 F O σ H env v d e1 gd r q _ fun σ1 O1 s1 l1 k1 g1 => ?_⟩
      refine q2 F O1 σ1 H e1 vs ds env' g1 (Reps.mono (fun _ z => s1.sx z) rs) he Q fun σ2 O2 s2 l2 k2 g2 => ?_
      refine k σ2 O2 (s2.trans s1) (l2.trans l1) (fun j hj => ?_) g2
      rw [k2 j fun z => hj (List.mem_append_right _ z), k1 j fun z => hj (List.mem_append_left _ z)]
def tupD : D → Option (List D)
  | .tup ds => some ds
  | _ => none
def gTupD (n : Nat) (gs : List D → Env → Option Env) : D → Env → Option Env := fun d e => match tupD d with
  | some ds => if ds.length = n then gs ds e else none
  | none => none
theorem assignEach_all {es : List Expr} (h : es.all (fun e => !PySem.W.isStarred e) = true) (env : PySem.Env) : (assignEach es env).length = es.length ∧ (assignEach es env).findIdx? (·.1) = none := by
  induction es with
  | nil => exact ⟨rfl, rfl⟩
  | cons e r ih =>
    rw [List.all_cons, Bool.and_eq_true] at h
    obtain ⟨i1, i2⟩ := ih h.2
    rw [assignEach_plain (by simpa using h.1)]
    refine ⟨by simp [i1], ?_⟩
    rw [List.findIdx?_cons, if_neg (by simp)]
    rw [i2]; rfl
theorem sg_tup {es : List Expr} {kk : Nat} {pos : Pos} {is : List Nat} {gs : List D → Env → Option Env} (hc : X.calm = true) (hst : es.all (fun e => !PySem.W.isStarred e) = true) (h : SGs X es is gs) : SG X (.Tuple es kk pos) is (gTupD es.length gs) := by
  obtain ⟨t, p, q⟩ := h
  intro F O σ H env v d env' g r he Q k
  refine TG.by (pg_tup hc p (assignEach_all hst _).1 (assignEach_all hst _).2) ?_
  unfold gTupD at he
  cases r <;> simp only [tupD] at he <;> first | (cases he; done) | skip
  rename_i a vs ds h r
  split at he
  · rename_i hl
    exact ⟨a, vs, rfl, sqT_of h, by rw [r.length]; exact hl, q F O σ H env vs ds env' g r he Q k⟩
  · cases he

/-! ### items -/
/-- the walk gives the items one by one, while W alone is written -/
def Runs (K : PySem.W.Frag) (S W : Addr → Prop) (H0 : Hp) (J : It) (items : List D) : Prop :=
  ∀ n H2 S2, Fr W H0 H2 → (∀ a, S2 a → S a ∨ H0 a = none) → (∀ a, S2 a → H2 a ≠ none) →
    (n < items.length → J.go n H2 ∧ ∀ x H3, J.yld n H2 x H3 → Same H2 H3 ∧ ∀ d, items[n]? = some d → Rep K H3 S2 x d) ∧ (items.length ≤ n → J.stop n H2)
mutual
theorem Rep.freeS {K : PySem.W.Frag} {H : Hp} {S S' : Addr → Prop} (hs : ∀ a, S' a → S a ∨ H a = none) : ∀ {v : V} {d : D}, Rep K H S v d → Rep K H S' v d
  | _, _, .non => .non
  | _, _, .bl b => .bl b
  | _, _, .int i => .int i
  | _, _, .str x => .str x
  | _, _, .lst q n r => .lst q (fun z => (hs _ z).elim n fun e => by rw [e] at q; cases q) (Reps.freeS hs r)
  | _, _, .scr q r => .scr (q.elim (fun ⟨h1, h2⟩ => .inl ⟨h1, fun z => (hs _ z).elim h2 fun e => rd_some h1 e⟩) .inr) (Reps.freeS hs r)
  | _, _, .tup q r => .tup (q.elim (fun ⟨h1, h2⟩ => .inl ⟨h1, fun z => (hs _ z).elim h2 fun e => rd_some h1 e⟩) .inr) (Reps.freeS hs r)
  | _, _, .dctK q n r => .dctK q (fun z => (hs _ z).elim n fun e => rd_some q e) (Reps.freeS hs r)
  | _, _, .dctT q n r => .dctT q (fun z => (hs _ z).elim n fun e => rd_some q e) (Reps.freeS hs r)
  | _, _, .exc => .exc
  | _, _, .excN q n => .excN q (fun z => (hs _ z).elim n fun e => rd_some q e)
  | _, _, .excF q n k m r => .excF q (fun z => (hs _ z).elim n fun e => rd_some q e) k (fun z => (hs _ z).elim m fun e => rd_some k e) (Reps.freeS hs r)
theorem Reps.freeS {K : PySem.W.Frag} {H : Hp} {S S' : Addr → Prop} (hs : ∀ a, S' a → S a ∨ H a = none) : ∀ {vs : List V} {ds : List D}, Reps K H S vs ds → Reps K H S' vs ds
  | _, _, .nil => .nil
  | _, _, .cons r t => .cons (Rep.freeS hs r) (Reps.freeS hs t)
end
/-- the items of a thing, later -/
theorem Reps.later {K : PySem.W.Frag} {S S2 W : Addr → Prop} {H0 H2 : Hp} {vs : List V} {ds : List D} (r : Reps K H0 S vs ds) (hw : ∀ a, W a → S a) (f : Fr W H0 H2) (h : ∀ a, S2 a → S a ∨ H0 a = none) : Reps K H2 S2 vs ds :=
  Reps.mono (S := fun a => S a ∨ S2 a) (fun _ z => .inr z) (Reps.fr f.rd (fun a z => .inl (hw a z)) (Reps.freeS (fun a z => z.elim .inl (h a)) r))
theorem runs_list {K : PySem.W.Frag} {S W : Addr → Prop} {H0 : Hp} {a : Addr} {vs : List V} {ds : List D} (r : Reps K H0 S vs ds) (hw : ∀ a, W a → S a) (hq : ∀ H2, Fr W H0 H2 → SqL K H2 a vs) : Runs K S W H0 (Itl K a) ds := by
  intro n H2 S2 f h1 h2
  refine ⟨fun hn => ?_, fun hn => ⟨vs, hq H2 f, by rw [r.length]; exact hn⟩⟩
  have hv : n < vs.length := by rw [r.length]; exact hn
  refine ⟨⟨vs, vs[n], hq H2 f, by simp [hv]⟩, fun x H3 y => ?_⟩
  obtain ⟨rfl, y⟩ := y
  refine ⟨fun _ _ h => h, fun d hd => ?_⟩
  obtain ⟨v, e1, e2⟩ := (r.later hw f h1).get hd
  have := y vs (hq _ f)
  rw [e1] at this; cases this
  exact e2
theorem runs_tup {K : PySem.W.Frag} {S W : Addr → Prop} {H0 : Hp} {a : Addr} {vs : List V} {ds : List D} (r : Reps K H0 S vs ds) (hw : ∀ a, W a → S a) (hq : ∀ H2, Fr W H0 H2 → SqT K H2 a vs) : Runs K S W H0 (Itt K a) ds := by
  intro n H2 S2 f h1 h2
  refine ⟨fun hn => ?_, fun hn => ⟨vs, hq H2 f, by rw [r.length]; exact hn⟩⟩
  have hv : n < vs.length := by rw [r.length]; exact hn
  refine ⟨⟨vs, vs[n], hq H2 f, by simp [hv]⟩, fun x H3 y => ?_⟩
  obtain ⟨rfl, y⟩ := y
  refine ⟨fun _ _ h => h, fun d hd => ?_⟩
  obtain ⟨v, e1, e2⟩ := (r.later hw f h1).get hd
  have := y vs (hq _ f)
  rw [e1] at this; cases this
  exact e2
def rngL (lo : Int) (n : Nat) : List D := (List.range n).map fun i => .int (lo + (i : Nat))
theorem runs_rng {K : PySem.W.Frag} {S W : Addr → Prop} {H0 : Hp} {lo : Int} {n : Nat} : Runs K S W H0 (Itr lo n) (rngL lo n) := by
  intro i H2 S2 f h1 h2
  have hl : (rngL lo n).length = n := by simp [rngL]
  rw [hl]
  refine ⟨fun hn => ⟨hn, fun x H3 y => ?_⟩, fun hn => hn⟩
  obtain ⟨rfl, rfl⟩ := y
  refine ⟨fun _ _ h => h, fun d hd => ?_⟩
  have : d = .int (lo + (i : Nat)) := by
    unfold rngL at hd
    rw [List.getElem?_map, List.getElem?_range hn] at hd
    simpa using hd.symm
  subst this
  exact .int _
theorem runs_str {K : PySem.W.Frag} {S W : Addr → Prop} {H0 : Hp} {x : Str} : Runs K S W H0 (Its x) (x.cps.toList.map fun c => .str ⟨#[c]⟩) := by
  intro i H2 S2 f h1 h2
  simp only [List.length_map, Array.length_toList]
  refine ⟨fun hn => ⟨hn, fun v H3 y => ?_⟩, fun hn => hn⟩
  obtain ⟨rfl, c, hc, rfl⟩ := y
  refine ⟨fun _ _ h => h, fun d hd => ?_⟩
  rw [List.getElem?_map, Array.getElem?_toList, hc] at hd
  injection hd with hd; subst hd
  exact .str _

/-! ### what is walked -/
def Own.lockO (O : Own) : Option Nat → Own
  | none => O
  | some i => O.drop i
def TI.of (X : Cx) (tg iter : Expr) : TI := fun σ H R => ∀ pins s, Inv X pins σ H s → wpAny (model X.prog X.w) X.A (eval iter X.env) (fun v s1 => wpAny (model X.prog X.w) X.A (pyIter v) (PIE X pins σ tg R) X.xe s1) X.xe s
theorem pi_of {tg iter : Expr} : PI X tg iter (TI.of X tg iter) := ⟨fun pins s _ _ _ I h => h pins s I⟩
theorem TI.by {tg iter : Expr} {t : TI} (h : PI X tg iter t) {σ : L2.St} {H : Hp} {R : It → Hp → Prop} (q : t σ H R) : TI.of X tg iter σ H R := fun pins s I => h.run pins s σ H R I q
/-- the items, and the slot whose own thing is walked -/
abbrev ItD := List D × Option Nat
def SI (X : Cx) (tg iter : Expr) (f : Env → Out ItD) : Prop :=
  ∀ Wx, Takes X Wx → ∀ F O σ H env, Good X.K F O σ H env → ∀ R : It → Hp → Prop,
    (match f env with
      | .ok (items, lk) e' => ∀ J H' O', Sub O' O → Fr (Oset O) H H' → Good X.K F O' σ H' e' → (∀ i, lk = some i → ∃ par d, e'.get i = .own par d) → Runs X.K (Sx F.S0 O') (Oset (O'.lockO lk)) H' J items → R J H'
      | .exc x e' => ∀ cls dx H' O', Sub O' O → Fr (Oset O) H H' → Good X.K F O' σ H' e' → XRep X.mg cls dx x → Wx cls dx σ H'
      | .bad => False) → TI.of X tg iter σ H R
/-- what is wanted of an iterable -/
def PstI (K : PySem.W.Frag) (mg : Str → Option Value) (Wx : WX) (F : Fx) (O : Own) (σ : L2.St) (H : Hp) (R : It → Hp → Prop) : Out ItD → Prop
  | .ok (items, lk) e' => ∀ J H' O', Sub O' O → Fr (Oset O) H H' → Good K F O' σ H' e' → (∀ i, lk = some i → ∃ par d, e'.get i = .own par d) → Runs K (Sx F.S0 O') (Oset (O'.lockO lk)) H' J items → R J H'
  | .exc x e' => ∀ cls dx H' O', Sub O' O → Fr (Oset O) H H' → Good K F O' σ H' e' → XRep mg cls dx x → Wx cls dx σ H'
  | .bad => False
theorem SI.mk {tg iter : Expr} {f : Env → Out ItD} (h : ∀ Wx, Takes X Wx → ∀ F O σ H env, Good X.K F O σ H env → ∀ R, PstI X.K X.mg Wx F O σ H R (f env) → TI.of X tg iter σ H R) : SI X tg iter f := by
  intro Wx tk F O σ H env g R p
  refine h Wx tk F O σ H env g R ?_
  cases q : f env with
  | ok a e' => obtain ⟨items, lk⟩ := a; rw [q] at p; exact p
  | exc x e' => rw [q] at p; exact p
  | bad => rw [q] at p; exact p
theorem SI.use {tg iter : Expr} {f : Env → Out ItD} (h : SI X tg iter f) {Wx : WX} (tk : Takes X Wx) {F : Fx} {O : Own} {σ : L2.St} {H : Hp} {env : Env} (g : Good X.K F O σ H env) {R : It → Hp → Prop} (p : PstI X.K X.mg Wx F O σ H R (f env)) : TI.of X tg iter σ H R := by
  refine h Wx tk F O σ H env g R ?_
  cases q : f env with
  | ok a e' => obtain ⟨items, lk⟩ := a; rw [q] at p; exact p
  | exc x e' => rw [q] at p; exact p
  | bad => rw [q] at p; exact p
theorem PstI.step {K : PySem.W.Frag} {mg : Str → Option Value} {Wx : WX} {F : Fx} {O O1 : Own} {σ : L2.St} {H H1 : Hp} {R : It → Hp → Prop} {o : Out ItD} (h : PstI K mg Wx F O σ H R o) (s : Sub O1 O) (f : Fr (Oset O) H H1) : PstI K mg Wx F O1 σ H1 R o := by
  cases o with
  | ok a e' => obtain ⟨items, lk⟩ := a; exact fun J H' O' s' f' g l r => h J H' O' (s'.trans s) (f.trans (f'.mono fun _ z => s.set z)) g l r
  | exc x e' => exact fun cls dx H' O' s' f' g r => h cls dx H' O' (s'.trans s) (f.trans (f'.mono fun _ z => s.set z)) g r
  | bad => exact h
theorem PstI.bind {K : PySem.W.Frag} {mg : Str → Option Value} {Wx : WX} {F : Fx} {O : Own} {σ : L2.St} {H : Hp} {R : It → Hp → Prop} {δ γ : Type} {R1 : Hp → (Addr → Prop) → δ → γ → Prop} {Q1 : δ → Hp → Prop} {o : Out γ} {f : γ → Env → Out ItD}
    (h : PstI K mg Wx F O σ H R (o.bind f))
    (k : ∀ d e1 v H1 O1, Sub O1 O → Fr (Oset O) H H1 → Good K F O1 σ H1 e1 → R1 H1 (Sx F.S0 O1) v d → PstI K mg Wx F O1 σ H1 R (f d e1) → Q1 v H1) : Pst K mg Wx F O σ H R1 Q1 o := by
  cases o with
  | ok d e' => exact fun v H' O' s' f' g r => k d e' v H' O' s' f' g r (PstI.step h s' f')
  | exc x e' => exact h
  | bad => exact h
theorem PstI.ok {K : PySem.W.Frag} {mg : Str → Option Value} {Wx : WX} {F : Fx} {O : Own} {σ : L2.St} {H : Hp} {R : It → Hp → Prop} {items : List D} {lk : Option Nat} {e : Env} {J : It} (h : PstI K mg Wx F O σ H R (.ok (items, lk) e)) (g : Good K F O σ H e)
    (l : ∀ i, lk = some i → ∃ par d, e.get i = .own par d) (r : Runs K (Sx F.S0 O) (Oset (O.lockO lk)) H J items) : R J H := h J H O .refl .refl g l r
variable {tg a b c : Expr} {fa fb fc : Env → Out Opd} {va vb vc : Env → Out D} {pos : Pos}
/-- a list (of a value), a tuple -/
def seqI (va : Env → Out D) : Env → Out ItD := fun env => (va env).bind fun d e => match itemsD d with
  | some xs => .ok (xs, none) e
  | none => .bad
def isLst : D → Bool
  | .lst _ => true
  | .scr _ => true
  | _ => false
def lstI (va : Env → Out D) : Env → Out ItD := fun env => (va env).bind fun d e => match d with
  | .lst xs => .ok (xs, none) e
  | .scr xs => .ok (xs, none) e
  | _ => .bad
def tupI (va : Env → Out D) : Env → Out ItD := fun env => (va env).bind fun d e => match d with
  | .tup xs => .ok (xs, none) e
  | _ => .bad
def strI (va : Env → Out D) : Env → Out ItD := fun env => (va env).bind fun d e => match d with
  | .str x => .ok (x.cps.toList.map fun c => .str ⟨#[c]⟩, none) e
  | _ => .bad
theorem si_lst (ha : SE X a va) : SI X tg a (lstI va) := by
  refine SI.mk fun Wx tk F O σ H env g R p => TI.by (pi_list pe_of) ?_
  refine ha Wx tk F O σ H env g _ (PstI.bind p fun d e1 v H1 O1 s f g1 r1 p1 => ?_)
  cases r1 with
  | lst h n r =>
    exact ⟨_, rfl, ⟨_, .inl (.inl h)⟩, p1.ok g1 (fun i e => by cases e) (runs_list r (fun a z => .inr z) fun H2 f2 => .inl (.inl (f2.eq _ _ h fun z => n (.inr z))))⟩
  | scr h r =>
    have hq : SqL X.K H1 _ _ := h.elim (fun z => .inl z.1) .inr
    refine ⟨_, rfl, ⟨_, hq⟩, p1.ok g1 (fun i e => by cases e) (runs_list r (fun a z => .inr z) fun H2 f2 => ?_)⟩
    exact h.elim (fun z => .inl (f2.rd.1 _ _ z.1 fun w => z.2 (.inr w))) .inr
  | _ => exact p1.elim
theorem si_tup (ha : SE X a va) : SI X tg a (tupI va) := by
  refine SI.mk fun Wx tk F O σ H env g R p => TI.by (pi_tup pe_of) ?_
  refine ha Wx tk F O σ H env g _ (PstI.bind p fun d e1 v H1 O1 s f g1 r1 p1 => ?_)
  cases r1 with
  | tup h r =>
    refine ⟨_, rfl, ⟨_, sqT_of h⟩, p1.ok g1 (fun i e => by cases e) (runs_tup r (fun a z => .inr z) fun H2 f2 => ?_)⟩
    exact h.elim (fun z => .inl (f2.rd.1 _ _ z.1 fun w => z.2 (.inr w))) .inr
  | _ => exact p1.elim
theorem si_str (ha : SE X a va) : SI X tg a (strI va) := by
  refine SI.mk fun Wx tk F O σ H env g R p => TI.by (pi_str pe_of) ?_
  refine ha Wx tk F O σ H env g _ (PstI.bind p fun d e1 v H1 O1 s f g1 r1 p1 => ?_)
  cases r1 with
  | str x => exact ⟨x, rfl, p1.ok g1 (fun i e => by cases e) runs_str⟩
  | _ => exact p1.elim
/-- range(a), range(a, b): ends within 2^62 -/
def rOk (i : Int) : Bool := decide (-(2 ^ 62) ≤ i) && decide (i < 2 ^ 62)
def rng1I (fs : Env → Out (List Opd)) : Env → Out ItD := fun env => (fs env).bind fun os e => match valsO os with
  | some [.int j] => if rOk j then .ok (rngL 0 j.toNat, none) e else .bad
  | _ => .bad
def rng2I (fs : Env → Out (List Opd)) : Env → Out ItD := fun env => (fs env).bind fun os e => match valsO os with
  | some [.int i, .int j] => if rOk i && rOk j then .ok (rngL i (j - i).toNat, none) e else .bad
  | _ => .bad
theorem si_rng1 {pf : Pos} {fs : Env → Out (List Opd)} (hg : Gl X "range") (hm : X.mg "range" = none) (hst : PySem.W.isStarred a = false) (ha : SA X [a] fs) : SI X tg (.Call (.Name "range" pf) [a] [] pos) (rng1I fs) := by
  refine SI.mk fun Wx tk F O σ H env g R p => TI.by (pi_range1 hg hm pa_of (starEach_plain hst _)) ?_
  refine ha Wx tk F O σ H env g _ (PstI.bind p fun os e1 vs H1 O1 s f g1 r1 p1 => ?_)
  cases q : valsO os with
  | none => simp only [q] at p1; exact p1.elim
  | some ds =>
    have rv := valsO_reps r1 q
    simp only [q] at p1
    match ds, rv, p1 with
    | [.int j], rv, p1 =>
      cases rv with
      | cons r t =>
        cases t; cases r
        have p1' : PstI X.K X.mg Wx F O1 σ H1 R (if rOk j then .ok (rngL 0 j.toNat, none) e1 else .bad) := p1
        split at p1'
        · rename_i hj
          simp only [rOk, Bool.and_eq_true, decide_eq_true_eq] at hj
          exact ⟨j, rfl, hj.1, hj.2, p1'.ok g1 (fun i e => by cases e) runs_rng⟩
        · exact p1'.elim
theorem si_rng2 {pf : Pos} {fs : Env → Out (List Opd)} (hg : Gl X "range") (hm : X.mg "range" = none) (hst : PySem.W.isStarred a = false) (hst2 : PySem.W.isStarred b = false) (ha : SA X [a, b] fs) : SI X tg (.Call (.Name "range" pf) [a, b] [] pos) (rng2I fs) := by
  refine SI.mk fun Wx tk F O σ H env g R p => TI.by (pi_range2 hg hm pa_of (by rw [starEach_plain hst, starEach_plain hst2]; rfl) (starEach_plain hst2 _)) ?_
  refine ha Wx tk F O σ H env g _ (PstI.bind p fun os e1 vs H1 O1 s f g1 r1 p1 => ?_)
  cases q : valsO os with
  | none => simp only [q] at p1; exact p1.elim
  | some ds =>
    have rv := valsO_reps r1 q
    simp only [q] at p1
    match ds, rv, p1 with
    | [.int i, .int j], rv, p1 =>
      cases rv with
      | cons r t =>
        cases t with
        | cons r2 t =>
          cases t; cases r; cases r2
          have p1' : PstI X.K X.mg Wx F O1 σ H1 R (if rOk i && rOk j then .ok (rngL i (j - i).toNat, none) e1 else .bad) := p1
          split at p1'
          · rename_i hj
            simp only [rOk, Bool.and_eq_true, decide_eq_true_eq] at hj
            exact ⟨i, j, rfl, ⟨hj.1.1, hj.1.2, hj.2.1, hj.2.2⟩, p1'.ok g1 (fun i e => by cases e) runs_rng⟩
          · exact p1'.elim
end
end Rp
set_option Elab.async false
set_option linter.all false
set_option maxRecDepth 100000
/-! RpK: an own thing walked; list comprehensions. -/
namespace Rp
open PySem PySem.Spec PyProof.Rows L2

section
variable {X : Cx} {tg a b c : Expr} {fa fb fc : Env → Out Opd} {va vb vc : Env → Out D} {pos : Pos}
/-- an own list by its name: nobody changes it meanwhile -/
def borI (i : Nat) : Env → Out ItD := fun env => match env.get i with
  | .own _ (.lst xs) => .ok (xs, some i) env
  | .lck (.lst xs) => .ok (xs, none) env
  | .lkd _ (.lst xs) => .ok (xs, none) env
  | .val (.lst xs) => .ok (xs, none) env
  | _ => .bad
/-- an own list by its name, once its value has come -/
theorem bor_key {i : Nat} {F : Fx} {O : Own} {σ : L2.St} {H : Hp} {env : Env} {Wx : WX} {R : It → Hp → Prop} (g : Good X.K F O σ H env) (p : PstI X.K X.mg Wx F O σ H R (borI i env)) : ∃ v, σ[i]? = some (some v) ∧ ∃ a, v = .ref a ∧ (∃ xs, SqL X.K H a xs) ∧ R (Itl X.K a) H := by
  have q := g.slot i
  unfold borI at p
  split at p
  · rename_i par xs c
    rw [c] at q
    obtain ⟨a, q1, q2, q3, q4⟩ := q
    rcases q3 with ⟨vs, ds, e1, h, r⟩ | ⟨_, _, e1, _⟩ | ⟨_, _, e1, _⟩
    · cases e1
      refine ⟨.ref a, of_getD q2, a, rfl, ⟨_, .inl (.inl h)⟩, p.ok g (fun j e => by cases e; exact ⟨par, _, c⟩) (runs_list r (fun b z => .inr (Own.drop_sub.set z)) fun H2 f2 => .inl (.inl (f2.eq _ _ h fun ⟨j, z⟩ => ?_)))⟩
      have z' : (O.drop i) j = some a := z
      unfold Own.drop at z'
      split at z'
      · cases z'
      · rename_i ne; exact ne (g.inj _ _ _ z' q1)
    · cases e1
    · cases e1
  · rename_i xs c
    rw [c] at q
    obtain ⟨q0, v, q2, q3⟩ := q
    rcases q3 with r | ⟨a, rfl, q3, q4, r⟩
    · cases r with
      | lst h n r => exact ⟨_, of_getD q2, _, rfl, ⟨_, .inl (.inl h)⟩, p.ok g (fun i e => by cases e) (runs_list r (fun a z => .inr z) fun H2 f2 => .inl (.inl (f2.eq _ _ h fun z => n (.inr z))))⟩
    · cases r with
      | lst h r =>
        refine ⟨_, of_getD q2, _, rfl, ⟨_, .inl (.inl h)⟩, p.ok g (fun i e => by cases e) (runs_list r (fun a z => .inr z) fun H2 f2 => .inl (.inl (f2.eq _ _ h fun ⟨j, z⟩ => ?_)))⟩
        exact g.lo _ _ _ q3 z
  · rename_i par xs c
    rw [c] at q
    obtain ⟨q0, a, q2, q3, q4, r, q5⟩ := q
    have r' := r.b
    cases r' with
    | lst h r =>
      refine ⟨_, of_getD q2, _, rfl, ⟨_, .inl (.inl h)⟩, p.ok g (fun i e => by cases e) (runs_list r (fun a z => .inr z) fun H2 f2 => .inl (.inl (f2.eq _ _ h fun ⟨j, z⟩ => ?_)))⟩
      exact g.lo _ _ _ q3 z
  · rename_i xs c
    rw [c] at q
    obtain ⟨q0, v, q2, r⟩ := q
    cases r with
    | lst h n r => exact ⟨_, of_getD q2, _, rfl, ⟨_, .inl (.inl h)⟩, p.ok g (fun i e => by cases e) (runs_list r (fun a z => .inr z) fun H2 f2 => .inl (.inl (f2.eq _ _ h fun z => n (.inr z))))⟩
  · exact p.elim
theorem si_bor {i : Nat} {x : Str} (hN : X.N[i]? = some x) (hv : Vis X.env.scope x) (hd : (x == ("__debug__" : Str)) = false) (hcd : (x == ("__classdict__" : Str)) = false) : SI X tg (.Name x pos) (borI i) := by
  refine SI.mk fun Wx tk F O σ H env g R p => TI.by (pi_list (pe_var hN hv hd hcd)) ?_
  obtain ⟨v, h1, h2⟩ := bor_key g p
  exact ⟨v, h1, h2⟩

/-! ### list comprehensions -/
theorem wipe_get {σ : L2.St} {vs : List Nat} {i : Nat} : (wipe σ vs)[i]? = if i ∈ vs then (if i < σ.length then some none else none) else σ[i]? := by
  induction vs with
  | nil => simp [wipe]
  | cons v vs ih =>
    show ((wipe σ vs).set v none)[i]? = _
    by_cases hv : v = i
    · subst hv
      rw [if_pos (by simp)]
      by_cases hl : v < σ.length
      · rw [List.getElem?_set_self (by rw [wipe_length]; exact hl), if_pos hl]
      · rw [List.getElem?_eq_none (by rw [List.length_set, wipe_length]; omega), if_neg hl]
    · rw [List.getElem?_set_ne hv, ih]
      by_cases hm : i ∈ vs
      · rw [if_pos hm, if_pos (show i ∈ v :: vs from List.mem_cons_of_mem _ hm)]
      · rw [if_neg hm, if_neg (show ¬ i ∈ v :: vs from fun z => (List.mem_cons.mp z).elim (fun z => hv z.symm) hm)]
/-- stores in vs alone are wiped away -/
theorem wipe_again {σ σ2 : L2.St} {vs is : List Nat} (hl : σ2.length = (wipe σ vs).length) (h : ∀ j, j ∉ is → σ2[j]? = (wipe σ vs)[j]?) (hs : ∀ j ∈ is, j ∈ vs) : wipe σ2 vs = wipe σ vs := by
  apply List.ext_getElem?
  intro i
  rw [wipe_get, wipe_get]
  by_cases hm : i ∈ vs
  · rw [if_pos hm, if_pos hm, hl, wipe_length]
  · rw [if_neg hm, if_neg hm, h i fun z => hm (hs i z), wipe_get, if_neg hm]
def wipeE (e : Env) : List Nat → Env
  | [] => e
  | v :: vs => (wipeE e vs).set v .no
theorem wipeE_length (e : Env) : ∀ vs, (wipeE e vs).length = e.length
  | [] => rfl
  | v :: vs => by rw [wipeE, List.length_set, wipeE_length e vs]
theorem wipeE_get {e : Env} {vs : List Nat} {i : Nat} : (wipeE e vs).get i = if i ∈ vs then .no else e.get i := by
  induction vs with
  | nil => simp [wipeE]
  | cons v vs ih =>
    show Env.get ((wipeE e vs).set v .no) i = _
    by_cases hv : v = i
    · subst hv
      rw [if_pos (by simp)]
      by_cases hl : v < (wipeE e vs).length
      · rw [get_set_self hl]
      · unfold Env.get
        rw [List.getD_eq_getElem?_getD, List.getElem?_eq_none (by rw [List.length_set]; omega)]; rfl
    · rw [get_set_ne hv, ih]
      by_cases hm : i ∈ vs
      · rw [if_pos hm, if_pos (by simp [hm])]
      · rw [if_neg hm, if_neg (by simp [hm, Ne.symm hv])]
/-- the slots vs as they were in e0 -/
def backE (e0 e : Env) : List Nat → Env
  | [] => e
  | v :: vs => (backE e0 e vs).set v (e0.get v)
theorem backE_length (e0 e : Env) : ∀ vs, (backE e0 e vs).length = e.length
  | [] => rfl
  | v :: vs => by rw [backE, List.length_set, backE_length e0 e vs]
theorem backE_get {e0 e : Env} {vs : List Nat} {i : Nat} (hl : e.length = e0.length) : (backE e0 e vs).get i = if i ∈ vs then e0.get i else e.get i := by
  induction vs with
  | nil => simp [backE]
  | cons v vs ih =>
    show Env.get ((backE e0 e vs).set v (e0.get v)) i = _
    by_cases hv : v = i
    · subst hv
      rw [if_pos (by simp)]
      by_cases hl' : v < (backE e0 e vs).length
      · rw [get_set_self hl']
      · have h0 : e0.get v = .no := by
          unfold Env.get
          rw [List.getD_eq_getElem?_getD, List.getElem?_eq_none (by rw [backE_length] at hl'; omega)]; rfl
        unfold Env.get at h0 ⊢
        rw [h0, List.getD_eq_getElem?_getD, List.getElem?_eq_none (by rw [List.length_set]; omega)]; rfl
    · rw [get_set_ne hv, ih]
      by_cases hm : i ∈ vs
      · rw [if_pos hm, if_pos (by simp [hm])]
      · rw [if_neg hm, if_neg (by simp [hm, Ne.symm hv])]
def plainS : Slot → Bool
  | .no => true
  | .val _ => true
  | _ => false
/-- the frame while the own thing p of slot i is walked -/
def Fx.lockF (F : Fx) (i : Nat) (p : Addr) : Fx := { F with S0 := fun a => F.S0 a ∨ a = p, L := fun j => if j = i then some p else F.L j }
def lockE (e : Env) (i : Nat) : Env := match e.get i with
  | .own par d => e.set i (.lkd par d)
  | _ => e
def unlockE (par : Bool) (e : Env) (i : Nat) : Option Env := match e.get i with
  | .lkd par' d => if par' = par then some (e.set i (.own par d)) else none
  | _ => none
theorem Good.lock {K : PySem.W.Frag} {F : Fx} {O : Own} {σ : L2.St} {H : Hp} {e : Env} {i : Nat} {par : Bool} {d : D} {p : Addr} (g : Good K F O σ H e) (h : e.get i = .own par d) (ho : O i = some p) :
    Good K (F.lockF i p) (O.drop i) σ H (lockE e i) := by
  have q := g.at h
  obtain ⟨p', q1, q2, q3, q4, q5⟩ := q
  rw [ho] at q1; cases q1
  have hdr : ∀ j a, (O.drop i) j = some a → O j = some a ∧ j ≠ i := fun j a z => by unfold Own.drop at z; split at z; cases z; rename_i ne; exact ⟨z, ne⟩
  have hS : ∀ a, Sx (F.lockF i p).S0 (O.drop i) a → Sx F.S0 O a := by
    rintro a ((z | rfl) | ⟨j, z⟩)
    · exact .inl z
    · exact .inr ⟨i, ho⟩
    · exact .inr ⟨j, (hdr j a z).1⟩
  have e1 : lockE e i = e.set i (.lkd par d) := by unfold lockE; rw [h]
  rw [e1]
  refine ⟨by rw [List.length_set]; exact g.len, ?_, g.d0, fun a b c h1 h2 => g.inj a b c (hdr _ _ h1).1 (hdr _ _ h2).1, ?_, ?_, fun j a z => .inl (g.ps j a z), fun j a z => ?_, fun j => ?_⟩
  · rintro a (z | rfl)
    · exact g.s0 a z
    · exact g.dom (.inr ⟨i, ho⟩)
  · intro a b c h1 h2
    have h2' := hdr _ _ h2
    have h1' : (if a = i then some p else F.L a) = some c := h1
    split at h1'
    · cases h1'; exact h2'.2 (g.inj _ _ _ h2'.1 ho)
    · exact g.lo a b c h1' h2'.1
  · intro a c h1
    have h1' : (if a = i then some p else F.L a) = some c := h1
    split at h1'
    · cases h1'; exact .inr rfl
    · exact .inl (g.ls a c h1')
  · by_cases hj : j = i
    · subst hj; rw [get_set_self (get_lt (by rw [h]; simp))]; rfl
    · have z' : (if j = i then some p else F.L j) = some a := z
      rw [if_neg hj] at z'
      rw [get_set_ne (Ne.symm hj)]; exact g.ln j a z'
  · by_cases hj : j = i
    · subst hj
      rw [get_set_self (get_lt (by rw [h]; simp))]
      refine ⟨by unfold Own.drop; rw [if_pos rfl], p, q2, ?_, .inr rfl, q3.r.mono hS, fun hp => (q4 hp).2⟩
      show (if j = j then some p else F.L j) = some p
      rw [if_pos rfl]
    · rw [get_set_ne (Ne.symm hj)]
      have qj := (g.slot j).mono hS
      have ej : (O.drop i) j = O j := by unfold Own.drop; rw [if_neg hj]
      have el : (F.lockF i p).L j = F.L j := by show (if j = i then some p else F.L j) = _; rw [if_neg hj]
      rw [ej, el]
      cases c : e.get j with
      | no => rw [c] at qj; exact qj
      | val d' => rw [c] at qj; exact qj
      | own par' d' =>
        rw [c] at qj; obtain ⟨p', a1, a2, a3, a4, a5⟩ := qj
        refine ⟨p', a1, a2, a3, fun hp => ⟨.inl (a4 hp).1, (a4 hp).2⟩, fun hp => ⟨?_, (a5 hp).2⟩⟩
        rintro (z | rfl)
        · exact (a5 hp).1 z
        · exact hj (g.inj _ _ _ a1 ho)
      | lck d' => rw [c] at qj; obtain ⟨a1, v, a2, a3⟩ := qj; exact ⟨a1, v, a2, a3.imp id fun ⟨p', z1, z2, z3, z4⟩ => ⟨p', z1, z2, .inl z3, z4⟩⟩
      | lkd par' d' => rw [c] at qj; obtain ⟨a1, p', a2, a3, a4, a5⟩ := qj; exact ⟨a1, p', a2, a3, .inl a4, a5⟩
/-- and back -/
theorem Good.unlockG {K : PySem.W.Frag} {F : Fx} {O2 : Own} {σ2 : L2.St} {H2 : Hp} {e2 e3 : Env} {i : Nat} {par : Bool} {p : Addr} {u : HO} (hu2 : H2 p = some u) (mu : Mut (some u))
    (q4 : par = true → F.S0 p ∧ F.P i = some p) (q5 : par = false → ¬ F.S0 p ∧ F.H0 p = none) (gls : ∀ i p, F.L i = some p → F.S0 p) (gps : ∀ i p, F.P i = some p → F.S0 p) (glo : ∀ a, F.L a ≠ some p) (gln : ∀ a, F.L i ≠ some a)
    (g2 : Good K (F.lockF i p) O2 σ2 H2 e2) (he : unlockE par e2 i = some e3) :
    Good K F (fun j => if j = i then some p else O2 j) σ2 H2 e3 := by
  unfold unlockE at he
  split at he
  · rename_i par2 d2 c2
    by_cases hpar : par2 = par
    case neg => rw [if_neg hpar] at he; cases he
    rw [if_pos hpar] at he
    subst hpar
    injection he with he; subst he
    have r := g2.at c2
    obtain ⟨r0, p2, r1, r2, r3, r4, r5⟩ := r
    have el : (F.lockF i p).L i = some p := by show (if i = i then some p else F.L i) = _; rw [if_pos rfl]
    rw [el] at r2; cases r2
    have hnp : ∀ j, O2 j ≠ some p := fun j z => g2.lo i j p el z
    have hS : ∀ a, Sx F.S0 (fun j => if j = i then some p else O2 j) a → Sx (F.lockF i p).S0 O2 a := by
      rintro a (z | ⟨j, z⟩)
      · exact .inl (.inl z)
      · have z' : (if j = i then some p else O2 j) = some a := z
        split at z'
        · cases z'; exact .inl (.inr rfl)
        · exact .inr ⟨j, z'⟩
    have own2 : OwnRep K H2 (Sx F.S0 (fun j => if j = i then some p else O2 j)) p d2 := (r4.mono hS).own hu2 mu
    refine ⟨by rw [List.length_set]; exact g2.len, fun a z => g2.s0 a (.inl z), g2.d0, ?_, ?_, gls, gps, fun j a z => ?_, fun j => ?_⟩
    · intro a b c h1 h2
      have h1' : (if a = i then some p else O2 a) = some c := h1
      have h2' : (if b = i then some p else O2 b) = some c := h2
      split at h1' <;> split at h2'
      · rename_i x y; rw [x, y]
      · cases h1'; exact absurd h2' (hnp b)
      · cases h2'; exact absurd h1' (hnp a)
      · exact g2.inj a b c h1' h2'
    · intro a b c h1 h2
      have h2' : (if b = i then some p else O2 b) = some c := h2
      split at h2'
      · cases h2'; exact glo a h1
      · rename_i nb
        by_cases ha : a = i
        · subst ha
          exact gln c h1
        · exact g2.lo a b c (show (if a = i then some p else F.L a) = some c by rw [if_neg ha]; exact h1) h2'
    · by_cases hj : j = i
      · subst hj; exact (gln a z).elim
      · rw [get_set_ne (Ne.symm hj)]
        exact g2.ln j a (show (if j = i then some p else F.L j) = some a by rw [if_neg hj]; exact z)
    · by_cases hj : j = i
      · subst hj
        rw [get_set_self (get_lt (by rw [c2]; simp))]
        exact ⟨p, by show (if j = j then some p else O2 j) = some p; rw [if_pos rfl], r1, own2, q4, q5⟩
      · rw [get_set_ne (Ne.symm hj)]
        have eo : (if j = i then some p else O2 j) = O2 j := if_neg hj
        have el : (F.lockF i p).L j = F.L j := by show (if j = i then some p else F.L j) = _; rw [if_neg hj]
        have qj := (g2.slot j).mono hS
        rw [el] at qj
        show SlotOk K F _ (if j = i then some p else O2 j) _ _ _ _ _
        rw [eo]
        cases c : e2.get j with
        | no => rw [c] at qj; exact qj
        | val d' => rw [c] at qj; exact qj
        | own par' d' =>
          rw [c] at qj; obtain ⟨p', a1, a2, a3, a4, a5⟩ := qj
          refine ⟨p', a1, a2, a3, fun hp => ⟨?_, (a4 hp).2⟩, fun hp => ⟨fun z => (a5 hp).1 (.inl z), (a5 hp).2⟩⟩
          rcases (a4 hp).1 with z | rfl
          · exact z
          · exact absurd a1 (hnp j)
        | lck d' =>
          rw [c] at qj; obtain ⟨a1, v, a2, a3⟩ := qj
          refine ⟨a1, v, a2, a3.imp id fun ⟨p', z1, z2, z3, z4⟩ => ⟨p', z1, z2, gls _ _ z2, z4⟩⟩
        | lkd par' d' =>
          rw [c] at qj; obtain ⟨a1, p', a2, a3, a4, a5⟩ := qj
          exact ⟨a1, p', a2, a3, gls _ _ a3, a5⟩
  · cases he
theorem Good.unlock {K : PySem.W.Frag} {F : Fx} {O O2 : Own} {σ σ2 : L2.St} {H H2 : Hp} {e e2 e3 : Env} {i : Nat} {par : Bool} {d : D} {p : Addr} (g : Good K F O σ H e) (h : e.get i = .own par d) (ho : O i = some p)
    (g2 : Good K (F.lockF i p) O2 σ2 H2 e2) (f : ∀ u, H p = some u → H2 p = some u) (he : unlockE par e2 i = some e3) :
    Good K F (fun j => if j = i then some p else O2 j) σ2 H2 e3 := by
  have q := g.at h
  obtain ⟨p', q1, q2, q3, q4, q5⟩ := q
  rw [ho] at q1; cases q1
  obtain ⟨u, hu, mu⟩ := q3.mut
  exact Good.unlockG (f u hu) mu q4 q5 g.ls g.ps (fun a z => g.lo a i p z ho) (fun a z => by have := g.ln i a z; rw [h] at this; cases this) g2 he
end
end Rp
set_option Elab.async false
set_option linter.all false
set_option maxRecDepth 100000
/-! RpL: list comprehensions. -/
namespace Rp
open PySem PySem.Spec PyProof.Rows L2

section
variable {K : PySem.W.Frag} {F : Fx} {O O0 O2 : Own} {σ : L2.St} {H H0 H2 : Hp} {e e0 e2 : Env} {vs : List Nat} {D0 : Addr}
theorem wipe_getD {σ : L2.St} {vs : List Nat} {i : Nat} (h : i ∉ vs) : (wipe σ vs).getD i none = σ.getD i none := by
  rw [List.getD_eq_getElem?_getD, List.getD_eq_getElem?_getD, wipe_get, if_neg h]
theorem Good.wipedO (g : Good K F O σ H e) (hv : ∀ i ∈ vs, O i = none ∧ F.L i = none) : Good K F O (wipe σ vs) H (wipeE e vs) := by
  refine ⟨by rw [wipeE_length, wipe_length]; exact g.len, g.s0, g.d0, g.inj, g.lo, g.ls, g.ps, fun i p z => ?_, fun i => ?_⟩
  · rw [wipeE_get]
    split
    · rename_i hm; rw [(hv i hm).2] at z; cases z
    · exact g.ln i p z
  · rw [wipeE_get]
    split
    · rename_i hm; exact (hv i hm).1
    · rename_i hm; rw [wipe_getD hm]; exact g.slot i
theorem Good.plain (g : Good K F O σ H e) {i : Nat} (h : plainS (e.get i) = true) : O i = none ∧ F.L i = none := by
  have q := g.slot i
  have l : ∀ p, F.L i = some p → False := fun p z => by
    have := g.ln i p z
    cases c : e.get i <;> rw [c] at h this <;> simp [Slot.isLk, plainS] at h this
  refine ⟨?_, ?_⟩
  · cases c : e.get i <;> rw [c] at h q <;> first | (simp [plainS] at h; done) | skip
    · exact q
    · exact q.1
  · cases c : F.L i with
    | none => rfl
    | some p => exact (l p c).elim
theorem Good.back (g0 : Good K F O0 σ H0 e0) (hv : ∀ i ∈ vs, plainS (e0.get i) = true) (g2 : Good K F O2 (wipe σ vs) H2 e2) (s : Sub O2 O0) {W : Addr → Prop} (f : Fr W H0 H2) (hw : ∀ a, W a → Sx F.S0 O0 a) : Good K F O2 σ H2 (backE e0 e2 vs) := by
  have hl : e2.length = e0.length := by rw [g2.len, wipe_length, g0.len]
  refine ⟨by rw [backE_length, g2.len, wipe_length], g2.s0, g2.d0, g2.inj, g2.lo, g2.ls, g2.ps, fun i p z => ?_, fun i => ?_⟩
  · rw [backE_get hl]
    split
    · exact g0.ln i p z
    · exact g2.ln i p z
  · rw [backE_get hl]
    split
    · rename_i hm
      have h := hv i hm
      have q := g0.slot i
      have hO : O0 i = none → O2 i = none := fun z => (s i).elim (fun w => w.trans z) id
      cases c : e0.get i <;> rw [c] at h q <;> first | (cases h; done) | skip
      · exact hO q
      · obtain ⟨q1, v, q2, q3⟩ := q
        exact ⟨hO q1, v, q2, Rep.mono (fun _ z => s.sx z) (Rep.fr f.rd hw q3)⟩
    · rename_i hm
      have q := g2.slot i
      rw [wipe_getD hm] at q; exact q
theorem Good.moreD (g : Good K F O σ H e) {o : HO} (h : H D0 = none) : Good K (F.more D0) O σ (upd H D0 o) e := by
  have hS : ∀ a, Sx (F.more D0).S0 O a → Sx F.S0 O a ∨ a = D0 := by
    rintro a ((z | z) | z)
    · exact .inl (.inl z)
    · exact .inr z
    · exact .inl (.inr z)
  have f : Fr (fun _ => False) H (upd H D0 o) := Fr.new h
  refine ⟨g.len, ?_, fun a z => f.dom a (g.d0 a z), g.inj, g.lo, fun i p z => .inl (g.ls i p z), fun i p z => .inl (g.ps i p z), g.ln, fun i => ?_⟩
  · rintro a (z | rfl)
    · exact f.dom a (g.s0 a z)
    · rw [upd_same]; simp
  · have q := g.slot i
    cases c : e.get i with
    | no => rw [c] at q; exact q
    | val d => rw [c] at q; obtain ⟨q1, v, q2, q3⟩ := q; exact ⟨q1, v, q2, Rep.fr f.rd (fun _ z => z.elim) (Rep.free h hS q3)⟩
    | own par d =>
      rw [c] at q; obtain ⟨p, q1, q2, q3, q4, q5⟩ := q
      have hp : p ≠ D0 := fun z => g.dom (.inr ⟨i, q1⟩) (z ▸ h)
      refine ⟨p, q1, q2, (q3.free h hS).fr f.rd (fun _ z => z.elim) (fun u z => by rw [upd_ne hp]; exact z), fun hq => ⟨.inl (q4 hq).1, (q4 hq).2⟩, fun hq => ⟨?_, (q5 hq).2⟩⟩
      rintro (z | z)
      · exact (q5 hq).1 z
      · exact hp z
    | lck d =>
      rw [c] at q; obtain ⟨q1, v, q2, q3⟩ := q
      exact ⟨q1, v, q2, q3.elim (fun z => .inl (Rep.fr f.rd (fun _ z => z.elim) (Rep.free h hS z))) fun ⟨p, z1, z2, z3, z4⟩ => .inr ⟨p, z1, z2, .inl z3, (z4.free h hS).fr f.rd (fun _ z => z.elim) (fun _ _ z => z.elim)⟩⟩
    | lkd par d =>
      rw [c] at q; obtain ⟨q1, p, q2, q3, q4, q5, q6⟩ := q
      refine ⟨q1, p, q2, q3, .inl q4, ?_, q6⟩
      rcases q5 with ⟨xs, ds, rfl, w, r⟩ | ⟨xs, ds, rfl, w, r⟩ | ⟨xs, ds, rfl, w, r⟩
      · exact .inl ⟨_, _, rfl, f.eq _ _ w fun z => z, Reps.fr f.rd (fun _ z => z.elim) (Reps.free h hS r)⟩
      · exact .inr (.inl ⟨_, _, rfl, f.rd.1 _ _ w fun z => z, Reps.fr f.rd (fun _ z => z.elim) (Reps.free h hS r)⟩)
      · exact .inr (.inr ⟨_, _, rfl, f.rd.1 _ _ w fun z => z, Reps.fr f.rd (fun _ z => z.elim) (Reps.free h hS r)⟩)
theorem Good.lessD (g : Good K (F.more D0) O σ H e) (hls : ∀ i p, F.L i = some p → F.S0 p) (hps : ∀ i p, F.P i = some p → F.S0 p) : Good K F O σ H e := by
  have hS : ∀ a, Sx F.S0 O a → Sx (F.more D0).S0 O a := fun a z => z.elim (fun z => .inl (.inl z)) .inr
  refine ⟨g.len, fun a z => g.s0 a (.inl z), g.d0, g.inj, g.lo, hls, hps, g.ln, fun i => ?_⟩
  have q := (g.slot i).mono hS
  cases c : e.get i with
  | no => rw [c] at q; exact q
  | val d => rw [c] at q; exact q
  | own par d => rw [c] at q; obtain ⟨p, q1, q2, q3, q4, q5⟩ := q; exact ⟨p, q1, q2, q3, fun hq => ⟨hps _ _ (q4 hq).2, (q4 hq).2⟩, fun hq => ⟨fun z => (q5 hq).1 (.inl z), (q5 hq).2⟩⟩
  | lck d => rw [c] at q; obtain ⟨q1, v, q2, q3⟩ := q; exact ⟨q1, v, q2, q3.imp id fun ⟨p, z1, z2, z3, z4⟩ => ⟨p, z1, z2, hls _ _ z2, z4⟩⟩
  | lkd par d => rw [c] at q; obtain ⟨q1, p, q2, q3, q4, q5⟩ := q; exact ⟨q1, p, q2, q3, hls _ _ q3, q5⟩
/-- the list at D0 is written -/
theorem Good.accD (g : Good K (F.more D0) O σ H e) {o : HO} (hL : ∀ i, F.L i ≠ some D0) (hP : ∀ i, F.P i ≠ some D0) : Good K (F.more D0) O σ (upd H D0 o) e := by
  have f : Fr (fun a => a = D0) H (upd H D0 o) := Fr.write (W := fun a => a = D0) rfl
  have hW : ∀ a, a = D0 → Sx (F.more D0).S0 O a := fun a z => .inl (.inr z)
  refine ⟨g.len, fun a z => f.dom a (g.s0 a z), fun a z => f.dom a (g.d0 a z), g.inj, g.lo, g.ls, g.ps, g.ln, fun i => ?_⟩
  have q := g.slot i
  cases c : e.get i with
  | no => rw [c] at q; exact q
  | val d => rw [c] at q; obtain ⟨q1, v, q2, q3⟩ := q; exact ⟨q1, v, q2, Rep.fr f.rd hW q3⟩
  | own par d =>
    rw [c] at q; obtain ⟨p, q1, q2, q3, q4, q5⟩ := q
    have hp : p ≠ D0 := by
      rintro rfl
      cases par with
      | true => exact hP i (q4 rfl).2
      | false => exact (q5 rfl).1 (.inr rfl)
    exact ⟨p, q1, q2, q3.fr f.rd hW (fun u z => by rw [upd_ne hp]; exact z), q4, q5⟩
  | lck d =>
    rw [c] at q; obtain ⟨q1, v, q2, q3⟩ := q
    exact ⟨q1, v, q2, q3.elim (fun z => .inl (Rep.fr f.rd hW z)) fun ⟨p, z1, z2, z3, z4⟩ => .inr ⟨p, z1, z2, z3, z4.fr f.rd hW (fun a e z => by cases e; exact hL i (z ▸ z2))⟩⟩
  | lkd par d =>
    rw [c] at q; obtain ⟨q1, p, q2, q3, q4, q5, q6⟩ := q
    exact ⟨q1, p, q2, q3, q4, q5.fr f.rd hW (fun z => hL i (z ▸ q3)), q6⟩
end

def noX {α : Type} : Out α → Out α
  | .ok a e => .ok a e
  | _ => .bad
/-- the elements one by one -/
def lcL (vs : List Nat) (g : D → Env → Option Env) (q : Env → Out Bool) (f : Env → Out D) : List D → Env → Out (List D)
  | [], e => .ok [] e
  | x :: xs, e => match g x e with
    | some e1 => (noX (q e1)).bind fun b e2 => if b then (noX (f e2)).bind fun d e3 => (lcL vs g q f xs (wipeE e3 vs)).bind fun ds e4 => .ok (d :: ds) e4 else lcL vs g q f xs (wipeE e2 vs)
    | none => .bad
theorem lcL_noX (vs : List Nat) (g : D → Env → Option Env) (q : Env → Out Bool) (f : Env → Out D) : ∀ (xs : List D) (e : Env), noX (lcL vs g q f xs e) = lcL vs g q f xs e
  | [], e => rfl
  | x :: xs, e => by
    simp only [lcL]
    cases g x e with
    | none => rfl
    | some e1 =>
      simp only
      cases q e1 with
      | ok b e2 =>
        simp only [noX, Out.bind]
        cases b with
        | true =>
          simp only [if_true]
          cases f e2 with
          | ok d e3 =>
            simp only
            have ih := lcL_noX vs g q f xs (wipeE e3 vs)
            cases h : lcL vs g q f xs (wipeE e3 vs) with
            | ok ds e4 => rfl
            | exc x e4 => rw [h] at ih; cases ih
            | bad => rfl
          | exc x e3 => rfl
          | bad => rfl
        | false => exact lcL_noX vs g q f xs (wipeE e2 vs)
      | exc x e2 => rfl
      | bad => rfl
def lcD (vs : List Nat) (it : Env → Out ItD) (g : D → Env → Option Env) (q : Env → Out Bool) (f : Env → Out D) : Env → Out D := fun env =>
  (it env).bind fun p e0 => if decide (p.1.length < sizeLine) && vs.all (fun i => plainS (e0.get i)) then
      match p.2 with
      | none => (lcL vs g q f p.1 (wipeE e0 vs)).bind fun ds e => .ok (.lst ds) (backE e0 e vs)
      | some i => match e0.get i with
        | .own par _ => (lcL vs g q f p.1 (wipeE (lockE e0 i) vs)).bind fun ds e => match unlockE par (backE (lockE e0 i) e vs) i with
          | some e' => .ok (.lst ds) e'
          | none => .bad
        | _ => .bad
    else .bad

section
variable {X : Cx} {tg iter elt : Expr} {scope : Scope} {pos : Pos}
/-- the block's contexts -/
abbrev Cx.bl (X : Cx) (scope : Scope) (s : Shared) (H : Hp) (C : Addr) (cl : List (Str × Addr)) (fp : List Addr) : Cx := X.blk s H scope (compEnvC scope cl C X.env) fp
abbrev AllB (X : Cx) (scope : Scope) (P : Cx → Prop) : Prop := ∀ (s : Shared) (H : Hp) (C : Addr) (cl : List (Str × Addr)) (fp : List Addr), P (X.blk s H scope (compEnvC scope cl C X.env) fp)
def STs (X : Cx) (ifs : List Expr) (f : Env → Out Bool) : Prop :=
  (ifs = [] ∧ f = fun env => .ok true env) ∨ ∃ c, ifs = [c] ∧ ST X c f
def TTs.of (X : Cx) (ifs : List Expr) : TT := fun σ H Q => ∀ pins s, Inv X pins σ H s → wpAny (model X.prog X.w) X.A (forIn ifs true fun c r => if r = true then do let ok ← isTrue c X.env (eval c X.env); pure (ForInStep.yield ok) else pure (ForInStep.yield r)) (TP X pins σ Q) X.xe s
theorem pts_of {ifs : List Expr} : PTs X ifs (TTs.of X ifs) := ⟨fun pins s _ _ _ I h => h pins s I⟩
theorem STs.run {ifs : List Expr} {f : Env → Out Bool} (h : STs X ifs f) {Wx : WX} (tk : Takes X Wx) {F : Fx} {O : Own} {σ : L2.St} {H : Hp} {env : Env} (g : Good X.K F O σ H env) {Q : Bool → Hp → Prop}
    (p : Pst X.K X.mg Wx F O σ H (fun _ _ b c => b = c) Q (f env)) : TTs.of X ifs σ H Q := by
  rcases h with ⟨rfl, rfl⟩ | ⟨c, rfl, h⟩
  · exact fun pins s I => pts_nil.run pins s σ H Q I (p.ok g rfl)
  · exact fun pins s I => (pts_one pt_of).run pins s σ H Q I (h Wx tk F O σ H env g Q p)
/-- the walk of a comprehension, from its items on -/
theorem lc_walk {K : PySem.W.Frag} {mg : Str → Option Value} {F : Fx} {O1 : Own} {σ : L2.St} {H1 : Hp} {e1 : Env} {vs is : List Nat} {g : D → Env → Option Env} {q : Env → Out Bool} {f : Env → Out D} {items : List D} {J : It} {D0 : Addr}
    {gg : TG} {tt : TT} {te : TE} {Q : VK} (hv : ∀ i ∈ vs, O1 i = none ∧ F.L i = none) (his : ∀ j ∈ is, j ∈ vs)
    (g1 : Good K F O1 (wipe σ vs) H1 e1) (hr : Runs K (Sx F.S0 O1) (Oset O1) H1 J items) (hn : items.length < sizeLine) (hD : H1 D0 = none)
    (hg : ∀ F O σ' H env v d env', Good K F O σ' H env → Rep K H (Sx F.S0 O) v d → g d env = some env' → ∀ Q : L2.St → Hp → Prop,
      (∀ σ2 O', Sub O' O → σ2.length = σ'.length → (∀ j, j ∉ is → σ2[j]? = σ'[j]?) → Good K F O' σ2 H env' → Q σ2 H) → gg v σ' H Q)
    (ht : ∀ F O σ' H env, Good K F O σ' H env → ∀ Q : Bool → Hp → Prop, Pst K mg (fun _ _ _ _ => False) F O σ' H (fun _ _ b c => b = c) Q (q env) → tt σ' H Q)
    (he : ∀ F O σ' H env, Good K F O σ' H env → ∀ Q : VK, Pst K mg (fun _ _ _ _ => False) F O σ' H (Rep K) Q (f env) → te σ' H Q)
    (fin : match lcL vs g q f items e1 with
      | .ok ds e' => ∀ H' O' acc, Good K (F.more D0) O' (wipe σ vs) H' e' → Sub O' O1 → Fr (Oset O1) H1 H' → H' D0 = some (.lst acc) → Reps K H' (Sx (F.more D0).S0 O') acc ds → Q (.ref D0) H'
      | _ => False) :
    ∃ W : Nat → Nat → Hp → Prop, (∃ m, W 0 m (upd H1 D0 (.lst []))) ∧ ∀ i m H, W i m H →
      (J.stop i H ∧ Q (.ref D0) H) ∨ (J.go i H ∧ ∃ Nx : Hp → Prop, (∀ H', Nx H' → ∃ m', m' < m ∧ W (i + 1) m' H') ∧ ∀ x H', J.yld i H x H' → gg x (wipe σ vs) H' fun σ2 H2 => wipe σ2 vs = wipe σ vs ∧ tt σ2 H2 fun b H3 =>
        if b = true then te σ2 H3 fun y H4 => ∃ acc, H4 D0 = some (.lst acc) ∧ acc.length < sizeLine ∧ Nx (upd H4 D0 (.lst (acc ++ [y]))) else Nx H3) := by
  have hLD : ∀ i, F.L i ≠ some D0 := fun i z => g1.s0 _ (g1.ls _ _ z) hD
  have hPD : ∀ i, F.P i ≠ some D0 := fun i z => g1.s0 _ (g1.ps _ _ z) hD
  have hOD : ¬ Oset O1 D0 := fun z => g1.dom (.inr z) hD
  let Inv' : Nat → Hp → Prop := fun i H => i ≤ items.length ∧ ∃ e O acc ds, Good K (F.more D0) O (wipe σ vs) H e ∧ Sub O O1 ∧ Fr (Oset O1) H1 H ∧ H D0 = some (.lst acc) ∧ Reps K H (Sx (F.more D0).S0 O) acc ds ∧ acc.length ≤ i ∧
    (match (lcL vs g q f (items.drop i) e).bind fun ds2 e' => .ok (ds ++ ds2) e' with
      | .ok ds e' => ∀ H' O' acc, Good K (F.more D0) O' (wipe σ vs) H' e' → Sub O' O1 → Fr (Oset O1) H1 H' → H' D0 = some (.lst acc) → Reps K H' (Sx (F.more D0).S0 O') acc ds → Q (.ref D0) H'
      | _ => False)
  refine ⟨fun i m H => m = items.length - i ∧ Inv' i H, ⟨items.length, by simp, Nat.zero_le _, e1, O1, [], [], g1.moreD hD, .refl, Fr.new hD, upd_same, .nil, Nat.le_refl _, ?_⟩, ?_⟩
  · rw [List.drop_zero]
    cases h : lcL vs g q f items e1 with
    | ok ds e' => rw [h] at fin; exact fin
    | exc x e' => rw [h] at fin; exact fin
    | bad => rw [h] at fin; exact fin
  rintro i m H ⟨rfl, hi, e, O, acc, ds, gd, s, fr, hacc, racc, lacc, rest⟩
  have hS2 : ∀ a, Sx (F.more D0).S0 O a → Sx F.S0 O1 a ∨ H1 a = none := by
    rintro a ((z | z) | z)
    · exact .inl (.inl z)
    · exact .inr (z ▸ hD)
    · exact .inl (.inr (s.set z))
  obtain ⟨r1, r2⟩ := hr i H (Sx (F.more D0).S0 O) fr hS2 fun a z => gd.dom z
  by_cases hlt : i < items.length
  · refine .inr ⟨(r1 hlt).1, fun H' => Inv' (i + 1) H', fun H' z => ⟨_, by omega, rfl, z⟩, fun x H' y => ?_⟩
    obtain ⟨sm, rep⟩ := (r1 hlt).2 x H' y
    have hx : items[i]? = some items[i] := by simp [hlt]
    have rx := rep _ hx
    have gd' := gd.same sm
    have hdrop : items.drop i = items[i] :: items.drop (i + 1) := List.drop_eq_getElem_cons hlt
    rw [hdrop] at rest
    simp only [lcL] at rest
    cases hg1 : g items[i] e with
    | none => rw [hg1] at rest; exact rest.elim
    | some ea =>
      rw [hg1] at rest
      simp only at rest
      refine hg _ O _ H' e x _ ea gd' rx hg1 _ fun σ2 Oa sa la ka ga => ⟨wipe_again la ka his, ?_⟩
      have hvO : ∀ O', Sub O' O → ∀ j ∈ vs, O' j = none ∧ (F.more D0).L j = none := fun O' s' j hj => ⟨((s'.trans s) j).elim (fun z => z.trans (hv j hj).1) id, (hv j hj).2⟩
      have fr' : Fr (Oset O1) H1 H' := fr.trans (Fr.same sm)
      have hacc' : H' D0 = some (.lst acc) := sm _ _ hacc
      have racc' : Reps K H' (Sx (F.more D0).S0 O) acc ds := Reps.fr (W := fun _ => False) (Fr.same sm).rd (fun _ z => z.elim) racc
      -- back to the wiped frame
      have wip : ∀ {O' H'' e''}, Sub O' O → Good K (F.more D0) O' σ2 H'' e'' → Good K (F.more D0) O' (wipe σ vs) H'' (wipeE e'' vs) := by
        intro O' H'' e'' s' g'
        have h1 := wipe_again la ka his
        have := g'.wipedO (vs := vs) (hvO O' s')
        rw [h1] at this; exact this
      have kn : ∀ {O' H''}, Sub O' O → Fr (Oset O) H' H'' → Fr (Oset O1) H1 H'' ∧ H'' D0 = some (.lst acc) ∧ Reps K H'' (Sx (F.more D0).S0 O') acc ds := by
        intro O' H'' s' f'
        refine ⟨fr'.trans (f'.mono fun a z => s.set z), f'.eq _ _ hacc' fun z => hOD (s.set z), Reps.mono (fun _ z => s'.sx z) (Reps.fr f'.rd (fun _ z => .inr z) racc')⟩
      cases hq1 : q ea with
      | exc x e2 => rw [hq1] at rest; exact rest.elim
      | bad => rw [hq1] at rest; exact rest.elim
      | ok b e2 =>
        rw [hq1] at rest
        refine ht _ Oa σ2 H' ea ga _ ?_
        rw [hq1]
        intro b' H3 O3 s3 f3 g3 rb
        subst rb
        have s3' := s3.trans sa
        have f3' := f3.mono fun a z => sa.set z
        cases b' with
        | false =>
          rw [if_neg Bool.false_ne_true]
          simp only [noX, Out.bind, Bool.false_eq_true, if_false] at rest
          obtain ⟨k1, k2, k3⟩ := kn s3' f3'
          exact ⟨hlt, _, O3, acc, ds, wip s3' g3, s3'.trans s, k1, k2, k3, by omega, rest⟩
        | true =>
          rw [if_pos rfl]
          simp only [noX, Out.bind, if_true] at rest
          cases hf1 : f e2 with
          | exc x e3 => rw [hf1] at rest; exact rest.elim
          | bad => rw [hf1] at rest; exact rest.elim
          | ok d e3 =>
            rw [hf1] at rest
            refine he _ O3 σ2 H3 e2 g3 _ ?_
            rw [hf1]
            intro y H4 O4 s4 f4 g4 ry
            have s4' := s4.trans s3'
            have f4' := f3'.trans (f4.mono fun a z => s3'.set z)
            obtain ⟨k1, k2, k3⟩ := kn s4' f4'
            refine ⟨acc, k2, by omega, hlt, wipeE e3 vs, O4, acc ++ [y], ds ++ [d], ?_, s4'.trans s, ?_, upd_same, ?_, by simp; omega, ?_⟩
            · exact (wip s4' g4).accD hLD hPD
            · exact ⟨fun a u w n => by
                have hne : a ≠ D0 := fun z => by rw [z, hD] at w; cases w
                rw [upd_ne hne]; exact k1.eq a u w n, fun a w => by
                by_cases z : a = D0
                · rw [z, upd_same]; simp
                · rw [upd_ne z]; exact k1.dom a w⟩
            · have fw : FrR (fun a => a = D0) H4 (upd H4 D0 (.lst (acc ++ [y]))) := (Fr.write (W := fun a => a = D0) rfl).rd
              exact Reps.append (Reps.fr fw (fun a z => .inl (.inr z)) k3) (.cons (Rep.fr fw (fun a z => .inl (.inr z)) ry) .nil)
            · simp only [noX, Out.bind] at rest ⊢
              cases hl : lcL vs g q f (items.drop (i + 1)) (wipeE e3 vs) with
              | ok ds' e' => rw [hl] at rest; simp only [Out.bind] at rest ⊢; rw [List.append_assoc]; exact rest
              | exc x e' => rw [hl] at rest; exact rest
              | bad => rw [hl] at rest; exact rest
  · have e : i = items.length := by omega
    subst e
    refine .inl ⟨r2 (Nat.le_refl _), ?_⟩
    rw [List.drop_length] at rest
    simp only [lcL, Out.bind, List.append_nil] at rest
    exact rest H O acc gd s fr hacc racc
end
end Rp
set_option Elab.async false
set_option linter.all false
set_option maxRecDepth 100000
/-! RpM: list comprehensions, as expressions and stored. -/
namespace Rp
open PySem PySem.Spec PyProof.Rows L2

section
variable {X : Cx} {tg iter elt : Expr} {scope : Scope} {pos : Pos}
theorem takes00 {X : Cx} : Takes X (fun _ _ _ _ => False) := fun _ _ x => by
  obtain ⟨_, _, _, _, _, _, _, _, _, _, _, _, _, _, _, _, w⟩ := x
  exact w.elim
def TG.bl (X : Cx) (scope : Scope) (tg : Expr) : TG := fun v σ H Q => ∀ (s : Shared) (H0 : Hp) (C : Addr) (cl : List (Str × Addr)) (fp : List Addr), TG.of (X.blk s H0 scope (compEnvC scope cl C X.env) fp) tg v σ H Q
def TTs.bl (X : Cx) (scope : Scope) (ifs : List Expr) : TT := fun σ H Q => ∀ (s : Shared) (H0 : Hp) (C : Addr) (cl : List (Str × Addr)) (fp : List Addr), TTs.of (X.blk s H0 scope (compEnvC scope cl C X.env) fp) ifs σ H Q
def TE.bl (X : Cx) (scope : Scope) (e : Expr) : TE := fun σ H Q => ∀ (s : Shared) (H0 : Hp) (C : Addr) (cl : List (Str × Addr)) (fp : List Addr), TE.of (X.blk s H0 scope (compEnvC scope cl C X.env) fp) e σ H Q
def TI.bl (X : Cx) (scope : Scope) (tg e : Expr) : TI := fun σ H Q => ∀ (s : Shared) (H0 : Hp) (C : Addr) (cl : List (Str × Addr)) (fp : List Addr), TI.of (X.blk s H0 scope (compEnvC scope cl C X.env) fp) tg e σ H Q
theorem pg_bl {s : Shared} {H : Hp} {C : Addr} {cl : List (Str × Addr)} {fp : List Addr} : PG (X.blk s H scope (compEnvC scope cl C X.env) fp) tg (TG.bl X scope tg) := ⟨fun pins s _ _ _ u _ I r h => pg_of.run pins s _ _ _ u _ I r (h _ _ _ _ _)⟩
theorem pts_bl {ifs : List Expr} {s : Shared} {H : Hp} {C : Addr} {cl : List (Str × Addr)} {fp : List Addr} : PTs (X.blk s H scope (compEnvC scope cl C X.env) fp) ifs (TTs.bl X scope ifs) := ⟨fun pins s _ _ _ I h => pts_of.run pins s _ _ _ I (h _ _ _ _ _)⟩
theorem pe_bl {e : Expr} {s : Shared} {H : Hp} {C : Addr} {cl : List (Str × Addr)} {fp : List Addr} : PE (X.blk s H scope (compEnvC scope cl C X.env) fp) e (TE.bl X scope e) := ⟨fun pins s _ _ _ I h => pe_of.run pins s _ _ _ I (h _ _ _ _ _)⟩
theorem pi_bl {e : Expr} {s : Shared} {H : Hp} {C : Addr} {cl : List (Str × Addr)} {fp : List Addr} : PI (X.blk s H scope (compEnvC scope cl C X.env) fp) tg e (TI.bl X scope tg e) := ⟨fun pins s _ _ _ I h => pi_of.run pins s _ _ _ I (h _ _ _ _ _)⟩

theorem Sub.drop {O O' : Own} {i : Nat} (s : Sub O' (O.drop i)) : Sub O' O := s.trans Own.drop_sub

theorem lockF_more {F : Fx} {i : Nat} {p D0 : Addr} : (F.lockF i p).more D0 = (F.more D0).lockF i p := by
  unfold Fx.lockF Fx.more
  simp only [Fx.mk.injEq, and_self, and_true]
  funext a
  exact propext or_right_comm
/-- behind a comprehension's walk the new list alone may stand otherwise -/
theorem fr_new {W : Addr → Prop} {H H' : Hp} {D0 : Addr} {o : HO} (f : Fr W H H') (h : H' D0 ≠ none) : Fr (fun a => W a ∨ a = D0) (upd H D0 o) H' := by
  refine ⟨fun a u w n => ?_, fun a w => ?_⟩
  · rw [upd_ne fun z => n (.inr z)] at w; exact f.eq a u w fun z => n (.inl z)
  · by_cases z : a = D0
    · exact z ▸ h
    · rw [upd_ne z] at w; exact f.dom a w
/-- an iterable's promise, by what its wish is -/
def SIw (X : Cx) (wi : TI) (f : Env → Out ItD) : Prop :=
  ∀ Wx, Takes X Wx → ∀ F O σ H env, Good X.K F O σ H env → ∀ R : It → Hp → Prop,
    (match f env with
      | .ok (items, lk) e' => ∀ J H' O', Sub O' O → Fr (Oset O) H H' → Good X.K F O' σ H' e' → (∀ i, lk = some i → ∃ par d, e'.get i = .own par d) → Runs X.K (Sx F.S0 O') (Oset (O'.lockO lk)) H' J items → R J H'
      | .exc x e' => ∀ cls dx H' O', Sub O' O → Fr (Oset O) H H' → Good X.K F O' σ H' e' → XRep X.mg cls dx x → Wx cls dx σ H'
      | .bad => False) → wi σ H R
/-- the wanted end of a comprehension, in its terms -/
theorem lc_keyW {ifs : List Expr} {vs is : List Nat} {it : Env → Out ItD} {g : D → Env → Option Env} {q : Env → Out Bool} {f : Env → Out D} {wi : TI} {gg : TG} (his : ∀ j ∈ is, j ∈ vs)
    (hi : SIw X wi it)
    (hg' : ∀ (F : Fx) (O : Own) (σ' : L2.St) (H : Hp) (env : Env) (v : V) (d : D) (env' : Env), Good X.K F O σ' H env → Rep X.K H (Sx F.S0 O) v d → g d env = some env' → ∀ Q : L2.St → Hp → Prop,
      (∀ σ2 O', Sub O' O → σ2.length = σ'.length → (∀ j, j ∉ is → σ2[j]? = σ'[j]?) → Good X.K F O' σ2 H env' → Q σ2 H) → gg v σ' H Q)
    (ht : AllB X scope fun B => STs B ifs q) (he : AllB X scope fun B => SE B elt f)
    {Wx : WX} (tk : Takes X Wx) {F : Fx} {O : Own} {σ : L2.St} {H : Hp} {env : Env} (gd : Good X.K F O σ H env) {Q : VK}
    (p : PstF X.K X.mg Wx F O σ H Q (lcD vs it g q f env)) :
    tLc wi gg (TTs.bl X scope ifs) (TE.bl X scope elt) vs σ H Q := by
  unfold lcD at p
  refine hi Wx tk F O σ H env gd _ ?_
  cases ci : it env with
  | bad => rw [ci] at p; exact p.elim
  | exc x e' => rw [ci] at p; exact p
  | ok pr e0 =>
    obtain ⟨items, lk⟩ := pr
    rw [ci] at p
    intro J H1 O1 s1 f1 g1 hlk hr D0 hD
    simp only [Out.bind] at p
    split at p
    case isFalse => exact p.elim
    rename_i hb
    rw [Bool.and_eq_true, decide_eq_true_eq, List.all_eq_true] at hb
    obtain ⟨hlen, hpl⟩ := hb
    have ht' : ∀ (F : Fx) (O : Own) (σ' : L2.St) (H : Hp) (env : Env), Good X.K F O σ' H env → ∀ Q : Bool → Hp → Prop, Pst X.K X.mg (fun _ _ _ _ => False) F O σ' H (fun _ _ b c => b = c) Q (q env) → TTs.bl X scope ifs σ' H Q := fun F O σ' H env a Q k s H0 C cl fp => (ht s H0 C cl fp).run takes00 a k
    have he' : ∀ (F : Fx) (O : Own) (σ' : L2.St) (H : Hp) (env : Env), Good X.K F O σ' H env → ∀ Q : VK, Pst X.K X.mg (fun _ _ _ _ => False) F O σ' H (Rep X.K) Q (f env) → TE.bl X scope elt σ' H Q := fun F O σ' H env a Q k s H0 C cl fp => he s H0 C cl fp _ takes00 F O σ' H env a Q k
    cases lk with
    | none =>
      simp only at p
      have hv : ∀ i ∈ vs, O1 i = none ∧ F.L i = none := fun i hm => g1.plain (hpl i hm)
      refine lc_walk (F := F) (e1 := wipeE e0 vs) hv his (g1.wipedO hv) hr hlen hD hg' ht' he' ?_
      have hx := lcL_noX vs g q f items (wipeE e0 vs)
      cases cl : lcL vs g q f items (wipeE e0 vs) with
      | bad => rw [cl] at p; exact p.elim
      | exc x e' => rw [cl] at hx; cases hx
      | ok ds e' =>
        rw [cl] at p
        intro H' O' acc g2 s2 f2 ha ra
        have hLD : ∀ i p, F.L i = some p → F.S0 p := g1.ls
        have g3 := (g2.lessD g1.ls g1.ps)
        have g4 : Good X.K F O' σ H' (backE e0 e' vs) := g1.back hpl g3 s2 f2 fun _ z => .inr z
        have hDn : H' D0 ≠ none := by rw [ha]; simp
        have g5 : Good X.K (F.more D0) O' σ H' (backE e0 e' vs) := (g1.moreD (o := .lst []) hD).back hpl g2 s2 (fr_new f2 hDn) fun a z => z.elim .inr fun w => .inl (.inr w)
        refine p (.ref D0) H' O' (s2.trans s1) (f1.trans (f2.mono fun a z => s1.set z)) g4 ⟨?_, ?_⟩ fun ds _ p e => by cases e; exact g5
        · have hn : ¬ Sx F.S0 O' D0 := by
            rintro (z | z)
            · exact g1.s0 _ z hD
            · exact g1.dom (.inr (s2.set z)) hD
          exact .lst ha hn (Reps.mono (fun a z => z.elim (fun z => .inl (.inl z)) .inr) ra)
        · intro ds' e1; cases e1
          refine ⟨D0, acc, rfl, f1.none hD, ha, Reps.mono (fun a z => ?_) ra⟩
          rcases z with (z | z) | z
          · exact .inl (.inl z)
          · exact .inr z
          · exact .inl (.inr z)
    | some i =>
      simp only at p
      obtain ⟨par, d, hown⟩ := hlk i rfl
      simp only [hown] at p
      obtain ⟨pp, q1, q2, q3, q4, q5⟩ := g1.at hown
      have gl := g1.lock hown q1
      have hpl' : ∀ j ∈ vs, plainS ((lockE e0 i).get j) = true := fun j hm => by
        unfold lockE; rw [hown]
        by_cases hj : i = j
        · subst hj; have := hpl i hm; rw [hown] at this; cases this
        · simp only; rw [get_set_ne hj]; exact hpl j hm
      have hv : ∀ j ∈ vs, (O1.drop i) j = none ∧ (F.lockF i pp).L j = none := fun j hm => gl.plain (hpl' j hm)
      have hr' : Runs X.K (Sx (F.lockF i pp).S0 (O1.drop i)) (Oset (O1.drop i)) H1 J items := by
        intro n H2 S2 h1 h2 h3
        refine hr n H2 S2 h1 (fun a z => (h2 a z).imp_left ?_) h3
        rintro ((z | rfl) | z)
        · exact .inl z
        · exact .inr ⟨i, q1⟩
        · exact .inr (Own.drop_sub.set z)
      refine lc_walk (F := F.lockF i pp) (e1 := wipeE (lockE e0 i) vs) hv his (gl.wipedO hv) hr' hlen hD hg' ht' he' ?_
      have hx := lcL_noX vs g q f items (wipeE (lockE e0 i) vs)
      cases cl : lcL vs g q f items (wipeE (lockE e0 i) vs) with
      | bad => rw [cl] at p; exact p.elim
      | exc x e' => rw [cl] at hx; cases hx
      | ok ds e' =>
        rw [cl] at p
        intro H' O' acc g2 s2 f2 ha ra
        have g3 := (g2.lessD gl.ls gl.ps)
        have g4 : Good X.K (F.lockF i pp) O' σ H' (backE (lockE e0 i) e' vs) := gl.back hpl' g3 s2 f2 fun _ z => .inr z
        have hDn : H' D0 ≠ none := by rw [ha]; simp
        have gl' := (g1.moreD (o := .lst []) hD).lock hown q1
        have g4' := gl'.back hpl' (lockF_more ▸ g2) s2 (fr_new f2 hDn) fun a z => z.elim .inr fun w => .inl (.inl (.inr w))
        have hop : ∀ a, Oset (O1.drop i) a → a ≠ pp := by
          rintro a ⟨j, z⟩ rfl
          unfold Own.drop at z; split at z
          · cases z
          · rename_i ne; exact ne (g1.inj _ _ _ z q1)
        have hDp : D0 ≠ pp := fun z => g1.dom (.inr ⟨i, q1⟩) (z ▸ hD)
        simp only at p
        cases cu : unlockE par (backE (lockE e0 i) e' vs) i with
        | none => rw [cu] at p; exact p.elim
        | some e'' =>
          rw [cu] at p
          have g5 := g1.unlock hown q1 g4 (fun u hu => f2.eq _ _ hu fun z => hop _ z rfl) cu
          have g5' := (g1.moreD (o := .lst []) hD).unlock hown q1 g4' (fun u hu => by rw [upd_ne hDp.symm] at hu; exact f2.eq _ _ hu fun z => hop _ z rfl) cu
          have s3 : Sub (fun j => if j = i then some pp else O' j) O1 := fun j => by
            by_cases hj : j = i
            · subst hj; left; simp only [if_true]; exact q1.symm
            · simp only [if_neg hj]
              rcases s2 j with z | z
              · left; rw [z]; unfold Own.drop; rw [if_neg hj]
              · exact .inr z
          have hS : ∀ a, Sx F.S0 (fun j => if j = i then some pp else O' j) a → Sx ((F.lockF i pp).more D0).S0 O' a := by
            rintro a (z | ⟨j, z⟩)
            · exact .inl (.inl (.inl z))
            · have z' : (if j = i then some pp else O' j) = some a := z
              split at z'
              · cases z'; exact .inl (.inl (.inr rfl))
              · exact .inr ⟨j, z'⟩
          refine p (.ref D0) H' _ (s3.trans s1) (f1.trans ((f2.mono fun a z => Own.drop_sub.set z).mono fun a z => s1.set z)) g5 ⟨?_, ?_⟩ fun ds _ p e => by cases e; exact g5'
          · have hn : ¬ Sx F.S0 (fun j => if j = i then some pp else O' j) D0 := by
              rintro (z | z)
              · exact g1.s0 _ z hD
              · exact g1.dom (.inr (s3.set z)) hD
            exact .lst ha hn (Reps.mono hS ra)
          · intro ds' e1; cases e1
            refine ⟨D0, acc, rfl, f1.none hD, ha, Reps.mono (fun a z => ?_) ra⟩
            rcases z with z | rfl
            · exact hS a z
            · exact .inl (.inr rfl)
theorem lc_key {ifs : List Expr} {vs is : List Nat} {it : Env → Out ItD} {g : D → Env → Option Env} {q : Env → Out Bool} {f : Env → Out D} (his : ∀ j ∈ is, j ∈ vs)
    (hi : SI X tg iter it) (hg : AllB X scope fun B => SG B tg is g) (ht : AllB X scope fun B => STs B ifs q) (he : AllB X scope fun B => SE B elt f)
    {Wx : WX} (tk : Takes X Wx) {F : Fx} {O : Own} {σ : L2.St} {H : Hp} {env : Env} (gd : Good X.K F O σ H env) {Q : VK}
    (p : PstF X.K X.mg Wx F O σ H Q (lcD vs it g q f env)) :
    tLc (TI.of X tg iter) (TG.bl X scope tg) (TTs.bl X scope ifs) (TE.bl X scope elt) vs σ H Q :=
  lc_keyW his hi (fun F O σ' H env v d env' a b c Q k s H0 C cl fp => hg s H0 C cl fp F O σ' H env v d env' a b c Q k) ht he tk gd p
theorem sf_lc {ifs : List Expr} {own : List (Str × Nat)} {is : List Nat} {it : Env → Out ItD} {g : D → Env → Option Env} {q : Env → Out Bool} {f : Env → Out D} (hc : X.calm = true) (hN : X.N.Nodup) (ok : BlkOk X.N X.env.scope scope own)
    (his : ∀ j ∈ is, j ∈ own.map (·.2)) (hs : ∀ x, foldedSetIterable iter X.env x = pure x)
    (hi : SI X tg iter it) (hg : AllB X scope fun B => SG B tg is g) (ht : AllB X scope fun B => STs B ifs q) (he : AllB X scope fun B => SE B elt f) :
    SF X (.ListComp elt [⟨tg, iter, ifs, 0⟩] scope pos) (lcD (own.map (·.2)) it g q f) := by
  intro Wx tk F O σ H env gd Q p
  exact TE.by (pe_lc hc hN pi_of ok (fun _ _ _ _ _ => pg_bl) (fun _ _ _ _ _ => pts_bl) (fun _ _ _ _ _ => pe_bl) hs) (lc_key his hi hg ht he tk gd p)
end
end Rp
set_option Elab.async false
set_option linter.all false
set_option maxRecDepth 100000
/-! RpN: statements. -/
namespace Rp
open PySem PySem.Spec PyProof.Rows L2

/-- what is owned later: as before, or new since H -/
def Nw (O' O : Own) (H : Hp) : Prop := ∀ i, O' i = O i ∨ O' i = none ∨ ∃ p, O' i = some p ∧ H p = none
theorem Nw.refl {O : Own} {H : Hp} : Nw O O H := fun _ => .inl rfl
theorem Sub.nw {O' O : Own} {H : Hp} (s : Sub O' O) : Nw O' O H := fun i => (s i).imp id .inl
theorem Nw.set {O' O : Own} {H : Hp} (s : Nw O' O H) {p : Addr} (h : Oset O' p) : Oset O p ∨ H p = none := by
  obtain ⟨i, e⟩ := h
  rcases s i with q | q | ⟨p', q, n⟩
  · exact .inl ⟨i, q ▸ e⟩
  · rw [q] at e; cases e
  · rw [q] at e; cases e; exact .inr n
theorem Nw.trans {O O1 O2 : Own} {W : Addr → Prop} {H H1 : Hp} (a : Nw O2 O1 H1) (b : Nw O1 O H) (f : Fr W H H1) : Nw O2 O H := fun i => by
  rcases a i with h | h | ⟨p, h, n⟩
  · rw [h]; exact b i
  · exact .inr (.inl h)
  · exact .inr (.inr ⟨p, h, f.none n⟩)
theorem Fr.next {O O1 : Own} {H H1 H2 : Hp} (a : Fr (Oset O) H H1) (b : Fr (Oset O1) H1 H2) (s : Nw O1 O H) : Fr (Oset O) H H2 := a.then b fun p z => s.set z

def Res.thn (r : Res) (f : Env → Res) : Res := match r with
  | .nx e => f e
  | .rt d b e => .rt d b e
  | .bk e => .bk e
  | .exc x e => .exc x e
  | .bad => .bad
def Out.stm {α : Type} (o : Out α) (f : α → Env → Res) : Res := match o with
  | .ok a e => f a e
  | .exc x e => .exc x e
  | .bad => .bad
/-- what is given back -/
def RtOk (K : PySem.W.Frag) (F : Fx) (O' : Own) (H' : Hp) (v : V) (d : D) (σ' : L2.St) (e' : Env) : Bool → Prop
  | false => Rep K H' (Sx F.S0 O') v d
  | true => FreshV K F.H0 H' (Sx F.S0 O') v d ∧ ∀ ds, d = .lst ds → ∀ p, v = .ref p → Good K (F.more p) O' σ' H' e'
def PstS (K : PySem.W.Frag) (mg : Str → Option Value) (Wx : WX) (F : Fx) (O : Own) (H : Hp) (N : Ends) : Res → Prop
  | .nx e' => ∀ σ' H' O', Nw O' O H → Fr (Oset O) H H' → Good K F O' σ' H' e' → N.nx σ' H'
  | .bk e' => ∀ σ' H' O', Nw O' O H → Fr (Oset O) H H' → Good K F O' σ' H' e' → N.bk σ' H'
  | .rt d b e' => ∀ v σ' H' O', Nw O' O H → Fr (Oset O) H H' → Good K F O' σ' H' e' → RtOk K F O' H' v d σ' e' b → N.rt v H'
  | .exc x e' => ∀ cls dx σ' H' O', Nw O' O H → Fr (Oset O) H H' → Good K F O' σ' H' e' → XRep mg cls dx x → Wx cls dx σ' H'
  | .bad => False
section
variable {K : PySem.W.Frag} {mg : Str → Option Value} {Wx : WX} {F : Fx} {O O1 : Own} {σ : L2.St} {H H1 : Hp} {N : Ends} {α β γ δ : Type}
theorem PstS.step {o : Res} (h : PstS K mg Wx F O H N o) (s : Nw O1 O H) (f : Fr (Oset O) H H1) : PstS K mg Wx F O1 H1 N o := by
  cases o with
  | nx e' => exact fun σ' H' O' s' f' g => h σ' H' O' (s'.trans s f) (f.next f' s) g
  | bk e' => exact fun σ' H' O' s' f' g => h σ' H' O' (s'.trans s f) (f.next f' s) g
  | rt d b e' => exact fun v σ' H' O' s' f' g r => h v σ' H' O' (s'.trans s f) (f.next f' s) g r
  | exc x e' => exact fun cls dx σ' H' O' s' f' g r => h cls dx σ' H' O' (s'.trans s f) (f.next f' s) g r
  | bad => exact h
theorem PstS.seq {o : Res} {f : Env → Res} (h : PstS K mg Wx F O H N (o.thn f)) {nx : L2.St → Hp → Prop}
    (k : ∀ e1 σ1 H1 O1, Nw O1 O H → Fr (Oset O) H H1 → Good K F O1 σ1 H1 e1 → PstS K mg Wx F O1 H1 N (f e1) → nx σ1 H1) : PstS K mg Wx F O H { N with nx := nx } o := by
  cases o with
  | nx e' => exact fun σ' H' O' s' f' g => k e' σ' H' O' s' f' g (PstS.step h s' f')
  | bk e' => exact h
  | rt d b e' => exact h
  | exc x e' => exact h
  | bad => exact h
/-- an expression within a statement -/
theorem PstS.expr {R1 : Hp → (Addr → Prop) → δ → γ → Prop} {Q1 : δ → Hp → Prop} {o : Out γ} {f : γ → Env → Res} (h : PstS K mg Wx F O H N (o.stm f))
    (k : ∀ d e1 v H1 O1, Sub O1 O → Fr (Oset O) H H1 → Good K F O1 σ H1 e1 → R1 H1 (Sx F.S0 O1) v d → PstS K mg Wx F O1 H1 N (f d e1) → Q1 v H1) : Pst K mg Wx F O σ H R1 Q1 o := by
  cases o with
  | ok d e' => exact fun v H' O' s' f' g r => k d e' v H' O' s' f' g r (PstS.step h s'.nw f')
  | exc x e' => exact fun cls dx H' O' s' f' g r => h cls dx σ H' O' s'.nw f' g r
  | bad => exact h
theorem PstS.exprF {Q1 : VK} {o : Out D} {f : D → Env → Res} (h : PstS K mg Wx F O H N (o.stm f))
    (k : ∀ d e1 v H1 O1, Sub O1 O → Fr (Oset O) H H1 → Good K F O1 σ H1 e1 → FreshV K H H1 (Sx F.S0 O1) v d → (∀ ds, d = .lst ds → ∀ p, v = .ref p → Good K (F.more p) O1 σ H1 e1) → PstS K mg Wx F O1 H1 N (f d e1) → Q1 v H1) : PstF K mg Wx F O σ H Q1 o := by
  cases o with
  | ok d e' => exact fun v H' O' s' f' g r kk => k d e' v H' O' s' f' g r kk (PstS.step h s'.nw f')
  | exc x e' => exact fun cls dx H' O' s' f' g r => h cls dx σ H' O' s'.nw f' g r
  | bad => exact h
/-- the items walked, within a statement -/
theorem PstS.iter {R1 : It → Hp → Prop} {o : Out ItD} {f : ItD → Env → Res} (h : PstS K mg Wx F O H N (o.stm f))
    (k : ∀ items lk e1 J H1 O1, Sub O1 O → Fr (Oset O) H H1 → Good K F O1 σ H1 e1 → (∀ i, lk = some i → ∃ par d, e1.get i = .own par d) → Runs K (Sx F.S0 O1) (Oset (O1.lockO lk)) H1 J items → PstS K mg Wx F O1 H1 N (f (items, lk) e1) → R1 J H1) :
    PstI K mg Wx F O σ H R1 o := by
  cases o with
  | ok d e' => obtain ⟨items, lk⟩ := d; exact fun J H' O' s' f' g l r => k items lk e' J H' O' s' f' g l r (PstS.step h s'.nw f')
  | exc x e' => exact fun cls dx H' O' s' f' g r => h cls dx σ H' O' s'.nw f' g r
  | bad => exact h
theorem PstS.nxt {e : Env} (h : PstS K mg Wx F O H N (.nx e)) (g : Good K F O σ H e) : N.nx σ H := h σ H O .refl .refl g
theorem PstS.nxtN {e : Env} {σ1 : L2.St} {H1 : Hp} {O1 : Own} (h : PstS K mg Wx F O H N (.nx e)) (s : Nw O1 O H) (f : Fr (Oset O) H H1) (g : Good K F O1 σ1 H1 e) : N.nx σ1 H1 := h σ1 H1 O1 s f g
end

def TS.of (X : Cx) (st : Stmt) : TS := fun N σ H => ∀ pins s, Inv X pins σ H s → wpAny (model X.prog X.w) X.A (exec st X.env) (L2.SP X pins N) X.xe s
theorem ps_of {X : Cx} {st : Stmt} : PS X st (TS.of X st) := ⟨fun pins s _ _ _ I h => h pins s I⟩
theorem TS.by {X : Cx} {st : Stmt} {t : TS} (h : PS X st t) {N : Ends} {σ : L2.St} {H : Hp} (q : t N σ H) : TS.of X st N σ H := fun pins s I => h.run pins s σ H N I q
def TSs.of (X : Cx) (st : List Stmt) : TS := fun N σ H => ∀ pins s, Inv X pins σ H s → wpAny (model X.prog X.w) X.A (execs st X.env) (L2.SP X pins N) X.xe s
theorem pss_of {X : Cx} {st : List Stmt} : PSs X st (TSs.of X st) := ⟨fun pins s _ _ _ I h => h pins s I⟩
theorem TSs.by {X : Cx} {st : List Stmt} {t : TS} (h : PSs X st t) {N : Ends} {σ : L2.St} {H : Hp} (q : t N σ H) : TSs.of X st N σ H := fun pins s I => h.run pins s σ H N I q

def S1 (X : Cx) (st : Stmt) (f : Env → Res) : Prop :=
  ∀ Wx, Takes X Wx → ∀ F O σ H env, Good X.K F O σ H env → ∀ N : Ends, PstS X.K X.mg Wx F O H N (f env) → TS.of X st N σ H
def SS (X : Cx) (st : List Stmt) (f : Env → Res) : Prop :=
  ∀ Wx, Takes X Wx → ∀ F O σ H env, Good X.K F O σ H env → ∀ N : Ends, PstS X.K X.mg Wx F O H N (f env) → TSs.of X st N σ H

section
variable {X : Cx} {st : Stmt} {sts : List Stmt} {e tg a b : Expr} {pos : Pos} {f g : Env → Res} {fe : Env → Out D} {fb : Env → Out Bool}
def dNil : Env → Res := fun e => .nx e
def dSeq (f g : Env → Res) : Env → Res := fun e => (f e).thn g
theorem ss_nil : SS X [] dNil := by
  intro Wx tk F O σ H env gd N p
  exact TSs.by pss_nil (p.nxt gd)
theorem ss_cons (h1 : S1 X st f) (h2 : SS X sts g) : SS X (st :: sts) (dSeq f g) := by
  intro Wx tk F O σ H env gd N p
  refine TSs.by (pss_cons ps_of pss_of) ?_
  refine h1 Wx tk F O σ H env gd _ (PstS.seq p fun e1 σ1 H1 O1 s1 f1 g1 p1 => ?_)
  exact h2 Wx tk F O1 σ1 H1 e1 g1 N p1
theorem ss_one (h1 : S1 X st f) : SS X [st] f := by
  intro Wx tk F O σ H env gd N p
  refine TSs.by (pss_one ps_of) (h1 Wx tk F O σ H env gd N p)
theorem s1_pass : S1 X (.Pass pos) dNil := by
  intro Wx tk F O σ H env gd N p
  exact TS.by ps_pass (p.nxt gd)
theorem s1_doc {x : Str} {j : Nat} {pos' : Pos} : S1 X (.Expr (.Constant (.str x) j pos) pos') dNil := by
  intro Wx tk F O σ H env gd N p
  exact TS.by ps_doc (p.nxt gd)
theorem s1_break : S1 X (.Break pos) (fun e => .bk e) := by
  intro Wx tk F O σ H env gd N p
  exact TS.by ps_break (p σ H O .refl .refl gd)
/-! ### return -/
def dRet (fe : Env → Out D) : Env → Res := fun env => (fe env).stm fun d e => .rt d false e
def dRetF (fe : Env → Out D) : Env → Res := fun env => (fe env).stm fun d e => .rt d true e
theorem s1_ret (h : SE X e fe) : S1 X (.Return (some e) pos) (dRet fe) := by
  intro Wx tk F O σ H env gd N p
  refine TS.by (ps_ret pe_of) (h Wx tk F O σ H env gd _ (PstS.expr p fun d e1 v H1 O1 s1 f1 g1 r1 p1 => ?_))
  exact p1 v σ H1 O1 .refl .refl g1 r1
theorem FreshV.older {K : PySem.W.Frag} {H0 H1 H : Hp} {S : Addr → Prop} {v : V} {d : D} (r : FreshV K H1 H S v d) (h : ∀ a, H1 a = none → H0 a = none) : FreshV K H0 H S v d :=
  ⟨r.1, fun ds e => by obtain ⟨p, vs, a1, a2, a3, a4⟩ := r.2 ds e; exact ⟨p, vs, a1, h _ a2, a3, a4⟩⟩
theorem Good.h0 {K : PySem.W.Frag} {F : Fx} {O : Own} {σ : L2.St} {H : Hp} {e : Env} (g : Good K F O σ H e) {a : Addr} (h : H a = none) : F.H0 a = none := by
  cases q : F.H0 a with
  | none => rfl
  | some o => exact absurd h (g.d0 a (by rw [q]; simp))
theorem s1_retF (h : SF X e fe) : S1 X (.Return (some e) pos) (dRetF fe) := by
  intro Wx tk F O σ H env gd N p
  refine TS.by (ps_ret pe_of) (h Wx tk F O σ H env gd _ (PstS.exprF p fun d e1 v H1 O1 s1 f1 g1 r1 k1 p1 => ?_))
  exact p1 v σ H1 O1 .refl .refl g1 ⟨r1.older fun a z => gd.h0 z, k1⟩
theorem s1_retN : S1 X (.Return none pos) (fun e => .rt .non false e) := by
  intro Wx tk F O σ H env gd N p
  exact TS.by ps_retN (p .non σ H O .refl .refl gd .non)
/-- an own list is given back -/
def dRetO (i : Nat) : Env → Res := fun env => match env.get i with
  | .own false d => .rt d true (env.set i .no)
  | .val d => .rt d false env
  | .lck d => if d.flat then .rt d false env else .bad
  | _ => .bad
theorem Good.forget {K : PySem.W.Frag} {F : Fx} {O : Own} {σ : L2.St} {H : Hp} {e : Env} {i : Nat} (g : Good K F O σ H e) (h : (e.get i).isLk = false) : Good K F (O.drop i) σ H (e.set i .no) := by
  have hm : ∀ a, Sx F.S0 (O.drop i) a → Sx F.S0 O a := fun a z => Own.drop_sub.sx z
  refine ⟨by rw [List.length_set]; exact g.len, g.s0, g.d0, fun a b c h1 h2 => ?_, fun a b c h1 h2 => g.lo a b c h1 (by unfold Own.drop at h2; split at h2; cases h2; exact h2), g.ls, g.ps, fun j a z => ?_, fun j => ?_⟩
  · refine g.inj a b c ?_ ?_
    · unfold Own.drop at h1; split at h1; cases h1; exact h1
    · unfold Own.drop at h2; split at h2; cases h2; exact h2
  · have := g.ln j a z
    by_cases hj : j = i
    · subst hj; rw [h] at this; cases this
    · rw [get_set_ne (Ne.symm hj)]; exact this
  · by_cases hj : j = i
    · subst hj
      by_cases hl : j < e.length
      · rw [get_set_self hl]; show (O.drop j) j = none; unfold Own.drop; rw [if_pos rfl]
      · have : Env.get (e.set j .no) j = .no := by
          unfold Env.get
          rw [List.getD_eq_getElem?_getD, List.getElem?_eq_none (by rw [List.length_set]; omega)]; rfl
        rw [this]; show (O.drop j) j = none; unfold Own.drop; rw [if_pos rfl]
    · rw [get_set_ne (Ne.symm hj)]
      have ej : (O.drop i) j = O j := by unfold Own.drop; rw [if_neg hj]
      rw [ej]
      exact (g.slot j).mono hm
/-- an own thing let go of: out of all that is held -/
theorem Good.letGo {K : PySem.W.Frag} {F : Fx} {O : Own} {σ : L2.St} {H : Hp} {e : Env} {i : Nat} {d : D} {p : Addr} (g : Good K F O σ H e) (h : e.get i = .own false d) (ho : O i = some p) : Good K (F.more p) (O.drop i) σ H (e.set i .no) := by
  have g' := g.forget (i := i) (by rw [h]; rfl)
  have q := g.at h
  obtain ⟨p', q1, q2, q3, _, q4⟩ := q
  rw [ho] at q1; cases q1
  have hS : ∀ a, Sx (F.more p).S0 (O.drop i) a → Sx F.S0 O a := by
    rintro a ((z | rfl) | z)
    · exact .inl z
    · exact .inr ⟨i, ho⟩
    · exact .inr (Own.drop_sub.set z)
  refine ⟨g'.len, ?_, g'.d0, g'.inj, g'.lo, fun i p z => .inl (g'.ls i p z), fun i p z => .inl (g'.ps i p z), g'.ln, fun j => ?_⟩
  · rintro a (z | rfl)
    · exact g.s0 a z
    · exact g.dom (.inr ⟨i, ho⟩)
  · by_cases hj : j = i
    · subst hj; have := g'.slot j; rw [get_set_self (get_lt (by rw [h]; simp))] at this ⊢; exact this
    · rw [get_set_ne (Ne.symm hj)]
      have ej : (O.drop i) j = O j := by unfold Own.drop; rw [if_neg hj]
      rw [ej]
      have qj := (g.slot j).mono hS
      cases c : e.get j with
      | no => rw [c] at qj; exact qj
      | val d' => rw [c] at qj; exact qj
      | own par' d' =>
        rw [c] at qj; obtain ⟨p', a1, a2, a3, a4, a5⟩ := qj
        refine ⟨p', a1, a2, a3, fun hp => ⟨.inl (a4 hp).1, (a4 hp).2⟩, fun hp => ⟨?_, (a5 hp).2⟩⟩
        rintro (z | rfl)
        · exact (a5 hp).1 z
        · exact hj (g.inj _ _ _ a1 ho)
      | lck d' => rw [c] at qj; obtain ⟨a1, v, a2, a3⟩ := qj; exact ⟨a1, v, a2, a3.imp id fun ⟨p', z1, z2, z3, z4⟩ => ⟨p', z1, z2, .inl z3, z4⟩⟩
      | lkd par' d' => rw [c] at qj; obtain ⟨a1, p', a2, a3, a4, a5⟩ := qj; exact ⟨a1, p', a2, a3, .inl a4, a5⟩
theorem s1_retO {i : Nat} {x : Str} {px : Pos} (hN : X.N[i]? = some x) (hv : Vis X.env.scope x) (hd : (x == ("__debug__" : Str)) = false) (hcd : (x == ("__classdict__" : Str)) = false) : S1 X (.Return (some (.Name x px)) pos) (dRetO i) := by
  intro Wx tk F O σ H env gd N p
  refine TS.by (ps_ret (pe_var hN hv hd hcd)) ?_
  have q := gd.slot i
  unfold dRetO at p
  cases c : env.get i with
  | no => rw [c] at p; exact p.elim
  | val d =>
    rw [c] at p q
    obtain ⟨_, v, e1, r⟩ := q
    exact ⟨v, of_getD e1, p v σ H O .refl .refl gd r⟩
  | own par d =>
    cases par with
    | true => rw [c] at p; exact p.elim
    | false =>
      rw [c] at p q
      obtain ⟨a, q1, q2, q3, _, q4⟩ := q
      obtain ⟨a', b1, b2, b3⟩ := gd.freeze c
      have ga := gd.letGo c q1
      have gf := gd.forget (i := i) (by rw [c]; rfl)
      have : a' = a := by rw [of_getD q2] at b1; cases b1; rfl
      subst this
      refine ⟨_, b1, p _ σ H _ Own.drop_sub.nw .refl gf ⟨⟨b3, fun ds e => ?_⟩, fun ds e p' e' => by cases e'; exact ga⟩⟩
      subst e
      rcases q3 with ⟨vs, ds', e2, hh, rr⟩ | ⟨_, _, e2, _⟩ | ⟨_, _, e2, _⟩
      · cases e2
        refine ⟨a', vs, rfl, (q4 rfl).2, hh, Reps.mono (fun z hz => ?_) rr⟩
        rcases hz with hz | rfl
        · exact Own.drop_sub.sx hz
        · exact .inr ⟨i, q1⟩
      · cases e2
      · cases e2
  | lck d =>
    rw [c] at p q
    obtain ⟨_, v, e1, r⟩ := q
    have p' : PstS X.K X.mg Wx F O H N (if d.flat = true then .rt d false env else .bad) := p
    split at p'
    · rename_i fl
      refine ⟨v, of_getD e1, p' v σ H O .refl .refl gd ?_⟩
      rcases r with r | ⟨a, rfl, _, _, r⟩
      · exact r
      · exact flat_any r fl
    · exact p'.elim
  | lkd par d => rw [c] at p; exact p.elim

/-! ### if -/
def dIf (fb : Env → Out Bool) (f g : Env → Res) : Env → Res := fun env => (fb env).stm fun b e => if b then f e else g e
theorem s1_if {c : Expr} {p q : List Stmt} (hc : ST X c fb) (h1 : SS X p f) (h2 : SS X q g) : S1 X (.If c p q pos) (dIf fb f g) := by
  intro Wx tk F O σ H env gd N pp
  refine TS.by (ps_if pt_of pss_of pss_of) (hc Wx tk F O σ H env gd _ (PstS.expr pp fun d e1 v H1 O1 s1 f1 g1 r1 p1 => ?_))
  cases r1
  cases d with
  | true => rw [if_pos rfl]; rw [if_pos rfl] at p1; exact h1 Wx tk F O1 σ H1 e1 g1 N p1
  | false => rw [if_neg Bool.false_ne_true]; rw [if_neg Bool.false_ne_true] at p1; exact h2 Wx tk F O1 σ H1 e1 g1 N p1

/-! ### assignments -/
def dSet (i : Nat) (fe : Env → Out D) : Env → Res := fun env => (fe env).stm fun d e => match setN i d e with
  | some e' => .nx e'
  | none => .bad
def setO (i : Nat) (d : D) (e : Env) : Option Env := if decide (i < e.length) && !(e.get i).isLk then some (match d with
  | .lst _ => e.set i (.own false d)
  | _ => e.set i (.val d)) else none
def dSetF (i : Nat) (fe : Env → Out D) : Env → Res := fun env => (fe env).stm fun d e => match setO i d e with
  | some e' => .nx e'
  | none => .bad
def dAsg (g : D → Env → Option Env) (fe : Env → Out D) : Env → Res := fun env => (fe env).stm fun d e => match g d e with
  | some e' => .nx e'
  | none => .bad
theorem Good.setVal' {K : PySem.W.Frag} {F : Fx} {O : Own} {σ : L2.St} {H : Hp} {e e' : Env} {i : Nat} {d : D} {v : V} (g : Good K F O σ H e) (r : Rep K H (Sx F.S0 O) v d) (h : setN i d e = some e') : Good K F (O.drop i) (σ.set i (some v)) H e' := by
  unfold setN at h
  split at h
  · rename_i hl
    rw [Bool.and_eq_true, decide_eq_true_eq] at hl
    injection h with h; subst h
    exact g.setVal r hl.1 (by simpa using hl.2)
  · cases h
theorem s1_set {i : Nat} {x : Str} {pos' : Pos} (hN : X.N.Nodup) (hi : X.N[i]? = some x) (hx : Loc X.env.scope x) (hs : swapsWith e (some (.Name x pos')) pos.line X.env = pure false) (hf : X.fn x = true ∨ X.env.scope.names.lookup x = some .local) (h : SE X e fe) : S1 X (.Assign [.Name x pos'] e pos) (dSet i fe) := by
  intro Wx tk F O σ H env gd N p
  refine TS.by (ps_set hN hi hx pe_of hs hf) (h Wx tk F O σ H env gd _ (PstS.expr p fun d e1 v H1 O1 s1 f1 g1 r1 p1 => ?_))
  cases q : setN i d e1 with
  | none => rw [q] at p1; exact p1.elim
  | some e' =>
    rw [q] at p1
    exact p1.nxtN Own.drop_sub.nw .refl (g1.setVal' r1 q)
/-- a new list for the name alone -/
theorem Good.setOwn {K : PySem.W.Frag} {F : Fx} {O : Own} {σ : L2.St} {H : Hp} {e : Env} {i : Nat} {p : Addr} {vs : List V} {ds : List D} (g : Good K (F.more p) O σ H e) (g0 : Good K F O σ H e) (hn : F.H0 p = none) (hp : ¬ Sx F.S0 O p) (hh : H p = some (.lst vs)) (r : Reps K H (fun a => Sx F.S0 O a ∨ a = p) vs ds) (h : i < e.length) (hk : (e.get i).isLk = false) :
    Good K F (fun j => if j = i then some p else O j) (σ.set i (some (.ref p))) H (e.set i (.own false (.lst ds))) := by
  have hS : ∀ a, Sx F.S0 (fun j => if j = i then some p else O j) a → Sx (F.more p).S0 O a := by
    rintro a (z | ⟨j, z⟩)
    · exact .inl (.inl z)
    · have z' : (if j = i then some p else O j) = some a := z
      split at z'
      · cases z'; exact .inl (.inr rfl)
      · exact .inr ⟨j, z'⟩
  have hO : ∀ j, O j ≠ some p := fun j z => hp (.inr ⟨j, z⟩)
  refine ⟨by rw [List.length_set, List.length_set]; exact g.len, g0.s0, g0.d0, fun a b c h1 h2 => ?_, fun a b c h1 h2 => ?_, g0.ls, g0.ps, fun j a z => ?_, fun j => ?_⟩
  · have h1' : (if a = i then some p else O a) = some c := h1
    have h2' : (if b = i then some p else O b) = some c := h2
    split at h1' <;> split at h2'
    · rename_i x y; rw [x, y]
    · cases h1'; exact absurd h2' (hO b)
    · cases h2'; exact absurd h1' (hO a)
    · exact g.inj a b c h1' h2'
  · have h2' : (if b = i then some p else O b) = some c := h2
    split at h2'
    · cases h2'; exact hp (.inl (g0.ls a p h1))
    · exact g.lo a b c h1 h2'
  · have := g0.ln j a z
    by_cases hj : j = i
    · subst hj; rw [hk] at this; cases this
    · rw [get_set_ne (Ne.symm hj)]; exact this
  · by_cases hj : j = i
    · subst hj
      rw [get_set_self h, getD_set_self (by rw [← g.len]; exact h)]
      refine ⟨p, by simp, rfl, .inl ⟨vs, ds, rfl, hh, Reps.mono (fun a z => ?_) r⟩, (fun z => by cases z), fun _ => ⟨fun z => hp (.inl z), hn⟩⟩
      rcases hS a z with (z | z) | z
      · exact .inl (.inl z)
      · exact .inr z
      · exact .inl (.inr z)
    · rw [get_set_ne (Ne.symm hj), getD_set_ne (Ne.symm hj)]
      have ej : (if j = i then some p else O j) = O j := if_neg hj
      show SlotOk K F _ (if j = i then some p else O j) _ _ _ _ _
      rw [ej]
      have qj := (g.slot j).mono hS
      cases c : e.get j with
      | no => rw [c] at qj; exact qj
      | val d' => rw [c] at qj; exact qj
      | own par' d' =>
        rw [c] at qj; obtain ⟨p', a1, a2, a3, a4, a5⟩ := qj
        refine ⟨p', a1, a2, a3, fun hq => ⟨?_, (a4 hq).2⟩, fun hq => ⟨fun z => (a5 hq).1 (.inl z), (a5 hq).2⟩⟩
        rcases (a4 hq).1 with z | rfl
        · exact z
        · exact absurd a1 (hO j)
      | lck d' =>
        rw [c] at qj; obtain ⟨a1, v, a2, a3⟩ := qj
        exact ⟨a1, v, a2, a3.imp id fun ⟨p', z1, z2, z3, z4⟩ => ⟨p', z1, z2, g0.ls _ _ z2, z4⟩⟩
      | lkd par' d' =>
        rw [c] at qj; obtain ⟨a1, p', a2, a3, a4, a5⟩ := qj
        exact ⟨a1, p', a2, a3, g0.ls _ _ a3, a5⟩
theorem Good.setF {K : PySem.W.Frag} {F : Fx} {O : Own} {σ : L2.St} {H H0 : Hp} {e e' : Env} {i : Nat} {d : D} {v : V} (g : Good K F O σ H e) (r : FreshV K H0 H (Sx F.S0 O) v d) (k : ∀ ds, d = .lst ds → ∀ p, v = .ref p → Good K (F.more p) O σ H e) (hd : ∀ a, Sx F.S0 O a → H0 a ≠ none) (h0 : ∀ a, H0 a = none → F.H0 a = none) (h : setO i d e = some e') :
    ∃ O', Good K F O' (σ.set i (some v)) H e' ∧ Nw O' O H0 := by
  unfold setO at h
  split at h
  · rename_i hl
    rw [Bool.and_eq_true, decide_eq_true_eq] at hl
    injection h with h
    have hk : (e.get i).isLk = false := by simpa using hl.2
    by_cases c : ∃ ds, d = .lst ds
    · obtain ⟨ds, rfl⟩ := c
      obtain ⟨p, vs, rfl, a2, a3, a4⟩ := r.2 ds rfl
      simp only at h
      subst h
      refine ⟨_, (k ds rfl p rfl).setOwn g (h0 _ a2) (fun z => hd _ z a2) a3 a4 hl.1 hk, fun j => ?_⟩
      by_cases hj : j = i
      · exact .inr (.inr ⟨p, by simp [hj], a2⟩)
      · exact .inl (by simp [hj])
    · have h' : e' = e.set i (.val d) := by
        cases d <;> first | (exact absurd ⟨_, rfl⟩ c) | exact h.symm
      subst h'
      exact ⟨_, g.setVal r.1 hl.1 hk, Own.drop_sub.nw⟩
  · cases h
theorem s1_setF {i : Nat} {x : Str} {pos' : Pos} (hN : X.N.Nodup) (hi : X.N[i]? = some x) (hx : Loc X.env.scope x) (hs : swapsWith e (some (.Name x pos')) pos.line X.env = pure false) (hf : X.fn x = true ∨ X.env.scope.names.lookup x = some .local) (h : SF X e fe) : S1 X (.Assign [.Name x pos'] e pos) (dSetF i fe) := by
  intro Wx tk F O σ H env gd N p
  refine TS.by (ps_set hN hi hx pe_of hs hf) (h Wx tk F O σ H env gd _ ?_)
  cases c : fe env with
  | bad => unfold dSetF at p; rw [c] at p; exact p.elim
  | exc x e' => unfold dSetF at p; rw [c] at p; exact fun cls dx H' O' s' f' g r => p cls dx σ H' O' s'.nw f' g r
  | ok d e1 =>
    unfold dSetF at p; rw [c] at p
    intro v H1 O1 s1 f1 g1 r1 k1
    simp only [Out.stm] at p
    cases q : setO i d e1 with
    | none => rw [q] at p; exact p.elim
    | some e' =>
      rw [q] at p
      obtain ⟨O', g', n'⟩ := g1.setF r1 k1 (fun a z => gd.dom (s1.sx z)) (fun a z => gd.h0 z) q
      refine p _ H1 O' (fun j => ?_) f1 g'
      rcases n' j with h | h | h
      · rw [h]; exact (s1 j).imp id .inl
      · exact .inr (.inl h)
      · exact .inr (.inr h)
theorem s1_asg {is : List Nat} {g : D → Env → Option Env} (hs : swapsWithSole [tg] e pos.line X.env = pure false) (hw : swappedStores [tg] e X.env = pure none) (h1 : (assignEach [tg] X.env).map (·.2) = [assign tg X.env]) (h : SE X e fe) (hg : SG X tg is g) : S1 X (.Assign [tg] e pos) (dAsg g fe) := by
  intro Wx tk F O σ H env gd N p
  refine TS.by (ps_asg pe_of pg_of hs hw h1) (h Wx tk F O σ H env gd _ (PstS.expr p fun d e1 v H1 O1 s1 f1 g1 r1 p1 => ?_))
  cases q : g d e1 with
  | none => rw [q] at p1; exact p1.elim
  | some e' =>
    rw [q] at p1
    exact hg F O1 σ H1 e1 v d e' g1 r1 q _ fun σ' O' s' l' k' g' => p1.nxtN s'.nw .refl g'
/-- the value is not looked at -/
def dExp (fe : Env → Out D) : Env → Res := fun env => (fe env).stm fun _ e => .nx e
theorem s1_exp (hs : swapsWith e none pos.line X.env = pure false) (h : SE X e fe) : S1 X (.Expr e pos) (dExp fe) := by
  intro Wx tk F O σ H env gd N p
  refine TS.by (ps_expr pe_of hs) (h Wx tk F O σ H env gd _ (PstS.expr p fun d e1 v H1 O1 s1 f1 g1 r1 p1 => ?_))
  exact p1.nxt g1
end
end Rp
set_option Elab.async false
set_option linter.all false
set_option maxRecDepth 100000
/-! RpO: for loops, stores into own lists. -/
namespace Rp
open PySem PySem.Spec PyProof.Rows L2

def forL (g : D → Env → Option Env) (f : Env → Res) : List D → Env → Res
  | [], e => .nx e
  | x :: xs, e => match g x e with
    | none => .bad
    | some e1 => match f e1 with
      | .nx e2 => forL g f xs e2
      | .bk e2 => .nx e2
      | .rt d b e2 => .rt d b e2
      | .exc x e2 => .exc x e2
      | .bad => .bad
def unlockR (par : Bool) (i : Nat) : Res → Res
  | .nx e => match unlockE par e i with
    | some e' => .nx e'
    | none => .bad
  | .bk e => match unlockE par e i with
    | some e' => .bk e'
    | none => .bad
  | .rt d b e => match unlockE par e i with
    | some e' => .rt d b e'
    | none => .bad
  | .exc x e => match unlockE par e i with
    | some e' => .exc x e'
    | none => .bad
  | .bad => .bad
def dFor (it : Env → Out ItD) (g : D → Env → Option Env) (f : Env → Res) : Env → Res := fun env => (it env).stm fun p e0 => match p.2 with
  | none => forL g f p.1 e0
  | some i => match e0.get i with
    | .own par _ => unlockR par i (forL g f p.1 (lockE e0 i))
    | _ => .bad

section
variable {K : PySem.W.Frag} {mg : Str → Option Value} {Wx : WX} {F : Fx} {O O1 : Own} {σ : L2.St} {H H1 : Hp} {N : Ends}
theorem PstS.unlock {e : Env} {i : Nat} {par : Bool} {d : D} {p : Addr} {r : Res} (g : Good K F O σ H e) (h : e.get i = .own par d) (ho : O i = some p) (P : PstS K mg Wx F O H N (unlockR par i r)) : PstS K mg Wx (F.lockF i p) (O.drop i) H N r := by
  have hop : ∀ a, Oset (O.drop i) a → a ≠ p := by
    rintro a ⟨j, z⟩ rfl
    unfold Own.drop at z; split at z
    · cases z
    · rename_i ne; exact ne (g.inj _ _ _ z ho)
  have key : ∀ {O' : Own} {σ' : L2.St} {H' : Hp} {e' e'' : Env}, Nw O' (O.drop i) H → Fr (Oset (O.drop i)) H H' → Good K (F.lockF i p) O' σ' H' e' → unlockE par e' i = some e'' →
      Good K F (fun j => if j = i then some p else O' j) σ' H' e'' ∧ Nw (fun j => if j = i then some p else O' j) O H ∧ Fr (Oset O) H H' ∧ (∀ a, Sx F.S0 (fun j => if j = i then some p else O' j) a → Sx (F.lockF i p).S0 O' a) := by
    intro O' σ' H' e' e'' s f g2 cu
    refine ⟨g.unlock h ho g2 (fun u hu => f.eq _ _ hu fun z => hop _ z rfl) cu, fun j => ?_, f.mono fun a z => Own.drop_sub.set z, ?_⟩
    · by_cases hj : j = i
      · subst hj; left; simp [ho]
      · simp only [if_neg hj]
        rcases s j with z | z | z
        · left; rw [z]; unfold Own.drop; rw [if_neg hj]
        · exact .inr (.inl z)
        · exact .inr (.inr z)
    · rintro a (z | ⟨j, z⟩)
      · exact .inl (.inl z)
      · have z' : (if j = i then some p else O' j) = some a := z
        split at z'
        · cases z'; exact .inl (.inr rfl)
        · exact .inr ⟨j, z'⟩
  cases r with
  | bad => exact P
  | nx e' =>
    simp only [unlockR] at P
    cases cu : unlockE par e' i with
    | none => rw [cu] at P; exact P.elim
    | some e'' =>
      rw [cu] at P
      intro σ' H' O' s f g2
      obtain ⟨k1, k2, k3, _⟩ := key s f g2 cu
      exact P _ _ _ k2 k3 k1
  | bk e' =>
    simp only [unlockR] at P
    cases cu : unlockE par e' i with
    | none => rw [cu] at P; exact P.elim
    | some e'' =>
      rw [cu] at P
      intro σ' H' O' s f g2
      obtain ⟨k1, k2, k3, _⟩ := key s f g2 cu
      exact P _ _ _ k2 k3 k1
  | exc x e' =>
    simp only [unlockR] at P
    cases cu : unlockE par e' i with
    | none => rw [cu] at P; exact P.elim
    | some e'' =>
      rw [cu] at P
      intro cls dx σ' H' O' s f g2 xr
      obtain ⟨k1, k2, k3, _⟩ := key s f g2 cu
      exact P cls dx _ _ _ k2 k3 k1 xr
  | rt d' b e' =>
    simp only [unlockR] at P
    cases cu : unlockE par e' i with
    | none => rw [cu] at P; exact P.elim
    | some e'' =>
      rw [cu] at P
      intro v σ' H' O' s f g2 rr
      obtain ⟨k1, k2, k3, k4⟩ := key s f g2 cu
      refine P v _ _ _ k2 k3 k1 ?_
      cases b with
      | false => exact Rep.mono k4 rr
      | true =>
        obtain ⟨⟨r1, r2⟩, r3⟩ := rr
        refine ⟨⟨Rep.mono k4 r1, fun ds e => ?_⟩, fun ds e q e1 => ?_⟩
        · obtain ⟨q, vs, a1, a2, a3, a4⟩ := r2 ds e
          exact ⟨q, vs, a1, a2, a3, Reps.mono (fun a z => z.imp_left (k4 a)) a4⟩
        · obtain ⟨q', vs, a1, a2, a3, a4⟩ := r2 ds e
          rw [a1] at e1; cases e1
          have gq := r3 ds e q a1
          rw [lockF_more] at gq
          have q4 := g.at h
          obtain ⟨p', b1, b2, b3, b4, b5⟩ := q4
          rw [ho] at b1; cases b1
          have hpq : p ≠ q := by
            rintro rfl
            subst e; subst a1
            cases r1 with
            | lst w1 w2 w3 => exact w2 (.inl (.inr rfl))
          obtain ⟨u, hu, mu⟩ := b3.mut
          exact Good.unlockG (F := F.more q) (f.eq _ _ hu fun z => hop _ z rfl) mu (fun z => ⟨.inl (b4 z).1, (b4 z).2⟩) (fun z => ⟨fun w => w.elim (b5 z).1 hpq, (b5 z).2⟩) (fun i p z => .inl (g.ls i p z)) (fun i p z => .inl (g.ps i p z)) (fun a z => g.lo a i p z ho) (fun a z => by have := g.ln i a z; rw [h] at this; cases this) gq cu

theorem for_walk {f : Env → Res} {e1 : Env} {g : D → Env → Option Env} {items : List D} {J : It} {gg : TG} {tb : TS}
    (g1 : Good K F O1 σ H1 e1) (hr : Runs K (Sx F.S0 O1) (Oset O1) H1 J items)
    (hg : ∀ F O σ' H env v d env', Good K F O σ' H env → Rep K H (Sx F.S0 O) v d → g d env = some env' → ∀ Q : L2.St → Hp → Prop,
      (∀ σ2 O', Sub O' O → Good K F O' σ2 H env' → Q σ2 H) → gg v σ' H Q)
    (hb : ∀ O σ' H env, Good K F O σ' H env → ∀ N : Ends, PstS K mg Wx F O H N (f env) → tb N σ' H)
    (P : PstS K mg Wx F O1 H1 N (forL g f items e1)) :
    ∃ W : Nat → Nat → L2.St → Hp → Prop, (∃ m, W 0 m σ H1) ∧ ∀ i m σ H, W i m σ H →
      (J.stop i H ∧ N.nx σ H) ∨ (J.go i H ∧ ∃ Nx : L2.St → Hp → Prop, (∀ σ' H', Nx σ' H' → ∃ m', m' < m ∧ W (i + 1) m' σ' H') ∧ ∀ x H', J.yld i H x H' → gg x σ H' fun σ2 H2 => tb { N with nx := Nx, ct := Nx, bk := N.nx } σ2 H2) := by
  let Inv' : Nat → L2.St → Hp → Prop := fun i σ H => i ≤ items.length ∧ ∃ e O, Good K F O σ H e ∧ Nw O O1 H1 ∧ Fr (Oset O1) H1 H ∧ PstS K mg Wx F O H N (forL g f (items.drop i) e)
  refine ⟨fun i m σ H => m = items.length - i ∧ Inv' i σ H, ⟨_, rfl, Nat.zero_le _, e1, O1, g1, .refl, .refl, P⟩, ?_⟩
  rintro i m σ H ⟨rfl, hi, e, O, gd, s, fr, P⟩
  have hS2 : ∀ a, Sx F.S0 O a → Sx F.S0 O1 a ∨ H1 a = none := by
    rintro a (z | z)
    · exact .inl (.inl z)
    · exact (s.set z).imp_left .inr
  obtain ⟨r1, r2⟩ := hr i H (Sx F.S0 O) fr hS2 fun a z => gd.dom z
  by_cases hlt : i < items.length
  · refine .inr ⟨(r1 hlt).1, fun σ' H' => Inv' (i + 1) σ' H', fun σ' H' z => ⟨_, by omega, rfl, z⟩, fun x H' y => ?_⟩
    obtain ⟨sm, rep⟩ := (r1 hlt).2 x H' y
    have rx := rep _ (show items[i]? = some items[i] by simp [hlt])
    have gd' := gd.same sm
    have P' := P.step (O1 := O) .refl (Fr.same sm)
    rw [List.drop_eq_getElem_cons hlt] at P'
    simp only [forL] at P'
    cases hg1 : g items[i] e with
    | none => rw [hg1] at P'; exact P'.elim
    | some ea =>
      rw [hg1] at P'
      simp only at P'
      refine hg _ O _ H' e x _ ea gd' rx hg1 _ fun σ2 Oa sa ga => ?_
      have P2 := P'.step (O1 := Oa) (H1 := H') sa.nw .refl
      refine hb Oa σ2 H' ea ga _ ?_
      cases hf : f ea with
      | bad => rw [hf] at P2; exact P2
      | exc x e2 => rw [hf] at P2; exact P2
      | rt d b e2 => rw [hf] at P2; exact P2
      | bk e2 => rw [hf] at P2; exact P2
      | nx e2 =>
        rw [hf] at P2
        intro σ3 H3 O3 s3 f3 g3
        have fr' : Fr (Oset O1) H1 H' := fr.trans (Fr.same sm)
        have s' : Nw Oa O1 H1 := sa.nw.trans s fr
        exact ⟨hlt, e2, O3, g3, s3.trans s' fr', fr'.next f3 s', P2.step s3 f3⟩
  · have e : i = items.length := by omega
    subst e
    refine .inl ⟨r2 (Nat.le_refl _), ?_⟩
    rw [List.drop_length] at P
    exact P.nxt gd
end
section
variable {X : Cx} {tg iter e : Expr} {pos : Pos}
theorem s1_for {body : List Stmt} {is : List Nat} {it : Env → Out ItD} {g : D → Env → Option Env} {f : Env → Res} (hp : PassesOwn (model X.prog X.w) X.A X.env X.xe) (hc : X.calm = true) (hs : ∀ x, foldedSetIterable iter X.env x = pure x)
    (hi : SI X tg iter it) (hg : SG X tg is g) (hb : SS X body f) : S1 X (.For tg iter body [] pos) (dFor it g f) := by
  intro Wx tk F O σ H env gd N p
  refine TS.by (ps_for hp hc pi_of pg_of pss_of hs) ?_
  refine hi.use tk gd (PstS.iter p fun items lk e1 J H1 O1 s1 f1 g1 hlk hr p1 => ?_)
  have hg' : ∀ F O σ' H env v d env', Good X.K F O σ' H env → Rep X.K H (Sx F.S0 O) v d → g d env = some env' → ∀ Q : L2.St → Hp → Prop,
      (∀ σ2 O', Sub O' O → Good X.K F O' σ2 H env' → Q σ2 H) → TG.of X tg v σ' H Q := fun F O σ' H env v d env' a b c Q k => hg F O σ' H env v d env' a b c Q fun σ2 O' s _ _ g2 => k σ2 O' s g2
  cases lk with
  | none => exact for_walk g1 hr hg' (fun O σ' H env gd N P => hb Wx tk F O σ' H env gd N P) p1
  | some i =>
    obtain ⟨par, d, hown⟩ := hlk i rfl
    simp only [hown] at p1
    obtain ⟨pp, q1, q2, q3, q4, q5⟩ := g1.at hown
    have gl := g1.lock hown q1
    have P := PstS.unlock g1 hown q1 p1
    have hr' : Runs X.K (Sx (F.lockF i pp).S0 (O1.drop i)) (Oset (O1.drop i)) H1 J items := by
      intro n H2 S2 h1 h2 h3
      refine hr n H2 S2 h1 (fun a z => (h2 a z).imp_left ?_) h3
      rintro ((z | rfl) | z)
      · exact .inl z
      · exact .inr ⟨i, q1⟩
      · exact .inr (Own.drop_sub.set z)
    exact for_walk gl hr' hg' (fun O σ' H env gd N P => hb Wx tk (F.lockF i pp) O σ' H env gd N P) P

/-! ### stores into own lists -/
/-- an own list gets other contents -/
theorem Good.put {K : PySem.W.Frag} {F : Fx} {O : Own} {σ : L2.St} {H : Hp} {e : Env} {i : Nat} {par : Bool} {d : D} {p : Addr} {vs : List V} {ds : List D} (g : Good K F O σ H e) (h : e.get i = .own par d) (ho : O i = some p) (r : Reps K H (Sx F.S0 O) vs ds) :
    Good K F O σ (upd H p (.lst vs)) (e.set i (.own par (.lst ds))) := by
  have f : Fr (fun a => a = p) H (upd H p (.lst vs)) := Fr.write (W := fun a => a = p) rfl
  have hw : ∀ a, a = p → Sx F.S0 O a := fun a z => .inr ⟨i, z ▸ ho⟩
  obtain ⟨p', q1, q2, q3, q4, q5⟩ := g.at h
  rw [ho] at q1; cases q1
  refine ⟨by rw [List.length_set]; exact g.len, fun a z => f.dom a (g.s0 a z), fun a z => f.dom a (g.d0 a z), g.inj, g.lo, g.ls, g.ps, fun j a z => ?_, fun j => ?_⟩
  · have := g.ln j a z
    by_cases hj : j = i
    · subst hj; rw [h] at this; cases this
    · rw [get_set_ne (Ne.symm hj)]; exact this
  · by_cases hj : j = i
    · subst hj
      rw [get_set_self (get_lt (by rw [h]; simp))]
      exact ⟨p, ho, q2, .inl ⟨vs, ds, rfl, upd_same, Reps.fr f.rd hw r⟩, q4, q5⟩
    · rw [get_set_ne (Ne.symm hj)]
      have q := g.slot j
      cases c : e.get j with
      | no => rw [c] at q; exact q
      | val d => rw [c] at q; obtain ⟨q1, v, q2, q3⟩ := q; exact ⟨q1, v, q2, Rep.fr f.rd hw q3⟩
      | own par d =>
        rw [c] at q; obtain ⟨p', a1, a2, a3, a4⟩ := q
        have hp : p' ≠ p := fun z => hj (g.inj _ _ _ (z ▸ a1) ho)
        exact ⟨p', a1, a2, a3.fr f.rd hw (fun u z => by rw [upd_ne hp]; exact z), a4⟩
      | lck d =>
        rw [c] at q; obtain ⟨a1, v, a2, a3⟩ := q
        exact ⟨a1, v, a2, a3.elim (fun z => .inl (Rep.fr f.rd hw z)) fun ⟨p', z1, z2, z3, z4⟩ => .inr ⟨p', z1, z2, z3, z4.fr f.rd hw (fun a e z => by cases e; subst z; exact g.lo _ _ _ z2 ho)⟩⟩
      | lkd par d =>
        rw [c] at q; obtain ⟨a1, p', a2, a3, a4, a5, a6⟩ := q
        exact ⟨a1, p', a2, a3, a4, a5.fr f.rd hw (fun z => g.lo _ _ _ (z ▸ a3) ho), a6⟩
def ownL : Slot → Option (Bool × List D)
  | .own par (.lst ds) => some (par, ds)
  | _ => none
theorem ownL_of {s : Slot} {par : Bool} {ds : List D} (h : ownL s = some (par, ds)) : s = .own par (.lst ds) := by
  cases s with
  | own p d => cases d <;> simp only [ownL] at h <;> first | (cases h; done) | (injection h with h; cases h; rfl)
  | _ => cases h
def dApp (i : Nat) (fe : Env → Out D) : Env → Res := fun env => if (ownL (env.get i)).isNone then .bad else (fe env).stm fun d e => match ownL (e.get i) with
  | some (par, ds) => if decide (ds.length < sizeLine) then .nx (e.set i (.own par (.lst (ds ++ [d])))) else .bad
  | none => .bad
theorem tyL {K : PySem.W.Frag} {H : Hp} {a : Addr} {vs : List V} (h : H a = some (.lst vs)) : tyV K "list" (.ref a) H := Or.inl ⟨rfl, _, Or.inl (Or.inl h)⟩
theorem s1_app {i : Nat} {x : Str} {px apos cpos : Pos} {fe : Env → Out D} (hN : X.N[i]? = some x) (hv : Vis X.env.scope x) (hd : (x == ("__debug__" : Str)) = false) (hcd : (x == ("__classdict__" : Str)) = false)
    (hst : PySem.W.isStarred e = false) (hs : swapsWith (.Call (.Attribute (.Name x px) "append" apos) [e] [] cpos) none pos.line X.env = pure false)
    (hbase : attributeBase (.Name x px) "append" X.env (eval (.Name x px) X.env) = eval (.Name x px) X.env) (hline : (apos.endLine == cpos.line) = true)
    (hfew : ((backTo cpos (starEach [e] X.env)).all (fun x => !x.1) && (backToKw cpos (keywordEach [] X.env)).all (fun x => x.1.isSome) && decide ([e].length + ([] : List Keyword).length + (if ([] : List Keyword).isEmpty then 0 else 1) < 30)) = true)
    (h : SE X e fe) : S1 X (.Expr (.Call (.Attribute (.Name x px) "append" apos) [e] [] cpos) pos) (dApp i fe) := by
  intro Wx tk F O σ H env gd N p
  refine TS.by (ps_expr (pe_bm PySem.F.plainAttrs_list PySem.F.slot_list_append PySem.F.type_list_append mt_append (pe_var hN hv hd hcd) (pa_cons pe_of pa_nil (starEach_plain hst _)) hbase hfew hline (starEach_plain hst _) rfl) hs) ?_
  unfold dApp at p
  cases c : ownL (env.get i) with
  | none => rw [c] at p; exact p.elim
  | some z =>
    rw [c] at p
    simp only [Option.isNone_some, Bool.false_eq_true, if_false] at p
    obtain ⟨par, ds⟩ := z
    have c' := ownL_of c
    obtain ⟨a, q1, q2, q3, q4⟩ := gd.at c'
    obtain ⟨vs, ds', e1, hh, rr⟩ | ⟨_, _, e1, _⟩ | ⟨_, _, e1, _⟩ := q3
    · cases e1
      refine ⟨.ref a, of_getD q2, tyL hh, ?_⟩
      refine h Wx tk F O σ H env gd _ (PstS.expr p fun d e1 v H1 O1 s1 f1 g1 r1 p1 => ?_)
      cases c2 : ownL (e1.get i) with
      | none => rw [c2] at p1; exact p1.elim
      | some z2 =>
        obtain ⟨par2, ds2⟩ := z2
        have c2' := ownL_of c2
        rw [c2] at p1
        have p1' : PstS X.K X.mg Wx F O1 H1 N (if decide (ds2.length < sizeLine) = true then .nx (e1.set i (.own par2 (.lst (ds2 ++ [d])))) else .bad) := p1
        split at p1'
        · rename_i hl
          obtain ⟨a2, b1, b2, b3, b4⟩ := g1.at c2'
          rw [q2] at b2; cases b2
          obtain ⟨vs2, ds2', e2, hh2, rr2⟩ | ⟨_, _, e2, _⟩ | ⟨_, _, e2, _⟩ := b3
          · cases e2
            refine ⟨a, vs2, v, rfl, rfl, hh2, by rw [rr2.length]; exact of_decide_eq_true hl, ?_⟩
            exact p1'.nxtN .refl (Fr.write (W := Oset O1) ⟨i, b1⟩) (g1.put c2' b1 (Reps.append rr2 (.cons r1 .nil)))
          · cases e2
          · cases e2
        · exact p1'.elim
    · cases e1
    · cases e1
end
end Rp
set_option Elab.async false
set_option linter.all false
set_option maxRecDepth 100000
/-! RpP: defs and their calls. -/
namespace Rp
open PySem PySem.Spec PyProof.Rows L2

/-- an argument: a value, or an own thing of the caller's that the def may change -/
inductive Arg where
  | v (d : D)
  | m (d : D)
def Arg.slot : Arg → Slot
  | .v d => .val d
  | .m d => .own true d
def startE (n : Nat) (args : List Arg) : Env := args.map Arg.slot ++ List.replicate (n - args.length) .no
/-- the parameters that were lent are still there at the end -/
def backsOk : List Arg → Env → Nat → Bool
  | [], _, _ => true
  | .v _ :: as, e, k => backsOk as e (k + 1)
  | .m _ :: as, e, k => (match e.get k with | .own true _ => true | _ => false) && backsOk as e (k + 1)
def Res.chk (args : List Arg) : Res → Res
  | .nx e => if backsOk args e 0 then .rt .non false e else .bad
  | .rt d b e => if backsOk args e 0 then .rt d b e else .bad
  | .exc x e => if backsOk args e 0 then .exc x e else .bad
  | _ => .bad
/-- a def's meaning, by its body's -/
def fnDen (n np : Nat) (body : Env → Res) (args : List Arg) : Res := if args.length = np then (body (startE n args)).chk args else .bad

def Back (K : PySem.W.Frag) (H' : Hp) (S : Addr → Prop) (P : Own) (e' : Env) : Prop := ∀ i p, P i = some p → ∃ d, e'.get i = .own true d ∧ OwnRep K H' S p d
def PstC (K : PySem.W.Frag) (mg : Str → Option Value) (S : Addr → Prop) (P : Own) (H : Hp) (Q : VK) (E : XK) : Res → Prop
  | .rt d false e' => ∀ v H', Fr (Oset P) H H' → Back K H' S P e' → Rep K H' S v d → Q v H'
  | .rt d true e' => ∀ v H', Fr (Oset P) H H' → Back K H' S P e' → FreshV K H H' S v d → (∀ ds, d = .lst ds → ∀ p, v = .ref p → Back K H' (fun a => S a ∨ a = p) P e') → Q v H'
  | .exc x e' => ∀ cls dx H', Fr (Oset P) H H' → Back K H' S P e' → XRep mg cls dx x → E cls dx H'
  | _ => False
def ArgsOk (K : PySem.W.Frag) (H : Hp) (S : Addr → Prop) (P : Own) (vs : List V) (args : List Arg) : Prop :=
  vs.length = args.length ∧ ∀ i : Nat, match (args[i]? : Option Arg) with
    | some (Arg.v d) => P i = none ∧ ∃ v, vs[i]? = some v ∧ Rep K H S v d
    | some (Arg.m d) => ∃ p, P i = some p ∧ S p ∧ vs[i]? = some (.ref p) ∧ OwnRep K H S p d
    | none => P i = none
def spD (K : PySem.W.Frag) (mg : Str → Option Value) (np : Nat) (den : List Arg → Res) : Sp := fun vs H Q E => ∃ (S : Addr → Prop) (P : Own) (args : List Arg),
  vs.length = np ∧ (∀ a, S a → H a ≠ none) ∧ (∀ i j p, P i = some p → P j = some p → i = j) ∧ ArgsOk K H S P vs args ∧ PstC K mg S P H Q E (den args)

section
variable {K : PySem.W.Frag} {mg : Str → Option Value}
theorem get_map {l : List Slot} {n i : Nat} : Env.get (l ++ List.replicate n .no) i = l.getD i .no := by
  unfold Env.get
  rw [List.getD_eq_getElem?_getD, List.getD_eq_getElem?_getD]
  by_cases h : i < l.length
  · rw [List.getElem?_append_left h]
  · rw [List.getElem?_append_right (by omega), List.getElem?_eq_none (l := l) (by omega), List.getElem?_replicate]
    split <;> rfl
theorem start_get {N : List Str} {vs : List V} {i : Nat} : (L2.start N vs).getD i none = vs[i]? := by
  unfold L2.start
  rw [List.getD_eq_getElem?_getD]
  by_cases h : i < vs.length
  · rw [List.getElem?_append_left (by simpa using h), List.getElem?_map]; simp [h]
  · rw [List.getElem?_append_right (by simpa using h), List.getElem?_eq_none (l := vs) (by omega), List.getElem?_replicate]
    split <;> rfl
/-- a def's start -/
theorem good_start {H : Hp} {S : Addr → Prop} {P : Own} {vs : List V} {args : List Arg} {N : List Str} (hS : ∀ a, S a → H a ≠ none) (hP : ∀ i j p, P i = some p → P j = some p → i = j) (h : ArgsOk K H S P vs args) :
    Good K ⟨S, P, fun _ => none, H⟩ P (L2.start N vs) H (startE N.length args) := by
  obtain ⟨hl, ha⟩ := h
  have hPS : ∀ i p, P i = some p → S p := fun i p z => by
    have := ha i
    cases c : args[i]? with
    | none => rw [c] at this; rw [this] at z; cases z
    | some a =>
      rw [c] at this
      cases a with
      | v d => rw [this.1] at z; cases z
      | m d => obtain ⟨q, e1, e2, _⟩ := this; rw [e1] at z; cases z; exact e2
  have hSx : ∀ a, Sx S P a → S a := fun a z => z.elim id fun ⟨i, w⟩ => hPS i a w
  refine ⟨by simp [startE, L2.start, hl], hS, fun _ z => z, hP, fun _ _ _ z => (by cases z), fun _ _ z => (by cases z), hPS, fun _ _ z => (by cases z), fun i => ?_⟩
  have q := ha i
  rw [start_get]
  unfold startE
  rw [get_map, List.getD_eq_getElem?_getD, List.getElem?_map]
  cases c : args[i]? with
  | none => rw [c] at q; exact q
  | some a =>
    rw [c] at q
    cases a with
    | v d => obtain ⟨q1, v, q2, q3⟩ := q; exact ⟨q1, v, q2, Rep.mono hSx q3⟩
    | m d => obtain ⟨p, q1, q2, q3, q4⟩ := q; exact ⟨p, q1, q3, q4.mono hSx, fun _ => ⟨q2, q1⟩, fun z => by cases z⟩
theorem backs_get {args : List Arg} {e : Env} : ∀ {k : Nat}, backsOk args e k = true → ∀ i d, args[i]? = some (.m d) → ∃ d', e.get (k + i) = .own true d' := by
  induction args with
  | nil => intro k _ i d h; simp at h
  | cons a as ih =>
    intro k h i d hi
    cases a with
    | v x =>
      cases i with
      | zero => simp at hi
      | succ i => have := ih (k := k + 1) h i d (by simpa using hi); rwa [Nat.add_assoc, Nat.add_comm 1 i] at this
    | m x =>
      simp only [backsOk, Bool.and_eq_true] at h
      cases i with
      | zero =>
        obtain ⟨h1, _⟩ := h
        rw [Nat.add_zero]
        split at h1
        · rename_i d' e1; exact ⟨d', e1⟩
        · cases h1
      | succ i => have := ih (k := k + 1) h.2 i d (by simpa using hi); rwa [Nat.add_assoc, Nat.add_comm 1 i] at this
theorem back_of {H H' : Hp} {S : Addr → Prop} {P O' : Own} {vs : List V} {args : List Arg} {σ' : L2.St} {e' : Env} (h : ArgsOk K H S P vs args) (g : Good K ⟨S, P, fun _ => none, H⟩ O' σ' H' e') (hb : backsOk args e' 0 = true) : Back K H' S P e' := by
  intro i p hp
  have q := h.2 i
  cases c : args[i]? with
  | none => rw [c] at q; rw [q] at hp; cases hp
  | some a =>
    rw [c] at q
    cases a with
    | v d => rw [q.1] at hp; cases hp
    | m d =>
      obtain ⟨d', e1⟩ := backs_get hb i d c
      rw [Nat.zero_add] at e1
      obtain ⟨p', r1, r2, r3, r4, _⟩ := g.at e1
      have hp' : P i = some p' := (r4 rfl).2
      rw [hp] at hp'; cases hp'
      exact ⟨d', e1, r3.mono fun a z => .inl z⟩
theorem back_more {H H' : Hp} {S : Addr → Prop} {P O' : Own} {vs : List V} {args : List Arg} {σ' : L2.St} {e' : Env} {r : Addr} (h : ArgsOk K H S P vs args) (g : Good K (Fx.more ⟨S, P, fun _ => none, H⟩ r) O' σ' H' e') (hb : backsOk args e' 0 = true) : Back K H' (fun a => S a ∨ a = r) P e' := by
  intro i p hp
  have q := h.2 i
  cases c : args[i]? with
  | none => rw [c] at q; rw [q] at hp; cases hp
  | some a =>
    rw [c] at q
    cases a with
    | v d => rw [q.1] at hp; cases hp
    | m d =>
      obtain ⟨d', e1⟩ := backs_get hb i d c
      rw [Nat.zero_add] at e1
      obtain ⟨p', r1, r2, r3, r4, _⟩ := g.at e1
      have := (r4 rfl).2
      have hp' : P i = some p' := this
      rw [hp] at hp'; cases hp'
      exact ⟨d', e1, r3.mono fun a z => .inl z⟩

/-- what a body is to reach, from what the def promises -/
theorem ends_of {H : Hp} {S0 : Addr → Prop} {P0 : Own} {vs : List V} {args : List Arg} {n np : Nat} {den : Env → Res} {Q : VK} {E : XK} (hl : vs.length = np) (ha : ArgsOk K H S0 P0 vs args) (p : PstC K mg S0 P0 H Q E (fnDen n np den args)) :
    PstS K mg (fun c d _ h => E c d h) ⟨S0, P0, fun _ => none, H⟩ P0 H { nx := fun _ H' => Q .non H', rt := Q } (den (startE n args)) := by
  have hSx : ∀ {O' : Own} {H' : Hp} {σ' : L2.St} {e' : Env}, Good K ⟨S0, P0, fun _ => none, H⟩ O' σ' H' e' → ∀ a, S0 a → Sx S0 O' a := fun _ a z => .inl z
  unfold fnDen at p
  rw [if_pos (by rw [← ha.1, hl])] at p
  cases c : den (startE n args) with
  | bad => rw [c] at p; exact p.elim
  | bk e' => rw [c] at p; exact p.elim
  | nx e' =>
    rw [c] at p
    simp only [Res.chk] at p
    by_cases hb : backsOk args e' 0 = true
    · rw [if_pos hb] at p
      intro σ' H' O' s' f' g'
      exact p _ _ f' (back_of ha g' hb) .non
    · rw [if_neg hb] at p; exact p.elim
  | exc x e' =>
    rw [c] at p
    simp only [Res.chk] at p
    by_cases hb : backsOk args e' 0 = true
    · rw [if_pos hb] at p
      intro cls dx σ' H' O' s' f' g' xr
      exact p cls dx _ f' (back_of ha g' hb) xr
    · rw [if_neg hb] at p; exact p.elim
  | rt d b e' =>
    rw [c] at p
    simp only [Res.chk] at p
    by_cases hb : backsOk args e' 0 = true
    · rw [if_pos hb] at p
      intro v σ' H' O' s' f' g' rr
      cases b with
      | false => exact p v _ f' (back_of ha g' hb) (Rep.mono (hSx g') rr)
      | true =>
        obtain ⟨⟨r1, r2⟩, r3⟩ := rr
        refine p v _ f' (back_of ha g' hb) ⟨Rep.mono (hSx g') r1, fun ds e => ?_⟩ fun ds e q e1 => back_more ha (r3 ds e q e1) hb
        obtain ⟨q, ws, a1, a2, a3, a4⟩ := r2 ds e
        exact ⟨q, ws, a1, a2, a3, Reps.mono (fun a z => z.imp_left (hSx g' a)) a4⟩
    · rw [if_neg hb] at p; exact p.elim

/-- a def keeps its promise -/
theorem fn_ok {P : Program} {w : World} {base : Heap} {k : Nat} {f : Addr} {name qual : Str} {params : Arguments} {body : List Stmt} {scope : Scope} {dV kV doc pm cdv ct oc : Value} {an od : Option Addr} {osl : Array (Option Value)} {N ps : List Str} {den : Env → Res}
    (lk : K.lookup f = some ⟨oc, od, .func (PySem.W.fnOf name qual params body scope dV kV doc pm an cdv ct), osl⟩) (hcd : PySem.W.codeIn K cdv qual = true) (S : FnScope N ps scope)
    (hb : ∀ (A : Around) (outer : List PySem.Env) (s : Shared) (H : Hp) (E : XK), Room k (A.deeper (envOfC qual scope s.heap.objs.size f cdv)) → SS (cxOf (L2N.CX P w) P w K mg base N qual scope f cdv A outer s H E) body den) :
    FnOk P w K mg base (L2N.CX P w) (k + 1) f (PySem.W.fnOf name qual params body scope dV kV doc pm an cdv ct) ps (spD K mg ps.length (fnDen N.length ps.length den)) := by
  refine fn_of lk hcd S (fun vs H Q E ⟨_, _, _, h, _⟩ => h) fun A outer s H vs Q E hr ⟨S0, P0, args, hl, hS, hP, ha, p⟩ => ⟨_, pss_of, ?_⟩
  have g := good_start (N := N) hS hP ha
  have tk := L2N.takes_of (X := cxOf (L2N.CX P w) P w K mg base N qual scope f cdv A outer s H E) rfl rfl rfl (E := E) rfl
  refine hb A outer s H E hr _ tk _ _ _ _ _ g _ ?_
  exact ends_of hl ha p
end
end Rp
set_option Elab.async false
set_option linter.all false
set_option maxRecDepth 100000
/-! RpQ: a def is called. -/
namespace Rp
open PySem PySem.Spec PyProof.Rows L2

def argsOf : List Opd → Env → Option (List Arg)
  | [], _ => some []
  | .v d :: os, e => (argsOf os e).map (Arg.v d :: ·)
  | .s i :: os, e => match e.get i with
    | .own _ d => (argsOf os e).map (Arg.m d :: ·)
    | _ => none
def lents : List Opd → List Nat
  | [] => []
  | .v _ :: os => lents os
  | .s i :: os => i :: lents os
/-- what the def made of the lent things -/
def putBk : List Opd → Nat → Env → Env → Env
  | [], _, _, e => e
  | .v _ :: os, k, e', e => putBk os (k + 1) e' e
  | .s i :: os, k, e', e => putBk os (k + 1) e' (match e'.get k, e.get i with
    | .own _ d, .own par _ => e.set i (.own par d)
    | _, _ => e)
section
variable {K : PySem.W.Frag} {mg : Str → Option Value} {Wx : WX} {F : Fx} {O : Own} {σ : L2.St} {H H' : Hp} {e e' : Env}
theorem putBk_out : ∀ {os : List Opd} {k : Nat} {e' e : Env} {j : Nat}, j ∉ lents os → (putBk os k e' e).get j = e.get j
  | [], _, _, _, _, _ => rfl
  | .v _ :: os, k, e', e, j, h => putBk_out (os := os) h
  | .s i :: os, k, e', e, j, h => by
    simp only [lents, List.mem_cons, not_or] at h
    simp only [putBk]
    rw [putBk_out h.2]
    split
    · rw [get_set_ne (Ne.symm h.1)]
    · rfl
theorem putBk_len : ∀ {os : List Opd} {k : Nat} {e' e : Env}, (putBk os k e' e).length = e.length
  | [], _, _, _ => rfl
  | .v _ :: os, k, e', e => putBk_len (os := os)
  | .s i :: os, k, e', e => by
    simp only [putBk]
    rw [putBk_len (os := os)]
    split <;> simp
theorem mem_lents : ∀ {os : List Opd} {k i : Nat}, os[k]? = some (Opd.s i) → i ∈ lents os
  | [], _, _, h => by simp at h
  | .v _ :: os, 0, i, h => by simp at h
  | .v _ :: os, k + 1, i, h => mem_lents (os := os) (k := k) (by simpa using h)
  | .s j :: os, 0, i, h => by simp at h; simp [lents, h]
  | .s j :: os, k + 1, i, h => List.mem_cons_of_mem _ (mem_lents (os := os) (k := k) (by simpa using h))
theorem of_lents : ∀ {os : List Opd} {i : Nat}, i ∈ lents os → ∃ k : Nat, os[k]? = some (Opd.s i)
  | [], i, h => by simp [lents] at h
  | .v _ :: os, i, h => by
    obtain ⟨k, e⟩ := of_lents (os := os) h
    exact ⟨k + 1, by simpa using e⟩
  | .s j :: os, i, h => by
    simp only [lents, List.mem_cons] at h
    rcases h with rfl | h
    · exact ⟨0, rfl⟩
    · obtain ⟨k, e⟩ := of_lents (os := os) h
      exact ⟨k + 1, by simpa using e⟩
theorem lents_inj : ∀ {os : List Opd} {k k' i : Nat}, (lents os).Nodup → os[k]? = some (Opd.s i) → os[k']? = some (Opd.s i) → k = k'
  | [], _, _, _, _, h, _ => by simp at h
  | .v _ :: os, k, k', i, n, h, h' => by
    cases k with
    | zero => simp at h
    | succ k =>
      cases k' with
      | zero => simp at h'
      | succ k' => exact congrArg (· + 1) (lents_inj (os := os) (k := k) (k' := k') n (by simpa using h) (by simpa using h'))
  | .s j :: os, k, k', i, n, h, h' => by
    simp only [lents, List.nodup_cons] at n
    cases k with
    | zero =>
      simp at h; subst h
      cases k' with
      | zero => rfl
      | succ k' => exact absurd (mem_lents (os := os) (k := k') (by simpa using h')) n.1
    | succ k =>
      cases k' with
      | zero => simp at h'; subst h'; exact absurd (mem_lents (os := os) (k := k) (by simpa using h)) n.1
      | succ k' => exact congrArg (· + 1) (lents_inj (os := os) (k := k) (k' := k') n.2 (by simpa using h) (by simpa using h'))
theorem putBk_in : ∀ {os : List Opd} {k k' : Nat} {e' e : Env} {j : Nat} {q par : Bool} {d d0 : D}, (lents os).Nodup → os[k']? = some (Opd.s j) → e'.get (k + k') = .own q d → e.get j = .own par d0 → (putBk os k e' e).get j = .own par d
  | [], _, _, _, _, _, _, _, _, _, _, h, _, _ => by simp at h
  | .v _ :: os, k, k', e', e, j, q, par, d, d0, n, h, h1, h2 => by
    cases k' with
    | zero => simp at h
    | succ k' => exact putBk_in (os := os) (k' := k') n (by simpa using h) (by rw [Nat.add_assoc, Nat.add_comm 1]; exact h1) h2
  | .s i :: os, k, k', e', e, j, q, par, d, d0, n, h, h1, h2 => by
    simp only [lents, List.nodup_cons] at n
    simp only [putBk]
    cases k' with
    | zero =>
      simp at h; subst h
      rw [putBk_out n.1]
      rw [Nat.add_zero] at h1
      rw [h1, h2]
      exact get_set_self (get_lt (by rw [h2]; simp))
    | succ k' =>
      have hj : j ∈ lents os := mem_lents (os := os) (k := k') (by simpa using h)
      have hij : i ≠ j := fun z => n.1 (z ▸ hj)
      refine putBk_in (os := os) (k' := k') n.2 (by simpa using h) (by rw [Nat.add_assoc, Nat.add_comm 1]; exact h1) (d0 := d0) ?_
      split
      · rw [get_set_ne hij]; exact h2
      · exact h2

def argOwn (O : Own) (os : List Opd) : Own := fun k => match os[k]? with
  | some (Opd.s i) => O i
  | _ => none
theorem reposO_len : ∀ {vs : List V} {os : List Opd} {S : Addr → Prop}, ReposO K σ H S vs os → vs.length = os.length
  | [], [], _, _ => rfl
  | _ :: _, _ :: _, _, h => by simp [reposO_len h.2]
  | [], _ :: _, _, h => h.elim
  | _ :: _, [], _, h => h.elim
theorem reposO_get : ∀ {vs : List V} {os : List Opd} {S : Addr → Prop} {k : Nat} {o : Opd}, ReposO K σ H S vs os → os[k]? = some o → ∃ v, vs[k]? = some v ∧ RepO K σ H S v o
  | [], [], _, _, _, _, e => by simp at e
  | v :: vs, o' :: os, S, 0, o, h, e => ⟨v, rfl, by simp at e; subst e; exact h.1⟩
  | v :: vs, o' :: os, S, k + 1, o, h, e => by
    obtain ⟨w, e1, e2⟩ := reposO_get (k := k) h.2 (by simpa using e)
    exact ⟨w, by simpa using e1, e2⟩
  | [], _ :: _, _, _, _, h, _ => h.elim
  | _ :: _, [], _, _, _, h, _ => h.elim
theorem argsOf_len : ∀ {os : List Opd} {args : List Arg}, argsOf os e = some args → args.length = os.length
  | [], _, h => by cases h; rfl
  | .v d :: os, args, h => by
    simp only [argsOf] at h
    cases q : argsOf os e with
    | none => rw [q] at h; cases h
    | some as => rw [q] at h; cases h; simp [argsOf_len q]
  | .s i :: os, args, h => by
    simp only [argsOf] at h
    split at h
    · cases q : argsOf os e with
      | none => rw [q] at h; cases h
      | some as => rw [q] at h; cases h; simp [argsOf_len q]
    · cases h
theorem argsOf_get : ∀ {os : List Opd} {args : List Arg} {k : Nat} {o : Opd}, argsOf os e = some args → os[k]? = some o → match o with
    | .v d => args[k]? = some (.v d)
    | .s i => ∃ par d, e.get i = .own par d ∧ args[k]? = some (.m d)
  | [], _, _, _, _, h => by simp at h
  | .v d :: os, args, k, o, h, h2 => by
    simp only [argsOf] at h
    cases q : argsOf os e with
    | none => rw [q] at h; cases h
    | some as =>
      rw [q] at h; cases h
      cases k with
      | zero => simp at h2; subst h2; simp
      | succ k => have := argsOf_get (k := k) q (by simpa using h2); simpa using this
  | .s i :: os, args, k, o, h, h2 => by
    simp only [argsOf] at h
    split at h
    · rename_i par d c
      cases q : argsOf os e with
      | none => rw [q] at h; cases h
      | some as =>
        rw [q] at h; cases h
        cases k with
        | zero => simp at h2; subst h2; exact ⟨par, d, c, by simp⟩
        | succ k => have := argsOf_get (k := k) q (by simpa using h2); simpa using this
    · cases h
theorem args_ok {vs : List V} {os : List Opd} {args : List Arg} (g : Good K F O σ H e) (r : ReposO K σ H (Sx F.S0 O) vs os) (h : argsOf os e = some args) : ArgsOk K H (Sx F.S0 O) (argOwn O os) vs args := by
  refine ⟨(reposO_len r).trans (argsOf_len h).symm, fun k => ?_⟩
  unfold argOwn
  cases c : os[k]? with
  | none =>
    have : args[k]? = none := by
      rw [List.getElem?_eq_none_iff] at c ⊢
      rw [argsOf_len h]; exact c
    rw [this]
  | some o =>
    have q := argsOf_get h c
    obtain ⟨v, e1, e2⟩ := reposO_get r c
    cases o with
    | v d => simp only at q; rw [q]; exact ⟨rfl, v, e1, e2⟩
    | s i =>
      obtain ⟨par, d, q1, q2⟩ := q
      rw [q2]
      obtain ⟨p, a1, a2, a3, _⟩ := g.at q1
      have : v = .ref p := by
        have := getD_of (show σ[i]? = some (some v) from e2)
        rw [a2] at this; cases this; rfl
      subst this
      exact ⟨p, a1, .inr ⟨i, a1⟩, e1, a3⟩
theorem argOwn_set {os : List Opd} {a : Addr} (h : Oset (argOwn O os) a) : Oset O a := by
  obtain ⟨k, e⟩ := h
  unfold argOwn at e
  split at e
  · exact ⟨_, e⟩
  · cases e
theorem argOwn_inj {os : List Opd} (g : Good K F O σ H e) (n : (lents os).Nodup) : ∀ i j p, argOwn O os i = some p → argOwn O os j = some p → i = j := by
  intro i j p h1 h2
  unfold argOwn at h1 h2
  split at h1
  · rename_i a c
    split at h2
    · rename_i b c'
      have := g.inj a b p h1 h2
      subst this
      exact lents_inj n c c'
    · cases h2
  · cases h1
/-- behind the call -/
theorem Good.called {os : List Opd} {args : List Arg} {F' : Fx} (g : Good K F O σ H e) (h : argsOf os e = some args) (n : (lents os).Nodup) (f : Fr (Oset (argOwn O os)) H H')
    (hF : F' = F ∨ ∃ p, F' = F.more p ∧ H p = none ∧ H' p ≠ none) (b : Back K H' (Sx F'.S0 O) (argOwn O os) e') : Good K F' O σ H' (putBk os 0 e' e) := by
  have hw : ∀ a, Oset (argOwn O os) a → Sx F.S0 O a := fun a z => .inr (argOwn_set z)
  have gF : Good K F' O σ H e ∨ ∃ p, F' = F.more p ∧ H p = none ∧ H' p ≠ none := hF.imp (fun z => by rw [z]; exact g) id
  have hP : F'.P = F.P ∧ F'.L = F.L ∧ F'.H0 = F.H0 ∧ (∀ a, F.S0 a → F'.S0 a) ∧ ∀ a, Sx F'.S0 O a → Sx F.S0 O a ∨ H a = none := by
    rcases hF with rfl | ⟨p, rfl, hp, _⟩
    · exact ⟨rfl, rfl, rfl, fun _ z => z, fun _ z => .inl z⟩
    · refine ⟨rfl, rfl, rfl, fun _ z => .inl z, ?_⟩
      rintro a ((z | rfl) | z)
      · exact .inl (.inl z)
      · exact .inr hp
      · exact .inl (.inr z)
  obtain ⟨eP, eL, eH, hS0, hS⟩ := hP
  have hlt : ∀ {vs : List V} {ds : List D}, Reps K H (Sx F.S0 O) vs ds → Reps K H' (Sx F'.S0 O) vs ds := fun r => Reps.mono (S := fun a => Sx F.S0 O a ∨ Sx F'.S0 O a) (fun _ z => .inr z) (Reps.fr f.rd (fun a z => .inl (hw a z)) (Reps.freeS (fun a z => z.elim .inl (hS a)) r))
  have hl1 : ∀ {v : V} {d : D}, Rep K H (Sx F.S0 O) v d → Rep K H' (Sx F'.S0 O) v d := fun r => Rep.mono (S := fun a => Sx F.S0 O a ∨ Sx F'.S0 O a) (fun _ z => .inr z) (Rep.fr f.rd (fun a z => .inl (hw a z)) (Rep.freeS (fun a z => z.elim .inl (hS a)) r))
  have hs0 : ∀ a, F'.S0 a → H' a ≠ none := by
    rcases hF with rfl | ⟨p, rfl, hp, hp'⟩
    · exact fun a z => f.dom a (g.s0 a z)
    · rintro a (z | rfl)
      · exact f.dom a (g.s0 a z)
      · exact hp'
  have lkn : ∀ i, (e.get i).isLk = true → i ∉ lents os := fun i hi hm => by
    obtain ⟨k, hk⟩ := of_lents hm
    have := argsOf_get h hk
    obtain ⟨par, d, q1, _⟩ := this
    rw [q1] at hi; cases hi
  refine ⟨by rw [putBk_len]; exact g.len, hs0, fun a z => f.dom a (g.d0 a (by rw [← eH]; exact z)), g.inj, fun i j p z => g.lo i j p (by rw [← eL]; exact z), fun i p z => hS0 p (g.ls i p (by rw [← eL]; exact z)), fun i p z => hS0 p (g.ps i p (by rw [← eP]; exact z)), fun i p z => ?_, fun i => ?_⟩
  · have := g.ln i p (by rw [← eL]; exact z)
    rw [putBk_out (lkn i this)]; exact this
  · rw [eP, eL]
    by_cases hi : i ∈ lents os
    · obtain ⟨k, hk⟩ := of_lents hi
      obtain ⟨par, d, q1, q2⟩ := argsOf_get h hk
      obtain ⟨p, a1, a2, a3, a4, a5⟩ := g.at q1
      have ao : argOwn O os k = some p := by unfold argOwn; rw [hk]; exact a1
      obtain ⟨d', b1, b2⟩ := b k p ao
      rw [putBk_in (k' := k) n hk (by rw [Nat.zero_add]; exact b1) q1]
      refine ⟨p, a1, a2, b2, fun z => ⟨hS0 _ (a4 z).1, (a4 z).2⟩, fun z => ⟨fun w => ?_, by rw [eH]; exact (a5 z).2⟩⟩
      rcases hF with rfl | ⟨p0, rfl, hp, hp'⟩
      · exact (a5 z).1 w
      · rcases w with w | rfl
        · exact (a5 z).1 w
        · exact g.dom (.inr ⟨i, a1⟩) hp
    · rw [putBk_out hi]
      have q := g.slot i
      cases c : e.get i with
      | no => rw [c] at q; exact q
      | val d => rw [c] at q; obtain ⟨q1, v, q2, q3⟩ := q; exact ⟨q1, v, q2, hl1 q3⟩
      | own par d =>
        rw [c] at q; obtain ⟨p, a1, a2, a3, a4, a5⟩ := q
        have hnp : ¬ Oset (argOwn O os) p := by
          rintro ⟨k, z⟩
          unfold argOwn at z
          split at z
          · rename_i j hj
            have := g.inj i j p a1 z
            subst this
            exact hi (mem_lents hj)
          · cases z
        have own : OwnRep K H' (Sx F'.S0 O) p d := by
          rcases a3 with ⟨vs, ds, rfl, w, r⟩ | ⟨kvs, vs, rfl, w, r⟩ | ⟨kvs, vs, rfl, w, r⟩
          · exact .inl ⟨vs, ds, rfl, f.eq _ _ w hnp, hlt r⟩
          · exact .inr (.inl ⟨kvs, vs, rfl, f.eq _ _ w hnp, hlt r⟩)
          · exact .inr (.inr ⟨kvs, vs, rfl, f.eq _ _ w hnp, hlt r⟩)
        refine ⟨p, a1, a2, own, fun z => ⟨hS0 _ (a4 z).1, (a4 z).2⟩, fun z => ⟨fun w => ?_, by rw [eH]; exact (a5 z).2⟩⟩
        rcases hF with rfl | ⟨p0, rfl, hp, hp'⟩
        · exact (a5 z).1 w
        · rcases w with w | rfl
          · exact (a5 z).1 w
          · exact g.dom (.inr ⟨i, a1⟩) hp
      | lck d =>
        rw [c] at q; obtain ⟨a1, v, a2, a3⟩ := q
        refine ⟨a1, v, a2, a3.elim (fun z => .inl (hl1 z)) fun ⟨p, z1, z2, z3, z4⟩ => .inr ⟨p, z1, z2, hS0 _ z3, ?_⟩⟩
        have hnp : ¬ Oset (argOwn O os) p := fun z => by obtain ⟨j, w⟩ := argOwn_set z; exact g.lo _ _ _ z2 w
        cases z4 with
        | lst w r => exact .lst (f.eq _ _ w hnp) (hlt r)
        | scr w r => exact .scr (f.rd.sq w hnp) (hlt r)
        | tup w r => exact .tup (w.elim (fun y => .inl ⟨f.rd.1 _ _ y.1 hnp, fun u => (hS _ u).elim y.2 fun o => rd_some y.1 o⟩) .inr) (hlt r)
        | dctK w r => exact .dctK (f.rd.1 _ _ w hnp) (hlt r)
        | dctT w r => exact .dctT (f.rd.1 _ _ w hnp) (hlt r)
        | exc => exact .exc
        | excN w n => exact .excN (f.rd.1 _ _ w hnp) (fun u => (hS _ u).elim n fun o => rd_some w o)
        | excF w n k m r => exact .excF (f.rd.1 _ _ w hnp) (fun u => (hS _ u).elim n fun o => rd_some w o) (f.rd.1 _ _ k fun z => m (hw _ z)) (fun u => (hS _ u).elim m fun o => rd_some k o) (hlt r)
      | lkd par d =>
        rw [c] at q; obtain ⟨a1, p, a2, a3, a4, a5, a6⟩ := q
        have hnp : ¬ Oset (argOwn O os) p := fun z => by obtain ⟨j, w⟩ := argOwn_set z; exact g.lo _ _ _ a3 w
        refine ⟨a1, p, a2, a3, hS0 _ a4, ?_, a6⟩
        rcases a5 with ⟨vs, ds, rfl, w, r⟩ | ⟨kvs, vs, rfl, w, r⟩ | ⟨kvs, vs, rfl, w, r⟩
        · exact .inl ⟨vs, ds, rfl, f.eq _ _ w hnp, hlt r⟩
        · exact .inr (.inl ⟨kvs, vs, rfl, f.rd.1 _ _ w hnp, hlt r⟩)
        · exact .inr (.inr ⟨kvs, vs, rfl, f.rd.1 _ _ w hnp, hlt r⟩)
end
end Rp
set_option Elab.async false
set_option linter.all false
set_option maxRecDepth 100000
/-! RpR: calls of the text's own defs, by place and by keyword. -/
namespace Rp
open PySem PySem.Spec PyProof.Rows L2

/-- a def of the text that keeps its promise -/
structure CalD (P : Program) (w : World) (K : PySem.W.Frag) (mg : Str → Option Value) (base : Heap) (k : Nat) (x : Str) (np : Nat) (den : List Arg → Res) : Prop where
  ex : ∃ (f : Addr) (fd : FuncData) (ps : List Str), FnOk P w K mg base (L2N.CX P w) k f fd ps (spD K mg np den) ∧ mg x = some (.ref f) ∧ PySem.W.keepIn K (.ref f) = true ∧ Binds K fd ps []
  len : ∀ args, args.length ≠ np → den args = .bad
def pm {α : Type} (ix : List Nat) (l : List α) : List α := ix.filterMap (l[·]?)
structure CalK (P : Program) (w : World) (K : PySem.W.Frag) (mg : Str → Option Value) (base : Heap) (k : Nat) (x : Str) (ks : List Str) (ix : List Nat) (np : Nat) (den : List Arg → Res) : Prop where
  ex : ∃ (f : Addr) (fd : FuncData) (ps : List Str), FnOk P w K mg base (L2N.CX P w) k f fd ps (spD K mg np den) ∧ mg x = some (.ref f) ∧ PySem.W.keepIn K (.ref f) = true ∧
    ∀ (s : Shared) (ws : List Value), K.In s.heap → ws.length = ks.length → BindsTo s fd ⟨[], ks.zip ws⟩ (ps.zip (pm ix ws))
  len : ∀ args, args.length ≠ np → den args = .bad
theorem fnDen_len {n np : Nat} {body : Env → Res} : ∀ args, args.length ≠ np → fnDen n np body args = .bad := fun args h => by
  unfold fnDen; rw [if_neg h]

/-- fresh: a list that comes must be a new one -/
def callR (fresh : Bool) (den : List Arg → Res) (os : List Opd) (e : Env) : Out D := match argsOf os e with
  | some args => if decide (lents os).Nodup then match den args with
      | .rt d b e' => if fresh && isLst d && !b then .bad else .ok d (putBk os 0 e' e)
      | .exc x e' => .exc x (putBk os 0 e' e)
      | _ => .bad
    else .bad
  | none => .bad
def callU (fresh : Bool) (den : List Arg → Res) (fs : Env → Out (List Opd)) : Env → Out D := fun env => (fs env).bind fun os e => callR fresh den os e

section
variable {X : Cx} {a : Expr} {es : List Expr} {fs : Env → Out (List Opd)} {x : Str} {pf pos : Pos} {k j np : Nat} {den : List Arg → Res}
/-- the promise is asked for -/
theorem call_sp {F : Fx} {O : Own} {σ : L2.St} {H : Hp} {e : Env} {os : List Opd} {vs : List V} {fresh : Bool} {Wx : WX} {Q : VK} (g : Good X.K F O σ H e) (r : ReposO X.K σ H (Sx F.S0 O) vs os) (hl : ∀ args, args.length ≠ np → den args = .bad)
    (h0 : callR fresh den os e = .bad → False)
    (h1 : ∀ d e' v H', callR fresh den os e = .ok d e' → Fr (Oset O) H H' → Good X.K F O σ H' e' → Rep X.K H' (Sx F.S0 O) v d → (fresh = true → FreshV X.K H H' (Sx F.S0 O) v d ∧ ∀ ds, d = .lst ds → ∀ p, v = .ref p → Good X.K (F.more p) O σ H' e') → Q v H')
    (h2 : ∀ x e' cls dx H', callR fresh den os e = .exc x e' → Fr (Oset O) H H' → Good X.K F O σ H' e' → XRep X.mg cls dx x → Wx cls dx σ H') : spD X.K X.mg np den vs H Q (WE Wx σ) := by
  unfold callR at h0 h1 h2
  cases q : argsOf os e with
  | none => rw [q] at h0; exact (h0 rfl).elim
  | some args =>
    simp only [q] at h0 h1 h2
    by_cases n : (lents os).Nodup
    case neg => rw [if_neg (by simpa using n)] at h0; exact (h0 rfl).elim
    rw [if_pos (by simpa using n)] at h0
    simp only [if_pos (show decide (lents os).Nodup = true by simpa using n)] at h1 h2
    have ao := args_ok g r q
    have hlen : args.length = np := Decidable.byContradiction fun z => by rw [hl args z] at h0; exact h0 rfl
    refine ⟨Sx F.S0 O, argOwn O os, args, ao.1.trans hlen, fun a z => g.dom z, argOwn_inj g n, ao, ?_⟩
    have fm : ∀ {H' : Hp}, Fr (Oset (argOwn O os)) H H' → Fr (Oset O) H H' := fun f => f.mono fun a z => argOwn_set z
    cases c : den args with
    | nx e' => rw [c] at h0; exact (h0 rfl).elim
    | bk e' => rw [c] at h0; exact (h0 rfl).elim
    | bad => rw [c] at h0; exact (h0 rfl).elim
    | exc y e' =>
      simp only [c] at h2
      exact fun cls dx H' f b xr => h2 y _ cls dx H' rfl (fm f) (g.called q n f (.inl rfl) b) xr
    | rt d b e' =>
      simp only [c] at h0 h1
      cases hb : (fresh && isLst d && !b) with
      | true => rw [if_pos hb] at h0; exact (h0 rfl).elim
      | false =>
        simp only [hb, Bool.false_eq_true, if_false] at h1
        cases b with
        | false =>
          intro v H' f bk rep
          refine h1 d _ v H' rfl (fm f) (g.called q n f (.inl rfl) bk) rep fun hf => ?_
          subst hf
          have nl : ∀ ds, d ≠ .lst ds := fun ds e => by subst e; simp [isLst] at hb
          exact ⟨⟨rep, fun ds e => absurd e (nl ds)⟩, fun ds e => absurd e (nl ds)⟩
        | true =>
          intro v H' f bk fv bm
          refine h1 d _ v H' rfl (fm f) (g.called q n f (.inl rfl) bk) fv.1 fun _ => ⟨fv, fun ds e p ep => ?_⟩
          obtain ⟨p', ws, a1, a2, a3, a4⟩ := fv.2 ds e
          rw [a1] at ep; cases ep
          refine g.called q n f (.inr ⟨_, rfl, a2, by rw [a3]; simp⟩) (fun i p0 hp0 => ?_)
          obtain ⟨d', b1, b2⟩ := bm ds e _ a1 i p0 hp0
          refine ⟨d', b1, b2.mono fun a z => ?_⟩
          rcases z with (z | rfl) | z
          · exact .inl (.inl z)
          · exact .inr rfl
          · exact .inl (.inr z)
theorem sf_callU (c : CalD X.prog X.w X.K X.mg X.base k x np den) (hr : Room j X.A) (hk : k ≤ j) (hg : Gl X x) (hdb : (x == ("__debug__" : Str)) = false) (hst : (a :: es).all (fun e => !PySem.W.isStarred e) = true) (h : SA X (a :: es) fs) : SF X (.Call (.Name x pf) (a :: es) [] pos) (callU true den fs) := by
  obtain ⟨⟨f, fd, ps, Fn, hm, hkp, hb⟩, hl⟩ := c
  rw [List.all_cons, Bool.and_eq_true] at hst
  intro Wx tk F O σ H env gd Q p
  refine TE.by (pe_callS (Fn.mono hk) hr hg hm hkp hb (L2N.passAt tk) pa_of hdb (starEach_plain (by simpa using hst.1) _) (pl_of hst.2 _ _)) ?_
  refine h Wx tk F O σ H env gd _ (PstF.bind p fun os e1 vs H1 O1 s1 f1 g1 r1 p1 => ?_)
  refine call_sp (fresh := true) g1 r1 hl (fun z => ?_) (fun d e' v H' z ff gg rep fr => ?_) (fun y e' cls dx H' z ff gg xr => ?_)
  · rw [z] at p1; exact p1
  · rw [z] at p1; exact p1 v H' O1 .refl ff gg (fr rfl).1 (fr rfl).2
  · rw [z] at p1; exact p1 cls dx H' O1 .refl ff gg xr
theorem se_callU (c : CalD X.prog X.w X.K X.mg X.base k x np den) (hr : Room j X.A) (hk : k ≤ j) (hg : Gl X x) (hdb : (x == ("__debug__" : Str)) = false) (hst : (a :: es).all (fun e => !PySem.W.isStarred e) = true) (h : SA X (a :: es) fs) : SE X (.Call (.Name x pf) (a :: es) [] pos) (callU false den fs) := by
  obtain ⟨⟨f, fd, ps, Fn, hm, hkp, hb⟩, hl⟩ := c
  rw [List.all_cons, Bool.and_eq_true] at hst
  intro Wx tk F O σ H env gd Q p
  refine TE.by (pe_callS (Fn.mono hk) hr hg hm hkp hb (L2N.passAt tk) pa_of hdb (starEach_plain (by simpa using hst.1) _) (pl_of hst.2 _ _)) ?_
  refine h Wx tk F O σ H env gd _ (Pst.bind p fun os e1 vs H1 O1 s1 f1 g1 r1 p1 => ?_)
  refine call_sp (fresh := false) g1 r1 hl (fun z => ?_) (fun d e' v H' z ff gg rep fr => ?_) (fun y e' cls dx H' z ff gg xr => ?_)
  · rw [z] at p1; exact p1
  · rw [z] at p1; exact p1 v H' O1 .refl ff gg rep
  · rw [z] at p1; exact p1 cls dx H' O1 .refl ff gg xr

/-! ### keywords alone -/
def TK.of (X : Cx) (kws : List Keyword) : TA := fun σ H Q => ∀ (pos : Pos) pins s, Inv X pins σ H s → wpAny (model X.prog X.w) X.A (evalAll ((backToKw pos (keywordEach kws X.env)).map (·.2))) (AP X pins σ Q) X.xe s
theorem pk_of {kws : List Keyword} : PK X kws (TK.of X kws) := ⟨fun pos pins s _ _ _ I h => h pos pins s I⟩
theorem TK.by {kws : List Keyword} {t : TA} (h : PK X kws t) {σ : L2.St} {H : Hp} {Q : List V → Hp → Prop} (q : t σ H Q) : TK.of X kws σ H Q := fun pos pins s I => h.run pos pins s σ H Q I q
def SK (X : Cx) (kws : List Keyword) (f : Env → Out (List Opd)) : Prop :=
  ∀ Wx, Takes X Wx → ∀ F O σ H env, Good X.K F O σ H env → ∀ Q : List V → Hp → Prop, Pst X.K X.mg Wx F O σ H (ReposO X.K σ) Q (f env) → TK.of X kws σ H Q
theorem sk_nil : SK X [] nilA := fun Wx tk F O σ H env g Q p => TK.by pk_nil (p.ok g trivial)
theorem sk_cons {nm : Option Str} {kpos : Pos} {kws : List Keyword} {fa : Env → Out Opd} (ha : SO X a fa) (hr : SK X kws fs) : SK X (⟨nm, a, kpos⟩ :: kws) (consA fa fs) := by
  intro Wx tk F O σ H env gd Q p
  refine TK.by (pk_cons pe_of pk_of) ?_
  refine ha Wx tk F O σ H env gd _ (Pst.bind p fun o e1 v H1 O1 s f1 g1 r1 p1 => ?_)
  refine hr Wx tk F O1 σ H1 e1 g1 _ (Pst.bind p1 fun os e2 vs H2 O2 s2 f2 g2 r2 p2 => ?_)
  exact p2.ok g2 ⟨(r1.fr f2.rd fun _ z => .inr z).mono fun _ z => s2.sx z, r2⟩
theorem pm_repos {K : PySem.W.Frag} {σ : L2.St} {H : Hp} {S : Addr → Prop} {vs : List V} {os : List Opd} (r : ReposO K σ H S vs os) : ∀ ix : List Nat, ReposO K σ H S (pm ix vs) (pm ix os)
  | [] => trivial
  | i :: ix => by
    unfold pm
    have ih := pm_repos r ix
    unfold pm at ih
    cases c : os[i]? with
    | none =>
      have : vs[i]? = none := by
        rw [List.getElem?_eq_none_iff] at c ⊢
        rw [reposO_len r]; exact c
      rw [List.filterMap_cons, List.filterMap_cons, c, this]; exact ih
    | some o =>
      obtain ⟨v, e1, e2⟩ := reposO_get r c
      rw [List.filterMap_cons, List.filterMap_cons, c, e1]; exact ⟨e2, ih⟩
theorem vals_get : ∀ {vs : List V} {us : List Value} {i : Nat}, Vals vs us → (vs[i]? = none ∧ us[i]? = none) ∨ ∃ v u, vs[i]? = some v ∧ us[i]? = some u ∧ RelV v u
  | _, _, _, .nil => .inl ⟨rfl, rfl⟩
  | _, _, 0, .cons r _ => .inr ⟨_, _, rfl, rfl, r⟩
  | _, _, i + 1, .cons _ t => by simpa using vals_get (i := i) t
theorem pm_vals {vs : List V} {us : List Value} (r : Vals vs us) : ∀ ix : List Nat, Vals (pm ix vs) (pm ix us)
  | [] => .nil
  | i :: ix => by
    unfold pm
    have ih := pm_vals r ix
    unfold pm at ih
    rcases vals_get (i := i) r with ⟨e1, e2⟩ | ⟨v, u, e1, e2, e3⟩
    · rw [List.filterMap_cons, List.filterMap_cons, e1, e2]; exact ih
    · rw [List.filterMap_cons, List.filterMap_cons, e1, e2]; exact .cons e3 ih
theorem run_fnKS {CX : CXT} {f : Addr} {fd : FuncData} {ps ks : List Str} {ix : List Nat} {sp : Sp} {E : L2.St → XK} {pins : List (Addr × Obj)} {σ : L2.St} {H : Hp} {s : Shared} {Q : VK} {ws : List Value} {zs : List V} (Fn : FnOk X.prog X.w X.K X.mg X.base CX k f fd ps sp) (hr : Room k X.A)
    (hb : ∀ (s : Shared) (ws : List Value), X.K.In s.heap → ws.length = ks.length → BindsTo s fd ⟨[], ks.zip ws⟩ (ps.zip (pm ix ws))) (hx : PassesAt CX X σ (E σ)) (I : Inv X pins σ H s) (r : Vals zs ws) (hl : ws.length = ks.length) (h : sp (pm ix zs) H Q (E σ)) :
    wpAny (model X.prog X.w) X.A (call (.ref f) [] (ks.zip ws)) (EP X pins σ Q) X.xe s := by
  have b := hb s ws I.kIn hl
  refine wpAny_call (codeAny_mono (Fn.run X.A X.stack s H ⟨[], ks.zip ws⟩ (pm ix ws) (pm ix zs) Q (E σ) hr I.env0 b (pm_vals r ix) h) fun r s' hq => ?_)
  cases r with
  | error e => exact hx pins H s e s' I hq
  | ok fl =>
    cases fl with
    | ret u => exact I.after hq
    | next => exact False.elim hq
    | brk => exact False.elim hq
    | cont => exact False.elim hq
def tCallKS (n : Nat) (ix : List Nat) (sp : Sp) (E : L2.St → XK) (t : TA) : TE := fun σ H Q => t σ H fun zs H1 => zs.length = n ∧ sp (pm ix zs) H1 Q (E σ)
theorem pe_callKS {CX : CXT} {f : Addr} {fd : FuncData} {ps ks : List Str} {ix : List Nat} {sp : Sp} {E : L2.St → XK} {kws : List Keyword} {tk : TA} (Fn : FnOk X.prog X.w X.K X.mg X.base CX k f fd ps sp) (hr : Room k X.A) (hg : Gl X x) (hm : X.mg x = some (.ref f)) (hk : PySem.W.keepIn X.K (.ref f) = true)
    (hb : ∀ (s : Shared) (ws : List Value), X.K.In s.heap → ws.length = ks.length → BindsTo s fd ⟨[], ks.zip ws⟩ (ps.zip (pm ix ws))) (hx : ∀ σ, PassesAt CX X σ (E σ)) (hkw : PK X kws tk)
    (hall : (backToKw pos (keywordEach kws X.env)).all (·.1.isSome) = true) (hks : (backToKw pos (keywordEach kws X.env)).filterMap (·.1) = ks) (hdb : (x == ("__debug__" : Str)) = false)
    (hpl : ((backTo pos (starEach [] X.env)).any (·.1) || (backToKw pos (keywordEach kws X.env)).any (·.1.isNone)) = false) :
    PE X (.Call (.Name x pf) [] kws pos) (tCallKS ks.length ix sp E tk) := by
  refine ⟨fun pins s σ H Q I h => ?_⟩
  refine wpAny_Call_Name_kw (ld_glob I hg hm ?_ hdb)
  refine PySem.W.callWith_KW0 (h₀ := X.base) I.ok.mod.kin hk hall ?_ hpl
  refine thn (hkw.run pos pins s σ H _ I h) fun ws s2 ⟨zs, H2, I2, rz, l2, q2⟩ => ⟨I2.kIn, ?_⟩
  rw [hks]
  exact run_fnKS Fn hr hb (hx σ) I2 rz (rz.length.symm.trans l2) q2
def callKU (fresh : Bool) (n : Nat) (ix : List Nat) (den : List Arg → Res) (fs : Env → Out (List Opd)) : Env → Out D := fun env => (fs env).bind fun os e => if os.length = n then callR fresh den (pm ix os) e else .bad
theorem sf_callK {ks : List Str} {ix : List Nat} {kws : List Keyword} {nk : Nat} (hnk : ks.length = nk) (c : CalK X.prog X.w X.K X.mg X.base k x ks ix np den) (hr : Room j X.A) (hk : k ≤ j) (hg : Gl X x) (hdb : (x == ("__debug__" : Str)) = false)
    (hall : (backToKw pos (keywordEach kws X.env)).all (·.1.isSome) = true) (hks : (backToKw pos (keywordEach kws X.env)).filterMap (·.1) = ks)
    (hpl : ((backTo pos (starEach [] X.env)).any (·.1) || (backToKw pos (keywordEach kws X.env)).any (·.1.isNone)) = false) (h : SK X kws fs) : SF X (.Call (.Name x pf) [] kws pos) (callKU true nk ix den fs) := by
  subst hnk
  obtain ⟨⟨f, fd, ps, Fn, hm, hkp, hb⟩, hl⟩ := c
  intro Wx tk F O σ H env gd Q p
  refine TE.by (pe_callKS (Fn.mono hk) hr hg hm hkp hb (L2N.passAt tk) pk_of hall hks hdb hpl) ?_
  refine h Wx tk F O σ H env gd _ (PstF.bind p fun os e1 vs H1 O1 s1 f1 g1 r1 p1 => ?_)
  have p1' : PstF X.K X.mg Wx F O1 σ H1 Q (if os.length = ks.length then callR true den (pm ix os) e1 else .bad) := p1
  split at p1'
  · rename_i hlen
    refine ⟨(reposO_len r1).trans hlen, call_sp (fresh := true) g1 (pm_repos r1 ix) hl (fun z => ?_) (fun d e' v H' z ff gg rep fr => ?_) (fun y e' cls dx H' z ff gg xr => ?_)⟩
    · rw [z] at p1'; exact p1'
    · rw [z] at p1'; exact p1' v H' O1 .refl ff gg (fr rfl).1 (fr rfl).2
    · rw [z] at p1'; exact p1' cls dx H' O1 .refl ff gg xr
  · exact p1'.elim
end
end Rp
set_option Elab.async false
set_option linter.all false
set_option maxRecDepth 100000
/-! RpS: raise, try; lists unpacked; items stored; values that nobody keeps. -/
namespace Rp
open PySem PySem.Spec PyProof.Rows L2

section
variable {X : Cx}
/-! ### an own class of errors, made without arguments -/
/-- what is known of an own class of errors at C -/
structure OwnE (K : PySem.W.Frag) (mg : Str → Option Value) (x : Str) (C : Addr) : Prop where
  ex : PySem.W.excIn K C [.type "ValueError", .type "Exception", .type "BaseException", .type "object"] "ValueError.__new__" = true
  g : mg x = some (.ref C)
  kp : PySem.W.keepIn K (.ref C) = true
  sub : PySem.W.subIn K (.ref C) (.type "BaseException") = some true
  ty : PySem.W.typeIn K (.ref C) = some (.type "type")
theorem pmk_own0 {C : Addr} {bmB : List Value} {B newId initId : String} {x : Str} {p pos : Pos} (F : ExcBaseFacts B newId initId bmB) (q : PySem.W.excIn X.K C bmB newId = true) (gC : X.mg x = some (.ref C)) (kC : PySem.W.keepIn X.K (.ref C) = true) (r : Raises X (.ref C)) (hg : Gl X x)
    (hdb : (x == ("__debug__" : Str)) = false) : L2N.PMk X (.Call (.Name x p) [] [] pos) (fun σ H Q => Q (.ref C) none H) := by
  intro pins s σ H Q I h
  refine wpAny_Call_Name_kw (ld_glob I hg gC ?_ hdb)
  refine PySem.W.callWith_K0 I.kIn kC ?_
  show wpAny _ _ (call (.ref C) []) _ _ _
  obtain ⟨bm, N, nm, qn, bs, hdct, sn, sub, ab, col, dd, k0, k1, k2, k3, k5, mN, hC, hN, hni, T⟩ := exc_obj I.kIn q
  refine wpAny_call_exc_subT F T hC hN hni (fun h' e hm => ?_) (by show 0 ≤ sizeLine; rw [sizeLine_eq]; omega)
  exact L2N.mk_of I hm r h (I.hok.gone hm.new)
def dRaise (x : Str) : Env → Res := fun env => .exc (.str x) env
theorem s1_raise0 {C : Addr} {x : Str} {p pos pos' : Pos} (hc : X.calm = true) (c : OwnE X.K X.mg x C) (hg : Gl X x) (hdb : (x == ("__debug__" : Str)) = false) : S1 X (.Raise (some (.Call (.Name x p) [] [] pos)) none pos') (dRaise x) := by
  intro Wx tk F O σ H env gd N pp
  refine TS.by (L2N.ps_raise hc tk (pmk_own0 PySem.F.excBase_ValueError c.ex c.g c.kp (raises_own c.sub c.ty) hg hdb)) ?_
  exact pp _ _ σ H O .refl .refl gd ⟨x, C, rfl, c.g, rfl, rfl⟩

/-! ### an except suite that asks for classes and gives constants -/
/-- in a suite: the exception lies at a, in slot i -/
def TU (X : Cx) (i : Nat) (a : Addr) (e : Expr) (b : Bool) : Prop := ∀ σ H (Q : Bool → Hp → Prop), σ[i]? = some (some (.ref a)) → Q b H → TT.of X e σ H Q
def EU (X : Cx) (i : Nat) (a : Addr) (e : Expr) (d : V) : Prop := ∀ σ H (Q : VK), σ[i]? = some (some (.ref a)) → Q d H → TE.of X e σ H Q
def SU (X : Cx) (i : Nat) (a : Addr) (st : List Stmt) (d : V) : Prop := ∀ σ H (N : Ends), σ[i]? = some (some (.ref a)) → N.rt d H → TSs.of X st N σ H
variable {i : Nat} {a : Addr} {e e1 e2 : Expr} {b b1 b2 : Bool} {pos : Pos}
theorem tu_not (h : TU X i a e b) : TU X i a (.UnaryOp .Not e pos) (!b) := fun σ H Q hs q => TT.by (pt_not pt_of) (h σ H _ hs q)
theorem tu_or (h1 : TU X i a e1 b1) (h2 : TU X i a e2 b2) : TU X i a (.BoolOp .Or [e1, e2] pos) (b1 || b2) := fun σ H Q hs q => by
  refine TT.by (pw_or pt_of (pw_or1 pt_of)).pt (h1 σ H _ hs ?_)
  cases b1 with
  | true => rw [if_pos rfl]; exact q
  | false => rw [if_neg Bool.false_ne_true]; exact h2 σ H _ hs q
theorem tu_and (h1 : TU X i a e1 b1) (h2 : TU X i a e2 b2) : TU X i a (.BoolOp .And [e1, e2] pos) (b1 && b2) := fun σ H Q hs q => by
  refine TT.by (pw_and pt_of (pw_and1 pt_of)).pt (h1 σ H _ hs ?_)
  cases b1 with
  | true => rw [if_pos rfl]; exact h2 σ H _ hs q
  | false => rw [if_neg Bool.false_ne_true]; exact q
theorem eu_str {x : Str} {j : Nat} : EU X i a (.Constant (.str x) j pos) (.str x) := fun σ H Q hs q => TE.by pe_str q
theorem eu_ite {c : Expr} {u v : V} (h : TU X i a c b) (h1 : EU X i a e1 u) (h2 : EU X i a e2 v) : EU X i a (.IfExp c e1 e2 pos) (if b then u else v) := fun σ H Q hs q => by
  refine TE.by (pe_ifExp pt_of pe_of pe_of) (h σ H _ hs ?_)
  cases b with
  | true => rw [if_pos rfl]; exact h1 σ H _ hs q
  | false => rw [if_neg Bool.false_ne_true]; exact h2 σ H _ hs q
theorem su_ret {v : V} (h : EU X i a e v) : SU X i a [.Return (some e) pos] v := fun σ H N hs q => TSs.by (pss_one (ps_ret pe_of)) (h σ H _ hs q)
theorem su_if {c : Expr} {p : List Stmt} {r : List Stmt} {u v : V} (h : TU X i a c b) (h1 : SU X i a p u) (h2 : SU X i a r v) : SU X i a (.If c p [] pos :: r) (if b then u else v) := fun σ H N hs q => by
  refine TSs.by (pss_cons (ps_if pt_of pss_of pss_nil) pss_of) (h σ H _ hs ?_)
  cases b with
  | true => rw [if_pos rfl]; exact h1 σ H _ hs q
  | false => rw [if_neg Bool.false_ne_true]; exact h2 σ H _ hs q
theorem su_cast {st : List Stmt} {u v : V} (h : SU X i a st u) (e : u = v) : SU X i a st v := e ▸ h
/-- isinstance(caught, C) -/
theorem tu_is {D C2 : Addr} {oe : Obj} {pn : List (Addr × Obj)} {n x : Str} {p1 p2 p3 pos : Pos} (C : ExcC X.K D) (hz : Zc (.ref D) none oe) (hf : ∃ vs, oe.data = .fields vs)
    (hN : X.N[i]? = some n) (hv : Vis X.env.scope n) (hd : (n == ("__debug__" : Str)) = false) (hcd : (n == ("__classdict__" : Str)) = false)
    (hgi : Gl X "isinstance") (hmi : X.mg "isinstance" = none) (hg : Gl X x) (hm : X.mg x = some (.ref C2)) (hdx : (x == ("__debug__" : Str)) = false) (hk : PySem.W.kitOne X.K (.ref D) (.ref C2) = some b) :
    TU (X.suite a ((a, oe) :: pn)) i a (.Call (.Name "isinstance" p1) [.Name n p2, .Name x p3] [] pos) b := fun σ H Q hs q => by
  refine TT.by (pt_val (pe_callB (call_isE C hz hf) hgi hmi boot_isinstance (pa_cons (pe_var (i := i) hN hv hd hcd) (pa_cons (pe_glob (v := .ref C2) hg hm rfl hdx) pa_nil)))) ?_
  exact ⟨_, hs, ⟨_, _, b, rfl, fun u r => r, hk, b, rfl, q⟩⟩
theorem tu_isB {D : Addr} {oe : Obj} {pn : List (Addr × Obj)} {n x : Str} {T : String} {p1 p2 p3 pos : Pos} (C : ExcC X.K D) (hz : Zc (.ref D) none oe) (hf : ∃ vs, oe.data = .fields vs)
    (hN : X.N[i]? = some n) (hv : Vis X.env.scope n) (hd : (n == ("__debug__" : Str)) = false) (hcd : (n == ("__classdict__" : Str)) = false)
    (hgi : Gl X "isinstance") (hmi : X.mg "isinstance" = none) (hg : Gl X x) (hm : X.mg x = none) (hb : bootBuiltins x = some (.type T)) (hn : x ≠ "__name__") (hdx : (x == ("__debug__" : Str)) = false) (hk : PySem.W.kitOne X.K (.ref D) (.type T) = some b) :
    TU (X.suite a ((a, oe) :: pn)) i a (.Call (.Name "isinstance" p1) [.Name n p2, .Name x p3] [] pos) b := fun σ H Q hs q => by
  refine TT.by (pt_val (pe_callB (call_isE C hz hf) hgi hmi boot_isinstance (pa_cons (pe_var (i := i) hN hv hd hcd) (pa_cons (pe_bltn (v := .ty T) hg hm hb rfl hn hdx) pa_nil)))) ?_
  exact ⟨_, hs, ⟨_, _, b, rfl, fun u r => r, hk, b, rfl, q⟩⟩

/-! ### try: .. except C as n: (constants) -/
def dTryC (i : Nat) (f : Env → Res) (h : Str → Option D) : Env → Res := fun env => match f env with
  | .exc (.str nm) e => if decide (i < e.length) && !(e.get i).isLk then (match h nm with
      | some d => .rt d false (e.set i .no)
      | none => .bad) else .bad
  | .exc _ _ => .bad
  | .nx e => .nx e
  | .rt d b e => .rt d b e
  | .bk e => .bk e
  | .bad => .bad
theorem scal_rep {K : PySem.W.Frag} {H : Hp} {S : Addr → Prop} {d : D} {v : V} (h : scalV d = some v) : Rep K H S v d := by
  cases d <;> simp only [scalV] at h <;> first | (cases h; done) | (injection h with h; subst h)
  · exact .non
  · exact .bl _
  · exact .int _
  · exact .str _
theorem s1_tryC {body suite : List Stmt} {b0 : Stmt} {x n : Str} {c : Value} {np pos pos' : Pos} {f : Env → Res} {h : Str → Option D} (hs : X.stack = X.env :: X.outer) (hf : X.env.frame = some X.env.locals) (hN : X.N.Nodup) (hi : X.N[i]? = some n) (hln : X.env.kindOf n = some .local) (hc : Names X x c)
    (hb : ∀ pn xe, PassesOwn (model X.prog X.w) X.A X.env xe → SS (X.tr pn xe) body f)
    (hd : ∀ nm d, h nm = some d → ∃ v, scalV d = some v ∧ ∀ C, X.mg nm = some (.ref C) → PySem.W.exmOne X.K (.ref C) c = some true ∧ ∀ a oe pn, Zc (.ref C) none oe → (∃ vs, oe.data = .fields vs) → SU (X.suite a ((a, oe) :: pn)) i a (b0 :: suite) v) :
    S1 X (.Try body [.ExceptHandler (some (.Name x np)) (some n) (b0 :: suite) pos'] [] [] pos) (dTryC i f h) := by
  intro Wx tk F O σ H env gd N p
  refine TS.by (L2N.ps_try_as hs hf hN hi hln hc tk (tb := fun W N σ H => ∀ pn xe, Takes (X.tr pn xe) W → PassesOwn (model X.prog X.w) X.A X.env xe → TSs.of (X.tr pn xe) body N σ H)
    (ts := fun a cls dx N σ H => ∀ oe pn, Zc cls dx oe → (∃ vs, oe.data = .fields vs) → TSs.of (X.suite a ((a, oe) :: pn)) (b0 :: suite) N σ H)
    (fun W pn xe tkW hp => ⟨fun pins s σ H D I hh => pss_of.run pins s σ H D I (hh pn xe tkW hp)⟩) (fun a oe cls dx pn hz hff => ⟨fun pins s σ H D I hh => pss_of.run pins s σ H D I (hh oe pn hz.zc hff)⟩)) ?_
  intro pn xe tkW hp
  refine hb pn xe hp _ tkW F O σ H env gd N ?_
  unfold dTryC at p
  cases cf : f env with
  | bad => rw [cf] at p; exact p
  | nx e => rw [cf] at p; exact p
  | rt d b e => rw [cf] at p; exact p
  | bk e => rw [cf] at p; exact p
  | exc xx e =>
    rw [cf] at p
    intro cls dx σ' H' O' s' f' g' xr
    obtain ⟨nm, C, rfl, hm, rfl, rfl⟩ := xr
    simp only at p
    split at p
    case isFalse => exact p.elim
    rename_i hl
    rw [Bool.and_eq_true, decide_eq_true_eq] at hl
    cases ch : h nm with
    | none => rw [ch] at p; exact p.elim
    | some d =>
      rw [ch] at p
      obtain ⟨v, sv, hv⟩ := hd nm d ch
      obtain ⟨h1, h2⟩ := hv C hm
      refine ⟨true, h1, fun _ a ha oe pn2 hz hff => ?_, fun z => by cases z⟩
      refine h2 a oe pn2 hz hff _ H' _ ?_ ?_
      · rw [List.getElem?_set_self (by rw [← g'.len]; exact hl.1)]
      · have g2 := g'.forget (i := i) (by simpa using hl.2)
        exact p v σ' H' _ (fun j => by
          unfold Own.drop
          split
          · exact .inr (.inl rfl)
          · exact s' j) f' g2 (scal_rep sv)

/-! ### a list unpacked -/
def lstU : D → Option (List D)
  | .lst ds => some ds
  | .scr ds => some ds
  | _ => none
def gLstD (n : Nat) (gs : List D → Env → Option Env) : D → Env → Option Env := fun d e => match lstU d with
  | some ds => if ds.length = n then gs ds e else none
  | none => none
theorem sg_lst {es : List Expr} {kk : Nat} {is : List Nat} {gs : List D → Env → Option Env} (hc : X.calm = true) (hst : es.all (fun e => !PySem.W.isStarred e) = true) (h : SGs X es is gs) : SG X (.Tuple es kk pos) is (gLstD es.length gs) := by
  obtain ⟨t, p, q⟩ := h
  intro F O σ H env v d env' g r he Q k
  refine TG.by (pg_lst hc p (assignEach_all hst _).1 (assignEach_all hst _).2) ?_
  unfold gLstD at he
  cases r <;> simp only [lstU] at he <;> first | (cases he; done) | skip
  · rename_i a vs ds h1 h2 r
    split at he
    · rename_i hl
      exact ⟨a, vs, rfl, .inl (.inl h1), by rw [r.length]; exact hl, q F O σ H env vs ds env' g r he Q k⟩
    · cases he
  · rename_i a vs ds h r
    split at he
    · rename_i hl
      exact ⟨a, vs, rfl, h.elim (fun z => .inl z.1) .inr, by rw [r.length]; exact hl, q F O σ H env vs ds env' g r he Q k⟩
    · cases he
/-! ### an item stored -/
def dPut (i : Nat) (fe fi : Env → Out D) : Env → Res := fun env => (fe env).stm fun d e => if (ownL (e.get i)).isNone then .bad else (fi e).stm fun k e2 => match ownL (e2.get i), k with
  | some (par, ds), .int k => (match ixN ds.length k with
    | some j => .nx (e2.set i (.own par (.lst (ds.set j d))))
    | none => .bad)
  | _, _ => .bad
theorem s1_put {i : Nat} {x : Str} {ix : Expr} {px spos : Pos} {fe fi : Env → Out D} (hN : X.N[i]? = some x) (hv : Vis X.env.scope x) (hd : (x == ("__debug__" : Str)) = false) (hcd : (x == ("__classdict__" : Str)) = false)
    (ha : ∀ v, assign (.Subscript (.Name x px) ix spos) X.env v = (do let ov ← holding [v] (eval (.Name x px) X.env); let iv ← holding [v, ov] (eval ix X.env); standAt spos; holding [v, ov, iv] (setItem ov iv v); release [v, ov, iv] []))
    (hs : swapsWithSole [.Subscript (.Name x px) ix spos] e pos.line X.env = pure false) (hw : swappedStores [.Subscript (.Name x px) ix spos] e X.env = pure none) (h1 : (assignEach [.Subscript (.Name x px) ix spos] X.env).map (·.2) = [assign (.Subscript (.Name x px) ix spos) X.env])
    (h : SE X e fe) (hi : SE X ix fi) : S1 X (.Assign [.Subscript (.Name x px) ix spos] e pos) (dPut i fe fi) := by
  intro Wx tk F O σ H env gd N p
  refine TS.by (ps_asg pe_of (pg_sub (pe_var hN hv hd hcd) pe_of set_list ha) hs hw h1) ?_
  refine h Wx tk F O σ H env gd _ (PstS.expr p fun d e1 v H1 O1 s1 f1 g1 r1 p1 => ?_)
  cases c : ownL (e1.get i) with
  | none => rw [c] at p1; exact p1.elim
  | some z =>
    rw [c] at p1
    simp only [Option.isNone_some, Bool.false_eq_true, if_false] at p1
    obtain ⟨par, ds⟩ := z
    have c' := ownL_of c
    obtain ⟨a, q1, q2, q3, q4⟩ := g1.at c'
    refine ⟨.ref a, of_getD q2, ?_⟩
    refine hi Wx tk F O1 σ H1 e1 g1 _ (PstS.expr p1 fun k e2 vk H2 O2 s2 f2 g2 r2 p2 => ?_)
    cases c2 : ownL (e2.get i) with
    | none => rw [c2] at p2; cases k <;> exact p2.elim
    | some z2 =>
      obtain ⟨par2, ds2⟩ := z2
      rw [c2] at p2
      cases r2 with
      | int k =>
        simp only at p2
        cases cj : ixN ds2.length k with
        | none => rw [cj] at p2; exact p2.elim
        | some j =>
          rw [cj] at p2
          have c2' := ownL_of c2
          obtain ⟨a2, b1, b2, b3, b4⟩ := g2.at c2'
          rw [q2] at b2; cases b2
          obtain ⟨vs2, ds2', e2', hh2, rr2⟩ | ⟨_, _, e2', _⟩ | ⟨_, _, e2', _⟩ := b3
          · cases e2'
            refine ⟨a, vs2, k, j, rfl, rfl, hh2, by rw [rr2.length]; exact cj, ?_⟩
            have r1' := (Rep.fr f2.rd (fun _ z => .inr z) r1).mono (S' := Sx F.S0 O2) fun _ z => s2.sx z
            exact p2.nxtN .refl (Fr.write (W := Oset O2) ⟨i, b1⟩) (g2.put c2' b1 (Reps.set r1' j rr2))
          · cases e2'
          · cases e2'
      | _ => exact p2.elim

/-! ### a new list on either way -/
theorem sf_ite {c e1 e2 : Expr} {f : Env → Out Bool} {u v : Env → Out D} (hc : ST X c f) (ha : SF X e1 u) (hb : SF X e2 v) : SF X (.IfExp c e1 e2 pos) (iteV f u v) := by
  intro Wx tk F O σ H env gd Q p
  refine TE.by (pe_ifExp pt_of pe_of pe_of) ?_
  refine hc Wx tk F O σ H env gd _ (PstF.bind p fun k e1 v H1 O1 s f1 g1 r1 p1 => ?_)
  cases r1
  cases k with
  | true => rw [if_pos rfl]; exact ha Wx tk F O1 σ H1 e1 g1 _ p1
  | false => rw [if_neg Bool.false_ne_true]; exact hb Wx tk F O1 σ H1 e1 g1 _ p1

/-! ### an evaluation that keeps nothing: what is own stays own -/
def lendS : Slot → Slot
  | .own false d => .val d
  | .own true d => .lck d
  | s => s
def lendE (e : Env) : Env := e.map lendS
def isPar : Slot → Bool
  | .own true _ => true
  | _ => false
def Fx.lendF (F : Fx) (e : Env) (O : Own) : Fx := { F with L := fun i => if isPar (e.get i) then O i else F.L i }
theorem lendE_get {e : Env} {i : Nat} : (lendE e).get i = lendS (e.get i) := by
  unfold lendE Env.get
  rw [List.getD_eq_getElem?_getD, List.getD_eq_getElem?_getD, List.getElem?_map]
  cases e[i]? <;> rfl
theorem Good.lend {K : PySem.W.Frag} {F : Fx} {O : Own} {σ : L2.St} {H : Hp} {e : Env} (g : Good K F O σ H e) : Good K (F.lendF e O) (fun _ => none) σ H (lendE e) := by
  have hS : ∀ a, Sx (F.lendF e O).S0 (fun _ => none) a → Sx F.S0 O a := by
    rintro a (z | ⟨_, z⟩)
    · exact .inl z
    · cases z
  refine ⟨by unfold lendE; rw [List.length_map]; exact g.len, g.s0, g.d0, fun _ _ _ z => (by cases z), fun _ _ _ _ z => (by cases z), fun i p z => ?_, g.ps, fun i p z => ?_, fun i => ?_⟩
  · have z' : (if isPar (e.get i) then O i else F.L i) = some p := z
    split at z'
    · rename_i h
      have q := g.slot i
      cases c : e.get i with
      | own par d =>
        cases par with
        | true => rw [c] at q; obtain ⟨p', q1, _, _, q4, _⟩ := q; rw [z'] at q1; cases q1; exact (q4 rfl).1
        | false => rw [c] at h; cases h
      | _ => rw [c] at h; cases h
    · exact g.ls i p z'
  · have z' : (if isPar (e.get i) then O i else F.L i) = some p := z
    rw [lendE_get]
    split at z'
    · rename_i h
      cases c : e.get i with
      | own par d =>
        cases par with
        | true => rfl
        | false => rw [c] at h; cases h
      | _ => rw [c] at h; cases h
    · have := g.ln i p z'
      cases c : e.get i <;> rw [c] at this <;> first | (cases this; done) | rfl
  · rw [lendE_get]
    have q := (g.slot i).mono hS
    have hL : (F.lendF e O).L i = if isPar (e.get i) then O i else F.L i := rfl
    rw [hL]
    cases c : e.get i with
    | no => exact rfl
    | val d => rw [c] at q; obtain ⟨q1, q2⟩ := q; exact ⟨rfl, q2⟩
    | lck d => rw [c] at q; obtain ⟨q1, q2⟩ := q; exact ⟨rfl, q2⟩
    | lkd par d => rw [c] at q; obtain ⟨q1, q2⟩ := q; exact ⟨rfl, q2⟩
    | own par d =>
      rw [c] at q
      obtain ⟨p, q1, q2, q3, q4, q5⟩ := q
      cases par with
      | false =>
        refine ⟨rfl, _, q2, q3.rep ?_⟩
        rintro (z | ⟨_, z⟩)
        · exact (q5 rfl).1 z
        · cases z
      | true => exact ⟨rfl, _, q2, .inr ⟨p, rfl, q1, (q4 rfl).1, q3.b⟩⟩
theorem Good.unlend {K : PySem.W.Frag} {F : Fx} {O : Own} {σ : L2.St} {H H' : Hp} {e : Env} (g : Good K F O σ H e) (f : Fr (Oset (fun _ => none)) H H') : Good K F O σ H' e :=
  g.fr f (fun a ⟨_, z⟩ => by cases z) fun a ⟨_, z⟩ => by cases z
theorem fr_none {O : Own} {H H' : Hp} (f : Fr (Oset (fun _ => none)) H H') : Fr (Oset O) H H' := f.mono fun a ⟨_, z⟩ => by cases z
def lendB (f : Env → Out Bool) : Env → Out Bool := fun env => match f (lendE env) with
  | .ok b _ => .ok b env
  | .exc x _ => .exc x env
  | .bad => .bad
theorem st_lend {f : Env → Out Bool} (h : ST X e f) : ST X e (lendB f) := by
  intro Wx tk F O σ H env g Q p
  refine h Wx tk _ _ σ H _ g.lend Q ?_
  unfold lendB at p
  cases c : f (lendE env) with
  | bad => rw [c] at p; exact p
  | ok b e' => rw [c] at p; exact fun b' H' O' s f' g' r => p b' H' O .refl (fr_none f') (g.unlend f') r
  | exc x e' => rw [c] at p; exact fun cls dx H' O' s f' g' r => p cls dx H' O .refl (fr_none f') (g.unlend f') r
def lendV (f : Env → Out D) : Env → Out D := fun env => match f (lendE env) with
  | .ok d _ => if d.flat then .ok d env else .bad
  | .exc x _ => .exc x env
  | .bad => .bad
theorem se_lend {f : Env → Out D} (h : SE X e f) : SE X e (lendV f) := by
  intro Wx tk F O σ H env g Q p
  refine h Wx tk _ _ σ H _ g.lend Q ?_
  unfold lendV at p
  cases c : f (lendE env) with
  | bad => rw [c] at p; exact p
  | ok d e' =>
    rw [c] at p
    have p' : Pst X.K X.mg Wx F O σ H (Rep X.K) Q (if d.flat = true then .ok d env else .bad) := p
    split at p'
    · rename_i hf
      exact fun v H' O' s f' g' r => p' v H' O .refl (fr_none f') (g.unlend f') (flat_any r.b hf)
    · exact p'.elim
  | exc x e' => rw [c] at p; exact fun cls dx H' O' s f' g' r => p cls dx H' O .refl (fr_none f') (g.unlend f') r
end
end Rp
set_option Elab.async false
set_option linter.all false
set_option maxRecDepth 100000
/-! RpT: defs of the text, the end. -/
namespace Rp
open PySem PySem.Spec PyProof.Rows L2

section
variable {P : Program} {w : World} {K : PySem.W.Frag} {mg : Str → Option Value} {base : Heap} {x qual : Str} {params : Arguments} {body : List Stmt} {scope : Scope} {f : Addr} {fd : FuncData}
theorem funD_ok {N ps : List Str} {k : Nat} {den : Env → Res} (F : FunD K x qual params body scope [] [] f fd) (S : FnScope N ps scope)
    (hb : ∀ (cdv : Value) (A : Around) (outer : List PySem.Env) (s : Shared) (H : Hp) (E : XK), Room k (A.deeper (envOfC qual scope s.heap.objs.size f cdv)) → SS (cxOf (L2N.CX P w) P w K mg base N qual scope f cdv A outer s H E) body den) :
    FnOk P w K mg base (L2N.CX P w) (k + 1) f fd ps (spD K mg ps.length (fnDen N.length ps.length den)) := by
  obtain ⟨oc, od, dV, kV, doc, pm, an, cdv, ct, osl, rfl, lk, hcd, hD, hK⟩ := F.ex
  exact fn_ok lk hcd S (hb cdv)
/-- the def may be called -/
theorem calD {ps : List Str} {k np : Nat} {den : List Arg → Res} (F : FunD K x qual params body scope [] [] f fd) (ok : FnOk P w K mg base (L2N.CX P w) k f fd ps (spD K mg np den)) (hm : mg x = some (.ref f)) (hl : ∀ args, args.length ≠ np → den args = .bad)
    (h : ∀ (kV doc pm : Value) (an : Option Addr) (cdv ct : Value) (us : List Value), us.length = ps.length → bindArgs (PySem.W.fnOf x qual params body scope .none kV doc pm an cdv ct) ⟨us, []⟩ = pure (ps.zip us)) : CalD P w K mg base k x np den :=
  ⟨⟨f, fd, ps, ok, hm, F.kp, F.bindsN h⟩, hl⟩
theorem CalD.mono {k k' np : Nat} {den : List Arg → Res} (c : CalD P w K mg base k x np den) (h : k ≤ k') : CalD P w K mg base k' x np den := by
  obtain ⟨⟨f, fd, ps, Fn, r⟩, hl⟩ := c
  exact ⟨⟨f, fd, ps, Fn.mono h, r⟩, hl⟩
theorem calK {ps ks : List Str} {ix : List Nat} {k np : Nat} {den : List Arg → Res} (F : FunD K x qual params body scope [] [] f fd) (ok : FnOk P w K mg base (L2N.CX P w) k f fd ps (spD K mg np den)) (hm : mg x = some (.ref f)) (hl : ∀ args, args.length ≠ np → den args = .bad)
    (h : ∀ (kV doc pm : Value) (an : Option Addr) (cdv ct : Value) (ws : List Value), ws.length = ks.length → bindArgs (PySem.W.fnOf x qual params body scope .none kV doc pm an cdv ct) ⟨[], ks.zip ws⟩ = pure (ps.zip (Rp.pm ix ws))) : CalK P w K mg base k x ks ix np den := by
  refine ⟨⟨f, fd, ps, ok, hm, F.kp, fun s ws _ hw => ?_⟩, hl⟩
  obtain ⟨oc, od, dV, kV, doc, pm, an, cdv, ct, osl, rfl, lk, hcd, hD, hK⟩ := F.ex
  rcases hD with ⟨_, rfl⟩ | ⟨e, _⟩
  · exact .of_eq (h kV doc pm an cdv ct ws hw)
  · exact absurd rfl e
end
/-! ### short names for the printed texts -/
section
variable {X : Cx} {a b c e : Expr} {pos : Pos}
def borO (i : Nat) : Env → Out Opd := fun env => (Out.of ((env.get i).look) env).bind fun _ e => .ok (.s i) e
theorem so_borO {i : Nat} {x : Str} {pos : Pos} (hN : X.N[i]? = some x) (hv : Vis X.env.scope x) (hd : (x == ("__debug__" : Str)) = false) (hcd : (x == ("__classdict__" : Str)) = false) : SO X (.Name x pos) (borO i) := so_bor hN hv hd hcd
theorem so_of {f : Env → Out D} (h : SE X a f) : SO X a (asV f) := h.opd
def notV (fa : Env → Out Opd) : Env → Out D := fun env => (notB (truB fa) env).bind fun b e => .ok (.bl b) e
theorem se_notV {fa : Env → Out Opd} (ha : SO X a fa) : SE X (.UnaryOp .Not a pos) (notV fa) := se_not ha
def negV (va : Env → Out D) : Env → Out D := fun env => (va env).bind fun d e => Out.of (negD d) e
theorem se_negV {va : Env → Out D} (ha : SE X a va) : SE X (.UnaryOp .USub a pos) (negV va) := se_neg ha
def nilJ : Str → Env → Out Str := fun acc env => .ok acc env
def conJ (x : Str) (f : Str → Env → Out Str) : Str → Env → Out Str := fun acc env => if lenOk (acc ++ x).length then f (acc ++ x) env else .bad
def fmtJ (va : Env → Out D) (f : Str → Env → Out Str) : Str → Env → Out Str := fun acc env => (va env).bind fun d e => match fmtD d with | some y => if lenOk (acc ++ y).length then f (acc ++ y) e else .bad | none => .bad
theorem sj_nilJ : SJ X [] nilJ := sj_nil
theorem sj_conJ {x : Str} {j : Nat} {es : List Expr} {f : Str → Env → Out Str} (h : SJ X es f) : SJ X (.Constant (.str x) j pos :: es) (conJ x f) := sj_const h
theorem sj_fmtJ {va : Env → Out D} {es : List Expr} {f : Str → Env → Out Str} (ha : SE X a va) (h : SJ X es f) : SJ X (.FormattedValue a (-1) none pos :: es) (fmtJ va f) := sj_fmt ha h
theorem se_gstr {x z : Str} (hg : Gl X x) (h : ∃ t, X.mg x = some (.str z t)) (hd : (x == ("__debug__" : Str)) = false) : SE X (.Name x pos) (pureD (.str z)) := by
  obtain ⟨t, h⟩ := h
  exact se_glb (v := .str z) hg h ⟨t, rfl⟩ rfl hd
theorem se_gint {x : Str} {z : Int} (hg : Gl X x) (h : ∃ t, X.mg x = some (.int z t)) (hd : (x == ("__debug__" : Str)) = false) : SE X (.Name x pos) (pureD (.int z)) := by
  obtain ⟨t, h⟩ := h
  exact se_glb (v := .int z) hg h ⟨t, rfl⟩ rfl hd
theorem se_dct0 : SE X (.Dict [] [] pos) (pureD (.dct [] [])) := by
  intro Wx tk F O σ H env g Q p
  refine TE.by pe_dnewK fun q hq => ?_
  refine p.okN g (same_new hq) (.dctK (kvs := []) (.inl upd_same) (fun z => g.dom z hq) .nil)
theorem hu65 {k : Nat} {A : Around} (r : Room k A) : A.units + 65 < cLine := by have := r.un; omega
theorem st_yes : ∀ {ifs : List Expr}, ifs = [] → STs X ifs (fun env => .ok true env) := fun h => .inl ⟨h, rfl⟩
theorem st_some {c : Expr} {f : Env → Out Bool} (h : ST X c f) : STs X [c] f := .inr ⟨c, rfl, h⟩
def dRetN : Env → Res := fun e => .rt .non false e
theorem s1_retNN : S1 X (.Return none pos) dRetN := s1_retN
def dBrk : Env → Res := fun e => .bk e
theorem s1_brk : S1 X (.Break pos) dBrk := s1_break
/-- y = [.. for ..]: the comprehension stands within the frame -/
theorem s1_setLc {i : Nat} {y : Str} {py spos : Pos} {elt tg iter : Expr} {ifs : List Expr} {scope : Scope} {own : List (Str × Nat)} {is : List Nat} {it : Env → Out ItD} {g : D → Env → Option Env} {q : Env → Out Bool} {f : Env → Out D} (hc : X.calm = true) (hN : X.N.Nodup) (ok : BlkOk X.N X.env.scope scope own)
    (his : ∀ j ∈ is, j ∈ own.map (·.2)) (hs : ∀ x, foldedSetIterable iter X.env x = pure x) (hy : X.N[i]? = some y) (hyl : X.env.scope.names.lookup y = some .local) (hsw : swapsWith (.ListComp elt [⟨tg, iter, ifs, 0⟩] scope pos) (some (.Name y py)) spos.line X.env = pure true)
    (hi : SI X tg iter it) (hg : AllB X scope fun B => SG B tg is g) (ht : AllB X scope fun B => STs B ifs q) (he : AllB X scope fun B => SE B elt f) :
    S1 X (.Assign [.Name y py] (.ListComp elt [⟨tg, iter, ifs, 0⟩] scope pos) spos) (dSetF i (lcD (own.map (·.2)) it g q f)) := by
  intro Wx tk F O σ H env gd N p
  refine TS.by (ps_setLc hc hN hy hyl hsw pi_of ok (fun _ _ _ _ _ => pg_bl) (fun _ _ _ _ _ => pts_bl) (fun _ _ _ _ _ => pe_bl) hs) ?_
  refine lc_key his hi hg ht he tk gd ?_
  cases c : lcD (own.map (·.2)) it g q f env with
  | bad => unfold dSetF at p; rw [c] at p; exact p.elim
  | exc x e' => unfold dSetF at p; rw [c] at p; exact fun cls dx H' O' s' f' g' r => p cls dx σ H' O' s'.nw f' g' r
  | ok d e1 =>
    unfold dSetF at p; rw [c] at p
    intro v H1 O1 s1 f1 g1 r1 k1
    simp only [Out.stm] at p
    cases q : setO i d e1 with
    | none => rw [q] at p; exact p.elim
    | some e' =>
      rw [q] at p
      obtain ⟨O', g', n'⟩ := g1.setF r1 k1 (fun a z => gd.dom (s1.sx z)) (fun a z => gd.h0 z) q
      refine p _ H1 O' (fun j => ?_) f1 g'
      rcases n' j with h | h | h
      · rw [h]; exact (s1 j).imp id .inl
      · exact .inr (.inl h)
      · exact .inr (.inr h)
end
theorem fnOk_bad {P : Program} {w : World} {K : PySem.W.Frag} {mg : Str → Option Value} {base : Heap} {k np : Nat} {f : Addr} {fd : FuncData} {ps : List Str} : FnOk P w K mg base (L2N.CX P w) k f fd ps (spD K mg np (fun _ => .bad)) :=
  ⟨fun _ _ _ _ ⟨_, _, _, _, _, _, _, z⟩ => z.elim, fun _ _ _ _ _ _ _ _ _ _ _ _ _ ⟨_, _, _, _, _, _, _, z⟩ => z.elim⟩
/-! ### the end -/
theorem walk_ofD {l : PySem.W.OpenLaw} {n k : Nat} {q : Program} {loose : List Str} {XP : (Str → Option Value) → Heap → Prop} {YP : World → Heap → Prop} {d : DefRec} {x : Str}
    (hn : l.most = some n) (hn2 : n ≤ sizeLine) (hdf : d.params.defaults = []) (hr : Room k callerA)
    (F : ∀ (w : World) (mg : Str → Option Value) (fa : Addr) (h : Heap), YP w h → h.Ns mainGlobals mg → mg d.name = some (.ref fa) →
      ∃ (K : PySem.W.Frag) (fd : FuncData) (den : List Arg → Res), K.In h ∧ (∀ (s : Shared) (u : Value), BindsTo s fd ⟨[u], []⟩ [(x, u)]) ∧
        (∀ ns : List Int, ns.length ≤ n → (∀ z ∈ ns, Builtin.Int.intBits z ≤ 1048576) → ∃ b e, den [.v (.scr (ns.map D.int))] = .rt (.bl true) b e) ∧
        ∀ base : Heap, K.In base → base.Ns mainGlobals mg → FnOk l.prog w K mg base (L2N.CX l.prog w) k fa fd [x] (spD K mg 1 den)) :
    PySem.W.WalkO q loose XP YP l.row.toRowW d [] (fun f vs => PySem.call f vs) := by
  refine Att.attach_callB hn hdf fun w s₀ s₁ mg mb fa o pm cd doc a vs ns G Y ho hd hcd hmg hobj hints hlen hbits hg => ?_
  obtain ⟨K, fd, den, KX, hb, hsp, hF⟩ := F w mg fa _ Y G.T.g hmg
  refine law_call KX G.T.g G.T.b G.T.builtins G.T.nolimit hg hobj hints (Nat.le_trans hlen hn2) hr hF hb (fun H hO hS => ?_) fun H e s' ⟨_, _, _, _, _, _, _, _, _, _, _, _, z⟩ => z
  obtain ⟨b, e, he⟩ := hsp ns hlen hbits
  refine ⟨fun _ => False, fun _ => none, [.v (.scr (ns.map D.int))], rfl, fun _ z => z.elim, fun _ _ _ z => (by cases z), ⟨rfl, fun i => ?_⟩, ?_⟩
  · cases i with
    | zero =>
      refine ⟨rfl, _, rfl, .scr (hS.imp (fun z => ⟨z, fun w => w⟩) fun z => z) ?_⟩
      have : ∀ ns : List Int, Reps K H (fun _ => False) (ns.map V.int) (ns.map D.int) := by
        intro ns
        induction ns with
        | nil => exact .nil
        | cons i r ih => exact .cons (.int i) ih
      exact this ns
    | succ i => exact rfl
  · rw [he]
    cases b with
    | false => intro v H' _ _ r; cases r; rfl
    | true => intro v H' _ _ r _; cases r.1; rfl

/-! ### facts of one's own beside the layer's -/
def hookX (n : Nat) (fx : List (PySem.W.Frag → Bool)) (fa : List He.Fa) (fn : List He.DefD) : PySem.W.Hook where
  α := Bool × He.AlD
  obs := fun s => (fx.all fun c => c (He.frG s.heap.get? (He.asD s.heap.get? n)), He.obsDG n fa fn s.heap.get?)
  val := fun _ => (true, He.valD fn)
  says := fun _ h => ∃ K : PySem.W.Frag, K.In h ∧ fx.all (fun c => c K) = true ∧ He.SaysD fa fn K
  of := fun _ _ e => ⟨_, He.frG_in, congrArg (fun z : Bool × He.AlD => z.1) e, congrArg (fun z : Bool × He.AlD => z.2) e⟩
  keeps := fun _ _ _ ⟨K, hK, c⟩ k => ⟨K, PySem.W.Frag.In.keeps hK k, c⟩
def obX (n : Nat) (fx : List (PySem.W.Frag → Bool)) (fa : List He.Fa) (fn : List He.DefD) (g : Addr → Option Obj) : Bool × He.AlD :=
  let K := He.frG g (He.asD g n)
  (fx.all fun c => c K, He.obsD fa fn K)
theorem obX_eq {n : Nat} {fx : List (PySem.W.Frag → Bool)} {fa : List He.Fa} {fn : List He.DefD} {g : Addr → Option Obj} {s : Shared} (h : ∀ a, g a = s.heap.get? a) : obX n fx fa fn g = (hookX n fx fa fn).obs s := by
  have e : g = s.heap.get? := funext h
  rw [e] <;> rfl
/-- an own class of errors -/
def excB (x : Str) (K : PySem.W.Frag) : Bool :=
  let C := He.ga K x
  decide (PySem.W.findIn K (.ref C) "__getattribute__" = some (some (.builtin "BaseException.__getattribute__"))) && (decide (PySem.W.findIn K (.ref C) "__getattr__" = some none) && (decide (PySem.W.subIn K (.ref C) (.type "BaseException") = some true) &&
   (PySem.W.hasDictIn K C && (decide (PySem.W.findIn K (.ref C) "__class__" = some (some (.builtin "object.__class__"))) && (decide (PySem.W.specialIn K (.builtin "object.__class__") "__get__" = some (some (.builtin "getset_descriptor.__get__"))) &&
   (decide (PySem.W.takesIn K (.builtin "object.__class__") = some true) && decide (PySem.W.mroIn K C (.type "object") = some true)))))))
theorem excB_ok {K : PySem.W.Frag} {x : Str} (h : excB x K = true) : ExcC K (He.ga K x) := by
  unfold excB at h
  simp only [Bool.and_eq_true, decide_eq_true_eq] at h
  obtain ⟨a1, a2, a3, a4, a5, a6, a7, a8⟩ := h
  exact ⟨a1, a2, a3, a4, a5, a6, a7, a8⟩
def kitB (x y : Str) (b : Bool) (K : PySem.W.Frag) : Bool := decide (PySem.W.kitOne K (.ref (He.ga K x)) (.ref (He.ga K y)) = some b)
theorem kitB_ok {K : PySem.W.Frag} {x y : Str} {b : Bool} (h : kitB x y b K = true) : PySem.W.kitOne K (.ref (He.ga K x)) (.ref (He.ga K y)) = some b := of_decide_eq_true h
def kitT (x : Str) (T : String) (b : Bool) (K : PySem.W.Frag) : Bool := decide (PySem.W.kitOne K (.ref (He.ga K x)) (.type T) = some b)
theorem kitT_ok {K : PySem.W.Frag} {x : Str} {T : String} {b : Bool} (h : kitT x T b K = true) : PySem.W.kitOne K (.ref (He.ga K x)) (.type T) = some b := of_decide_eq_true h
theorem fx_ok {fx : List (PySem.W.Frag → Bool)} {K : PySem.W.Frag} (h : fx.all (fun c => c K) = true) (i : Nat) {c : PySem.W.Frag → Bool} (e : fx[i]? = some c) : c K = true := List.all_eq_true.mp h c (List.mem_of_getElem? e)
end Rp
set_option Elab.async false
set_option linter.all false
set_option maxRecDepth 100000
/-! RpU: the meanings, evaluated step by step (simp). -/
namespace Rp
open PySem
section
variable {α β : Type} {a b c d x y z w : D} {e : Env} {i j k n : Nat} {s s0 s1 s2 s3 s4 s5 s6 s7 s8 s9 s10 s11 s12 t : Slot} {l : Env}
@[simp] theorem u_bind {a : α} {f : α → Env → Out β} : Out.bind (.ok a e) f = f a e := (rfl)
@[simp] theorem u_bindx {f : α → Env → Out β} : Out.bind (.exc x e : Out α) f = .exc x e := (rfl)
@[simp] theorem u_of {a : α} : Out.of (some a) e = .ok a e := (rfl)
@[simp] theorem u_stm {a : α} {f : α → Env → Res} : Out.stm (.ok a e) f = f a e := (rfl)
@[simp] theorem u_stmx {f : α → Env → Res} : Out.stm (.exc x e : Out α) f = .exc x e := (rfl)
@[simp] theorem u_thn {f : Env → Res} : Res.thn (.nx e) f = f e := (rfl)
@[simp] theorem u_thnr {f : Env → Res} {q : Bool} : Res.thn (.rt d q e) f = .rt d q e := (rfl)
@[simp] theorem u_thnx {f : Env → Res} : Res.thn (.exc x e) f = .exc x e := (rfl)
@[simp] theorem u_noX {a : α} : noX (.ok a e) = .ok a e := (rfl)
@[simp] theorem g0 : Env.get (s0 :: l) 0 = s0 := (rfl)
@[simp] theorem g1 : Env.get (s0 :: s1 :: l) 1 = s1 := (rfl)
@[simp] theorem g2 : Env.get (s0 :: s1 :: s2 :: l) 2 = s2 := (rfl)
@[simp] theorem g3 : Env.get (s0 :: s1 :: s2 :: s3 :: l) 3 = s3 := (rfl)
@[simp] theorem g4 : Env.get (s0 :: s1 :: s2 :: s3 :: s4 :: l) 4 = s4 := (rfl)
@[simp] theorem g5 : Env.get (s0 :: s1 :: s2 :: s3 :: s4 :: s5 :: l) 5 = s5 := (rfl)
@[simp] theorem g6 : Env.get (s0 :: s1 :: s2 :: s3 :: s4 :: s5 :: s6 :: l) 6 = s6 := (rfl)
@[simp] theorem g7 : Env.get (s0 :: s1 :: s2 :: s3 :: s4 :: s5 :: s6 :: s7 :: l) 7 = s7 := (rfl)
@[simp] theorem g8 : Env.get (s0 :: s1 :: s2 :: s3 :: s4 :: s5 :: s6 :: s7 :: s8 :: l) 8 = s8 := (rfl)
@[simp] theorem g9 : Env.get (s0 :: s1 :: s2 :: s3 :: s4 :: s5 :: s6 :: s7 :: s8 :: s9 :: l) 9 = s9 := (rfl)
@[simp] theorem g10 : Env.get (s0 :: s1 :: s2 :: s3 :: s4 :: s5 :: s6 :: s7 :: s8 :: s9 :: s10 :: l) 10 = s10 := (rfl)
@[simp] theorem g11 : Env.get (s0 :: s1 :: s2 :: s3 :: s4 :: s5 :: s6 :: s7 :: s8 :: s9 :: s10 :: s11 :: l) 11 = s11 := (rfl)
@[simp] theorem g12 : Env.get (s0 :: s1 :: s2 :: s3 :: s4 :: s5 :: s6 :: s7 :: s8 :: s9 :: s10 :: s11 :: s12 :: l) 12 = s12 := (rfl)
@[simp] theorem u_lkv : Slot.look (.val d) = some d := (rfl)
@[simp] theorem u_lko {p : Bool} : Slot.look (.own p d) = some d := (rfl)
@[simp] theorem u_lkl : Slot.look (.lck d) = some d := (rfl)
@[simp] theorem u_lkd {p : Bool} : Slot.look (.lkd p d) = some d := (rfl)
@[simp] theorem u_isv : Slot.isLk (.val d) = false := (rfl)
@[simp] theorem u_iso {p : Bool} : Slot.isLk (.own p d) = false := (rfl)
@[simp] theorem u_isn : Slot.isLk .no = false := (rfl)
@[simp] theorem u_bor : borO i (s :: l) = (Out.of (Env.get (s :: l) i).look (s :: l)).bind fun _ ee => .ok (.s i) ee := (rfl)
@[simp] theorem u_asV {f : Env → Out D} : asV f (s :: l) = (f (s :: l)).bind fun d ee => .ok (.v d) ee := (rfl)
@[simp] theorem u_pure : pureD d (s :: l) = .ok d (s :: l) := (rfl)
@[simp] theorem u_drv : deref (.v d) e = some d := (rfl)
@[simp] theorem u_drs : deref (.s i) e = (e.get i).look := (rfl)
@[simp] theorem u_bin2 {g : D → D → Option D} {fa fb : Env → Out Opd} : bin2 g fa fb (s :: l) = (fa (s :: l)).bind fun a e1 => (fb e1).bind fun b e2 => Out.of ((deref a e2).bind fun x => (deref b e2).bind fun y => g x y) e2 := (rfl)
@[simp] theorem u_rdv (h : e.get i = .val d) : rdVar i e = .ok d e := by unfold rdVar; rw [h]
@[simp] theorem u_bB {f : Env → Out D} : bB f (s :: l) = (f (s :: l)).bind fun d ee => Out.of (asB d) ee := (rfl)
@[simp] theorem u_asB {q : Bool} : asB (.bl q) = some q := (rfl)
@[simp] theorem u_notB {f : Env → Out Bool} : notB f (s :: l) = (f (s :: l)).bind fun b ee => .ok (!b) ee := (rfl)
@[simp] theorem u_truB {f : Env → Out Opd} : truB f (s :: l) = (f (s :: l)).bind fun o ee => Out.of ((deref o ee).bind D.truth) ee := (rfl)
@[simp] theorem u_dSeq {f g : Env → Res} : dSeq f g (s :: l) = (f (s :: l)).thn g := (rfl)
@[simp] theorem u_dNil : dNil (s :: l) = .nx (s :: l) := (rfl)
@[simp] theorem u_dIf {fb : Env → Out Bool} {f g : Env → Res} : dIf fb f g (s :: l) = (fb (s :: l)).stm fun b ee => if b then f ee else g ee := (rfl)
@[simp] theorem u_dRet {f : Env → Out D} : dRet f (s :: l) = (f (s :: l)).stm fun d ee => .rt d false ee := (rfl)
@[simp] theorem u_dRetF {f : Env → Out D} : dRetF f (s :: l) = (f (s :: l)).stm fun d ee => .rt d true ee := (rfl)
@[simp] theorem u_nil : nilA (s :: l) = .ok [] (s :: l) := (rfl)
@[simp] theorem u_cons {f : Env → Out Opd} {fs : Env → Out (List Opd)} : consA f fs (s :: l) = (f (s :: l)).bind fun o ee => (fs ee).bind fun os e2 => .ok (o :: os) e2 := (rfl)
@[simp] theorem u_eqB : cmpD .Eq = D.eqD := (rfl)
@[simp] theorem u_add : binD .Add = D.add := (rfl)
@[simp] theorem u_sub : binD .Sub = D.sub := (rfl)
@[simp] theorem u_mul : binD .Mult = D.mul := (rfl)
@[simp] theorem u_fdiv : binD .FloorDiv = D.fdiv := (rfl)
@[simp] theorem u_mod : binD .Mod = D.mod := (rfl)
@[simp] theorem u_pow : binD .Pow = D.pow := (rfl)
@[simp] theorem u_gt {i j : Int} : cmpD .Gt (.int i) (.int j) = some (.bl (decide (j < i))) := (rfl)
@[simp] theorem u_lt {i j : Int} : cmpD .Lt (.int i) (.int j) = some (.bl (decide (i < j))) := (rfl)
@[simp] theorem u_ge {i j : Int} : cmpD .GtE (.int i) (.int j) = some (.bl (decide (j ≤ i))) := (rfl)
@[simp] theorem u_le {i j : Int} : cmpD .LtE (.int i) (.int j) = some (.bl (decide (i ≤ j))) := (rfl)
@[simp] theorem u_addI {i j : Int} : D.add (.int i) (.int j) = some (.int (i + j)) := (rfl)
@[simp] theorem u_subI {i j : Int} : D.sub (.int i) (.int j) = some (.int (i - j)) := (rfl)
@[simp] theorem u_ixl {ds : List D} {i : Int} : D.idx (.lst ds) (.int i) = L2.atI ds i := (rfl)
@[simp] theorem u_ixt {ds : List D} {i : Int} : D.idx (.tup ds) (.int i) = L2.atI ds i := (rfl)
@[simp] theorem u_ixs {ds : List D} {i : Int} : D.idx (.scr ds) (.int i) = L2.atI ds i := (rfl)
@[simp] theorem u_modI {i j : Int} (h : 0 < j) : D.mod (.int i) (.int j) = some (.int (i % j)) := by simp [D.mod, h]
theorem u_fdivI {i j : Int} (h : 0 < j) (h2 : j.natAbs.log2 < 9000) : D.fdiv (.int i) (.int j) = some (.int (i / j)) := by simp [D.fdiv, h, h2]
theorem u_mulI {i j : Int} (h : mulOk i j = true) : D.mul (.int i) (.int j) = some (.int (i * j)) := by simp [D.mul, h]
theorem u_mulL {i j : Int} (h : -(2 ^ 64) < i) (h2 : i < 2 ^ 64) : D.mul (.int i) (.int j) = some (.int (i * j)) := u_mulI (by simp only [mulOk, h, h2, decide_true, Bool.and_self, Bool.true_or])
theorem u_powI {i j : Int} (h : powOk i j = true) : D.pow (.int i) (.int j) = some (.int (i ^ j.toNat)) := by simp [D.pow, h]
@[simp] theorem at0 {ds : List D} : L2.atI (a :: ds) 0 = some a := by simp [L2.atI, L2.ixN]
@[simp] theorem at1 {ds : List D} : L2.atI (a :: b :: ds) 1 = some b := by
  unfold L2.atI L2.ixN; simp; rw [if_pos (by omega)]; rfl
@[simp] theorem at2 {ds : List D} : L2.atI (a :: b :: c :: ds) 2 = some c := by
  unfold L2.atI L2.ixN; simp; rw [if_pos (by omega)]; rfl
@[simp] theorem at3 {ds : List D} : L2.atI (a :: b :: c :: d :: ds) 3 = some d := by
  unfold L2.atI L2.ixN; simp; rw [if_pos (by omega)]; rfl
@[simp] theorem u_ownl {p : Bool} {ds : List D} : ownL (.own p (.lst ds)) = some (p, ds) := (rfl)
end

/-- a comprehension without a condition: the elements -/
theorem lcL_map {vs : List Nat} {g : D → Env → Option Env} {f : Env → Out D} {e : Env} {F : D → D} : ∀ {xs : List D}, (∀ x ∈ xs, ∃ e1 e2, g x e = some e1 ∧ f e1 = .ok (F x) e2 ∧ wipeE e2 vs = e) →
    lcL vs g (fun env => .ok true env) f xs e = .ok (xs.map F) e
  | [], _ => rfl
  | x :: xs, h => by
    obtain ⟨e1, e2, h1, h2, h3⟩ := h x (List.mem_cons_self ..)
    have ih := lcL_map (xs := xs) fun y hy => h y (List.mem_cons_of_mem _ hy)
    simp only [lcL, h1, noX, u_bind, if_true, h2, h3, ih, List.map_cons]
/-- a loop by an invariant: each turn keeps it -/
theorem forL_inv {g : D → Env → Option Env} {f : Env → Res} (I : Nat → Env → Prop) {e : Env} : ∀ {xs : List D} {k : Nat}, (∀ i x e, xs[i]? = some x → I (k + i) e → ∃ e1 e2, g x e = some e1 ∧ f e1 = .nx e2 ∧ I (k + i + 1) e2) → I k e → ∃ e', forL g f xs e = .nx e' ∧ I (k + xs.length) e'
  | [], k, _, h0 => ⟨e, rfl, h0⟩
  | x :: xs, k, h, h0 => by
    obtain ⟨e1, e2, h1, h2, h3⟩ := h 0 x e rfl h0
    obtain ⟨e', h4, h5⟩ := forL_inv (xs := xs) (k := k + 1) (e := e2) I (fun i y e hy hi => by
      have := h (i + 1) y e (by simpa using hy) (by rw [show k + (i + 1) = k + 1 + i by omega]; exact hi)
      rwa [show k + (i + 1) + 1 = k + 1 + i + 1 by omega] at this) h3
    refine ⟨e', ?_, by rw [List.length_cons, show k + (xs.length + 1) = k + 1 + xs.length by omega]; exact h5⟩
    simp only [forL, h1, h2, h4]
end Rp
set_option Elab.async false
set_option linter.all false
set_option maxRecDepth 100000
/-! RpV: shapes that == can compare, equal data, calls by their meaning. -/
namespace Rp
open PySem
/-- data that == compares, of a depth -/
def Sh (n : Nat) (d : D) : Prop := d.py.canLay0 = true ∧ d.py.depth ≤ n
theorem lay_all : ∀ ds : List D, PyData.canLayAll0 (D.pys ds) = true ↔ ∀ d ∈ ds, d.py.canLay0 = true
  | [] => by simp [D.pys, PyData.canLayAll0]
  | d :: ds => by simp [D.pys, PyData.canLayAll0, lay_all ds]
theorem depth_all {n : Nat} : ∀ ds : List D, PyData.depthAll (D.pys ds) ≤ n ↔ ∀ d ∈ ds, d.py.depth ≤ n
  | [] => by simp [D.pys, PyData.depthAll]
  | d :: ds => by simp [D.pys, PyData.depthAll, Nat.max_le, depth_all ds]
theorem Sh.non {n : Nat} : Sh n .non := ⟨rfl, by simp [D.py, PyData.depth]⟩
theorem Sh.bl {n : Nat} {b : Bool} : Sh n (.bl b) := ⟨rfl, by simp [D.py, PyData.depth]⟩
theorem Sh.int {n : Nat} {i : Int} : Sh n (.int i) := ⟨rfl, by simp [D.py, PyData.depth]⟩
theorem Sh.str {n : Nat} {x : Str} (h : PyData.strOk x = true) : Sh n (.str x) := ⟨by simpa [D.py, PyData.canLay0] using h, by simp [D.py, PyData.depth]⟩
theorem Sh.lst {n : Nat} {ds : List D} (h : ∀ d ∈ ds, Sh n d) : Sh (n + 1) (.lst ds) :=
  ⟨by simpa [D.py, PyData.canLay0] using (lay_all ds).mpr fun d m => (h d m).1, by simp only [D.py, PyData.depth]; exact Nat.succ_le_succ ((depth_all ds).mpr fun d m => (h d m).2)⟩
theorem Sh.tup {n : Nat} {ds : List D} (h : ∀ d ∈ ds, Sh n d) : Sh (n + 1) (.tup ds) :=
  ⟨by simpa [D.py, PyData.canLay0] using (lay_all ds).mpr fun d m => (h d m).1, by simp only [D.py, PyData.depth]; exact Nat.succ_le_succ ((depth_all ds).mpr fun d m => (h d m).2)⟩
theorem Sh.mono {n m : Nat} {d : D} (h : Sh n d) (l : n ≤ m) : Sh m d := ⟨h.1, Nat.le_trans h.2 l⟩
theorem Sh.shp {n : Nat} {d : D} (h : Sh n d) (l : n ≤ 64) : d.shp = true := by
  have := Nat.le_trans h.2 l
  simp [D.shp, SeqAt.shaped, h.1, this]
theorem eq_of {n m : Nat} {a b : D} (ha : Sh n a) (hb : Sh m b) (l : n ≤ 64) (k : m ≤ 64) : D.eqD a b = some (.bl (a.eqq b)) := by
  simp [D.eqD, ha.shp l, hb.shp k]
theorem ne_of {n m : Nat} {a b : D} (ha : Sh n a) (hb : Sh m b) (l : n ≤ 64) (k : m ≤ 64) : D.neD a b = some (.bl (!a.eqq b)) := by
  simp [D.neD, ha.shp l, hb.shp k]
theorem eqq_non (d : D) (h : d.py.canLay0 = true) : D.eqq d .non = d.isN := by
  cases d <;> simp [D.eqq, D.py, PyData.eqv, D.isN] <;> simp [D.py, PyData.canLay0] at h
theorem inB_non {n : Nat} {ds : List D} (h : ∀ d ∈ ds, Sh n d) : D.inB .non ds = ds.any D.isN := by
  unfold D.inB
  induction ds with
  | nil => rfl
  | cons d ds ih =>
    rw [List.any_cons, List.any_cons, ih fun x m => h x (List.mem_cons_of_mem _ m), eqq_non d (h d (List.mem_cons_self ..)).1]
/-- None in a list -/
theorem in_non {n : Nat} {ds : List D} (h : ∀ d ∈ ds, Sh n d) (l : n < 64) : D.inD .non (.lst ds) = some (.bl (ds.any D.isN)) := by
  show (if (true && ds.all D.flat) = true then some (D.bl (D.inB .non ds)) else if (D.shp .non && (D.lst ds).shp) = true then some (D.bl (D.inB .non ds)) else none) = _
  rw [inB_non h, (Sh.lst h).shp l]
  simp [D.shp, SeqAt.shaped, D.py, PyData.canLay0, PyData.depth]
mutual
theorem eqv_same : ∀ d : PyData, d.canLay0 = true → PyData.eqv d d = true
  | .none, _ => rfl
  | .bool b, _ => by simp [PyData.eqv]
  | .int i, _ => by simp [PyData.eqv]
  | .str x, _ => by simp [PyData.eqv]
  | .list xs, h => by simp only [PyData.eqv]; exact eqvs_same xs (by simpa [PyData.canLay0] using h)
  | .tuple xs, h => by simp only [PyData.eqv]; exact eqvs_same xs (by simpa [PyData.canLay0] using h)
  | .dict _, h => by simp [PyData.canLay0] at h
theorem eqvs_same : ∀ ds : List PyData, PyData.canLayAll0 ds = true → PyData.eqvAll ds ds = true
  | [], _ => rfl
  | d :: ds, h => by
    simp only [PyData.canLayAll0, Bool.and_eq_true] at h
    simp only [PyData.eqvAll, eqv_same d h.1, eqvs_same ds h.2, Bool.and_self]
end
theorem eqq_same {n : Nat} {d : D} (h : Sh n d) : D.eqq d d = true := eqv_same _ h.1
section
variable {e e' e1 : Env} {fresh b : Bool} {r d d1 d2 d3 : D} {den : List Arg → Res} {x : D} {i : Nat}
@[simp] theorem u_callU {fs : Env → Out (List Opd)} : callU fresh den fs e = (fs e).bind fun os e => callR fresh den os e := (rfl)
theorem call1 (h : den [.v d] = .rt r b e') (hb : (fresh && isLst r && !b) = false) : callR fresh den [.v d] e = .ok r e := by
  simp [callR, argsOf, lents, h, hb, putBk]
theorem call2 (h : den [.v d, .v d2] = .rt r b e') (hb : (fresh && isLst r && !b) = false) : callR fresh den [.v d, .v d2] e = .ok r e := by
  simp [callR, argsOf, lents, h, hb, putBk]
theorem call3 (h : den [.v d, .v d2, .v d3] = .rt r b e') (hb : (fresh && isLst r && !b) = false) : callR fresh den [.v d, .v d2, .v d3] e = .ok r e := by
  simp [callR, argsOf, lents, h, hb, putBk]
theorem call1x (h : den [.v d] = .exc x e') : callR fresh den [.v d] e = .exc x e := by
  simp [callR, argsOf, lents, h, putBk]
theorem call1K (h : den [.v d] = .rt r b e') (hb : (fresh && isLst r && !b) = false) {fs : Env → Out (List Opd)} (hf : fs e = .ok [.v d] e1) : callKU fresh 1 [0] den fs e = .ok r e1 := by
  unfold callKU; rw [hf]; show (if ([Opd.v d] : List Opd).length = 1 then callR fresh den (pm [0] [.v d]) e1 else .bad) = _
  rw [if_pos (by rfl)]; exact call1 h hb
theorem call1Kx (h : den [.v d] = .exc x e') {fs : Env → Out (List Opd)} (hf : fs e = .ok [.v d] e1) : callKU fresh 1 [0] den fs e = .exc x e1 := by
  unfold callKU; rw [hf]; show (if ([Opd.v d] : List Opd).length = 1 then callR fresh den (pm [0] [.v d]) e1 else .bad) = _
  rw [if_pos (by rfl)]; exact call1x h
end
@[simp] theorem u_lenOk {n : Nat} : lenOk n = decide (n ≤ 16777216) := by unfold lenOk; rw [sizeLine_eq]
@[simp] theorem u_sizeLine : sizeLine = 16777216 := sizeLine_eq
/-! ### the constructs at a concrete frame -/
section
variable {s t : Slot} {l : Env} {i j n : Nat} {d : D} {ds xs : List D} {fe fi fa' : Env → Out D} {fs : Env → Out (List Opd)} {fa fb : Env → Out Opd} {f g : Env → Res} {q : Env → Out Bool} {gt : D → Env → Option Env} {gs : List D → Env → Option Env} {x : D} {b p : Bool} {z : Str} {k : Int}
@[simp] theorem u_setL : setO i (.lst ds) (s :: l) = if (decide (i < (s :: l).length) && !(Env.get (s :: l) i).isLk) = true then some (List.set (s :: l) i (.own false (.lst ds))) else none := (rfl)
@[simp] theorem u_setT : setO i (.tup ds) (s :: l) = if (decide (i < (s :: l).length) && !(Env.get (s :: l) i).isLk) = true then some (List.set (s :: l) i (.val (.tup ds))) else none := (rfl)
@[simp] theorem u_setI : setO i (.int k) (s :: l) = if (decide (i < (s :: l).length) && !(Env.get (s :: l) i).isLk) = true then some (List.set (s :: l) i (.val (.int k))) else none := (rfl)
@[simp] theorem u_setS : setO i (.str z) (s :: l) = if (decide (i < (s :: l).length) && !(Env.get (s :: l) i).isLk) = true then some (List.set (s :: l) i (.val (.str z))) else none := (rfl)
@[simp] theorem u_setB : setO i (.bl b) (s :: l) = if (decide (i < (s :: l).length) && !(Env.get (s :: l) i).isLk) = true then some (List.set (s :: l) i (.val (.bl b))) else none := (rfl)
@[simp] theorem u_setNo : setO i .non (s :: l) = if (decide (i < (s :: l).length) && !(Env.get (s :: l) i).isLk) = true then some (List.set (s :: l) i (.val .non)) else none := (rfl)
@[simp] theorem u_setN : setN i d (s :: l) = if (decide (i < (s :: l).length) && !(Env.get (s :: l) i).isLk) = true then some (List.set (s :: l) i (.val d)) else none := (rfl)
@[simp] theorem u_dSetF : dSetF i fe (s :: l) = (fe (s :: l)).stm fun d ee => match setO i d ee with
  | some e' => .nx e'
  | none => .bad := (rfl)
@[simp] theorem u_dSet : dSet i fe (s :: l) = (fe (s :: l)).stm fun d ee => match setN i d ee with
  | some e' => .nx e'
  | none => .bad := (rfl)
@[simp] theorem u_dAsg : dAsg gt fe (s :: l) = (fe (s :: l)).stm fun d ee => match gt d ee with
  | some e' => .nx e'
  | none => .bad := (rfl)
@[simp] theorem u_gLst : gLstD n gs (.lst ds) (s :: l) = if ds.length = n then gs ds (s :: l) else none := (rfl)
@[simp] theorem u_gTup : gTupD n gs (.tup ds) (s :: l) = if ds.length = n then gs ds (s :: l) else none := (rfl)
@[simp] theorem u_gCons : gConsD gt gs (d :: ds) (s :: l) = (gt d (s :: l)).bind fun e1 => gs ds e1 := (rfl)
@[simp] theorem u_gNil : gNilD [] (s :: l) = some (s :: l) := (rfl)
@[simp] theorem u_dFor {it : Env → Out ItD} : dFor it gt f (s :: l) = (it (s :: l)).stm fun p e0 => match p.2 with
  | none => forL gt f p.1 e0
  | some i => match e0.get i with
    | .own par _ => unlockR par i (forL gt f p.1 (lockE e0 i))
    | _ => .bad := (rfl)
@[simp] theorem u_forN : forL gt f [] (s :: l) = .nx (s :: l) := (rfl)
@[simp] theorem u_forC : forL gt f (x :: xs) (s :: l) = match gt x (s :: l) with
  | none => .bad
  | some e1 => match f e1 with
    | .nx e2 => forL gt f xs e2
    | .bk e2 => .nx e2
    | .rt d b e2 => .rt d b e2
    | .exc x e2 => .exc x e2
    | .bad => .bad := (rfl)
@[simp] theorem u_lstI : lstI fe (s :: l) = (fe (s :: l)).bind fun d ee => match d with
  | .lst xs => .ok (xs, none) ee
  | .scr xs => .ok (xs, none) ee
  | _ => .bad := (rfl)
@[simp] theorem u_tupI : tupI fe (s :: l) = (fe (s :: l)).bind fun d ee => match d with
  | .tup xs => .ok (xs, none) ee
  | _ => .bad := (rfl)
@[simp] theorem u_strI : strI fe (s :: l) = (fe (s :: l)).bind fun d ee => match d with
  | .str x => .ok (x.cps.toList.map fun c => .str ⟨#[c]⟩, none) ee
  | _ => .bad := (rfl)
@[simp] theorem u_rng1I : rng1I fs (s :: l) = (fs (s :: l)).bind fun os ee => match valsO os with
  | some [.int j] => if rOk j then .ok (rngL 0 j.toNat, none) ee else .bad
  | _ => .bad := (rfl)
@[simp] theorem u_borI : borI i (s :: l) = match Env.get (s :: l) i with
  | .own _ (.lst xs) => .ok (xs, some i) (s :: l)
  | .lck (.lst xs) => .ok (xs, none) (s :: l)
  | .lkd _ (.lst xs) => .ok (xs, none) (s :: l)
  | .val (.lst xs) => .ok (xs, none) (s :: l)
  | _ => .bad := (rfl)
@[simp] theorem u_strM {h : Str → D → Option D} : strM h fa fb (s :: l) = (fa (s :: l)).bind fun o e1 => match (deref o e1).bind isStr with
  | some z => (fb e1).bind fun o2 e2 => Out.of ((deref o2 e2).bind (h z)) e2
  | none => .bad := (rfl)
@[simp] theorem u_isStr : isStr (.str z) = some z := (rfl)
@[simp] theorem u_slice {lo hi : Env → Out (Option Int)} : sliceD fa lo hi (s :: l) = (fa (s :: l)).bind fun o e1 => (lo e1).bind fun lo e2 => (hi e2).bind fun hi e3 => Out.of ((deref o e3).bind fun d => d.cut lo hi) e3 := (rfl)
@[simp] theorem u_gap : gapP (s :: l) = .ok none (s :: l) := (rfl)
@[simp] theorem u_part : partP fe (s :: l) = (fe (s :: l)).bind fun d ee => match asI d with
  | some i => .ok (some i) ee
  | none => .bad := (rfl)
@[simp] theorem u_asI : asI (.int k) = some k := (rfl)
@[simp] theorem u_rdVar : rdVar i (s :: l) = match Env.get (s :: l) i with
  | .val d => .ok d (s :: l)
  | .own false d => .ok d (List.set (s :: l) i (.val d))
  | .lck d => if d.flat then .ok d (s :: l) else .bad
  | _ => .bad := (rfl)
@[simp] theorem u_callD {h : List D → Option D} : callD h fs (s :: l) = (fs (s :: l)).bind fun os ee => Out.of ((derefs os ee).bind h) ee := (rfl)
@[simp] theorem u_drs0 : derefs [] (s :: l) = some [] := (rfl)
@[simp] theorem u_drsC {o : Opd} {os : List Opd} : derefs (o :: os) (s :: l) = (deref o (s :: l)).bind fun d => (derefs os (s :: l)).map (d :: ·) := (rfl)
@[simp] theorem u_dispD {h : List D → D} : dispD h fs (s :: l) = (fs (s :: l)).bind fun os ee => match valsO os with
  | some ds => if lenOk ds.length then .ok (h ds) ee else .bad
  | none => .bad := (rfl)
@[simp] theorem u_vals0 : valsO [] = some [] := (rfl)
@[simp] theorem u_valsC {os : List Opd} : valsO (.v d :: os) = (valsO os).map (d :: ·) := (rfl)
@[simp] theorem u_ite {α : Type} {u v : Env → Out α} : iteV q u v (s :: l) = (q (s :: l)).bind fun c ee => if c then u ee else v ee := (rfl)
@[simp] theorem u_orB {q2 : Env → Out Bool} : orB q q2 (s :: l) = (q (s :: l)).bind fun c ee => if c then .ok true ee else q2 ee := (rfl)
@[simp] theorem u_andB {q2 : Env → Out Bool} : andB q q2 (s :: l) = (q (s :: l)).bind fun c ee => if c then q2 ee else .ok false ee := (rfl)
@[simp] theorem u_orV : orV fe fi (s :: l) = (fe (s :: l)).bind fun d ee => match d.truth with
  | some true => .ok d ee
  | some false => fi ee
  | none => .bad := (rfl)
@[simp] theorem u_andV : andV fe fi (s :: l) = (fe (s :: l)).bind fun d ee => match d.truth with
  | some true => fi ee
  | some false => .ok d ee
  | none => .bad := (rfl)
@[simp] theorem u_truB1 : D.truth (.bl b) = some b := (rfl)
@[simp] theorem u_notV : notV fa (s :: l) = (notB (truB fa) (s :: l)).bind fun b ee => .ok (.bl b) ee := (rfl)
@[simp] theorem u_negV : negV fe (s :: l) = (fe (s :: l)).bind fun d ee => Out.of (negD d) ee := (rfl)
@[simp] theorem u_negI : negD (.int k) = some (.int (-k)) := (rfl)
@[simp] theorem u_lcD {vs : List Nat} {it : Env → Out ItD} : lcD vs it gt q fe (s :: l) = (it (s :: l)).bind fun p e0 => if (decide (p.1.length < sizeLine) && vs.all (fun i => plainS (e0.get i))) = true then
      match p.2 with
      | none => (lcL vs gt q fe p.1 (wipeE e0 vs)).bind fun ds e => .ok (.lst ds) (backE e0 e vs)
      | some i => match e0.get i with
        | .own par _ => (lcL vs gt q fe p.1 (wipeE (lockE e0 i) vs)).bind fun ds e => match unlockE par (backE (lockE e0 i) e vs) i with
          | some e' => .ok (.lst ds) e'
          | none => .bad
        | _ => .bad
    else .bad := (rfl)
@[simp] theorem u_lc0 {vs : List Nat} : lcL vs gt q fe [] (s :: l) = .ok [] (s :: l) := (rfl)
@[simp] theorem u_lcC {vs : List Nat} : lcL vs gt q fe (x :: xs) (s :: l) = match gt x (s :: l) with
    | some e1 => (noX (q e1)).bind fun b e2 => if b then (noX (fe e2)).bind fun d e3 => (lcL vs gt q fe xs (wipeE e3 vs)).bind fun ds e4 => .ok (d :: ds) e4 else lcL vs gt q fe xs (wipeE e2 vs)
    | none => .bad := (rfl)
@[simp] theorem u_wip0 : wipeE (s :: l) [] = s :: l := (rfl)
@[simp] theorem u_wip {vs : List Nat} : wipeE (s :: l) (i :: vs) = List.set (wipeE (s :: l) vs) i .no := (rfl)
@[simp] theorem u_bk0 {e0 : Env} : backE e0 (s :: l) [] = s :: l := (rfl)
@[simp] theorem u_bk {e0 : Env} {vs : List Nat} : backE e0 (s :: l) (i :: vs) = List.set (backE e0 (s :: l) vs) i (e0.get i) := (rfl)
@[simp] theorem u_plv : plainS (.val d) = true := (rfl)
@[simp] theorem u_pln : plainS .no = true := (rfl)
@[simp] theorem u_dApp : dApp i fe (s :: l) = if (ownL (Env.get (s :: l) i)).isNone then .bad else (fe (s :: l)).stm fun d ee => match ownL (Env.get ee i) with
  | some (par, ds) => if decide (ds.length < sizeLine) then .nx (List.set ee i (.own par (.lst (ds ++ [d])))) else .bad
  | none => .bad := (rfl)
@[simp] theorem u_dRetO : dRetO i (s :: l) = match Env.get (s :: l) i with
  | .own false d => .rt d true (List.set (s :: l) i .no)
  | .val d => .rt d false (s :: l)
  | .lck d => if d.flat then .rt d false (s :: l) else .bad
  | _ => .bad := (rfl)
@[simp] theorem u_dRaise : dRaise z (s :: l) = .exc (.str z) (s :: l) := (rfl)
@[simp] theorem u_lendB : lendB q (s :: l) = match q (lendE (s :: l)) with
  | .ok b _ => .ok b (s :: l)
  | .exc x _ => .exc x (s :: l)
  | .bad => .bad := (rfl)
@[simp] theorem u_len0 : lendE [] = [] := (rfl)
@[simp] theorem u_lenC : lendE (s :: l) = lendS s :: lendE l := (rfl)
@[simp] theorem u_isiD {Ts : List String} : isiD Ts fa (s :: l) = (fa (s :: l)).bind fun o ee => Out.of ((((deref o ee).bind D.tyN).bind fun t => isTy t Ts).map .bl) ee := (rfl)
@[simp] theorem u_joinF {h : Str → Env → Out Str} : joinF h (s :: l) = (h Str.empty (s :: l)).bind fun z ee => .ok (.str z) ee := (rfl)
@[simp] theorem u_nilJ {acc : Str} : nilJ acc (s :: l) = .ok acc (s :: l) := (rfl)
@[simp] theorem u_conJ {h : Str → Env → Out Str} {acc : Str} : conJ z h acc (s :: l) = if lenOk (acc ++ z).length then h (acc ++ z) (s :: l) else .bad := (rfl)
@[simp] theorem u_fmtJ {h : Str → Env → Out Str} {acc : Str} : fmtJ fe h acc (s :: l) = (fe (s :: l)).bind fun d ee => match fmtD d with | some y => if lenOk (acc ++ y).length then h (acc ++ y) ee else .bad | none => .bad := (rfl)
@[simp] theorem u_fnDen {np : Nat} {body : Env → Res} {args : List Arg} : fnDen n np body args = if args.length = np then (body (startE n args)).chk args else .bad := (rfl)
end
@[simp] theorem u_cIn : cmpD .In = D.inD := (rfl)
@[simp] theorem u_cNe : cmpD .NotEq = D.neD := (rfl)
@[simp] theorem u_cIs : cmpD .Is = D.isD := (rfl)
@[simp] theorem u_cIsn : cmpD .IsNot = D.isnD := (rfl)
@[simp] theorem u_isNon {d : D} : D.isD d .non = some (.bl d.isN) := by cases d <;> rfl
@[simp] theorem u_isnNon {d : D} : D.isnD d .non = some (.bl (!d.isN)) := by cases d <;> rfl
@[simp] theorem u_dTryC {s : Slot} {l : Env} {i : Nat} {f : Env → Res} {h : Str → Option D} : dTryC i f h (s :: l) = match f (s :: l) with
  | .exc (.str nm) e => if decide (i < e.length) && !(e.get i).isLk then (match h nm with
      | some d => .rt d false (e.set i .no)
      | none => .bad) else .bad
  | .exc _ _ => .bad
  | .nx e => .nx e
  | .rt d b e => .rt d b e
  | .bk e => .bk e
  | .bad => .bad := (rfl)
/-- the elements one by one, each by the frame it is asked in -/
theorem lc_map {vs : List Nat} {s : Slot} {l : Env} {it : Env → Out ItD} {g : D → Env → Option Env} {f : Env → Out D} {F : D → D} {xs : List D} (hi : it (s :: l) = .ok (xs, none) (s :: l)) (hl : xs.length < 16777216) (hp : vs.all (fun i => plainS (Env.get (s :: l) i)) = true) (hb : backE (s :: l) (wipeE (s :: l) vs) vs = s :: l)
    (h : ∀ x ∈ xs, ∃ e1 e2, g x (wipeE (s :: l) vs) = some e1 ∧ f e1 = .ok (F x) e2 ∧ wipeE e2 vs = wipeE (s :: l) vs) : lcD vs it g (fun env => .ok true env) f (s :: l) = .ok (.lst (xs.map F)) (s :: l) := by
  rw [u_lcD, hi]
  have hl' : xs.length < sizeLine := by rw [sizeLine_eq]; exact hl
  simp only [u_bind, hl', decide_true, hp, Bool.and_self, if_true]
  rw [lcL_map h]
  simp only [u_bind, hb]
section
open PySem.Spec PyProof.Rows L2
theorem p62 : (2 : Int) ^ 62 = 4611686018427387904 := by decide +kernel
theorem rOk_b {n : Nat} (hn : n < 16777216) : -(4611686018427387904) ≤ (n : Int) ∧ (n : Int) < 4611686018427387904 := ⟨by omega, by omega⟩
theorem rOk_nat {n : Nat} (h : n < 16777216) : rOk (n : Int) = true := by
  unfold rOk
  rw [Bool.and_eq_true, decide_eq_true_eq, decide_eq_true_eq, p62]
  exact rOk_b h
end
def rngG (os : List Opd) (e : Env) : Out ItD := match valsO os with
  | some [.int j] => if rOk j then .ok (rngL 0 j.toNat, none) e else .bad
  | _ => .bad
theorem rng_eq {fs : Env → Out (List Opd)} {e : Env} : rng1I fs e = (fs e).bind rngG := rfl
theorem rngG_at {n : Nat} {e1 : Env} (r : rOk (n : Int) = true) : rngG [.v (.int (n : Int))] e1 = .ok (rngL 0 n, none) e1 := by
  unfold rngG
  simp [r]
theorem rng1_at {n : Nat} {fs : Env → Out (List Opd)} {e e1 : Env} (h : fs e = .ok [.v (.int (n : Int))] e1) (hn : n < 16777216) : rng1I fs e = .ok (rngL 0 n, none) e1 := by
  rw [rng_eq, h, u_bind, rngG_at (rOk_nat hn)]
theorem at_nat {α : Type} {ds : List α} {i : Nat} (h : i < ds.length) : L2.atI ds (i : Int) = some ds[i] := by
  unfold L2.atI L2.ixN
  simp [h]
end Rp
set_option Elab.async false
set_option linter.all false
set_option maxRecDepth 100000
set_option maxHeartbeats 2000000
/-! RpW: iterators that end, tuples unpacked, list comprehensions, where an exception is handled. -/
namespace Rp
open PySem PySem.Spec PyProof.Rows L2 L2H HotX
section
variable {prog : Program} {w : World} {A : Around} {E : Value → Shared → Prop} {s : Shared}
/-- what a hot StopIteration leaves: all that was there, one exception more -/
theorem stop_hot {α : Type} {x1 : Addr} {Q : α → Shared → Prop} (hot : HotAt A x1 s.heap)
    (k : ∀ h' a, (∀ b o, s.heap.get? b = some o → h'.get? b = some o) → (∃ o, h'.get? a = some o ∧ o.cls = .type "StopIteration") → E (.ref a) { s with heap := h' }) :
    wpAny (model prog w) A (newExc (.type "StopIteration") [] >>= fun e => (raiseNew e : Sem α)) Q E s := by
  obtain ⟨hh, o1, vs1, h1, d1, c1⟩ := hot
  refine wpAny_bind ?_; simp only [newExc, newTuple]
  refine wpAny_bind (wpAny_newObj_type (wpAny_bind (m := firstArgMember _ _) (wpAny_of_eq (a := Value.none) (by first | rfl | (simp only [firstArgMember]; rfl)) (wpAny_newObj_type ?_ (by size_fits)))) (by size_fits))
  refine raiseNew_hot ⟨hh, o1, vs1, Heap.get?_push_of_some _ (Heap.get?_push_of_some _ h1), d1, c1⟩ (fun z => ?_) (Heap.get?_push_size _ rfl) rfl (by first | (simp; done) | (simp; omega)) (k _ _ (fun b o e => ?_) ⟨_, Heap.get?_update_self _ (Heap.get?_push_size _ rfl) rfl, rfl⟩)
  · exact absurd (Heap.lt_size (Heap.get?_push_of_some _ h1)) (by rw [z]; exact Nat.lt_irrefl _)
  · rw [Heap.get?_update_other _ _ fun z => ?_]
    · exact Heap.get?_push_of_some _ (Heap.get?_push_of_some _ e)
    · exact absurd (Heap.lt_size (Heap.get?_push_of_some _ e)) (by rw [← z]; exact Nat.lt_irrefl _)
/-- a list's iterator at its end -/
theorem listEnd_hot {it l x1 : Addr} {i : Nat} {items : Array Value} {Q : Option Value → Shared → Prop} (hot : HotAt A x1 s.heap) (ne : x1 ≠ it) (hit : s.heap.IsListIter it l i) (hl : s.heap.IsList l items) (hx : items[i]? = none)
    (k : ∀ h', (∀ b o, b ≠ it → s.heap.get? b = some o → h'.get? b = some o) → Q none { s with heap := h' }) : wpAny (model prog w) A (pyNext (.ref it)) Q E s := by
  obtain ⟨o, ho, hc, hd⟩ := id hit; obtain ⟨ol, hol, _, nl, hdl⟩ := hl
  obtain ⟨hh, o1, vs1, h1, d1, c1⟩ := hot
  unfold pyNext; refine wpAny_bind (wpAny_attempt ?_)
  refine wpAny_callSpecial?_slot (name := Str.ofString "__next__") hit.typeIs slot_listiter_next ?_
  refine wpAny_call_entry slot_listiter_next hit.typeIs entry_listiter_next ?_ (args_listiter_next _)
  refine wpAny_bind (m := field (.ref it) 0) (wpAny_field ho hd (x := .ref l) rfl ?_)
  rw [if_neg (by intro z; cases z)]
  refine wpAny_bind (m := field (.ref it) 1) (wpAny_field ho hd (x := .int i 0) rfl (wpAny_bind (m := seqItems? (.ref l)) (wpAny_seqItems hol hdl ?_)))
  simp only [Int.toNat_natCast, hx]; refine wpAny_bind (wpAny_rule (wpAny_bind (wpAny_setField ho hd (by simp) ?_)))
  refine stop_hot (x1 := x1) ⟨hh, o1, vs1, ?_, d1, c1⟩ fun h' a kp ⟨oe, he, hce⟩ => ?_
  · show (s.heap.update it _).get? x1 = some o1
    rw [Heap.get?_update_other _ _ (Ne.symm ne)]; exact h1
  · refine wpAny_bind (wpAny_isInstance (T := "StopIteration") (b := true) ⟨oe, he, hce⟩ isSubtype_stop (wpAny_pure (k h' fun b u hb e => kp b u ?_)))
    show (s.heap.update it _).get? b = some u
    rw [Heap.get?_update_other _ _ (Ne.symm hb)]; exact e
/-- a tuple's iterator at its end -/
theorem tupEnd_hot {it l x1 : Addr} {i : Nat} {items : Array Value} {Q : Option Value → Shared → Prop} (hot : HotAt A x1 s.heap) (ne : x1 ≠ it) (hit : s.heap.IsTupleIter it l i) (hl : s.heap.IsTuple l items) (hx : items[i]? = none)
    (k : ∀ h', (∀ b o, b ≠ it → s.heap.get? b = some o → h'.get? b = some o) → Q none { s with heap := h' }) : wpAny (model prog w) A (pyNext (.ref it)) Q E s := by
  obtain ⟨o, ho, hc, hd⟩ := id hit; obtain ⟨ol, hol, _, nl, hdl⟩ := hl
  obtain ⟨hh, o1, vs1, h1, d1, c1⟩ := hot
  unfold pyNext; refine wpAny_bind (wpAny_attempt ?_)
  refine wpAny_callSpecial?_slot (name := Str.ofString "__next__") hit.typeIs F.slot_tuple_iterator_next ?_
  refine wpAny_call_entry F.slot_tuple_iterator_next hit.typeIs F.entry_tuple_iterator_next ?_ (F.args_tuple_iterator_next_1 _)
  refine wpAny_bind (m := field (.ref it) 0) (wpAny_field ho hd (x := .ref l) rfl ?_)
  rw [if_neg (by intro z; cases z)]
  refine wpAny_bind (m := field (.ref it) 1) (wpAny_field ho hd (x := .int i 0) rfl (wpAny_bind (m := seqItems? (.ref l)) (wpAny_seqItems hol hdl ?_)))
  simp only [Int.toNat_natCast, hx]; refine wpAny_bind (wpAny_rule (wpAny_bind (wpAny_setField ho hd (by simp) ?_)))
  refine stop_hot (x1 := x1) ⟨hh, o1, vs1, ?_, d1, c1⟩ fun h' a kp ⟨oe, he, hce⟩ => ?_
  · show (s.heap.update it _).get? x1 = some o1
    rw [Heap.get?_update_other _ _ (Ne.symm ne)]; exact h1
  · refine wpAny_bind (wpAny_isInstance (T := "StopIteration") (b := true) ⟨oe, he, hce⟩ isSubtype_stop (wpAny_pure (k h' fun b u hb e => kp b u ?_)))
    show (s.heap.update it _).get? b = some u
    rw [Heap.get?_update_other _ _ (Ne.symm hb)]; exact e
/-- a tuple's items, as many as are wanted -/
theorem unpackI_hot {t x1 : Addr} {items : Array Value} {Q : List Value → Shared → Prop} (hot : HotAt A x1 s.heap) (ht : s.heap.IsTuple t items)
    (k : ∀ h', (∀ b o, s.heap.get? b = some o → h'.get? b = some o) → Q items.toList { s with heap := h' }) : wpAny (model prog w) A (unpackItems (.ref t) items.size none) Q E s := by
  have nt : t ≠ s.heap.objs.size := by obtain ⟨o, ho, _⟩ := ht; exact Nat.ne_of_lt (Heap.lt_size ho)
  obtain ⟨hh, o1, vs1, h1, d1, c1⟩ := hot
  have n1 : x1 ≠ s.heap.objs.size := Nat.ne_of_lt (Heap.lt_size h1)
  unfold unpackItems
  refine wpAny_bind ?_; unfold notIterableAtAll
  refine wpAny_bind (wpAny_specialOf ht.typeIs F.slot_tuple_iter.lookup (wpAny_pure ?_)); simp only [Bool.false_eq_true, if_false]
  refine wpAny_bind (wpAny_holding (wpAny_pyIter_tuple ht (wpAny_bind (wpAny_holding (wpAny_draw_tuple nt items.size 0 _ _ ⟨_, Heap.get?_push_size _ rfl, rfl, rfl⟩ (ht.push _) (by omega) fun h₁ it₁ sb => ?_)))))
  have all : List.take items.size (List.drop 0 items.toList) = items.toList := by rw [List.drop_zero]; exact List.take_of_length_le (by simp)
  rw [all, if_neg (by simp)]
  have g1 : h₁.get? x1 = some o1 := sb.extBut x1 o1 n1 (Heap.get?_push_of_some _ h1)
  refine wpAny_bind (wpAny_holding (tupEnd_hot (x1 := x1) (s := { s with heap := h₁ }) ⟨hh, o1, vs1, g1, d1, c1⟩ n1 it₁ ((ht.push _).extBut sb.extBut nt) (by simp) fun h₂ kp => ?_))
  simp only [Option.isSome_none, Bool.false_eq_true, if_false]
  exact wpAny_pure (k h₂ fun b o e => kp b o (Nat.ne_of_lt (Heap.lt_size e)) (sb.extBut b o (Nat.ne_of_lt (Heap.lt_size e)) (Heap.get?_push_of_some _ e)))
theorem assignT_hot {env : PySem.Env} {elts : List Expr} {x2 : Nat} {pos : Pos} {t x1 : Addr} {items : Array Value} {Q : Unit → Shared → Prop} (hot : HotAt A x1 s.heap) (ht : s.heap.IsTuple t items)
    (hn : (assignEach elts env).length = items.size) (hst : (assignEach elts env).findIdx? (·.1) = none)
    (k : ∀ h', (∀ b o, s.heap.get? b = some o → h'.get? b = some o) → wpAny (model prog w) A (assignInOrder ((assignEach elts env).map (·.2)) items.toList) Q E { s with heap := h' }) :
    wpAny (model prog w) A (assign (.Tuple elts x2 pos) env (.ref t)) Q E s := by
  rw [assign_Tuple]; refine wpAny_bind (wpAny_standAt ?_)
  unfold unpack; rw [hn, hst]
  exact wpAny_bind (wpAny_holding (unpackI_hot hot ht k))
end
end Rp
set_option Elab.async false
set_option linter.all false
set_option maxRecDepth 100000
set_option maxHeartbeats 2000000
/-! RpX: list comprehensions where an exception is handled. -/
namespace Rp
open PySem PySem.Spec PyProof.Rows L2 L2H HotX

/-- p bears the exception that is handled -/
theorem hotAt_of {X : Cx} {p : Addr × Obj} {pins : List (Addr × Obj)} {σ : L2.St} {H : Hp} {s : Shared} (hp : Hot1 X.A p) (I : Inv X pins σ H s) (m : p ∈ X.pn ++ pins) : HotAt X.A p.1 s.heap := by
  obtain ⟨e1, vs, e2, e3⟩ := hp
  exact ⟨e1, p.2, vs, (I.pin p m).1, e2, e3⟩
/-- an iterator's turns, wherever -/
structure TurnO (P : Program) (w : World) (K : PySem.W.Frag) (tg : Expr) (J : It) (it : Addr) (tn : Nat → Heap → Prop) : Prop where
  obj : ∀ i h, tn i h → ∃ o, h.get? it = some o ∧ ∀ v, o.data ≠ .cell v
  keep : ∀ i h h', tn i h → (∀ o, h.get? it = some o → h'.get? it = some o) → tn i h'
  item : ∀ (X : Cx), X.prog = P → X.w = w → X.K = K → ∀ i pins s σ H (E : Value → Shared → Prop), Inv X pins σ H s → FpOk X pins H it → tn i s.heap → J.go i H → wpAny (model P w) X.A (pyNext (.ref it)) (fun r s1 => ∃ u, r = some u ∧ wpAny (model P w) X.A (letOwnedTupleGo tg (.ref it) u)
    (fun _ s2 => ∃ x H', Inv X pins σ H' s2 ∧ RelV x u ∧ J.yld i H x H' ∧ tn (i + 1) s2.heap ∧ H' it = none) E s1) E s
  done : ∀ (X : Cx), X.prog = P → X.w = w → X.K = K → ∀ i pins s σ H (E : Value → Shared → Prop) (p : Addr × Obj), Hot1 X.A p → p ∈ X.pn ++ pins → Inv X pins σ H s → FpOk X pins H it → tn i s.heap → J.stop i H → wpAny (model P w) X.A (pyNext (.ref it)) (fun r s1 => r = none ∧ Inv X pins σ H s1) E s
  self : ∀ (A : Around) i s (Q E : Value → Shared → Prop), tn i s.heap → Q (.ref it) s → wpAny (model P w) A (pyIter (.ref it)) Q E s
theorem turnO_list {P : Program} {w : World} {K : PySem.W.Frag} {tg : Expr} (a it : Addr) : TurnO P w K tg (Itl K a) it (fun i h => h.IsListIter it a i) where
  obj := fun i h ⟨o, e, _, d⟩ => ⟨o, e, fun v z => by rw [d] at z; cases z⟩
  keep := fun i h h' ⟨o, e, c, d⟩ k => ⟨o, k o e, c, d⟩
  item := by
    intro X hP hw hK i pins s σ H E I f st ⟨xs, x, hq, hx⟩
    subst hP; subst hw; subst hK
    obtain ⟨its, rv, pl, _⟩ := I.list hq; obtain ⟨u, hu, ru⟩ := rv.get hx
    refine wpAny_pyNext_list_item st pl.isList (x := u) (by simpa using hu) fun h' st' sb => ⟨u, rfl, ?_⟩
    have I1 := I.turned (t' := s.toks) (fun b o hb e => (sb.2 b hb).trans e) f.1 f.2.1 f.2.2.2.1 f.2.2.2.2.1 f.2.2.2.2.2
    obtain ⟨o, e, c, d⟩ := id st'
    exact go_of (s := { s with heap := h' }) e c d (by decide) ⟨x, H, I1, ru, ⟨rfl, fun ys hy => (I.list_inj hy hq) ▸ hx⟩, st', f.1⟩
  done := by
    intro X hP hw hK i pins s σ H E p hot m I f st ⟨xs, hq, hx⟩
    subst hP; subst hw; subst hK
    obtain ⟨its, rv, pl, _⟩ := I.list hq; have hl := rv.length
    refine listEnd_hot (hotAt_of hot I m) (f.2.2.2.2.2 p m) st pl.isList (by simp; omega) fun h' eb => ⟨rfl, ?_⟩
    exact I.turned (t' := s.toks) (fun b o hb e => eb b o hb e) f.1 f.2.1 f.2.2.2.1 f.2.2.2.2.1 f.2.2.2.2.2
  self := fun _ _ _ _ _ st h => wpAny_pyIter_listiter st h
/-- an iterable, by what its iterator yields -/
def TIO (X : Cx) (tg iter : Expr) : TI := fun σ H R => ∀ pins s, Inv X pins σ H s → wpAny (model X.prog X.w) X.A (eval iter X.env) (fun v s1 => wpAny (model X.prog X.w) X.A (pyIter v)
  (fun itv s2 => ∃ (it : Addr) (tn : Nat → Heap → Prop) (J : It) (H' : Hp), itv = .ref it ∧ Inv X pins σ H' s2 ∧ TurnO X.prog X.w X.K tg J it tn ∧ tn 0 s2.heap ∧ FpOk X pins H' it ∧ R J H') X.xe s1) X.xe s
theorem tio_list {X : Cx} {tg l : Expr} {tl : TE} (hl : PE X l tl) {σ : L2.St} {H : Hp} {R : It → Hp → Prop} (q : iList X.K tl σ H R) : TIO X tg l σ H R := fun pins s I => by
  refine thn (hl.run pins s σ H _ I q) fun v s1 ⟨x, H1, I1, r1, a, e, ⟨xs, hq⟩, q1⟩ => ?_
  subst e; cases r1
  obtain ⟨its, rv, pl, _⟩ := I1.list hq
  refine wpAny_pyIter_list pl.isList ⟨s1.heap.objs.size, _, _, H1, rfl, ?_, turnO_list a _, ⟨_, Heap.get?_push_size _ rfl, rfl, rfl⟩, I1.fpOk (Nat.le_refl _) (I1.hok.fresh (Nat.le_refl _)), q1⟩
  exact I1.kept (t' := s1.toks) fun b o e => Heap.get?_push_of_some _ e
/-- a target in a block, where p is pinned -/
def TGO (X : Cx) (scope : Scope) (p : Addr × Obj) (tg : Expr) : TG := fun v σ H Q => ∀ (s0 : Shared) (H0 : Hp) (C : Addr) (cl : List (Str × Addr)) (fp : List Addr) (pins : List (Addr × Obj)) (s : Shared) (u : Value), p ∈ pins → Inv (X.blk s0 H0 scope (compEnvC scope cl C X.env) fp) pins σ H s → RelV v u →
  wpAny (model X.prog X.w) X.A (assign tg (compEnvC scope cl C X.env) u) (fun _ s' => ∃ σ' H', Inv (X.blk s0 H0 scope (compEnvC scope cl C X.env) fp) pins σ' H' s' ∧ Q σ' H') (fun _ _ => False) s
/-- a comprehension's block, from its iterable on -/
theorem lcO_core {X : Cx} {p : Addr × Obj} {elt tg iter : Expr} {ifs : List Expr} {scope : Scope} {own : List (Str × Nat)} {pos : Pos} {tt : TT} {te : TE} {σ : L2.St} {H : Hp} {Q : VK} {pins : List (Addr × Obj)} {s : Shared} {pos' : Pos} {use : Option (Value → Sem Unit)} {Qf : Value → Shared → Prop} (hot : Hot1 X.A p) (hp : p ∈ X.pn) (hN : X.N.Nodup) (ok : BlkOk X.N X.env.scope scope own)
    (hs : ∀ x, foldedSetIterable iter X.env x = pure x) (I : Inv X pins σ H s)
    (ht : ∀ s H C cl fp, PTs (X.blk s H scope (compEnvC scope cl C X.env) fp) ifs tt) (he : ∀ s H C cl fp, PE (X.blk s H scope (compEnvC scope cl C X.env) fp) elt te)
    (h : tLc (TIO X tg iter) (TGO X scope p tg) tt te (own.map (·.2)) σ H Q)
    (fin : ∀ D C s' m H', Inv X pins σ H' s' → Q (.ref D) H' → s'.heap.Ns C m → FpOk X pins H' C → compPost (model X.prog X.w) X.A X.xe use Qf (.ref D) C (.ok .next) s') :
    wpAny (model X.prog X.w) X.A (comprehension (.ListComp elt [⟨tg, iter, ifs, 0⟩] scope pos) scope X.env pos' (newList []) false (eval iter X.env) use) Qf X.xe s := by
  have cells : ∀ y ∈ scope.names, y.2 = .free → ∃ c, X.env.cells.lookup y.1 = some c := fun y hy e => (ok.free y hy e).elim (fun k => I.ok.has _ (.inl k)) fun k => I.ok.has _ (.inr k)
  refine wpAny_comprehension_free (use := use) rfl hs (closure_ok cells) ok.kind (fun y hy e => (ok.uniq y hy).trans (congrArg some e)) (thn (h pins s I) fun _ s1 h1 => thn h1 fun itv s2 ⟨it, tn, J, H2, eit, I2, T, st2, f2, q⟩ => ?_)
  subst eit
  refine wpAny_newObj_type (newEnv_comp ?_) (by show 0 ≤ sizeLine; decide)
  obtain ⟨W, ⟨m0, w0⟩, turn⟩ := q s2.heap.objs.size (I2.hok.fresh (Nat.le_refl _))
  -- the new list is laid
  have I3 := I2.laid (o := .lst []) (h' := s2.heap.push { cls := .type "list", data := .seq ([] : List Value).toArray }) (t' := s2.toks) (fun b o e => Heap.get?_push_of_some _ e) (Nat.le_refl _) ⟨Nat.zero_le _, [], 0, .nil, Heap.get?_push_size _ rfl⟩
  have itlt : it < s2.heap.objs.size := by obtain ⟨o, e, _⟩ := T.obj _ _ st2; exact Heap.lt_size e
  have f3 : FpOk X pins (upd H2 s2.heap.objs.size (.lst [])) it := ⟨by rw [upd_ne (Nat.ne_of_lt itlt)]; exact f2.1, f2.2⟩
  have st3 := T.keep _ _ (s2.heap.push { cls := .type "list", data := .seq ([] : List Value).toArray }) st2 fun o e => Heap.get?_push_of_some _ e
  have it3 : it < (s2.heap.push { cls := .type "list", data := .seq ([] : List Value).toArray }).objs.size := by rw [Heap.size_push]; exact Nat.lt_succ_of_lt itlt
  generalize upd H2 s2.heap.objs.size (.lst []) = H3 at I3 f3 w0
  generalize s2.heap.objs.size = D at turn
  generalize hs3 : ({ s2 with heap := s2.heap.push { cls := .type "list", data := .seq ([] : List Value).toArray }, toks := s2.toks } : Shared) = s3 at I3
  have hp3 : s2.heap.push { cls := .type "list", data := .seq ([] : List Value).toArray } = s3.heap := by rw [← hs3]
  rw [hp3] at st3 it3
  have P3 := I3.pin p (List.mem_append_left _ hp)
  have I4 := block_start (fp := [it]) I3 ok hN fun b hb => by cases List.mem_singleton.mp hb; exact ⟨f3, it3⟩
  have BT := ht s3 H3 s3.heap.objs.size (cellsFrom (s3.heap.objs.size + 1) scope.names (cloFrom X.env.cells scope.names [])) [it]
  have BE := he s3 H3 s3.heap.objs.size (cellsFrom (s3.heap.objs.size + 1) scope.names (cloFrom X.env.cells scope.names [])) [it]
  show codeAny _ _ (.compStart _ 0 (.ref it) (.ref D) (compEnvC scope (cellsFrom (s3.heap.objs.size + 1) scope.names (cloFrom X.env.cells scope.names [])) s3.heap.objs.size X.env)) (compPost (model X.prog X.w) X.A X.xe use Qf (.ref D) s3.heap.objs.size) { s3 with heap := pushCells (s3.heap.push { cls := .type "dict", data := .dict #[] }) scope.names }
  have cL : (compEnvC scope (cellsFrom (s3.heap.objs.size + 1) scope.names (cloFrom X.env.cells scope.names [])) s3.heap.objs.size X.env).locals = s3.heap.objs.size := rfl
  have keep4 : ∀ b o, s3.heap.get? b = some o → (pushCells (s3.heap.push { cls := .type "dict", data := .dict #[] }) scope.names).get? b = some o := fun b o e => pushCells_keeps _ _ _ _ (Heap.get?_push_of_some _ e)
  -- p stays pinned through the block
  have I5 := I4.pins_of (pins' := [p]) fun y hy => by
    cases List.mem_singleton.mp hy
    exact ⟨keep4 _ _ P3.1, P3.2.1, fun z => absurd (Heap.lt_size P3.1) (by rw [z]; exact Nat.lt_irrefl _), fun z => (List.mem_cons.mp (I3.stkSub _ z)).elim P3.2.2.1 P3.2.2.2.1, P3.2.2.2.2⟩
  have st5 := T.keep _ _ (pushCells (s3.heap.push { cls := .type "dict", data := .dict #[] }) scope.names) st3 fun o e => keep4 _ _ e
  generalize hcl : cellsFrom (s3.heap.objs.size + 1) scope.names (cloFrom X.env.cells scope.names []) = cl at BT BE cL I5 ⊢
  generalize hs4 : ({ s3 with heap := pushCells (s3.heap.push { cls := .type "dict", data := .dict #[] }) scope.names } : Shared) = s4 at I5 ⊢
  have st5' : tn 0 s4.heap := by rw [← hs4]; exact st5
  have fpk : ∀ {σ' : L2.St} {H' : Hp} {s' : Shared}, Inv (X.blk s3 H3 scope (compEnvC scope cl s3.heap.objs.size X.env) [it]) [p] σ' H' s' → H' it = none → FpOk (X.blk s3 H3 scope (compEnvC scope cl s3.heap.objs.size X.env) [it]) [p] H' it := fun J n =>
    have m : it ∈ [it] := List.mem_singleton.mpr rfl
    ⟨n, (J.ok.exf it m).1, J.ok.exfs it m, .inl m, fun x c e => (J.ok.exf it m).2 x c e, fun y hy => by cases List.mem_singleton.mp (show y ∈ [p] from hy); exact f3.2.2.2.2.2 p (List.mem_append_left _ hp)⟩
  have loop : codeAny (model X.prog X.w) X.A (.compLoop (.ListComp elt [⟨tg, iter, ifs, 0⟩] scope pos) 0 (.ref it) (.ref D) (compEnvC scope cl s3.heap.objs.size X.env)) (compPost (model X.prog X.w) X.A X.xe use Qf (.ref D) s3.heap.objs.size) s4 := by
    refine compLoop_any (fun n s' => ∃ i H', Inv (X.blk s3 H3 scope (compEnvC scope cl s3.heap.objs.size X.env) [it]) [p] (wipe σ (own.map (·.2))) H' s' ∧ tn i s'.heap ∧ H' it = none ∧ W i n H') ?_ m0 ⟨0, H3, I5, st5', f3.1, w0⟩
    rintro n s6 ⟨i, H6, I6, st6, n6, w6⟩
    rcases turn i n H6 w6 with ⟨stop, qq⟩ | ⟨go, Nx, hNx, step⟩
    · refine thnF (T.done (X.blk s3 H3 scope (compEnvC scope cl s3.heap.objs.size X.env) [it]) rfl rfl rfl i [p] s6 _ H6 (fun _ _ => False) p hot (List.mem_singleton.mpr rfl) I6 (fpk I6 n6) st6 stop) fun r s7 ⟨hr, I7⟩ => ?_
      subst hr
      have J := I3.call' (ch := [it]) I7.os I7.base I7.hok I7.bare fun b hb => by cases List.mem_singleton.mp hb; exact ⟨f3.2.2.2.1, f3.2.1, f3.2.2.2.2.1, f3.2.2.2.2.2⟩
      obtain ⟨m, hn, _⟩ := I7.loc
      exact fin D s3.heap.objs.size s7 m H6 J qq hn (I3.fpOk (H' := H6) (Nat.le_refl _) I7.free)
    · refine thnF (T.item (X.blk s3 H3 scope (compEnvC scope cl s3.heap.objs.size X.env) [it]) rfl rfl rfl i [p] s6 _ H6 (fun _ _ => False) I6 (fpk I6 n6) st6 go) fun r s7 ⟨u, hr, h7⟩ => ?_
      subst hr
      refine thnF h7 fun _ s8 ⟨x, H8, I8, r8, y8, st8, n8⟩ => ?_
      obtain ⟨o, eo, dn⟩ := T.obj _ _ st8
      have I8' := I8.pinned (fp := [it]) (fun b hb => by cases List.mem_singleton.mp hb; exact fpk I8 n8) fun b hb => by cases List.mem_singleton.mp hb; exact ⟨o, eo, dn⟩
      refine thnF (step x H8 y8 s3 H3 _ cl [it] _ s8 u (List.mem_append_left _ (List.mem_singleton.mpr rfl)) I8' r8) fun _ s9 ⟨σ9, H9, I9, hw9, q9⟩ => ?_
      refine thnF (BT.run _ s9 σ9 H9 _ I9 q9) fun b s10 ⟨H10, I10, q10⟩ => ?_
      have next : ∀ {s' : Shared} {H' : Hp}, Inv (X.blk s3 H3 scope (compEnvC scope cl s3.heap.objs.size X.env) [it]) ([p] ++ pinsAt [it] s8.heap) σ9 H' s' → Nx H' → ∃ m, m < n ∧ ∃ i H', Inv (X.blk s3 H3 scope (compEnvC scope cl s3.heap.objs.size X.env) [it]) [p] (wipe σ (own.map (·.2))) H' s' ∧ tn i s'.heap ∧ H' it = none ∧ W i m H' := fun {s' H'} J nx => by
        obtain ⟨m', hm, w'⟩ := hNx H' nx
        have z := J.pin (it, o) (List.mem_append_right _ (List.mem_append_right _ (mem_pinsAt (List.mem_singleton.mpr rfl) eo)))
        refine ⟨m', hm, i + 1, H', (J.unpinned (pins := [p])).weak (by rw [← hw9, wipe_length]) (fun j v e => ?_), T.keep _ _ _ st8 fun o' e' => ?_, z.2.1, w'⟩
        · rw [← hw9] at e; exact (wipe_some e).1
        · rw [eo] at e'; cases e'; exact z.1
      cases b with
      | false =>
        rw [if_neg Bool.false_ne_true] at q10
        simp only [Bool.false_eq_true, if_false]; exact next I10 q10
      | true =>
        rw [if_pos rfl] at q10; simp only [if_true]
        exact thnF (BE.run _ s10 σ9 H10 _ I10 q10) fun y s11 ⟨yv, H11, I11, r11, acc, hD, hz, nx⟩ => app_ok (X := (X.blk s3 H3 scope (compEnvC scope cl s3.heap.objs.size X.env) [it])) I11 hD hz r11 fun s12 I12 => next I12 nx
  exact codeAny_compStart_list loop (T.self X.A 0 _ _ _ st5' loop)
/-- [elt for tg in iter if ..] -/
theorem pe_lcO {X : Cx} {p : Addr × Obj} {elt tg iter : Expr} {ifs : List Expr} {scope : Scope} {own : List (Str × Nat)} {pos : Pos} {tt : TT} {te : TE} {σ : L2.St} {H : Hp} {Q : VK} (hot : Hot1 X.A p) (hp : p ∈ X.pn) (hN : X.N.Nodup) (ok : BlkOk X.N X.env.scope scope own)
    (hs : ∀ x, foldedSetIterable iter X.env x = pure x)
    (ht : ∀ s H C cl fp, PTs (X.blk s H scope (compEnvC scope cl C X.env) fp) ifs tt) (he : ∀ s H C cl fp, PE (X.blk s H scope (compEnvC scope cl C X.env) fp) elt te)
    (h : tLc (TIO X tg iter) (TGO X scope p tg) tt te (own.map (·.2)) σ H Q) : TE.of X (.ListComp elt [⟨tg, iter, ifs, 0⟩] scope pos) σ H Q := by
  intro pins s I
  rw [eval_ListComp]
  refine lcO_core hot hp hN ok hs I ht he h fun D C s' m H' J q hn f => ⟨m, hn, fun h9 sb => ⟨.ref D, H', ?_, rfl, q⟩⟩
  exact J.turned (t' := s'.toks) (fun b o hb e => (sb.2 b hb).trans e) f.1 f.2.1 f.2.2.2.1 f.2.2.2.2.1 f.2.2.2.2.2
/-- y = [..], the comprehension within the frame -/
theorem ps_setLcO {X : Cx} {p : Addr × Obj} {i : Nat} {y : Str} {py spos : Pos} {elt tg iter : Expr} {ifs : List Expr} {scope : Scope} {own : List (Str × Nat)} {pos : Pos} {tt : TT} {te : TE} {σ : L2.St} {H : Hp} {N : Ends} (hot : Hot1 X.A p) (hp : p ∈ X.pn) (hN : X.N.Nodup) (ok : BlkOk X.N X.env.scope scope own)
    (hs : ∀ x, foldedSetIterable iter X.env x = pure x) (hy : X.N[i]? = some y) (hyl : X.env.scope.names.lookup y = some .local) (hsw : swapsWith (.ListComp elt [⟨tg, iter, ifs, 0⟩] scope pos) (some (.Name y py)) spos.line X.env = pure true)
    (ht : ∀ s H C cl fp, PTs (X.blk s H scope (compEnvC scope cl C X.env) fp) ifs tt) (he : ∀ s H C cl fp, PE (X.blk s H scope (compEnvC scope cl C X.env) fp) elt te)
    (h : tLc (TIO X tg iter) (TGO X scope p tg) tt te (own.map (·.2)) σ H fun v H1 => N.nx (σ.set i (some v)) H1) : TS.of X (.Assign [.Name y py] (.ListComp elt [⟨tg, iter, ifs, 0⟩] scope pos) spos) N σ H := by
  intro pins s I
  rw [exec_Assign_Name_used _ _ _ _ hsw]
  refine wpAny_bind (wpAny_standAt (wpAny_bind ?_))
  change wpAny _ X.A (do
    let _ ← comprehension (.ListComp elt [⟨tg, iter, ifs, 0⟩] scope pos) scope X.env (firstIterPos [⟨tg, iter, ifs, 0⟩] pos) (newList []) false (eval iter X.env) (some (assign (.Name y py) X.env))) _ _ s
  refine wpAny_bind (thn (lcO_core (Qf := fun _ s' => L2.SP X pins N .next s') hot hp hN ok hs I ht he h fun L C s' m H' J q hn f => ?_) fun _ _ hq => wpAny_pure (wpAny_pure hq))
  change wpAny _ _ (assign (.Name y py) X.env (.ref L)) _ _ _
  refine wpAny_assign_Name (store_ok2 (v := V.ref L) J hN hy (.inl hyl) rfl (fun s2 I2 ⟨a, sb, ha⟩ => ?_) (.inr hyl))
  have ne : C ≠ a := ha.elim (fun z => by rw [z]; exact f.2.1) fun z => fun e => f.2.2.2.2.1 y a z e.symm
  exact ⟨m, hn.sameBut sb ne, fun h3 sb3 => ⟨_, H', I2.turned (t' := s2.toks) (fun b o hb e => (sb3.2 b hb).trans e) f.1 f.2.1 f.2.2.2.1 f.2.2.2.2.1 f.2.2.2.2.2, q⟩⟩
end Rp
set_option Elab.async false
set_option linter.all false
set_option maxRecDepth 100000
set_option maxHeartbeats 2000000
/-! RpY: defs that are called where an exception is handled: iterables, targets, comprehensions, isinstance, the call. -/
namespace Rp
open PySem PySem.Spec PyProof.Rows L2 L2H HotX
section
variable {X : Cx} {tg iter elt a : Expr} {scope : Scope} {pos : Pos} {p : Addr × Obj}
theorem siO_bor {i : Nat} {x : Str} (hN : X.N[i]? = some x) (hv : Vis X.env.scope x) (hd : (x == ("__debug__" : Str)) = false) (hcd : (x == ("__classdict__" : Str)) = false) : SIw X (TIO X tg (.Name x pos)) (borI i) := by
  intro Wx tk F O σ H env g R h
  have h' : PstI X.K X.mg Wx F O σ H R (borI i env) := by
    cases q : borI i env with
    | ok u e' => obtain ⟨items, lk⟩ := u; rw [q] at h; exact h
    | exc x e' => rw [q] at h; exact h
    | bad => rw [q] at h; exact h
  obtain ⟨v, h1, h2⟩ := bor_key g h'
  exact tio_list (pe_var hN hv hd hcd) ⟨v, h1, h2⟩
/-- what a comprehension's target does there -/
def SGO (X : Cx) (scope : Scope) (p : Addr × Obj) (tg : Expr) (is : List Nat) (g : D → Env → Option Env) : Prop :=
  ∀ (F : Fx) (O : Own) (σ' : L2.St) (H : Hp) (env : Env) (v : V) (d : D) (env' : Env), Good X.K F O σ' H env → Rep X.K H (Sx F.S0 O) v d → g d env = some env' → ∀ Q : L2.St → Hp → Prop,
    (∀ σ2 O', Sub O' O → σ2.length = σ'.length → (∀ j, j ∉ is → σ2[j]? = σ'[j]?) → Good X.K F O' σ2 H env' → Q σ2 H) → TGO X scope p tg v σ' H Q
theorem sgO_plain {is : List Nat} {g : D → Env → Option Env} (h : AllB X scope fun B => SG B tg is g) : SGO X scope p tg is g :=
  fun F O σ' H env v d env' a b c Q k s0 H0 C cl fp pins s u _ I r => (h s0 H0 C cl fp F O σ' H env v d env' a b c Q k) pins s u I r
theorem sgO_tup {es : List Expr} {kk : Nat} {is : List Nat} {gs : List D → Env → Option Env} (hot : Hot1 X.A p) (hst : es.all (fun e => !PySem.W.isStarred e) = true) (h : AllB X scope fun B => SGs B es is gs) : SGO X scope p (.Tuple es kk pos) is (gTupD es.length gs) := by
  intro F O σ' H env v d env' g r he Q k s0 H0 C cl fp pins s u hm I rv
  unfold gTupD at he
  cases r <;> simp only [tupD] at he <;> first | (cases he; done) | skip
  rename_i t vs ds h0 r0
  split at he
  case isFalse => cases he
  rename_i hl
  obtain ⟨its, rvs, ht, _⟩ := I.tuple (sqT_of h0)
  cases rv
  obtain ⟨tt, pg, q⟩ := h s0 H0 C cl fp
  have hn := assignEach_all hst (compEnvC scope cl C X.env)
  refine assignT_hot (hotAt_of (X := X.blk s0 H0 scope (compEnvC scope cl C X.env) fp) hot I (List.mem_append_right _ hm)) ht (by rw [hn.1, ← hl, ← r0.length, rvs.length]; simp) hn.2 fun h' kp => ?_
  exact pg.run pins _ σ' H vs _ Q (I.kept (t' := s.toks) kp) (by simpa using rvs) (q F O σ' H env vs ds env' g r0 he Q k)
theorem sf_lcO {ifs : List Expr} {own : List (Str × Nat)} {is : List Nat} {it : Env → Out ItD} {g : D → Env → Option Env} {q : Env → Out Bool} {f : Env → Out D} (hot : Hot1 X.A p) (hp : p ∈ X.pn) (hN : X.N.Nodup) (ok : BlkOk X.N X.env.scope scope own)
    (his : ∀ j ∈ is, j ∈ own.map (·.2)) (hs : ∀ x, foldedSetIterable iter X.env x = pure x)
    (hi : SIw X (TIO X tg iter) it) (hg : SGO X scope p tg is g) (ht : AllB X scope fun B => STs B ifs q) (he : AllB X scope fun B => SE B elt f) :
    SF X (.ListComp elt [⟨tg, iter, ifs, 0⟩] scope pos) (lcD (own.map (·.2)) it g q f) :=
  fun Wx tk F O σ H env gd Q pp => pe_lcO hot hp hN ok hs (fun _ _ _ _ _ => pts_bl) (fun _ _ _ _ _ => pe_bl) (lc_keyW his hi hg ht he tk gd pp)
theorem s1_setLcO {i : Nat} {y : Str} {py spos : Pos} {ifs : List Expr} {own : List (Str × Nat)} {is : List Nat} {it : Env → Out ItD} {g : D → Env → Option Env} {q : Env → Out Bool} {f : Env → Out D} (hot : Hot1 X.A p) (hp : p ∈ X.pn) (hN : X.N.Nodup) (ok : BlkOk X.N X.env.scope scope own)
    (his : ∀ j ∈ is, j ∈ own.map (·.2)) (hs : ∀ x, foldedSetIterable iter X.env x = pure x) (hy : X.N[i]? = some y) (hyl : X.env.scope.names.lookup y = some .local) (hsw : swapsWith (.ListComp elt [⟨tg, iter, ifs, 0⟩] scope pos) (some (.Name y py)) spos.line X.env = pure true)
    (hi : SIw X (TIO X tg iter) it) (hg : SGO X scope p tg is g) (ht : AllB X scope fun B => STs B ifs q) (he : AllB X scope fun B => SE B elt f) :
    S1 X (.Assign [.Name y py] (.ListComp elt [⟨tg, iter, ifs, 0⟩] scope pos) spos) (dSetF i (lcD (own.map (·.2)) it g q f)) := by
  intro Wx tk F O σ H env gd N pp
  refine ps_setLcO hot hp hN ok hs hy hyl hsw (fun _ _ _ _ _ => pts_bl) (fun _ _ _ _ _ => pe_bl) (lc_keyW his hi hg ht he tk gd ?_)
  cases c : lcD (own.map (·.2)) it g q f env with
  | bad => unfold dSetF at pp; rw [c] at pp; exact pp.elim
  | exc x e' => unfold dSetF at pp; rw [c] at pp; exact fun cls dx H' O' s' f' g' r => pp cls dx σ H' O' s'.nw f' g' r
  | ok d e1 =>
    unfold dSetF at pp; rw [c] at pp
    intro v H1 O1 s1 f1 g1 r1 k1
    simp only [Out.stm] at pp
    cases q : setO i d e1 with
    | none => rw [q] at pp; exact pp.elim
    | some e' =>
      rw [q] at pp
      obtain ⟨O', g', n'⟩ := g1.setF r1 k1 (fun a z => gd.dom (s1.sx z)) (fun a z => gd.h0 z) q
      refine pp _ H1 O' (fun j => ?_) f1 g'
      rcases n' j with h | h | h
      · rw [h]; exact (s1 j).imp id .inl
      · exact .inr (.inl h)
      · exact .inr (.inr h)

/-! ### isinstance of the handled exception -/
/-- the pinned object is an instance of D -/
structure ExPin (X : Cx) (p : Addr × Obj) (D : Addr) : Prop where
  mem : p ∈ X.pn
  cls : ExcC X.K D
  zc : Zc (.ref D) none p.2
  fl : ∃ vs, p.2.data = .fields vs
theorem ExPin.inst {D : Addr} {pins : List (Addr × Obj)} {σ : L2.St} {H : Hp} {s : Shared} (x : ExPin X p D) (I : Inv X pins σ H s) : PySem.W.InstAt s.heap p.1 p.2 D none := by
  have hget := (I.pin p (List.mem_append_left _ x.mem)).1
  obtain ⟨vs, hv⟩ := x.fl; obtain ⟨h1, h2⟩ := x.zc
  obtain ⟨b, oc, od, oda, osl⟩ := p
  simp only at h1 h2 hv hget; subst h1; subst h2; subst hv
  exact ⟨hget, rfl, rfl, trivial⟩
def rIsP (K : PySem.W.Frag) (D b : Addr) : List V → Hp → VK → Prop := fun xs H Q => ∃ (c : V) (cv : Value) (r : Bool), xs = [.ref b, c] ∧ ClsV c cv ∧ PySem.W.kitOne K (.ref D) cv = some r ∧ Q (.bl r) H
theorem call_isP {D : Addr} (x : ExPin X p D) : CallR X (.builtin "isinstance") (rIsP X.K D p.1) := by
  intro pins s σ H xs us Q I r ⟨c, cv, b, e, hc, hk, q⟩
  subst e
  obtain ⟨u1, u2, rfl, r1, r2⟩ := vals2 r
  cases r1; have e2 := hc.eq r2; subst e2
  exact PySem.W.kia_one (PySem.W.handS_kitx_exc x.cls.hg x.cls.hk x.cls.hs x.cls.hd x.cls.ha x.cls.hn x.cls.ht x.cls.hm) I.kIn (x.inst I) hk (fun z => nomatch z) fun t => ⟨.bl b, H, I.tok t, rfl, q⟩
def rIsPT (K : PySem.W.Frag) (D b : Addr) : List V → Hp → VK → Prop := fun xs H Q => ∃ (tp : Addr) (cs : List V) (us : List Value) (r : Bool), xs = [.ref b, .ref tp] ∧ H tp = some (.tup cs) ∧ Paired ClsV cs us ∧ PySem.W.kitAny K (.ref D) us = some r ∧ Q (.bl r) H
theorem call_isPT {D : Addr} (x : ExPin X p D) : CallR X (.builtin "isinstance") (rIsPT X.K D p.1) := by
  intro pins s σ H xs us Q I r ⟨tp, cs, ws, b, e, hT, hc, hk, q⟩
  subst e
  obtain ⟨u1, u2, rfl, r1, r2⟩ := vals2 r
  cases r1; cases (show u2 = Value.ref tp from r2)
  obtain ⟨_, its, rv, ⟨oc, od, dt, sl⟩, h1, h2, n, h3⟩ := (show ObjOk X.prog X.w H s.heap tp (.tup cs) from I.hok tp _ hT)
  have e3 := ClsV.all hc rv; subst e3
  simp only at h2 h3; subst h2; subst h3
  exact PySem.W.kia_tup (PySem.W.handS_kitx_exc x.cls.hg x.cls.hk x.cls.hs x.cls.hd x.cls.ha x.cls.hn x.cls.ht x.cls.hm) I.kIn (x.inst I) h1 hk (fun z => nomatch z) fun t => ⟨.bl b, H, I.tok t, rfl, q⟩
/-- the answer, where slot i holds the exception at b -/
def exI (i : Nat) (b : Addr) (r : Bool) : Env → Out D := fun env => match env.get i with
  | .val (.obj c []) => if c = b then .ok (.bl r) env else .bad
  | _ => .bad
theorem exI_cases {i : Nat} {b : Addr} {r : Bool} {F : Fx} {O : Own} {σ : L2.St} {H : Hp} {env : Env} {Wx : WX} {Q : VK} (g : Good X.K F O σ H env) (h : Pst X.K X.mg Wx F O σ H (Rep X.K) Q (exI i b r env)) :
    σ[i]? = some (some (.ref b)) ∧ Pst X.K X.mg Wx F O σ H (Rep X.K) Q (.ok (.bl r) env) := by
  unfold exI at h
  split at h
  · rename_i c e
    split at h
    · rename_i ec; subst ec
      have q := g.slot i; rw [e] at q
      obtain ⟨_, v, h1, h2⟩ := q
      cases h2
      exact ⟨of_getD h1, h⟩
    · exact h.elim
  · exact h.elim
variable {i : Nat} {n : Str} {D : Addr} {b : Bool} {p1 p2 p3 : Pos}
theorem se_exI {x : Str} {C2 : Addr} (xp : ExPin X p D) (hN : X.N[i]? = some n) (hv : Vis X.env.scope n) (hd : (n == ("__debug__" : Str)) = false) (hcd : (n == ("__classdict__" : Str)) = false)
    (hgi : Gl X "isinstance") (hmi : X.mg "isinstance" = none) (hg : Gl X x) (hm : X.mg x = some (.ref C2)) (hdx : (x == ("__debug__" : Str)) = false) (hk : PySem.W.kitOne X.K (.ref D) (.ref C2) = some b) :
    SE X (.Call (.Name "isinstance" p1) [.Name n p2, .Name x p3] [] pos) (exI i p.1 b) := by
  intro Wx tk F O σ H env gd Q pp
  obtain ⟨h1, h2⟩ := exI_cases gd pp
  refine TE.by (pe_callB (call_isP xp) hgi hmi boot_isinstance (pa_cons (pe_var (i := i) hN hv hd hcd) (pa_cons (pe_glob (v := .ref C2) hg hm rfl hdx) pa_nil))) ?_
  exact ⟨_, h1, _, _, b, rfl, .own C2, hk, h2.ok gd (.bl b)⟩
theorem se_exIB {T : String} {x : Str} (xp : ExPin X p D) (hN : X.N[i]? = some n) (hv : Vis X.env.scope n) (hd : (n == ("__debug__" : Str)) = false) (hcd : (n == ("__classdict__" : Str)) = false)
    (hgi : Gl X "isinstance") (hmi : X.mg "isinstance" = none) (ht : TyName X x T) (hk : PySem.W.kitOne X.K (.ref D) (.type T) = some b) :
    SE X (.Call (.Name "isinstance" p1) [.Name n p2, .Name x p3] [] pos) (exI i p.1 b) := by
  intro Wx tk F O σ H env gd Q pp
  obtain ⟨h1, h2⟩ := exI_cases gd pp
  refine TE.by (pe_callB (call_isP xp) hgi hmi boot_isinstance (pa_cons (pe_var (i := i) hN hv hd hcd) (pa_cons ht.pe pa_nil))) ?_
  exact ⟨_, h1, _, _, b, rfl, .ty T, hk, h2.ok gd (.bl b)⟩
/-- names of own classes, as a tuple's items: D beneath one of them or not -/
inductive OwnNames (X : Cx) (D : Addr) : List Expr → List Addr → Bool → Prop where
  | nil : OwnNames X D [] [] false
  | cons {x : Str} {c : Addr} {r r2 : Bool} {px : Pos} {es : List Expr} {cs : List Addr} (hg : Gl X x) (hm : X.mg x = some (.ref c)) (hd : (x == ("__debug__" : Str)) = false) (hk : PySem.W.kitOne X.K (.ref D) (.ref c) = some r) (t : OwnNames X D es cs r2) : OwnNames X D (.Name x px :: es) (c :: cs) (r || r2)
theorem OwnNames.pa : ∀ {es : List Expr} {cs : List Addr} {r : Bool}, OwnNames X D es cs r → PA X es (fun _ H Q => Q (cs.map V.ref) H)
  | _, _, _, .nil => pa_nil
  | _, _, _, .cons hg hm hd _ t => pa_cons (pe_glob (v := .ref _) hg hm rfl hd) t.pa
theorem OwnNames.any : ∀ {es : List Expr} {cs : List Addr} {r : Bool}, OwnNames X D es cs r → PySem.W.kitAny X.K (.ref D) (cs.map Value.ref) = some r
  | _, _, _, .nil => rfl
  | _, _, _, .cons (r := r) _ _ _ hk t => kitAny_cons hk (fun z => by rw [z]; exact t.any) fun z => by rw [z]; rfl
theorem OwnNames.len : ∀ {es : List Expr} {cs : List Addr} {r : Bool}, OwnNames X D es cs r → es.length = cs.length
  | _, _, _, .nil => rfl
  | _, _, _, .cons _ _ _ _ t => by simp [t.len]
theorem paired_own : ∀ cs : List Addr, Paired ClsV (cs.map V.ref) (cs.map Value.ref)
  | [] => .nil
  | c :: cs => .cons (.own c) (paired_own cs)
theorem se_exIT {es : List Expr} {cs : List Addr} {kk : Nat} (xp : ExPin X p D) (hN : X.N[i]? = some n) (hv : Vis X.env.scope n) (hd : (n == ("__debug__" : Str)) = false) (hcd : (n == ("__classdict__" : Str)) = false)
    (hgi : Gl X "isinstance") (hmi : X.mg "isinstance" = none) (hc : OwnNames X D es cs b) (hl : cs.length ≤ 1000) :
    SE X (.Call (.Name "isinstance" p1) [.Name n p2, .Tuple es kk p3] [] pos) (exI i p.1 b) := by
  intro Wx tk F O σ H env gd Q pp
  obtain ⟨h1, h2⟩ := exI_cases gd pp
  refine TE.by (pe_callB (call_isPT xp) hgi hmi boot_isinstance (pa_cons (pe_var (i := i) hN hv hd hcd) (pa_cons (pe_tup hc.pa) pa_nil))) ?_
  refine ⟨_, h1, by rw [List.length_map, sizeLine_eq]; omega, fun q hq => ?_⟩
  exact ⟨q, cs.map V.ref, cs.map Value.ref, b, rfl, upd_same, paired_own cs, hc.any, h2.okN gd (same_new hq) (.bl b)⟩
end
end Rp
set_option Elab.async false
set_option linter.all false
set_option maxRecDepth 100000
set_option maxHeartbeats 2000000
/-! RpZ: a def called in an except suite with the exception; the try around it. -/
namespace Rp
open PySem PySem.Spec PyProof.Rows L2 L2H HotX
/-- what a def promises where p is handled -/
structure FnP (P : Program) (w : World) (K : PySem.W.Frag) (mg : Str → Option Value) (base : Heap) (k : Nat) (f : Addr) (fd : FuncData) (ps : List Str) (sp : Addr × Obj → Sp) : Prop where
  len : ∀ p vs H Q E, sp p vs H Q E → vs.length = ps.length
  run : ∀ (A : Around) outer s H args us vs Q E p, RoomH k A → Hot1 A p → PinOk outer H s p → Env0 P w K mg base A outer s H → BindsTo s fd args (ps.zip us) → Vals vs us → sp p vs H Q E → codeAny (model P w) A (.call (.ref f) args) (CR (L2N.CX P w) outer P w H s Q E) s
theorem fn_okP {P : Program} {w : World} {K : PySem.W.Frag} {mg : Str → Option Value} {base : Heap} {k : Nat} {f : Addr} {name qual : Str} {params : Arguments} {body : List Stmt} {scope : Scope} {dV kV doc pm cdv ct oc : Value} {an od : Option Addr} {osl : Array (Option Value)} {N ps : List Str} {den : Addr → Env → Res} {Z : Obj → Prop}
    (lk : K.lookup f = some ⟨oc, od, .func (PySem.W.fnOf name qual params body scope dV kV doc pm an cdv ct), osl⟩) (hcd : PySem.W.codeIn K cdv qual = true) (S : FnScope N ps scope)
    (hb : ∀ (A : Around) (outer : List PySem.Env) (s : Shared) (H : Hp) (E : XK) (p : Addr × Obj), Hot1 A p → Z p.2 → RoomH k (A.deeper (envOfC qual scope s.heap.objs.size f cdv)) → SS (cxH (L2N.CX P w) P w K mg base N qual scope f cdv A outer s H E p) body (den p.1)) :
    FnP P w K mg base (k + 1) f (PySem.W.fnOf name qual params body scope dV kV doc pm an cdv ct) ps (fun p vs H Q E => Z p.2 ∧ spD K mg ps.length (fnDen N.length ps.length (den p.1)) vs H Q E) where
  len := fun p vs H Q E ⟨_, _, _, _, h, _⟩ => h
  run := by
    intro A outer s H args us vs Q E p hr hot hpin e0 hbi r ⟨hz, S0, P0, as, hl, hS, hP, ha, pp⟩
    have KX := e0.mod.kin.keeps fun b o e => (e0.bs b o e).1
    have lim := e0.mod.nolimit.keeps fun b o e => (e0.bs b o e).1
    refine codeAny_call_function hr.depth (KX _ _ lk) rfl S.co S.gen rfl (PySem.W.codeRec_of KX hcd) (hbi _ _ _ _ (wpAny_newFunctionEnv_cells S.kind (fun y hy => ?_) fun env he s1 x => ?_))
    · exact (S.par y.1 (List.of_mem_zip (show (y.1, y.2) ∈ _ from hy)).1).elim .inl fun q => .inr ⟨q, PySem.W.cellsFrom_some _ _ _ (.inl q)⟩
    subst he
    refine ⟨lim.keeps x.toInCall.keep, codeAny_func ?_⟩
    have I := inv_startH (CX := L2N.CX P w) (E := E) S hpin e0 hl r x
    have tk := L2N.takes_of (X := cxH (L2N.CX P w) P w K mg base N qual scope f cdv A outer s H E p) rfl rfl rfl (E := E) rfl
    have run := hb A outer s H E p hot hz (hr.deeper _) _ tk _ _ _ _ _ (good_start (N := N) hS hP ha) _ (ends_of hl ha pp)
    have fin : ∀ {σ' H' v u s'}, Inv (cxH (L2N.CX P w) P w K mg base N qual scope f cdv A outer s H E p) [] σ' H' s' → RelV v u → Q v H' → CE outer P w H s Q u s' := fun J rv q => ⟨_, _, J.os, J.bare, J.base, J.hok, rv, q⟩
    refine wpAny_mono (pss_of.run [] s1 (L2.start N vs) H _ I run) (fun fl s' hs => ?_) fun _ _ z => z
    cases fl with
    | ret u => obtain ⟨v, σ', H', J, rv, q⟩ := hs; exact fin J rv q
    | next => obtain ⟨σ', H', J, q⟩ := hs; exact fin (v := V.non) (u := Value.none) J rfl q
    | brk => obtain ⟨_, _, _, q⟩ := hs; exact q.elim
    | cont => obtain ⟨_, _, _, q⟩ := hs; exact q.elim
section
variable {X : Cx} {p : Addr × Obj} {k : Nat} {f : Addr} {fd : FuncData} {ps : List Str} {sp : Addr × Obj → Sp}
theorem run_fnP {pins : List (Addr × Obj)} {σ : L2.St} {H : Hp} {s : Shared} {Q : VK} {E : XK} {us : List Value} {vs : List V} (Fn : FnP X.prog X.w X.K X.mg X.base k f fd ps sp) (hr : RoomH k X.A) (hot : Hot1 X.A p) (hp : p ∈ X.pn) (hb : Binds X.K fd ps [])
    (hx : PassesAt (L2N.CX X.prog X.w) X σ E) (I : Inv X pins σ H s) (r : Vals vs us) (h : sp p vs H Q E) : wpAny (model X.prog X.w) X.A (call (.ref f) us) (EP X pins σ Q) X.xe s := by
  have b := hb s us I.kIn (by rw [List.append_nil, ← r.length]; exact Fn.len _ _ _ _ _ h)
  rw [List.append_nil] at b
  have P1 := I.pin p (List.mem_append_left _ hp)
  refine wpAny_call (codeAny_mono (Fn.run X.A X.stack s H ⟨us, []⟩ us vs Q E p hr hot ⟨P1.1, P1.2.1, fun hm => (List.mem_cons.mp (I.stkSub p.1 hm)).elim P1.2.2.1 P1.2.2.2.1, P1.2.2.2.2⟩ I.env0 b r h) fun res s' hq => ?_)
  cases res with
  | error e => exact hx pins H s e s' I hq
  | ok fl =>
    cases fl with
    | ret u => exact I.after hq
    | _ => exact hq.elim
/-- .. in an expression -/
theorem pe_callP {x : Str} {q pos : Pos} {e : Expr} {es : List Expr} {t : TA} {E : L2.St → XK} (Fn : FnP X.prog X.w X.K X.mg X.base k f fd ps sp) (hr : RoomH k X.A) (hot : Hot1 X.A p) (hp : p ∈ X.pn) (hb : Binds X.K fd ps []) (hg : Gl X x) (hm : X.mg x = some (.ref f)) (hk : PySem.W.keepIn X.K (.ref f) = true)
    (hx : ∀ σ, PassesAt (L2N.CX X.prog X.w) X σ (E σ)) (ha : PA X (e :: es) t) (hdb : (x == ("__debug__" : Str)) = false) (he : starEach (e :: es) X.env = (false, eval e X.env) :: starEach es X.env) (hpl : (backTo pos (starEach es X.env)).any (·.1) = false) :
    PE X (.Call (.Name x q) (e :: es) [] pos) (tCallS (sp p) E t) := ⟨fun pins s σ H Q I h => by
  refine wpAny_Call_Name_kw (ld_glob I hg hm (PySem.W.callWith_K (h₀ := X.base) I.ok.mod.kin hk (thn (ha.run pos pins s σ H _ I h) fun us s1 ⟨vs, H1, I1, r, q⟩ => ⟨I1.kIn, ?_⟩) he hpl) hdb)
  exact run_fnP Fn hr hot hp hb (hx σ) I1 r q⟩
end
section
variable {P : Program} {w : World} {K : PySem.W.Frag} {mg : Str → Option Value} {base : Heap} {x qual : Str} {params : Arguments} {body : List Stmt} {scope : Scope} {f : Addr} {fd : FuncData} {k : Nat} {den : Addr → Env → Res} {Z : Obj → Prop}
/-- the def x of one parameter may be called with the exception that is handled, one of Z: den by its address -/
structure CalP (P : Program) (w : World) (K : PySem.W.Frag) (mg : Str → Option Value) (base : Heap) (k : Nat) (x : Str) (Z : Obj → Prop) (den : Addr → List Arg → Res) : Prop where
  ex : ∃ (f : Addr) (fd : FuncData) (ps : List Str), FnP P w K mg base k f fd ps (fun p vs H Q E => Z p.2 ∧ spD K mg 1 (den p.1) vs H Q E) ∧ mg x = some (.ref f) ∧ PySem.W.keepIn K (.ref f) = true ∧ Binds K fd ps []
theorem calP {N : List Str} {y : Str} (F : FunD K x qual params body scope [] [] f fd) (S : FnScope N [y] scope) (hm : mg x = some (.ref f))
    (h : ∀ (kV doc pm : Value) (an : Option Addr) (cdv ct : Value) (us : List Value), us.length = 1 → bindArgs (PySem.W.fnOf x qual params body scope .none kV doc pm an cdv ct) ⟨us, []⟩ = pure ([y].zip us))
    (hb : ∀ (cdv : Value) (A : Around) (outer : List PySem.Env) (s : Shared) (H : Hp) (E : XK) (p : Addr × Obj), Hot1 A p → Z p.2 → RoomH k (A.deeper (envOfC qual scope s.heap.objs.size f cdv)) → SS (cxH (L2N.CX P w) P w K mg base N qual scope f cdv A outer s H E p) body (den p.1)) :
    CalP P w K mg base (k + 1) x Z (fun a => fnDen N.length 1 (den a)) := by
  obtain ⟨oc, od, dV, kV, doc, pm, an, cdv, ct, osl, rfl, lk, hcd, hD, hK⟩ := id F.ex
  exact ⟨_, _, [y], fn_okP lk hcd S (hb cdv), hm, F.kp, F.bindsN h⟩
end
section
variable {X : Cx} {i : Nat} {a : Addr} {pos : Pos}
/-- in a suite: the statements return d, whatever was laid meanwhile -/
def SU2 (X : Cx) (i : Nat) (a : Addr) (st : List Stmt) (d : V) : Prop := ∀ σ H (N : Ends), σ[i]? = some (some (.ref a)) → (∀ H', Fr (fun _ => False) H H' → N.rt d H') → TSs.of X st N σ H
theorem su2_call {oe : Obj} {pn : List (Addr × Obj)} {k j : Nat} {x n : Str} {Z : Obj → Prop} {den : Addr → List Arg → Res} {d : D} {b : Bool} {e' : Env} {v : V} {q p2 pc : Pos} (c : CalP X.prog X.w X.K X.mg X.base k x Z den) (hz : Z oe) {cls : Value} (hx : L2N.Zn cls none oe) (hf : ∃ vs, oe.data = .fields vs) (hr : Room j X.A) (hk : k ≤ j)
    (hg : Gl X x) (hdb : (x == ("__debug__" : Str)) = false) (hN : X.N[i]? = some n) (hv : Vis X.env.scope n) (hd : (n == ("__debug__" : Str)) = false) (hcd : (n == ("__classdict__" : Str)) = false)
    (hval : den a [.v (.obj a [])] = .rt d b e') (sv : scalV d = some v) : SU2 (X.suite a ((a, oe) :: pn)) i a [.Return (some (.Call (.Name x q) [.Name n p2] [] pc)) pos] v := by
  intro σ H N hs kk
  obtain ⟨f, fd, ps, Fn, hm, hkp, hb⟩ := c.ex
  obtain ⟨vs, hvs⟩ := hf
  have hot : Hot1 (X.suite a ((a, oe) :: pn)).A (a, oe) := ⟨rfl, vs, hvs, hx.2.2 vs hvs⟩
  have rm : RoomH k (X.suite a ((a, oe) :: pn)).A := (show RoomH j (X.suite a ((a, oe) :: pn)).A from ⟨hr.dp, hr.un⟩).mono hk
  refine TSs.by (pss_one (ps_ret pe_of)) (TE.by (pe_callP (X := X.suite a ((a, oe) :: pn)) (p := (a, oe)) (E := fun _ _ _ _ => False) Fn rm hot List.mem_cons_self hb hg hm hkp (fun σ => L2N.passAt (W := fun _ _ _ _ => False) takes00 σ) (pa_cons (pe_var (i := i) hN hv hd hcd) pa_nil) hdb (by rfl) (by rfl)) ?_)
  refine ⟨_, hs, hz, fun _ => False, fun _ => none, [.v (.obj a [])], rfl, fun _ z => z.elim, fun _ _ _ z _ => (by cases z), ⟨rfl, fun m => ?_⟩, ?_⟩
  · cases m with
    | zero => exact ⟨rfl, _, rfl, .exc⟩
    | succ m => rfl
  show PstC _ _ _ _ _ _ _ (den a _)
  rw [hval]
  have sc : ∀ {u H'}, Rep X.K H' (fun _ => False) u d → u = v := fun {u H'} r => by
    cases r <;> simp only [scalV] at sv <;> first | (cases sv; done) | (injection sv with sv)
  have fr : ∀ {H' : Hp}, Fr (Oset (fun _ => none)) H H' → Fr (fun _ => False) H H' := fun z => z.mono fun _ ⟨_, y⟩ => by cases y
  cases b with
  | false => exact fun u H' z _ r => by rw [sc r]; exact kk H' (fr z)
  | true => exact fun u H' z _ r _ => by rw [sc r.1]; exact kk H' (fr z)
/-- try: .. except C as n: .. return f(n) .. -/
theorem s1_tryP {body suite : List Stmt} {b0 : Stmt} {x n : Str} {c : Value} {np pos' : Pos} {f : Env → Res} {h : Str → Option D} (hs : X.stack = X.env :: X.outer) (hf : X.env.frame = some X.env.locals) (hN : X.N.Nodup) (hi : X.N[i]? = some n) (hln : X.env.kindOf n = some .local) (hc : Names X x c)
    (hb : ∀ pn xe, PassesOwn (model X.prog X.w) X.A X.env xe → SS (X.tr pn xe) body f)
    (hd : ∀ nm d, h nm = some d → ∃ v, scalV d = some v ∧ ∀ C, X.mg nm = some (.ref C) → PySem.W.exmOne X.K (.ref C) c = some true ∧ ∀ a oe pn, L2N.Zn (.ref C) none oe → (∃ vs, oe.data = .fields vs) → SU2 (X.suite a ((a, oe) :: pn)) i a (b0 :: suite) v) :
    S1 X (.Try body [.ExceptHandler (some (.Name x np)) (some n) (b0 :: suite) pos'] [] [] pos) (dTryC i f h) := by
  intro Wx tk F O σ H env gd N p
  refine TS.by (L2N.ps_try_as hs hf hN hi hln hc tk (tb := fun W N σ H => ∀ pn xe, Takes (X.tr pn xe) W → PassesOwn (model X.prog X.w) X.A X.env xe → TSs.of (X.tr pn xe) body N σ H)
    (ts := fun a cls dx N σ H => ∀ oe pn, L2N.Zn cls dx oe → (∃ vs, oe.data = .fields vs) → TSs.of (X.suite a ((a, oe) :: pn)) (b0 :: suite) N σ H)
    (fun W pn xe tkW hp => ⟨fun pins s σ H D I hh => pss_of.run pins s σ H D I (hh pn xe tkW hp)⟩) (fun a oe cls dx pn hz hff => ⟨fun pins s σ H D I hh => pss_of.run pins s σ H D I (hh oe pn hz hff)⟩)) ?_
  intro pn xe tkW hp
  refine hb pn xe hp _ tkW F O σ H env gd N ?_
  unfold dTryC at p
  cases cf : f env with
  | bad => rw [cf] at p; exact p
  | nx e => rw [cf] at p; exact p
  | rt d b e => rw [cf] at p; exact p
  | bk e => rw [cf] at p; exact p
  | exc xx e =>
    rw [cf] at p
    intro cls dx σ' H' O' s' f' g' xr
    obtain ⟨nm, C, rfl, hm, rfl, rfl⟩ := xr
    simp only at p
    split at p
    case isFalse => exact p.elim
    rename_i hl
    rw [Bool.and_eq_true, decide_eq_true_eq] at hl
    cases ch : h nm with
    | none => rw [ch] at p; exact p.elim
    | some d =>
      rw [ch] at p
      obtain ⟨v, sv, hv⟩ := hd nm d ch
      obtain ⟨h1, h2⟩ := hv C hm
      refine ⟨true, h1, fun _ a ha oe pn2 hz hff => ?_, fun z => by cases z⟩
      refine h2 a oe pn2 hz hff _ H' _ (by rw [List.getElem?_set_self (by rw [← g'.len]; exact hl.1)]) fun H2 f2 => ?_
      have g2 := (g'.forget (i := i) (by simpa using hl.2)).fr f2 (fun _ z => z.elim) fun _ z => z.elim
      exact p v σ' H2 _ (fun j => by
        unfold Own.drop
        split
        · exact .inr (.inl rfl)
        · exact s' j) (f'.trans (f2.mono fun _ z => z.elim)) g2 (scal_rep sv)
end
end Rp
set_option Elab.async false
set_option linter.all false
set_option maxRecDepth 100000
set_option maxHeartbeats 4000000
/-! RpZa: int of a text of up to 4300 digits. -/
namespace Rp
open PySem PySem.Calls PySem.NumText PyProof.Rows PySem.W PySem.W.KIN
theorem max_digits {M : Model} {A : Around} {E : Value → Shared → Prop} {s : Shared} {Q : Nat → Shared → Prop} (hd : s.heap.NoDigits) (h : Q 4300 s) : wpAny M A Builtin.intMaxStrDigits Q E s := by
  obtain ⟨mc, hns, hn⟩ := hd
  unfold Builtin.intMaxStrDigits
  refine wpAny_bind (wpAny_nsGet hns ?_)
  rw [hn]; exact wpAny_pure h
theorem text4 {M : Model} {A : Around} {E : Value → Shared → Prop} {s : Shared} {Q : Value → Shared → Prop} {v : Value} {text : List Nat} {n : Int} (hd : s.heap.NoDigits)
    (hs : ¬ (text.takeWhile (· != 0)).length ≤ 640) (hr : (int_private% "readNumeral") 4300 10 (text.takeWhile (· != 0)) = (int_private% "Numeral.value") n)
    (ha : ((text.takeWhile (· != 0)).length == text.length) = true) (h : Q (.int n s.toks) { s with toks := s.toks + 1 }) : wpAny M A ((int_private% "intFromText") v text 10) Q E s := by
  change wpAny M A (if (text.takeWhile (· != 0)).length ≤ 640 then _ else (Builtin.intMaxStrDigits >>= _)) Q E s
  rw [if_neg hs]
  refine wpAny_bind (max_digits hd ?_)
  dsimp only
  rw [hr]
  dsimp only
  rw [if_pos ha]
  exact wpAny_mkInt h
theorem new_text4 {x : PySem.Str} {u : Tok} {n : Int} (hl : x.length ≤ sizeLine) (h6 : ¬ (numSeenOf x).length ≤ 640) (hn : PySem.intText? x = some n) : Meets (Builtin.«int.__new__» ⟨[.type "int", .str x u], []⟩) (fun _ R s => s.heap.NoDigits ∧ R (.ok (.ret (.int n s.toks))) { s with toks := s.toks + 1 }) := by
  intro prog w A R s ⟨hd, hR⟩
  refine wpAny_mono (Q := fun fin s' => ∃ v, fin = .done (.ret v) ∧ R (.ok (.ret v)) s') ?_ (fun fin s' ⟨v, e, h⟩ => by subst e; exact h) fun _ _ z => z
  obtain ⟨hp, g, d, tk, os⟩ := s
  have f1 := F.conv_sub_int
  have f2 := F.madeHere_int
  have f3 := str_int
  have f4 := str_idx
  have f5 := str_trunc
  have f6 : typeOf (.str x u) = pure (.type "str") := rfl
  have hr : (int_private% "readNumeral") 4300 10 (numSeenOf x) = (int_private% "Numeral.value") n ∧ ((numSeenOf x).length == (numTextOf x).length) = true := by
    rcases read4300 x hl with ⟨m, h1, h2, h3⟩ | ⟨h1, _⟩
    · rw [hn] at h1; injection h1 with h1; subst h1; exact ⟨h3, h2⟩
    · rw [hn] at h1; cases h1
  have hk := Hid.mk (And.intro h6 hr)
  have hdk := Hid.mk hd
  clear hr hl hn h6 hd
  repeat (any_goals (first
    | assumption
    | ((with_reducible show wpAny _ _ ((int_private% "intFromText") _ _ _) _ _ _); refine text4 hdk.out hk.out.1 hk.out.2.1 hk.out.2.2 ?_)
    | wp_step))
  all_goals first | exact ⟨_, rfl, hR⟩ | skip
theorem new_text0 {x : PySem.Str} {u : Tok} {n : Int} (hl : x.length ≤ sizeLine) (h6 : (numSeenOf x).length ≤ 640) (hn : PySem.intText? x = some n) : Meets (Builtin.«int.__new__» ⟨[.type "int", .str x u], []⟩) (fun _ R s => R (.ok (.ret (.int n s.toks))) { s with toks := s.toks + 1 }) := by
  intro prog w A R s hR
  refine wpAny_mono (Q := fun fin s' => ∃ v, fin = .done (.ret v) ∧ R (.ok (.ret v)) s') ?_ (fun fin s' ⟨v, e, h⟩ => by subst e; exact h) fun _ _ z => z
  obtain ⟨hp, g, d, tk, os⟩ := s
  have f1 := F.conv_sub_int
  have f2 := F.madeHere_int
  have f3 := str_int
  have f4 := str_idx
  have f5 := str_trunc
  have f6 : typeOf (.str x u) = pure (.type "str") := rfl
  have hr : (int_private% "readNumeral") 0 10 (numSeenOf x) = (int_private% "Numeral.value") n ∧ ((numSeenOf x).length == (numTextOf x).length) = true := by
    rcases read0 x h6 with ⟨m, h1, h2, h3⟩ | ⟨h1, _⟩
    · rw [hn] at h1; injection h1 with h1; subst h1; exact ⟨h3, h2⟩
    · rw [hn] at h1; cases h1
  have hk := Hid.mk (And.intro h6 hr)
  clear hr hl hn h6
  repeat (any_goals (first
    | assumption
    | ((with_reducible show wpAny _ _ ((int_private% "intFromText") _ _ _) _ _ _); refine wp_text hk.out.1 hk.out.2.1 hk.out.2.2 ?_)
    | wp_step))
  all_goals first | exact ⟨_, rfl, hR⟩ | skip
section
open PySem.Spec L2
variable {X : Cx}
theorem digits_at {pins : List (Addr × Obj)} {σ : L2.St} {H : Hp} {s : Shared} (hd : X.base.NoDigits) (I : L2.Inv X pins σ H s) : s.heap.NoDigits := Heap.NoDigits.keeps hd I.bk
theorem call_int_str4 (hd : X.base.NoDigits) : CallR X (.type "int") (fun xs H Q => ∃ a n, xs = [.str a] ∧ PySem.intText? a = some n ∧ a.length ≤ 4300 ∧ Q (.int n) H) := by
  intro pins s σ H xs us Q I rs ⟨a, n, e, hn, hl, h⟩
  subst e
  cases rs with
  | cons r1 rs =>
    cases rs
    obtain ⟨t, rfl⟩ := r1
    by_cases h6 : (numSeenOf a).length ≤ 640
    · by_cases h7 : a.length ≤ 640
      · exact PySem.W.KIN.call_text hn h7 ⟨.int n, H, I.tok _, ⟨_, rfl⟩, h⟩
      · refine call_int_1 (new_text0 (by rw [sizeLine_eq]; omega) h6 hn) ⟨typeIs_int _ _ _, .int n, H, I.tok _, ⟨_, rfl⟩, h⟩
    · exact call_int_1 (new_text4 (by rw [sizeLine_eq]; omega) h6 hn) ⟨digits_at hd I, typeIs_int _ _ _, .int n, H, I.tok _, ⟨_, rfl⟩, h⟩
end
end Rp
set_option Elab.async false
set_option linter.all false
set_option maxRecDepth 100000
set_option maxHeartbeats 4000000
/-! RpZb: int of long texts, divmod, {x:spec}. -/
namespace Rp
open PySem PySem.Spec PyProof.Rows L2
section
variable {X : Cx}
def int4D : List D → Option D
  | [.int i] => some (.int i)
  | [.bl b] => some (.int (if b then 1 else 0))
  | [.str x] => if decide (x.length ≤ 4300) then (PySem.intText? x).map .int else none
  | _ => none
theorem c_int4 (hd : X.base.NoDigits) : CallS X (.type "int") int4D := by
  intro S xs H ds d r e
  unfold int4D at e
  split at e
  · obtain ⟨v, rfl, r'⟩ := rb1 r
    injection e with e; subst e
    cases r'
    exact ⟨_, call_int1, fun Q k => .inl ⟨_, rfl, k _ _ (fun _ _ h => h) fun _ => fv_flat (.int _) (by intros; simp)⟩⟩
  · obtain ⟨v, rfl, r'⟩ := rb1 r
    injection e with e; subst e
    cases r'
    exact ⟨_, call_int1, fun Q k => .inr ⟨_, rfl, k _ _ (fun _ _ h => h) fun _ => fv_flat (.int _) (by intros; simp)⟩⟩
  · split at e
    · rename_i hz
      obtain ⟨v, rfl, r'⟩ := rb1 r
      cases r'
      cases q : PySem.intText? _ with
      | none => rw [q] at e; cases e
      | some n =>
        rw [q] at e; injection e with e; subst e
        exact ⟨_, call_int_str4 hd, fun Q k => ⟨_, n, rfl, q, of_decide_eq_true hz, k _ _ (fun _ _ h => h) fun _ => fv_flat (.int _) (by intros; simp)⟩⟩
    · cases e
  · cases e
/-- divmod by a small positive number -/
def divmodD : List D → Option D
  | [.int i, .int j] => if decide (0 < j) && decide (j.natAbs.log2 < 9000) then some (.tup [.int (i / j), .int (i % j)]) else none
  | _ => none
theorem c_divmod : CallS X (.builtin "divmod") divmodD := by
  intro S xs H ds d r e
  unfold divmodD at e
  split at e
  · split at e
    · rename_i h
      rw [Bool.and_eq_true, decide_eq_true_eq, decide_eq_true_eq] at h
      obtain ⟨v, w, rfl, r1, r2⟩ := rb2 r
      injection e with e; subst e
      cases r1; cases r2
      refine ⟨_, call_divmodW, fun Q k => ⟨_, _, rfl, ⟨h.1, ?_⟩, fun p hp => k _ _ (same_new hp) fun hs => fv_flat (tup_new hp hs (.cons (.int _) (.cons (.int _) .nil))) (by intros; simp)⟩⟩
      unfold Builtin.divisionGoesByPylong
      rename_i i j
      have : ¬ (if (j == 0) = true then 0 else j.natAbs.log2 / 30 + 1) > 300 := by split <;> omega
      simp only [this, decide_false, Bool.false_and]
    · cases e
  · cases e
/-- {x:spec}, the spec a text that stands there; x an int from 0 to 99 -/
def tFmtS (spec : Str) (te : TE) : TE := fun σ H Q => te σ H fun x H1 => ∃ i : Int, x = .int i ∧ 0 ≤ i ∧ i < 100 ∧ Q (.str (intSpecTextOf spec i)) H1
theorem pe_fmtS {e : Expr} {te : TE} {pos p2 p3 : Pos} {spec : Str} {j : Nat} (hd : X.base.NoDigits) (he : PE X e te) (hok : intSpecOk spec = true) (hl : spec.length ≤ sizeLine) : PE X (.FormattedValue e (-1) (some (.JoinedStr [.Constant (.str spec) j p2] p3)) pos) (tFmtS spec te) := by
  refine ⟨fun pins s σ H Q I h => ?_⟩
  refine wpAny_FormattedValue_spec (thn (he.run pins s σ H _ I h) fun v s1 hv => ?_)
  obtain ⟨x, H1, I1, r1, i, e1, h0, h1, q⟩ := hv
  subst e1
  obtain ⟨t, rfl⟩ := r1
  refine thn (JoinedStr_one (pe_str.run pins s1 σ H1 (fun y H2 => y = .str spec ∧ H2 = H1) I1 ⟨rfl, rfl⟩)) fun r s2 ⟨y, H2, I2, r2, e2, e3⟩ => ?_
  subst e2; subst e3
  obtain ⟨t2, rfl⟩ := r2
  have lt : i.natAbs < 10 ^ 4300 := Nat.lt_of_lt_of_le (show i.natAbs < 2 ^ 12900 from Nat.lt_of_lt_of_le (show i.natAbs < 2 ^ 7 by omega) (Nat.pow_le_pow_right (by decide) (by decide))) pow_lo
  exact ⟨spec, t2, rfl, formatField_int_specOf (digits_at hd I2) lt hok (fun W _ _ => ⟨.str _, H2, I2.tok _, ⟨_, rfl⟩, q⟩) hl⟩
/-- .. as a piece -/
def fmtS (spec : Str) (va : Env → Out D) (f : Str → Env → Out Str) : Str → Env → Out Str := fun acc env => (va env).bind fun d e => match d with
  | .int i => if decide (0 ≤ i) && decide (i < 100) && lenOk (acc ++ intSpecTextOf spec i).length then f (acc ++ intSpecTextOf spec i) e else .bad
  | _ => .bad
theorem sj_fmtS {e : Expr} {va : Env → Out D} {es : List Expr} {f : Str → Env → Out Str} {spec : Str} {j : Nat} {pos p2 p3 : Pos} (hd : X.base.NoDigits) (hok : intSpecOk spec = true) (hz : spec.length ≤ sizeLine) (ha : SE X e va) (h : SJ X es f) : SJ X (.FormattedValue e (-1) (some (.JoinedStr [.Constant (.str spec) j p2] p3)) pos :: es) (fmtS spec va f) := by
  obtain ⟨ts, h1, h2⟩ := h
  refine ⟨_, .cons (pe_fmtS hd pe_of hok hz) h1, fun Wx tk F O σ H env g acc Q p => ?_⟩
  refine ha Wx tk F O σ H env g _ (Pst.bind p fun d e1 v H1 O1 s f1 g1 r1 p1 => ?_)
  cases r1 with
  | int i =>
    simp only at p1
    have p' : Pst X.K X.mg Wx F O1 σ H1 (fun _ _ b c => b = c) Q (if (decide (0 ≤ i) && decide (i < 100) && lenOk (acc ++ intSpecTextOf spec i).length) = true then f (acc ++ intSpecTextOf spec i) e1 else .bad) := p1
    split at p'
    · rename_i hl
      simp only [Bool.and_eq_true, decide_eq_true_eq] at hl
      exact ⟨i, rfl, hl.1.1, hl.1.2, _, rfl, of_decide_eq_true hl.2, h2 Wx tk F O1 σ H1 e1 g1 _ Q p'⟩
    · exact p'.elim
  | _ => exact p1.elim
end
end Rp
set_option Elab.async false
set_option linter.all false
set_option maxRecDepth 100000
/-! RpZc: short names, evaluation rules of the later forms. -/
namespace Rp
open PySem PySem.Spec PyProof.Rows L2 L2H
theorem hu65H {k : Nat} {A : Around} (r : RoomH k A) : A.units + 65 < cLine := by have := r.un; omega
section
variable {s : Slot} {l : Env} {i : Nat} {a : Addr} {b : Bool} {va : Env → Out D} {f : Str → Env → Out Str} {spec acc : Str}
@[simp] theorem u_exI : exI i a b (s :: l) = match Env.get (s :: l) i with
  | .val (.obj c []) => if c = a then .ok (.bl b) (s :: l) else .bad
  | _ => .bad := (rfl)
@[simp] theorem u_fmtS : fmtS spec va f acc (s :: l) = (va (s :: l)).bind fun d e => match d with
  | .int i => if decide (0 ≤ i) && decide (i < 100) && lenOk (acc ++ intSpecTextOf spec i).length then f (acc ++ intSpecTextOf spec i) e else .bad
  | _ => .bad := (rfl)
end
end Rp
set_option Elab.async false
set_option linter.all false
set_option maxRecDepth 100000
set_option maxHeartbeats 2000000
/-! RpZd: repr; a def that is entered where nothing is being shown; the end of a law that shows. -/
namespace Rp
open PySem PySem.Spec PyProof.Rows L2
/-! ### repr -/
def flatP : D → Option PyData
  | .non => some .none
  | .bl b => some (.bool b)
  | .int i => if decide (i.natAbs.log2 < 1920) then some (.int i) else none
  | .str x => some (.str x)
  | _ => none
def flatsP : List D → Option (List PyData)
  | [] => some []
  | d :: ds => (flatP d).bind fun p => (flatsP ds).map (p :: ·)
def shownL (ps : List PyData) : Str := (PyData.list ps).shown
def reprD : List D → Option D
  | [.int i] => if decide (i.natAbs.log2 < 1920) then some (.str (toString i)) else none
  | [.str x] => if lenOk (reprText x).length then some (.str (reprText x)) else none
  | [.lst ds] => (flatsP ds).bind fun ps => if lenOk (shownL ps).length then some (.str (shownL ps)) else none
  | _ => none
theorem flatP_dp {K : PySem.W.Frag} {H : Hp} {S : Addr → Prop} {v : V} {d : D} {p : PyData} (r : Rep K H S v d) (e : flatP d = some p) : Dp K H v p ∧ p.showable = true ∧ p.hasDict = false ∧ p.depth ≤ 1 := by
  unfold flatP at e
  split at e
  · cases r; cases e; exact ⟨.non, by simp [PyData.showable], by simp [PyData.hasDict], by simp [PyData.depth]⟩
  · cases r; cases e; exact ⟨.bl _, by simp [PyData.showable], by simp [PyData.hasDict], by simp [PyData.depth]⟩
  · split at e
    · rename_i h
      cases r; cases e; exact ⟨.int _, by simpa [PyData.showable] using h, by simp [PyData.hasDict], by simp [PyData.depth]⟩
    · cases e
  · cases r; cases e; exact ⟨.str _, by simp [PyData.showable], by simp [PyData.hasDict], by simp [PyData.depth]⟩
  · cases e
theorem flatsP_dp {K : PySem.W.Frag} {H : Hp} {S : Addr → Prop} : ∀ {vs : List V} {ds : List D} {ps : List PyData}, Reps K H S vs ds → flatsP ds = some ps → DpAll K H vs ps ∧ PyData.showableAll ps = true ∧ PyData.hasDictAll ps = false ∧ PyData.depthAll ps ≤ 1
  | _, _, _, .nil, e => by cases e; exact ⟨.nil, by simp [PyData.showableAll], by simp [PyData.hasDictAll], by simp [PyData.depthAll]⟩
  | _, _, _, .cons (d := d) (ds := ds) r t, e => by
    simp only [flatsP] at e
    cases q : flatP d with
    | none => rw [q] at e; cases e
    | some p =>
      cases q2 : flatsP ds with
      | none => rw [q, q2] at e; cases e
      | some qs =>
        rw [q, q2] at e; cases e
        obtain ⟨a1, a2, a3, a4⟩ := flatP_dp r q
        obtain ⟨b1, b2, b3, b4⟩ := flatsP_dp t q2
        exact ⟨.cons a1 b1, by simp [PyData.showableAll, a2, b2], by simp [PyData.hasDictAll, a3, b3], by simp only [PyData.depthAll]; omega⟩
section
variable {X : Cx}
theorem call_reprL (hg : X.A.guards = some []) (hu : X.A.units + 65 < cLine) : CallR X (.builtin "repr") (fun xs H Q => ∃ a ps, xs = [.ref a] ∧ Dp X.K H (.ref a) (.list ps) ∧ (PyData.list ps).showable = true ∧ (PyData.list ps).hasDict = false ∧ (PyData.list ps).depth ≤ 8 ∧ (shownL ps).length ≤ sizeLine ∧ Q (.str (shownL ps)) H) := by
  intro pins s σ H xs us Q I rs ⟨a, ps, e, hd, h1, h2, h3, h4, h⟩
  subst e
  cases rs with
  | cons r1 rs =>
    cases rs
    obtain ⟨as, rd⟩ := Dp.reads I _ _ _ hd r1
    cases r1
    refine repr_of_reads' rd h1 (PyData.noDict_hsm h2) hg (by omega) (fun b o e => e) (fun h' u tk kp => ?_) h4
    exact ⟨.str _, H, I.kept kp, ⟨u, rfl⟩, h⟩
theorem call_reprS : CallR X (.builtin "repr") (fun xs H Q => ∃ x, xs = [.str x] ∧ (reprText x).length ≤ sizeLine ∧ Q (.str (reprText x)) H) := by
  intro pins s σ H xs us Q I rs ⟨x, e, h4, h⟩
  subst e
  cases rs with
  | cons r1 rs =>
    cases rs
    obtain ⟨t, rfl⟩ := r1
    exact PySem.P.repr_of_str ⟨.str _, H, I.tok _, ⟨_, rfl⟩, h⟩ h4
theorem c_repr (hg : X.A.guards = some []) (hu : X.A.units + 65 < cLine) : CallS X (.builtin "repr") reprD := by
  intro S xs H ds d r e
  unfold reprD at e
  split at e
  · split at e
    · rename_i h
      obtain ⟨v, rfl, r'⟩ := rb1 r
      injection e with e; subst e
      cases r'
      exact ⟨_, SkE.call_repr_int, fun Q k => ⟨_, rfl, of_decide_eq_true h, k _ _ (fun _ _ h => h) fun _ => fv_flat (.str _) (by intros; simp)⟩⟩
    · cases e
  · split at e
    · rename_i h
      obtain ⟨v, rfl, r'⟩ := rb1 r
      injection e with e; subst e
      cases r'
      exact ⟨_, call_reprS, fun Q k => ⟨_, rfl, of_decide_eq_true h, k _ _ (fun _ _ h => h) fun _ => fv_flat (.str _) (by intros; simp)⟩⟩
    · cases e
  · obtain ⟨v, rfl, r'⟩ := rb1 r
    rename_i ds
    cases q : flatsP ds with
    | none => rw [q] at e; cases e
    | some ps =>
      rw [q] at e
      simp only [Option.bind] at e
      split at e
      · rename_i h
        injection e with e; subst e
        cases r' with
        | lst h1 r1 =>
          obtain ⟨b1, b2, b3, b4⟩ := flatsP_dp r1 q
          exact ⟨_, call_reprL hg hu, fun Q k => ⟨_, ps, rfl, .lst (.inl (.inl h1)) b1, by simpa [PyData.showable] using b2, by simpa [PyData.hasDict] using b3, by simp only [PyData.depth]; omega, of_decide_eq_true h, k _ _ (fun _ _ h => h) fun _ => fv_flat (.str _) (by intros; simp)⟩⟩
      · cases e
  · cases e
end
end Rp
set_option Elab.async false
set_option linter.all false
set_option maxRecDepth 100000
set_option maxHeartbeats 400000
/-! RpZe: a def that is entered where nothing is being shown; the end of a law that shows. -/
namespace Rp
open PySem PySem.Spec PyProof.Rows L2
/-- what a def promises where nothing is being shown -/
structure FnG (P : Program) (w : World) (K : PySem.W.Frag) (mg : Str → Option Value) (base : Heap) (k : Nat) (f : Addr) (fd : FuncData) (ps : List Str) (sp : Sp) : Prop where
  len : ∀ vs H Q E, sp vs H Q E → vs.length = ps.length
  run : ∀ (A : Around) outer s H args us vs Q E, Room k A → A.guards = some [] → Env0 P w K mg base A outer s H → BindsTo s fd args (ps.zip us) → Vals vs us → sp vs H Q E → codeAny (model P w) A (.call (.ref f) args) (CR (L2N.CX P w) outer P w H s Q E) s
theorem fn_okG {P : Program} {w : World} {K : PySem.W.Frag} {mg : Str → Option Value} {base : Heap} {k : Nat} {f : Addr} {name qual : Str} {params : Arguments} {body : List Stmt} {scope : Scope} {dV kV doc pm cdv ct oc : Value} {an od : Option Addr} {osl : Array (Option Value)} {N ps : List Str} {den : Env → Res}
    (lk : K.lookup f = some ⟨oc, od, .func (PySem.W.fnOf name qual params body scope dV kV doc pm an cdv ct), osl⟩) (hcd : PySem.W.codeIn K cdv qual = true) (S : FnScope N ps scope)
    (hb : ∀ (A : Around) (outer : List PySem.Env) (s : Shared) (H : Hp) (E : XK), A.guards = some [] → Room k (A.deeper (envOfC qual scope s.heap.objs.size f cdv)) → SS (cxOf (L2N.CX P w) P w K mg base N qual scope f cdv A outer s H E) body den) :
    FnG P w K mg base (k + 1) f (PySem.W.fnOf name qual params body scope dV kV doc pm an cdv ct) ps (spD K mg ps.length (fnDen N.length ps.length den)) where
  len := fun vs H Q E ⟨_, _, _, h, _⟩ => h
  run := by
    intro A outer s H args us vs Q E hr hG e0 hbi r ⟨S0, P0, as, hl, hS, hP, ha, pp⟩
    have KX := e0.mod.kin.keeps fun b o e => (e0.bs b o e).1
    have lim := e0.mod.nolimit.keeps fun b o e => (e0.bs b o e).1
    refine codeAny_call_function hr.depth (KX _ _ lk) rfl S.co S.gen rfl (PySem.W.codeRec_of KX hcd) (hbi _ _ _ _ (wpAny_newFunctionEnv_cells S.kind (fun y hy => ?_) fun env he s1 x => ?_))
    · exact (S.par y.1 (List.of_mem_zip (show (y.1, y.2) ∈ _ from hy)).1).elim .inl fun q => .inr ⟨q, PySem.W.cellsFrom_some _ _ _ (.inl q)⟩
    subst he
    refine ⟨lim.keeps x.toInCall.keep, codeAny_func ?_⟩
    have I := inv_start (CX := L2N.CX P w) (E := E) S hr.hd e0 hl r x
    have tk := L2N.takes_of (X := cxOf (L2N.CX P w) P w K mg base N qual scope f cdv A outer s H E) rfl rfl rfl (E := E) rfl
    have run := hb A outer s H E hG (hr.deeper _) _ tk _ _ _ _ _ (good_start (N := N) hS hP ha) _ (ends_of hl ha pp)
    have fin : ∀ {σ' H' v u s'}, Inv (cxOf (L2N.CX P w) P w K mg base N qual scope f cdv A outer s H E) [] σ' H' s' → RelV v u → Q v H' → CE outer P w H s Q u s' := fun J rv q => ⟨_, _, J.os, J.bare, J.base, J.hok, rv, q⟩
    refine wpAny_mono (pss_of.run [] s1 (L2.start N vs) H _ I run) (fun fl s' hs => ?_) fun _ _ z => z
    cases fl with
    | ret u => obtain ⟨v, σ', H', J, rv, q⟩ := hs; exact fin J rv q
    | next => obtain ⟨σ', H', J, q⟩ := hs; exact fin (v := V.non) (u := Value.none) J rfl q
    | brk => obtain ⟨_, _, _, q⟩ := hs; exact q.elim
    | cont => obtain ⟨_, _, _, q⟩ := hs; exact q.elim
section
variable {P : Program} {w : World} {K : PySem.W.Frag} {mg : Str → Option Value} {base : Heap} {x qual : Str} {params : Arguments} {body : List Stmt} {scope : Scope} {f : Addr} {fd : FuncData}
theorem funG_ok {N ps : List Str} {k : Nat} {den : Env → Res} (F : FunD K x qual params body scope [] [] f fd) (S : FnScope N ps scope)
    (hb : ∀ (cdv : Value) (A : Around) (outer : List PySem.Env) (s : Shared) (H : Hp) (E : XK), A.guards = some [] → Room k (A.deeper (envOfC qual scope s.heap.objs.size f cdv)) → SS (cxOf (L2N.CX P w) P w K mg base N qual scope f cdv A outer s H E) body den) :
    FnG P w K mg base (k + 1) f fd ps (spD K mg ps.length (fnDen N.length ps.length den)) := by
  obtain ⟨oc, od, dV, kV, doc, pm, an, cdv, ct, osl, rfl, lk, hcd, hD, hK⟩ := F.ex
  exact fn_okG lk hcd S (hb cdv)
end
/-! ### the script -/
/-- the script's address: known to the module, or frozen -/
def scrH (a : Addr) (b : Bool) (vs : List Value) (ns : List Int) : Hp := fun c => if c = a ∧ b = true then some (.frz { cls := .type "list", data := .seq vs.toArray } (.lst (ns.map V.int))) else none
theorem scrH_off {a b : Addr} {t : Bool} {vs : List Value} {ns : List Int} (h : b ≠ a) : scrH a t vs ns b = none := if_neg fun z => h z.1
theorem scrH_at {a : Addr} {t : Bool} {vs : List Value} {ns : List Int} {b : Addr} {u : HO} (h : scrH a t vs ns b = some u) : b = a ∧ t = true ∧ u = .frz { cls := .type "list", data := .seq vs.toArray } (.lst (ns.map V.int)) := by
  unfold scrH at h
  split at h
  · rename_i z; exact ⟨z.1, z.2, (Option.some.inj h).symm⟩
  · cases h
theorem only_scr {a : Addr} {t : Bool} {vs : List Value} {ns : List Int} : L2.Only (scrH a t vs ns) := fun b => by
  cases q : scrH a t vs ns b with
  | none => exact .inl rfl
  | some u => obtain ⟨_, _, rfl⟩ := scrH_at q; exact .inr ⟨_, _, rfl⟩
/-- the call of the law, where its promise wants to know that nothing is being shown and that ints of any length are read -/
theorem run_law {P : Program} {w : World} {K : PySem.W.Frag} {mg mb : Str → Option Value} {k : Nat} {fa a : Addr} {fd : FuncData} {x : Str} {sp : Sp} {s1 : Shared} {vs : List Value} {ns : List Int} (KX : K.In s1.heap) (n1 : s1.heap.Ns mainGlobals mg) (n2 : s1.heap.Ns builtinsNs mb)
    (hbb : ∀ x : Str, x ≠ "__name__" → mb x = bootBuiltins x) (n3 : s1.heap.NoLimit) (n4 : s1.heap.NoDigits) (hg : s1.gens = #[]) (ha : s1.heap.get? a = some { cls := .type "list", data := .seq vs.toArray }) (hi : IntsAre vs ns) (hl : ns.length ≤ sizeLine) (hr : Room k callerA)
    (F : ∀ base : Heap, K.In base → base.Ns mainGlobals mg → base.NoDigits → FnG P w K mg base k fa fd [x] sp) (hbind : ∀ (s : Shared) (u : Value), BindsTo s fd ⟨[u], []⟩ [(x, u)])
    (hsp : ∀ H : Hp, L2.Only H → SqL K H a (ns.map V.int) → sp [.ref a] H (fun v _ => v = .bl true) fun _ _ _ => False) :
    codeAny (model P w) callerA (.call (.ref fa) ⟨[.ref a], []⟩) (fun r s' => r = .ok (.ret (.bool true)) ∧ PySem.OldK s1.heap s'.heap ∧ s'.os = s1.os ∧ AllBare s'.gens) s1 := by
  have rv := vals_ints hi
  -- tracked iff the module does not know the object
  obtain ⟨t, ht, hS⟩ : ∃ t : Bool, (t = true → K.lookup a = none) ∧ SqL K (scrH a t vs ns) a (ns.map V.int) := by
    cases q : K.lookup a with
    | none => exact ⟨true, fun _ => rfl, .inl (.inr ⟨_, if_pos ⟨rfl, rfl⟩⟩)⟩
    | some o =>
      have e := (KX a o q).symm.trans ha
      cases e
      exact ⟨false, fun z => (by cases z), .inr ⟨_, vs.toArray, _, q, rfl, rfl, rfl, by rw [List.size_toArray, hi.length]; exact hl, by simpa using rv⟩⟩
  generalize hH : scrH a t vs ns = H at hS
  have at_ : ∀ {b : Addr} {u : HO}, H b = some u → b = a ∧ t = true ∧ u = .frz { cls := .type "list", data := .seq vs.toArray } (.lst (ns.map V.int)) := fun h => scrH_at (by rw [hH]; exact h)
  have keep : ∀ {b : Addr} {o : Obj}, s1.heap.get? b = some o → (b = a → t = true → False) → (hidT s1.heap H).get? b = some o := fun {b o} e n => hidT_get e (by
    cases q : H b with
    | none => rfl
    | some u => exact (n (at_ q).1 (at_ q).2.1).elim)
  have nsb : ∀ {b : Addr} {m : Str → Option Value}, s1.heap.Ns b m → (hidT s1.heap H).Ns b m := fun {b m} ⟨o, es, ep, e, d, r⟩ => ⟨o, es, ep, keep e (fun z _ => by
    subst z
    rw [ha] at e; cases e
    have d' : Data.seq vs.toArray _ = Data.dict es ep := d
    cases d'), d, r⟩
  have kb : K.In (hidT s1.heap H) := fun b o e => keep (KX b o e) fun z z2 => by
    subst z
    have := ht z2
    rw [this] at e; cases e
  have hM : Mod K mg (hidT s1.heap H) := ⟨kb, nsb n1, ⟨mb, nsb n2, hbb⟩, n3.elim fun mc z => ⟨mc, nsb z.1, z.2⟩⟩
  have hok : HOk P w H s1.heap := fun b u z => by
    obtain ⟨e1, _, e2⟩ := at_ z
    subst e1; subst e2
    exact ⟨ha, by rw [List.length_map]; exact hl, vs, _, rv, ha⟩
  have no : ∀ {b : Addr}, b ∈ ([] : List Addr) → False := fun z => by cases z
  refine codeAny_mono ((F _ kb (nsb n1) (n4.elim fun mc z => ⟨mc, nsb z.1, z.2⟩)).run callerA [] s1 H ⟨[.ref a], []⟩ [.ref a] [.ref a] _ _ hr rfl ⟨rfl, hM, fun b o e => of_hidT e, Nat.le_of_eq (hidT_size _ _), trivial, fun b hb => (no hb).elim, hok, .of_eq hg⟩ (hbind s1 (.ref a)) (.cons rfl .nil)
    (hsp H (hH ▸ only_scr) hS)) fun r s' h => ?_
  have off : ∀ e : Value, L2N.CX P w [] H s1 (fun _ _ _ => False) e s' → False := fun e ⟨_, _, _, _, _, _, _, _, _, _, _, _, z⟩ => z
  cases r with
  | error e => exact (off e h).elim
  | ok fl =>
    cases fl with
    | next => exact (show False from h).elim
    | brk => exact (show False from h).elim
    | cont => exact (show False from h).elim
    | ret u =>
      obtain ⟨v, H', os, bare, un, hok', r', q⟩ := h
      have q' : v = .bl true := q
      subst q'
      obtain rfl : u = Value.bool true := r'
      refine ⟨rfl, PySem.OldK.of_keep fun b o e => ?_, os, bare⟩
      cases q : H b with
      | none => exact un.keep b o e q (fun z => no z) (by simp)
      | some u =>
        obtain ⟨e1, _, e2⟩ := at_ q
        subst e2
        have e3 := (hok b _ q).1
        rw [e] at e3; cases e3
        exact (hok' b _ (un.frzs b _ _ q)).1
theorem walk_ofG {l : PySem.W.OpenLaw} {n k : Nat} {q : Program} {loose : List Str} {XP : (Str → Option Value) → Heap → Prop} {YP : World → Heap → Prop} {d : DefRec} {x : Str}
    (hn : l.most = some n) (hn2 : n ≤ sizeLine) (hdf : d.params.defaults = []) (hr : Room k callerA)
    (F : ∀ (w : World) (mg : Str → Option Value) (fa : Addr) (h : Heap), YP w h → h.Ns mainGlobals mg → mg d.name = some (.ref fa) →
      ∃ (K : PySem.W.Frag) (fd : FuncData) (den : List Arg → Res), K.In h ∧ (∀ (s : Shared) (u : Value), BindsTo s fd ⟨[u], []⟩ [(x, u)]) ∧
        (∀ ns : List Int, ns.length ≤ n → (∀ z ∈ ns, Builtin.Int.intBits z ≤ 1048576) → ∃ b e, den [.v (.scr (ns.map D.int))] = .rt (.bl true) b e) ∧
        ∀ base : Heap, K.In base → base.Ns mainGlobals mg → base.NoDigits → FnG l.prog w K mg base k fa fd [x] (spD K mg 1 den)) :
    PySem.W.WalkO q loose XP YP l.row.toRowW d [] (fun f vs => PySem.call f vs) := by
  refine Att.attach_callB hn hdf fun w s₀ s₁ mg mb fa o pm cd doc a vs ns G Y ho hd hcd hmg hobj hints hlen hbits hg => ?_
  obtain ⟨K, fd, den, KX, hb, hsp, hF⟩ := F w mg fa _ Y G.T.g hmg
  refine run_law KX G.T.g G.T.b G.T.builtins G.T.nolimit G.T.nodigits hg hobj hints (Nat.le_trans hlen hn2) hr hF hb fun H hO hS => ?_
  obtain ⟨b, e, he⟩ := hsp ns hlen hbits
  refine ⟨fun _ => False, fun _ => none, [.v (.scr (ns.map D.int))], rfl, fun _ z => z.elim, fun _ _ _ z => (by cases z), ⟨rfl, fun i => ?_⟩, ?_⟩
  · cases i with
    | zero =>
      refine ⟨rfl, _, rfl, .scr (hS.imp (fun z => ⟨z, fun w => w⟩) fun z => z) ?_⟩
      have : ∀ ns : List Int, Reps K H (fun _ => False) (ns.map V.int) (ns.map D.int) := by
        intro ns
        induction ns with
        | nil => exact .nil
        | cons i r ih => exact .cons (.int i) ih
      exact this ns
    | succ i => exact rfl
  · rw [he]
    cases b with
    | false => intro v H' _ _ r; cases r; rfl
    | true => intro v H' _ _ r _; cases r.1; rfl
end Rp
set_option Elab.async false
set_option linter.all false
set_option maxRecDepth 100000
set_option maxHeartbeats 1000000
/-! RpZf: a, b, c = x, y, z of ints. -/
namespace Rp
open PySem PySem.Spec PyProof.Rows L2
def dPar3 (i j l : Nat) (fs : Env → Out (List Opd)) : Env → Res := fun env => (fs env).stm fun os e => match valsO os with
  | some [.int a, .int b, .int c] => (match ((setN i (.int a) e).bind (setN j (.int b))).bind (setN l (.int c)) with
    | some e' => .nx e'
    | none => .bad)
  | _ => .bad
section
variable {X : Cx}
theorem s1_par3 {i j l : Nat} {x y z : Str} {a b c : Expr} {fs : Env → Out (List Opd)} {px py pz pt pos : Pos} {kt k2 pt2} (hc : X.calm = true) (hN : X.N.Nodup) (hi : X.N[i]? = some x) (hj : X.N[j]? = some y) (hl : X.N[l]? = some z) (hij : i ≠ j) (hil : i ≠ l) (hjl : j ≠ l)
    (hx : X.env.scope.names.lookup x = some .local) (hy : X.env.scope.names.lookup y = some .local) (hz : X.env.scope.names.lookup z = some .local)
    (hw : swappedStores [.Tuple [.Name x px, .Name y py, .Name z pz] kt pt] (.Tuple [a, b, c] k2 pt2) X.env = pure (some [x, y, z]))
    (hs : swapsWithSole [.Tuple [.Name x px, .Name y py, .Name z pz] kt pt] (.Tuple [a, b, c] k2 pt2) pos.line X.env = pure false) (h : SA X [a, b, c] fs) :
    S1 X (.Assign [.Tuple [.Name x px, .Name y py, .Name z pz] kt pt] (.Tuple [a, b, c] k2 pt2) pos) (dPar3 i j l fs) := by
  intro Wx tk F O σ H env gd N p
  refine TS.by (ps_par3 hc hN hi hj hl hij hil hjl hx hy hz pa_of hw hs) (h Wx tk F O σ H env gd _ (PstS.expr p fun os e1 vs H1 O1 s1 f1 g1 r1 p1 => ?_))
  cases q : valsO os with
  | none => rw [q] at p1; exact p1.elim
  | some ds =>
    rw [q] at p1
    have rr := valsO_reps r1 q
    split at p1
    case h_2 => exact p1.elim
    rename_i a1 a2 a3 e4
    cases e4
    cases rr with
    | cons q1 rr =>
      cases rr with
      | cons q2 rr =>
        cases rr with
        | cons q3 rr =>
          cases rr
          cases w1 : setN i (.int a1) e1 with
          | none => rw [w1] at p1; exact p1.elim
          | some e2 =>
            cases w2 : setN j (.int a2) e2 with
            | none => simp only [w1, Option.bind, w2] at p1; exact p1.elim
            | some e3 =>
              cases w3 : setN l (.int a3) e3 with
              | none => simp only [w1, Option.bind, w2, w3] at p1; exact p1.elim
              | some e4 =>
                simp only [w1, Option.bind, w2, w3] at p1
                cases q1; cases q2; cases q3
                refine ⟨_, _, _, rfl, ?_⟩
                exact p1.nxtN (Own.drop_sub.trans (Own.drop_sub.trans Own.drop_sub)).nw .refl (((g1.setVal' (.int a1) w1).setVal' (.int a2) w2).setVal' (.int a3) w3)
@[simp] theorem u_dPar3 {s : Slot} {e : Env} {i j l : Nat} {fs : Env → Out (List Opd)} : dPar3 i j l fs (s :: e) = (fs (s :: e)).stm fun os e => match valsO os with
  | some [.int a, .int b, .int c] => (match ((setN i (.int a) e).bind (setN j (.int b))).bind (setN l (.int c)) with
    | some e' => .nx e'
    | none => .bad)
  | _ => .bad := (rfl)
end
end Rp
set_option Elab.async false
set_option linter.all false
set_option maxRecDepth 100000
set_option maxHeartbeats 4000000
/-! RpZg: exceptions as values: made, asked for their class, read. -/
namespace Rp
open PySem PySem.Spec PyProof.Rows L2

section
variable {X : Cx}
/-! ### X(), as a value -/
theorem pe_exN {C : Addr} {x : Str} {p pos : Pos} (q : PySem.W.excIn X.K C [.type "ValueError", .type "Exception", .type "BaseException", .type "object"] "ValueError.__new__" = true) (gC : X.mg x = some (.ref C)) (kC : PySem.W.keepIn X.K (.ref C) = true) (hg : Gl X x)
    (hdb : (x == ("__debug__" : Str)) = false) : PE X (.Call (.Name x p) [] [] pos) (fun σ H Q => ∀ a, H a = none → Q (.ref a) (upd H a (exo a C none))) := by
  refine ⟨fun pins s σ H Q I h => ?_⟩
  refine wpAny_Call_Name_kw (ld_glob I hg gC ?_ hdb)
  refine PySem.W.callWith_K0 I.kIn kC ?_
  show wpAny _ _ (call (.ref C) []) _ _ _
  obtain ⟨bm, N, nm, qn, bs, hdct, sn, sub, ab, col, dd, k0, k1, k2, k3, k5, mN, hC, hN, hni, T⟩ := exc_obj I.kIn q
  refine wpAny_call_exc_subT PySem.F.excBase_ValueError T hC hN hni (fun h' a hm => ?_) (by show 0 ≤ sizeLine; rw [sizeLine_eq]; omega)
  have hn : H a = none := I.hok.gone hm.new
  obtain ⟨t, ht, _, _⟩ := hm.there
  exact ⟨.ref a, upd H a (exo a C none), I.laidN hm.keeps hm.new hn (exo_ok ht), rfl, h a hn⟩
theorem se_exN {x : Str} {p pos : Pos} (c : OwnE X.K X.mg x (He.ga X.K x)) (hg : Gl X x) (hdb : (x == ("__debug__" : Str)) = false) : SE X (.Call (.Name x p) [] [] pos) (pureD (.obj 1 [.str x])) := by
  intro Wx tk F O σ H env g Q pp
  refine TE.by (pe_exN c.ex c.g c.kp hg hdb) fun a ha => ?_
  exact pp.okN g (same_new ha) (.excN (.inl upd_same) fun z => g.dom z ha)

/-! ### isinstance(e, C) -/
/-- what is known of the classes EX -/
structure VX (K : PySem.W.Frag) (EX : List Str) : Prop where
  x : ∀ nm, EX.contains nm = true → ExcC K (He.ga K nm)
  k : ∀ nm, EX.contains nm = true → ∀ c, EX.contains c = true → PySem.W.kitOne K (.ref (He.ga K nm)) (.ref (He.ga K c)) = some (nm == c)
  r : ∀ nm, EX.contains nm = true → PySem.W.kitOne K (.ref (He.ga K nm)) (.ref (He.ga K "RideError")) = some true
  t : ∀ nm, EX.contains nm = true → PySem.W.kitOne K (.ref (He.ga K nm)) (.type "ValueError") = some true
def vxB (EX : List Str) (K : PySem.W.Frag) : Bool := EX.all fun nm => excB nm K && (EX.all (fun c => kitB nm c (nm == c) K) && (kitB nm "RideError" true K && kitT nm "ValueError" true K))
theorem vxB_ok {K : PySem.W.Frag} {EX : List Str} (h : vxB EX K = true) : VX K EX := by
  unfold vxB at h
  have key : ∀ nm, EX.contains nm = true → excB nm K = true ∧ (∀ c, EX.contains c = true → kitB nm c (nm == c) K = true) ∧ kitB nm "RideError" true K = true ∧ kitT nm "ValueError" true K = true := fun nm hm => by
    have z := List.all_eq_true.mp h nm (List.contains_iff_mem.mp hm)
    simp only [Bool.and_eq_true] at z
    exact ⟨z.1, fun c hc => List.all_eq_true.mp z.2.1 c (List.contains_iff_mem.mp hc), z.2.2.1, z.2.2.2⟩
  exact ⟨fun nm hm => excB_ok (key nm hm).1, fun nm hm c hc => kitB_ok ((key nm hm).2.1 c hc), fun nm hm => kitB_ok (key nm hm).2.2.1, fun nm hm => kitT_ok (key nm hm).2.2.2⟩
theorem _root_.L2.ExcC.cl {K : PySem.W.Frag} {C : Addr} (T : ExcC K C) : (PySem.W.clsIn K C).isSome = true := by
  have h := T.hd
  unfold PySem.W.hasDictIn at h
  cases q : PySem.W.clsIn K C with
  | some _ => rfl
  | none => rw [q] at h; cases h
/-- isinstance(e, c), e an exception that is held -/
theorem call_isV : CallR X (.builtin "isinstance") (fun xs H Q => ∃ (a C : Addr) (c : V) (cv : Value) (b : Bool), xs = [.ref a, c] ∧ ExcC X.K C ∧ (Rd H a (exo a C none) ∨ ∃ dd fs, Rd H a (exo a C (some dd)) ∧ Rd H dd (exd dd fs)) ∧ (∀ u, RelV c u → u = cv) ∧ PySem.W.kitOne X.K (.ref C) cv = some b ∧ Q (.bl b) H) := by
  intro pins s σ H xs us Q I r h
  obtain ⟨a, C, c, cv, b, rfl, T, hr, hcv, e, q⟩ := h
  cases r with
  | cons rx rr =>
    cases rr with
    | cons rt rr =>
      cases rr
      cases rx
      have ec := hcv _ rt
      subst ec
      have rd : ∀ {a : Addr} {u : HO}, Rd H a u → ∃ o, H a = some u ∨ H a = some (.frz o u) := fun z => z.elim (fun z => ⟨default, .inl z⟩) fun ⟨o, z⟩ => ⟨o, .inr z⟩
      have at0 : ∀ {d : Option Addr}, Rd H a (exo a C d) → ∃ t1 : Addr, s.heap.get? a = some ({ cls := .ref C, dict := d, data := .fields #[.ref t1, .none, .none, .none, .bool false, .none] } : Obj) := fun {d} z => by
        have o := z.ok I.hok
        have x : ObjOk X.prog X.w H s.heap a (.ext fun h => ∃ t1 : Addr, h.get? a = some ({ cls := .ref C, dict := d, data := .fields #[.ref t1, .none, .none, .none, .bool false, .none] } : Obj)) := o
        exact x.1
      rcases hr with hr | ⟨dd, fs, hr, hd⟩
      · obtain ⟨t1, ho⟩ := at0 hr
        have J : PySem.W.InstAt s.heap a _ C none := ⟨ho, rfl, rfl, trivial⟩
        exact PySem.W.kia_one (PySem.W.kitx_exc (T.cl) T.hg T.hk T.hs T.ha T.hn T.ht T.hm) I.kIn J e (fun z => nomatch z) fun tk => ⟨.bl b, H, I.kept (t' := tk) fun _ _ z => z, rfl, q⟩
      · obtain ⟨t1, ho⟩ := at0 hr
        have o := hd.ok I.hok
        have x : ObjOk X.prog X.w H s.heap dd (.ext fun h => ∃ mA, h.Ns1 dd mA ∧ ∀ f, RelO (fs.lookup f) (mA f)) := o
        obtain ⟨mA, ⟨od, es, ep, hod, _⟩, _⟩ := x.1
        have J : PySem.W.InstAt s.heap a _ C (some od) := ⟨ho, rfl, rfl, hod⟩
        exact PySem.W.kia_one (PySem.W.kitx_exc (T.cl) T.hg T.hk T.hs T.ha T.hn T.ht T.hm) I.kIn J e (fun z => nomatch z) fun tk => ⟨.bl b, H, I.kept (t' := tk) fun _ _ z => z, rfl, q⟩
end
end Rp
set_option Elab.async false
set_option linter.all false
set_option maxRecDepth 100000
set_option maxHeartbeats 4000000
/-! RpZh: exceptions as values: asked for their class, their fields read, made with an own __init__. -/
namespace Rp
open PySem PySem.Spec PyProof.Rows L2
section
variable {X : Cx} {a b e : Expr} {fa fb : Env → Out Opd} {pos : Pos}
/-- an operation on one operand -/
def un1 (g : D → Option D) (fa : Env → Out Opd) : Env → Out D := fun env => (fa env).bind fun o e => Out.of ((deref o e).bind g) e
/-- the held exception -/
theorem excV_of {K : PySem.W.Frag} {H : Hp} {S : Addr → Prop} {v : V} {nm : Str} {xs : List D} (r : RepB K H S v (.obj 1 (.str nm :: xs))) :
    ∃ a, v = .ref a ∧ (Rd H a (exo a (He.ga K nm) none) ∨ ∃ dd fs, Rd H a (exo a (He.ga K nm) (some dd)) ∧ Rd H dd (exd dd fs)) := by
  cases r with
  | excN h n => exact ⟨_, rfl, .inl h⟩
  | excF h n k m r => exact ⟨_, rfl, .inr ⟨_, _, h, k⟩⟩
def exIsB (EX : List Str) (c : Str) : D → Option D
  | .obj 1 (.str nm :: _) => if EX.contains nm then some (.bl (nm == c)) else none
  | _ => none
def exIsT (EX : List Str) : D → Option D
  | .obj 1 (.str nm :: _) => if EX.contains nm then some (.bl true) else none
  | _ => none
theorem un1_cases {g : D → Option D} {o1 : Opd} {e1 : Env} {K : PySem.W.Frag} {mg : Str → Option Value} {Wx : WX} {F : Fx} {O1 : Own} {σ : L2.St} {H1 : Hp} {Q : VK} (p1 : Pst K mg Wx F O1 σ H1 (Rep K) Q (Out.of ((deref o1 e1).bind g) e1)) :
    ∃ d d', deref o1 e1 = some d ∧ g d = some d' ∧ Pst K mg Wx F O1 σ H1 (Rep K) Q (.ok d' e1) := by
  cases q1 : deref o1 e1 with
  | none => simp only [q1] at p1; exact p1.elim
  | some d =>
    cases q2 : g d with
    | none => simp only [q1, Option.bind_some, q2] at p1; exact p1.elim
    | some d' => simp only [q1, Option.bind_some, q2] at p1; exact ⟨d, d', rfl, q2, p1⟩
theorem se_exV {EX : List Str} {c : Str} {pf px : Pos} (V : VX X.K EX) (hgi : Gl X "isinstance") (hmi : X.mg "isinstance" = none) (hst : PySem.W.isStarred a = false) (hc : EX.contains c = true) (hg : Gl X c) (hm : X.mg c = some (.ref (He.ga X.K c))) (hdx : (c == ("__debug__" : Str)) = false) (ha : SO X a fa) :
    SE X (.Call (.Name "isinstance" pf) [a, .Name c px] [] pos) (un1 (exIsB EX c) fa) := by
  intro Wx tk F O σ H env gd Q p
  refine TE.by (pe_callB call_isV hgi hmi boot_isinstance (pa_cons pe_of (pa_cons (pe_glob (v := .ref (He.ga X.K c)) hg hm rfl hdx) pa_nil) (starEach_plain hst _)) (by decide) (by decide) (starEach_plain hst _) rfl) ?_
  refine ha Wx tk F O σ H env gd _ (Pst.bind p fun o e1 v H1 O1 s1 f1 g1 r1 p1 => ?_)
  obtain ⟨d, d', q1, q2, p1⟩ := un1_cases p1
  have b1 := g1.deref r1 q1
  unfold exIsB at q2
  split at q2
  · split at q2
    · rename_i nm xs he
      injection q2 with q2; subst q2
      obtain ⟨a', rfl, hr⟩ := excV_of b1
      exact ⟨a', _, _, _, _, rfl, V.x _ he, hr, fun u r => r, V.k _ he _ hc, p1.ok g1 (.bl _)⟩
    · cases q2
  · cases q2
theorem se_exVR {EX : List Str} {pf px : Pos} (V : VX X.K EX) (hgi : Gl X "isinstance") (hmi : X.mg "isinstance" = none) (hst : PySem.W.isStarred a = false) (hg : Gl X "RideError") (hm : X.mg "RideError" = some (.ref (He.ga X.K "RideError"))) (ha : SO X a fa) :
    SE X (.Call (.Name "isinstance" pf) [a, .Name "RideError" px] [] pos) (un1 (exIsT EX) fa) := by
  intro Wx tk F O σ H env gd Q p
  refine TE.by (pe_callB call_isV hgi hmi boot_isinstance (pa_cons pe_of (pa_cons (pe_glob (v := .ref (He.ga X.K "RideError")) hg hm rfl (by decide)) pa_nil) (starEach_plain hst _)) (by decide) (by decide) (starEach_plain hst _) rfl) ?_
  refine ha Wx tk F O σ H env gd _ (Pst.bind p fun o e1 v H1 O1 s1 f1 g1 r1 p1 => ?_)
  obtain ⟨d, d', q1, q2, p1⟩ := un1_cases p1
  have b1 := g1.deref r1 q1
  unfold exIsT at q2
  split at q2
  · split at q2
    · rename_i nm xs he
      injection q2 with q2; subst q2
      obtain ⟨a', rfl, hr⟩ := excV_of b1
      exact ⟨a', _, _, _, _, rfl, V.x _ he, hr, fun u r => r, V.r _ he, p1.ok g1 (.bl _)⟩
    · cases q2
  · cases q2
theorem se_exVT {EX : List Str} {pf px : Pos} (V : VX X.K EX) (hgi : Gl X "isinstance") (hmi : X.mg "isinstance" = none) (hst : PySem.W.isStarred a = false) (hg : Gl X "ValueError") (hm : X.mg "ValueError" = none) (ha : SO X a fa) :
    SE X (.Call (.Name "isinstance" pf) [a, .Name "ValueError" px] [] pos) (un1 (exIsT EX) fa) := by
  intro Wx tk F O σ H env gd Q p
  refine TE.by (pe_callB call_isV hgi hmi boot_isinstance (pa_cons pe_of (pa_cons (pe_bltn (v := .ty "ValueError") hg hm boot_ValueError rfl (by decide) (by decide)) pa_nil) (starEach_plain hst _)) (by decide) (by decide) (starEach_plain hst _) rfl) ?_
  refine ha Wx tk F O σ H env gd _ (Pst.bind p fun o e1 v H1 O1 s1 f1 g1 r1 p1 => ?_)
  obtain ⟨d, d', q1, q2, p1⟩ := un1_cases p1
  have b1 := g1.deref r1 q1
  unfold exIsT at q2
  split at q2
  · split at q2
    · rename_i nm xs he
      injection q2 with q2; subst q2
      obtain ⟨a', rfl, hr⟩ := excV_of b1
      exact ⟨a', _, _, _, _, rfl, V.x _ he, hr, fun u r => r, V.t _ he, p1.ok g1 (.bl _)⟩
    · cases q2
  · cases q2

/-! ### e.f -/
structure FX (K : PySem.W.Frag) (FL : List (Str × Str)) : Prop where
  f : ∀ nm f, FL.contains (nm, f) = true → XfC K (He.ga K nm) ∧ PySem.W.findIn K (.ref (He.ga K nm)) f = some none
def fxfB (FL : List (Str × Str)) (K : PySem.W.Frag) : Bool := FL.all fun p => xfB K (He.ga K p.1) && decide (PySem.W.findIn K (.ref (He.ga K p.1)) p.2 = some none)
theorem fxfB_ok {K : PySem.W.Frag} {FL : List (Str × Str)} (h : fxfB FL K = true) : FX K FL := ⟨fun nm f hm => by
  have z := List.all_eq_true.mp h (nm, f) (List.contains_iff_mem.mp hm)
  rw [Bool.and_eq_true, decide_eq_true_eq] at z
  exact ⟨xfB_ok z.1, z.2⟩⟩
theorem pe_xfV {te : TE} {n : Str} (he : PE X e te) (hb : attributeBase e n X.env (eval e X.env) = eval e X.env) :
    PE X (.Attribute e n pos) (fun σ H Q => te σ H fun x H1 => ∃ (a C dd : Addr) (fs : List (Str × V)) (v : V), x = .ref a ∧ XfC X.K C ∧ PySem.W.findIn X.K (.ref C) n = some none ∧ Rd H1 a (exo a C (some dd)) ∧ Rd H1 dd (exd dd fs) ∧ fs.lookup n = some v ∧ Q v H1) := by
  refine ⟨fun pins s σ H Q I h => ?_⟩
  refine attr_of hb (thn (he.run pins s σ H _ I h) fun u s1 hh => ?_)
  obtain ⟨x, H1, I1, rx, a, C, dd, fs, v, ex, T, hno, ha, hd, l, q⟩ := hh
  subst ex
  obtain rfl : u = Value.ref a := rx
  have o1 := ha.ok I1.hok
  have x1 : ObjOk X.prog X.w H1 s1.heap a (.ext fun h => ∃ t1 : Addr, h.get? a = some ({ cls := .ref C, dict := some dd, data := .fields #[.ref t1, .none, .none, .none, .bool false, .none] } : Obj)) := o1
  obtain ⟨t1, hoa⟩ := x1.1
  have o2 := hd.ok I1.hok
  have x2 : ObjOk X.prog X.w H1 s1.heap dd (.ext fun h => ∃ mA, h.Ns1 dd mA ∧ ∀ f, RelO (fs.lookup f) (mA f)) := o2
  obtain ⟨mA, hns, hr⟩ := x2.1
  obtain ⟨od, ho, hl⟩ := lookIn_ns hns
  obtain ⟨u, hu, ru⟩ := RelO.some_of (v := v) (o := mA n) (by rw [← l]; exact hr n)
  have J : PySem.W.InstAt s1.heap a _ C (some od) := ⟨hoa, rfl, rfl, ho⟩
  exact HandSPX.exc_get I1.kIn J T.ga T.gg T.exC (PySem.W.findObj_own T.hdC hno rfl (by rw [hl, hu])) (handed_of ru) ⟨v, H1, I1.tok _, ru, q⟩
def fldL : List D → List D → Str → Option D
  | .str f :: ns, v :: vs, n => if n = f then some v else fldL ns vs n
  | _, _, _ => none
def fldD (FL : List (Str × Str)) (n : Str) : D → Option D
  | .obj 1 [.str nm, .lst ns, .lst vs] => if FL.contains (nm, n) then fldL ns vs n else none
  | _ => none
theorem fldL_of {K : PySem.W.Frag} {H : Hp} {S : Addr → Prop} {n : Str} {d : D} : ∀ {fs : List (Str × V)} {vs : List D}, Reps K H S (fs.map (·.2)) vs → fldL (fs.map fun p => .str p.1) vs n = some d → ∃ v, fs.lookup n = some v ∧ Rep K H S v d
  | [], _, .nil, e => by simp [fldL] at e
  | (f, y) :: fs, _, .cons r t, e => by
    simp only [List.map_cons, fldL] at e
    rw [lookup_put]
    split at e
    · rename_i h
      injection e with e; subst e
      exact ⟨y, if_pos h, r⟩
    · rename_i h
      rw [if_neg h]
      exact fldL_of t e
theorem se_fld {FL : List (Str × Str)} {n : Str} (V : FX X.K FL) (hb : attributeBase a n X.env (eval a X.env) = eval a X.env) (ha : SO X a fa) : SE X (.Attribute a n pos) (un1 (fldD FL n) fa) := by
  intro Wx tk F O σ H env gd Q p
  refine TE.by (pe_xfV pe_of hb) ?_
  refine ha Wx tk F O σ H env gd _ (Pst.bind p fun o e1 v H1 O1 s1 f1 g1 r1 p1 => ?_)
  obtain ⟨d, d', q1, q2, p1⟩ := un1_cases p1
  have b1 := g1.deref r1 q1
  unfold fldD at q2
  split at q2
  · split at q2
    · rename_i nm ns vs he
      cases b1 with
      | excF h n k m r =>
        obtain ⟨v, h1, h2⟩ := fldL_of r q2
        obtain ⟨T, hno⟩ := V.f _ _ he
        exact ⟨_, _, _, _, v, rfl, T, hno, h, k, h1, p1.ok g1 h2⟩
    · cases q2
  · cases q2

/-! ### made with an own __init__ -/
/-- what such an __init__ promises: the fields ps are stored -/
def spI (C : Addr) (ps : List Str) : Sp := fun vs H Q E => ∃ (a : Addr) (ws : List V), vs = .ref a :: ws ∧ ws.length = ps.length ∧ H a = some (exo a C none) ∧
  ∀ dx H2, H dx = none → dx ≠ a → H2 a = some (exo a C (some dx)) → H2 dx = some (exd dx (ps.zip ws).reverse) → (∀ b, b ≠ a → b ≠ dx → H2 b = H b) → Q .non H2
structure OwnI (P : Program) (w : World) (K : PySem.W.Frag) (mg : Str → Option Value) (base : Heap) (x : Str) (ps : List Str) (k : Nat) : Prop where
  o : OexC K (He.ga K x)
  g : mg x = some (.ref (He.ga K x))
  i : ∃ (fI : Addr) (fd : FuncData) (qs : List Str), PySem.W.findIn K (.ref (He.ga K x)) "__init__" = some (some (.ref fI)) ∧ PySem.W.typeIn K (.ref fI) = some (.type "function") ∧
    FnOk P w K mg base (L2N.CX P w) k fI fd qs (spI (He.ga K x) ps) ∧ Binds K fd qs []
/-- the new object of C stands: nothing else is touched -/
theorem Inv.laidX {pins : List (Addr × Obj)} {σ : L2.St} {H : Hp} {hp : Heap} {g : Array GenState} {dr : Drawn} {tk : Nat} {os : OsState} (I : Inv X pins σ H ⟨hp, g, dr, tk, os⟩) (C : Addr) (us : List Value) :
    H (hp.objs.size + 1) = none ∧ Inv X pins σ (upd H (hp.objs.size + 1) (exo (hp.objs.size + 1) C none)) ⟨(hp.push (PySem.W.kdv_tup us)).push (PySem.HandSPX.excO C hp.objs.size), g, dr, tk, os⟩ :=
  ⟨I.hok.fresh (Nat.le_succ hp.objs.size), I.laid (t' := tk) (fun _ _ z => Heap.get?_push_of_some _ (Heap.get?_push_of_some _ z)) (Nat.le_succ hp.objs.size) (exo_ok (t1 := hp.objs.size) (by heap_get))⟩
def tMkV (C : Addr) (sp : Sp) (ta : TA) : TE := fun σ H Q => ta σ H fun vs H1 => vs.length ≤ 1000 ∧ ∀ a, H1 a = none → sp (.ref a :: vs) (upd H1 a (exo a C none)) (fun v H2 => v = .non ∧ Q (.ref a) H2) (fun _ _ _ => False)
theorem pe_oexV {k : Nat} {x : Str} {C fI : Addr} {fd : FuncData} {ps : List Str} {sp : Sp} {es : List Expr} {ta : TA} {p : Pos} (T : OexC X.K C) (iC : PySem.W.findIn X.K (.ref C) "__init__" = some (some (.ref fI))) (tI : PySem.W.typeIn X.K (.ref fI) = some (.type "function"))
    (F1 : FnOk X.prog X.w X.K X.mg X.base (L2N.CX X.prog X.w) k fI fd ps sp) (hr : Room (k + 1) X.A) (hb : Binds X.K fd ps []) (hg : Gl X x) (hm : X.mg x = some (.ref C)) (ha : PA X (e :: es) ta)
    (hdb : (x == ("__debug__" : Str)) = false) (he : starEach (e :: es) X.env = (false, eval e X.env) :: starEach es X.env) (hpl : (backTo pos (starEach es X.env)).any (·.1) = false) :
    PE X (.Call (.Name x p) (e :: es) [] pos) (tMkV C sp ta) := by
  refine ⟨fun pins s σ H Q I h => ?_⟩
  obtain ⟨nm, q, N, bs, bm, sn, sub, ab, col, dd, k0, k1, k2, k3, k5, hC, hbm⟩ := T.cls
  refine wpAny_Call_Name_kw (ld_glob I hg hm ?_ hdb)
  refine PySem.W.callWith_K (h₀ := X.base) I.ok.mod.kin T.kC (thn (ha.run pos pins s σ H _ I h) fun us s1 ⟨vs, H1, I1, r1, hz, q1⟩ => ⟨I1.kIn, ?_⟩) he hpl
  show wpAny _ _ (call (.ref C) us) _ _ _
  obtain ⟨hp, g, dr, tk, os⟩ := s1
  obtain ⟨hn, I2⟩ := Inv.laidX I1 C us
  have hq := q1 (hp.objs.size + 1) hn
  have r2 : Vals (V.ref (hp.objs.size + 1) :: vs) (Value.ref (hp.objs.size + 1) :: us) := .cons rfl r1
  have hl : (Value.ref (hp.objs.size + 1) :: us ++ []).length = ps.length := by
    have e := r2.length
    rw [F1.len _ _ _ _ hq] at e
    rw [List.append_nil]
    exact e.symm
  have hus : us.length ≤ sizeLine := by
    rw [← Paired.length r1, sizeLine_eq]
    omega
  have bb := hb _ (Value.ref (hp.objs.size + 1) :: us) I2.kIn hl
  rw [List.append_nil] at bb
  refine wpAny_call (PySem.HandSPX.call_own F.excBase_ValueError (fun Y => PySem.HandSPX.refsVE_contains Y bm hbm) (I1.kIn _ _ hC) (PySem.W.looks_findIn I1.kIn iC) (fun self => PySem.W.bind_fn I1.kIn self tI) hus
    (codeAny_mono (F1.run _ X.stack _ _ ⟨Value.ref (hp.objs.size + 1) :: us, []⟩ (Value.ref (hp.objs.size + 1) :: us) _ _ (fun _ _ _ => False) (hr.make C us []) (I2.env0.make C us []) bb r2 hq) fun r s' hq' => ?_))
  cases r with
  | error er => exact L2N.passAt (W := fun _ _ _ _ => False) takes00 σ pins _ _ er s' I2 hq'
  | ok fl =>
    cases fl with
    | ret u =>
      obtain ⟨v, H2, os2, bare2, un2, hok2, rv, ev, q2⟩ := hq'
      subst ev
      exact ⟨rv, .ref (hp.objs.size + 1), H2, I2.call' (ch := []) os2 un2 hok2 bare2 (fun b z => absurd z (by simp)), rfl, q2⟩
    | next => exact False.elim hq'
    | brk => exact False.elim hq'
    | cont => exact False.elim hq'
/-- the exception object, by its fields as they came -/
def exMk (x : Str) (ps : List Str) (fs : Env → Out (List Opd)) : Env → Out D := fun env => (fs env).bind fun os e => match valsO os with
  | some ds => if ds.length = ps.length then .ok (.obj 1 [.str x, .lst (ps.reverse.map .str), .lst ds.reverse]) e else .bad
  | none => .bad
theorem zip_rev_map {α β : Type} : ∀ {ps : List α} {ws : List β}, ws.length = ps.length → ((ps.zip ws).reverse.map (·.1) = ps.reverse ∧ (ps.zip ws).reverse.map (·.2) = ws.reverse)
  | [], [], _ => ⟨rfl, rfl⟩
  | p :: ps, w :: ws, h => by
    obtain ⟨h1, h2⟩ := zip_rev_map (ps := ps) (ws := ws) (by simpa using h)
    simp only [List.zip_cons_cons, List.reverse_cons, List.map_append, h1, h2, List.map_cons, List.map_nil, and_self]
  | [], _ :: _, h => by simp at h
  | _ :: _, [], h => by simp at h
/-- what stands behind a made exception -/
theorem made_rep {K : PySem.W.Frag} {S : Addr → Prop} {H1 H2 : Hp} {a dx : Addr} {x : Str} {ps : List Str} {ws : List V} {ds : List D} (ha : H1 a = none) (hd : upd H1 a (exo a (He.ga K x) none) dx = none) (hda : dx ≠ a) (h1 : H2 a = some (exo a (He.ga K x) (some dx))) (h2 : H2 dx = some (exd dx (ps.zip ws).reverse)) (h3 : ∀ b, b ≠ a → b ≠ dx → H2 b = upd H1 a (exo a (He.ga K x) none) b)
    (hS : ∀ a, S a → H1 a ≠ none) (hl : ws.length = ps.length) (r : Reps K H1 S ws ds) : Same H1 H2 ∧ Rep K H2 S (.ref a) (.obj 1 [.str x, .lst (ps.reverse.map .str), .lst ds.reverse]) := by
  have hdx : H1 dx = none := by rw [upd_ne hda] at hd; exact hd
  have sm : Same H1 H2 := fun b o e => by
    have n1 : b ≠ a := fun z => by rw [z, ha] at e; cases e
    have n2 : b ≠ dx := fun z => by rw [z, hdx] at e; cases e
    rw [h3 b n1 n2, upd_ne n1]; exact e
  refine ⟨sm, ?_⟩
  obtain ⟨z1, z2⟩ := zip_rev_map hl
  have rr : Reps K H2 S ((ps.zip ws).reverse.map (·.2)) ds.reverse := by rw [z2]; exact Reps.reverse (Reps.fr (W := fun _ => False) (Fr.same sm).rd (fun _ z => z.elim) r)
  have e : (ps.reverse.map D.str) = (ps.zip ws).reverse.map fun p => D.str p.1 := by rw [← z1, List.map_map]; rfl
  rw [e]
  exact .excF (.inl h1) (fun z => hS _ z ha) (.inl h2) (fun z => hS _ z hdx) rr
theorem se_exMk {k j : Nat} {x : Str} {ps : List Str} {es : List Expr} {fs : Env → Out (List Opd)} {pf : Pos} (c : OwnI X.prog X.w X.K X.mg X.base x ps k) (hr : Room j X.A) (hk : k + 1 ≤ j) (hg : Gl X x) (hdb : (x == ("__debug__" : Str)) = false) (hn : ps.length ≤ 1000)
    (hst : (a :: es).all (fun e => !PySem.W.isStarred e) = true) (h : SA X (a :: es) fs) : SE X (.Call (.Name x pf) (a :: es) [] pos) (exMk x ps fs) := by
  obtain ⟨fI, fd, qs, iC, tI, F1, hb⟩ := c.i
  rw [List.all_cons, Bool.and_eq_true] at hst
  intro Wx tk F O σ H env gd Q p
  refine TE.by (pe_oexV c.o iC tI F1 (hr.mono hk) hb hg c.g pa_of hdb (starEach_plain (by simpa using hst.1) _) (pl_of hst.2 _ _)) ?_
  refine h Wx tk F O σ H env gd _ (Pst.bind p fun os e1 vs H1 O1 s1 f1 g1 r1 p1 => ?_)
  cases q : valsO os with
  | none => simp only [q] at p1; exact p1.elim
  | some ds =>
    simp only [q] at p1
    have r := valsO_reps r1 q
    have p1' : Pst X.K X.mg Wx F O1 σ H1 (Rep X.K) Q (if ds.length = ps.length then .ok (.obj 1 [.str x, .lst (ps.reverse.map .str), .lst ds.reverse]) e1 else .bad) := p1
    split at p1'
    · rename_i hl
      have hl' : vs.length = ps.length := by rw [r.length]; exact hl
      refine ⟨by rw [hl']; exact hn, fun a ha => ⟨a, vs, rfl, hl', upd_same, fun dx H2 z1 z2 z3 z4 z5 => ⟨rfl, ?_⟩⟩⟩
      obtain ⟨sm, rep⟩ := made_rep ha z1 z2 z3 z4 z5 (fun z hz => g1.dom hz) hl' r
      exact p1'.okN g1 sm rep
    · exact p1'.elim
end
end Rp
set_option Elab.async false
set_option linter.all false
set_option maxRecDepth 100000
set_option maxHeartbeats 4000000
/-! RpZi: enumerate; a, b = x, y; x in range(n); defs that show, called. -/
namespace Rp
open PySem PySem.Spec PyProof.Rows L2
section
variable {X : Cx} {a b e tg : Expr} {fa fb : Env → Out Opd} {pos : Pos}
/-! ### enumerate(list) -/
def enL (k : Nat) : List D → List D
  | [] => []
  | d :: ds => .tup [.int k, d] :: enL (k + 1) ds
theorem enL_len : ∀ (ds : List D) (k : Nat), (enL k ds).length = ds.length
  | [], _ => rfl
  | _ :: ds, k => by simp [enL, enL_len ds]
theorem enL_get : ∀ (ds : List D) (k n : Nat), (enL k ds)[n]? = (ds[n]?).map fun d => .tup [.int ((k + n : Nat) : Int), d]
  | [], _, _ => by simp [enL]
  | d :: ds, k, 0 => by simp [enL]
  | d :: ds, k, n + 1 => by
    rw [enL, List.getElem?_cons_succ, enL_get ds (k + 1) n, List.getElem?_cons_succ, show k + 1 + n = k + (n + 1) by omega]
theorem runs_enum {K : PySem.W.Frag} {S W : Addr → Prop} {H0 : Hp} {a : Addr} {vs : List V} {ds : List D} (r : Reps K H0 S vs ds) (hw : ∀ a, W a → S a) (hq : ∀ H2, Fr W H0 H2 → SqL K H2 a vs) : Runs K S W H0 (Ite K a) (enL 0 ds) := by
  intro n H2 S2 f h1 h2
  rw [enL_len]
  refine ⟨fun hn => ?_, fun hn => ⟨vs, hq H2 f, by rw [r.length]; exact hn⟩⟩
  have hv : n < vs.length := by rw [r.length]; exact hn
  refine ⟨⟨vs, vs[n], hq H2 f, by simp [hv]⟩, fun x H3 y => ?_⟩
  obtain ⟨T, z, rfl, hT, rfl, y⟩ := y
  have sm : Same H2 (upd H2 T (.tup [.int (n : Nat), z])) := same_new hT
  refine ⟨sm, fun d hd => ?_⟩
  rw [enL_get, Nat.zero_add] at hd
  cases c : ds[n]? with
  | none => rw [c] at hd; cases hd
  | some d0 =>
    rw [c] at hd; injection hd with hd; subst hd
    obtain ⟨v, e1, e2⟩ := (r.later hw f h1).get c
    have := y vs (hq _ f)
    rw [e1] at this; cases this
    exact tup_new hT h2 (.cons (.int _) (.cons e2 .nil))
def enumI (va : Env → Out D) : Env → Out ItD := fun env => (va env).bind fun d e => match d with
  | .lst xs => .ok (enL 0 xs, none) e
  | .scr xs => .ok (enL 0 xs, none) e
  | _ => .bad
theorem si_enum {va : Env → Out D} {elts : List Expr} {kk : Nat} {tpos pf : Pos} (hg : Gl X "enumerate") (hm : X.mg "enumerate" = none) (hst : PySem.W.isStarred a = false) (ha : SE X a va) : SI X (.Tuple elts kk tpos) (.Call (.Name "enumerate" pf) [a] [] pos) (enumI va) := by
  refine SI.mk fun Wx tk F O σ H env g R p => TI.by (pi_enum hg hm (pa_cons pe_of pa_nil (starEach_plain hst _)) (starEach_plain hst _)) ?_
  refine ha Wx tk F O σ H env g _ (PstI.bind p fun d e1 v H1 O1 s f g1 r1 p1 => ?_)
  cases r1 with
  | lst h n r =>
    exact ⟨_, _, rfl, .inl (.inl h), p1.ok g1 (fun i e => by cases e) (runs_enum r (fun a z => .inr z) fun H2 f2 => .inl (.inl (f2.eq _ _ h fun z => n (.inr z))))⟩
  | scr h r =>
    have hq : SqL X.K H1 _ _ := h.elim (fun z => .inl z.1) .inr
    refine ⟨_, _, rfl, hq, p1.ok g1 (fun i e => by cases e) (runs_enum r (fun a z => .inr z) fun H2 f2 => ?_)⟩
    exact h.elim (fun z => .inl (f2.rd.1 _ _ z.1 fun w => z.2 (.inr w))) .inr
  | _ => exact p1.elim
/-! ### x, y = a, b -/
def dPar2 (i j : Nat) (fs : Env → Out (List Opd)) : Env → Res := fun env => (fs env).stm fun os e => match valsO os with
  | some [a, b] => (match (setN i a e).bind (setN j b) with
    | some e' => .nx e'
    | none => .bad)
  | _ => .bad
theorem Good.setVal2 {K : PySem.W.Frag} {F : Fx} {O : Own} {σ : L2.St} {H : Hp} {e e' : Env} {i : Nat} {d : D} {v : V} (g : Good K F O σ H e) (r : Rep K H (Sx F.S0 O) v d) (h : setN i d e = some e') : Good K F (O.drop i) (σ.set i (some v)) H e' := by
  unfold setN at h
  split at h
  · rename_i hl
    rw [Bool.and_eq_true, decide_eq_true_eq] at hl
    injection h with h; subst h
    exact g.setVal r hl.1 (by simpa using hl.2)
  · cases h
theorem s1_par2 {i j : Nat} {x y : Str} {fs : Env → Out (List Opd)} {px py pt : Pos} {kt k2 pt2} (hc : X.calm = true) (hN : X.N.Nodup) (hi : X.N[i]? = some x) (hj : X.N[j]? = some y) (hij : i ≠ j)
    (hx : X.env.scope.names.lookup x = some .local) (hy : X.env.scope.names.lookup y = some .local)
    (hw : swappedStores [.Tuple [.Name x px, .Name y py] kt pt] (.Tuple [a, b] k2 pt2) X.env = pure (some [x, y]))
    (hs : swapsWithSole [.Tuple [.Name x px, .Name y py] kt pt] (.Tuple [a, b] k2 pt2) pos.line X.env = pure false) (h : SA X [a, b] fs) :
    S1 X (.Assign [.Tuple [.Name x px, .Name y py] kt pt] (.Tuple [a, b] k2 pt2) pos) (dPar2 i j fs) := by
  intro Wx tk F O σ H env gd N p
  refine TS.by (ps_par hc hN hi hj hij hx hy pa_of hw hs) (h Wx tk F O σ H env gd _ (PstS.expr p fun os e1 vs H1 O1 s1 f1 g1 r1 p1 => ?_))
  cases q : valsO os with
  | none => rw [q] at p1; exact p1.elim
  | some ds =>
    rw [q] at p1
    have rr := valsO_reps r1 q
    match ds, rr, p1 with
    | [a1, a2], rr, p1 =>
      cases rr with
      | cons q1 rr =>
        cases rr with
        | cons q2 rr =>
          cases rr
          simp only at p1
          cases w1 : setN i a1 e1 with
          | none => rw [w1] at p1; exact p1.elim
          | some e2 =>
            cases w2 : setN j a2 e2 with
            | none => simp only [w1, Option.bind, w2] at p1; exact p1.elim
            | some e3 =>
              simp only [w1, Option.bind, w2] at p1
              refine ⟨_, _, rfl, ?_⟩
              exact p1.nxtN (Own.drop_sub.trans Own.drop_sub).nw .refl ((g1.setVal2 q1 w1).setVal2 (Rep.mono (fun _ z => Own.drop_sub.sx z) q2) w2)
    | [], _, p1 => exact p1.elim
    | [_], _, p1 => exact p1.elim
    | _ :: _ :: _ :: _, _, p1 => exact p1.elim
@[simp] theorem u_dPar2 {s : Slot} {e : Env} {i j : Nat} {fs : Env → Out (List Opd)} : dPar2 i j fs (s :: e) = (fs (s :: e)).stm fun os e => match valsO os with
  | some [a, b] => (match (setN i a e).bind (setN j b) with
    | some e' => .nx e'
    | none => .bad)
  | _ => .bad := (rfl)
/-! ### x in range(n) -/
theorem cr_range1 : CallR X (.type "range") (fun vs H Q => ∃ j, vs = [V.int j] ∧ ∀ p, H p = none → Q (.ref p) (upd H p (.rng 0 j))) := by
  intro pins s σ H vs us Q I r h
  obtain ⟨j, rfl, q⟩ := h
  cases r with
  | cons rj rr =>
    cases rr
    obtain ⟨u, rfl⟩ := rj
    refine call_range_1 ⟨.ref s.heap.objs.size, upd H s.heap.objs.size (.rng 0 j), I.laid (t' := s.toks + 2) (fun b o e => Heap.get?_push_of_some _ e) (Nat.le_refl _) ?_, rfl, q _ (I.hok.fresh (Nat.le_refl _))⟩
    exact ⟨_, u, _, Heap.get?_push_size _ rfl⟩
def inRng (x y : D) : Option D := match x, y with
  | .int i, .int j => some (.bl (decide (0 ≤ i ∧ i < j)))
  | _, _ => none
theorem se_inRng {pf pc : Pos} (hg : Gl X "range") (hm : X.mg "range" = none) (hst : PySem.W.isStarred b = false) (ha : SO X a fa) (hb : SO X b fb) (hm2 : behindInMarks .In (.Call (.Name "range" pf) [b] [] pc) = false) :
    SE X (.Compare a [.In] [.Call (.Name "range" pf) [b] [] pc] pos) (bin2 inRng fa fb) := by
  intro Wx tk F O σ H env gd Q p
  refine TE.by (pe_cmpR op_in_rng pe_of (pe_callTy cr_range1 hg hm boot_range (pa_cons pe_of pa_nil (starEach_plain hst _)) (by decide) (by decide) (starEach_plain hst _) rfl) hm2) ?_
  refine SO.two ha hb tk gd p fun x y H2 O2 e2 d1 d2 d g2 r1 r2 e k => ?_
  cases d1 <;> cases d2 <;> simp only [inRng] at e <;> first | (cases e; done) | skip
  injection e with e; subst e
  cases r1; cases r2
  rename_i i j
  exact ⟨j, rfl, fun q hq => ⟨i, q, 0, j, rfl, rfl, upd_same, k _ _ (same_new hq) (.bl _)⟩⟩
end
/-! ### a def that shows, called where nothing is being shown -/
structure CalG (P : Program) (w : World) (K : PySem.W.Frag) (mg : Str → Option Value) (base : Heap) (k : Nat) (x : Str) (np : Nat) (den : List Arg → Res) : Prop where
  ex : ∃ (f : Addr) (fd : FuncData) (ps : List Str), FnG P w K mg base k f fd ps (spD K mg np den) ∧ mg x = some (.ref f) ∧ PySem.W.keepIn K (.ref f) = true ∧ Binds K fd ps []
  len : ∀ args, args.length ≠ np → den args = .bad
theorem calG {P : Program} {w : World} {K : PySem.W.Frag} {mg : Str → Option Value} {base : Heap} {x qual : Str} {params : Arguments} {body : List Stmt} {scope : Scope} {f : Addr} {fd : FuncData} {ps : List Str} {k np : Nat} {den : List Arg → Res} (F : FunD K x qual params body scope [] [] f fd) (ok : FnG P w K mg base k f fd ps (spD K mg np den)) (hm : mg x = some (.ref f)) (hl : ∀ args, args.length ≠ np → den args = .bad)
    (h : ∀ (kV doc pm : Value) (an : Option Addr) (cdv ct : Value) (us : List Value), us.length = ps.length → bindArgs (PySem.W.fnOf x qual params body scope .none kV doc pm an cdv ct) ⟨us, []⟩ = pure (ps.zip us)) : CalG P w K mg base k x np den :=
  ⟨⟨f, fd, ps, ok, hm, F.kp, F.bindsN h⟩, hl⟩
section
variable {X : Cx} {a e : Expr} {es : List Expr} {fs : Env → Out (List Opd)} {x : Str} {pf pos : Pos} {k j np : Nat} {den : List Arg → Res} {f : Addr} {fd : FuncData} {ps : List Str} {sp : Sp} {t : TA}
theorem pe_callG {E : L2.St → XK} (F : FnG X.prog X.w X.K X.mg X.base k f fd ps sp) (hG : X.A.guards = some []) (hr : Room k X.A) (hg : Gl X x) (hm : X.mg x = some (.ref f)) (hk : PySem.W.keepIn X.K (.ref f) = true) (hb : Binds X.K fd ps []) (hx : ∀ σ, PassesAt (L2N.CX X.prog X.w) X σ (E σ))
    (ha : PA X (e :: es) t) (hdb : (x == ("__debug__" : Str)) = false) (he : starEach (e :: es) X.env = (false, eval e X.env) :: starEach es X.env) (hpl : (backTo pos (starEach es X.env)).any (·.1) = false) :
    PE X (.Call (.Name x pf) (e :: es) [] pos) (tCallS sp E t) := by
  refine ⟨fun pins s σ H Q I h => ?_⟩
  refine wpAny_Call_Name_kw (ld_glob I hg hm ?_ hdb)
  refine PySem.W.callWith_K (h₀ := X.base) I.ok.mod.kin hk (thn (ha.run pos pins s σ H _ I h) fun us s1 ⟨vs, H1, I1, r, q⟩ => ⟨I1.kIn, ?_⟩) he hpl
  have hl : us.length = ps.length := by rw [← r.length]; exact F.len _ _ _ _ q
  have b := hb s1 us I1.kIn (by rw [List.append_nil]; exact hl)
  rw [List.append_nil] at b
  refine wpAny_call (codeAny_mono (F.run X.A X.stack s1 H1 ⟨us, []⟩ us vs Q (E σ) hr hG I1.env0 b r q) fun r s' hq => ?_)
  cases r with
  | error e => exact hx σ pins H1 s1 e s' I1 hq
  | ok fl =>
    cases fl with
    | ret u => exact I1.after hq
    | next => exact False.elim hq
    | brk => exact False.elim hq
    | cont => exact False.elim hq
theorem FnG.mono {P : Program} {w : World} {K : PySem.W.Frag} {mg : Str → Option Value} {base : Heap} {i k : Nat} (F : FnG P w K mg base i f fd ps sp) (h : i ≤ k) : FnG P w K mg base k f fd ps sp :=
  ⟨F.len, fun A outer s H args us vs Q E hr => F.run A outer s H args us vs Q E (hr.mono h)⟩
theorem sf_callG (c : CalG X.prog X.w X.K X.mg X.base k x np den) (hG : X.A.guards = some []) (hr : Room j X.A) (hk : k ≤ j) (hg : Gl X x) (hdb : (x == ("__debug__" : Str)) = false) (hst : (a :: es).all (fun e => !PySem.W.isStarred e) = true) (h : SA X (a :: es) fs) : SF X (.Call (.Name x pf) (a :: es) [] pos) (callU true den fs) := by
  obtain ⟨⟨f, fd, ps, Fn, hm, hkp, hb⟩, hl⟩ := c
  rw [List.all_cons, Bool.and_eq_true] at hst
  intro Wx tk F O σ H env gd Q p
  refine TE.by (pe_callG (Fn.mono hk) hG hr hg hm hkp hb (L2N.passAt tk) pa_of hdb (starEach_plain (by simpa using hst.1) _) (pl_of hst.2 _ _)) ?_
  refine h Wx tk F O σ H env gd _ (PstF.bind p fun os e1 vs H1 O1 s1 f1 g1 r1 p1 => ?_)
  refine call_sp (fresh := true) g1 r1 hl (fun z => ?_) (fun d e' v H' z ff gg rep fr => ?_) (fun y e' cls dx H' z ff gg xr => ?_)
  · rw [z] at p1; exact p1
  · rw [z] at p1; exact p1 v H' O1 .refl ff gg (fr rfl).1 (fr rfl).2
  · rw [z] at p1; exact p1 cls dx H' O1 .refl ff gg xr
/-! ### a def without parameters, called -/
theorem sf_call0 (c : CalD X.prog X.w X.K X.mg X.base k x np den) (hr : Room j X.A) (hk : k ≤ j) (hg : Gl X x) (hdb : (x == ("__debug__" : Str)) = false) : SF X (.Call (.Name x pf) [] [] pos) (callU true den nilA) := by
  obtain ⟨⟨f, fd, ps, Fn, hm, hkp, hb⟩, hl⟩ := c
  intro Wx tk F O σ H env gd Q p
  have Fn' := Fn.mono hk
  refine TE.by (t := fun σ H Q => spD X.K X.mg np den [] H Q (WE Wx σ)) ⟨fun pins s σ H Q I h => ?_⟩ ?_
  · refine wpAny_Call_Name_kw (ld_glob I hg hm ?_ hdb)
    refine PySem.W.callWith_K0 I.kIn hkp ?_
    exact run_fnS Fn' hr hb (L2N.passAt tk σ) I .nil h
  · have p1 : PstF X.K X.mg Wx F O σ H Q (callR true den [] env) := p
    refine call_sp (os := []) (vs := []) (fresh := true) gd trivial hl (fun z => ?_) (fun d e' v H' z ff gg rep fr => ?_) (fun y e' cls dx H' z ff gg xr => ?_)
    · rw [z] at p1; exact p1
    · rw [z] at p1; exact p1 v H' O .refl ff gg (fr rfl).1 (fr rfl).2
    · rw [z] at p1; exact p1 cls dx H' O .refl ff gg xr
end
end Rp
set_option Elab.async false
set_option linter.all false
set_option maxRecDepth 100000
set_option maxHeartbeats 4000000
/-! RpZj: an exception made by keywords. -/
namespace Rp
open PySem Builtin PySem.HandSPX
section
variable {nm q : Str} {C N fI : Addr} {bs bm : List Value} {dct : Bool} {sn : List Str} {sub : List Value} {ab : Bool} {col : Option Bool} {dd : Option Addr} {k0 k1 k2 k3 k5 : Option Value} {h : Heap} {g : Array GenState} {d : Drawn} {t : Nat} {os : OsState} {kw : List (Str × Value)}
/-- what the class is asked for: whether types stand in its mro -/
theorem mro_says (hb : refsVE bm = true) (T : String) : (Value.ref C :: bm).contains (.type T) = veTail.contains (.type T) := by rw [List.contains_cons, refsVE_contains T bm hb]; rfl
theorem has_VE (hb : refsVE bm = true) : (Value.ref C :: bm).contains (.type "ValueError") = true := (mro_says hb _).trans (by decide +kernel)
theorem has_AE (hb : refsVE bm = true) : (Value.ref C :: bm).contains (.type "AttributeError") = false := (mro_says hb _).trans (by decide +kernel)
theorem has_NE (hb : refsVE bm = true) : (Value.ref C :: bm).contains (.type "NameError") = false := (mro_says hb _).trans (by decide +kernel)
/-- ValueError.__new__(C, **kw): the keywords are not looked at -/
theorem newK {prog : Program} {w : World} {A : Around} {R : Result → Shared → Prop} (hb : refsVE bm = true) (hC : h.get? C = some (excClassObj nm q C N bs bm dct sn sub ab col dd k0 k1 k2 k3 k5 "ValueError.__new__"))
    (z : R (.ok (.ret (.ref (h.objs.size + 1)))) ⟨(h.push (W.kdv_tup [])).push (excO C h.objs.size), g, d, t, os⟩) : codeAny (model prog w) A (.builtin "ValueError.__new__" ⟨[.ref C], kw⟩) R ⟨h, g, d, t, os⟩ := by
  have X := F.excBase_ValueError
  have e1 := X.ends
  have y1 := has_VE (C := C) hb
  have y2 := has_AE (C := C) hb
  have y3 := has_NE (C := C) hb
  refine codeAny_builtinAt X.entry ?_
  unfold Builtin.«BaseException.__new__»
  refine wpAt_bind ?_
  change wpAt _ _ _ (stack >>= _) _ _ _
  refine wpAt_bind (wpAt_stack fun _ _ => wpAt_of_wpAny ?_)
  wp_walk
  refine wpAt_of_wpAny ?_
  rw [X.owner]
  have small : ¬ ([] : List Value).toArray.size > sizeLine := by simp
  repeat (first | rw [if_neg small] | with_reducible refine wpAny_madeHere_exc X.canon hC ?_ | (with_reducible refine wpAny_isSubtype_exc hC ?_; first | rw [y1] | rw [y2] | rw [y3]) | with_reducible refine wpAny_loadPart_at hC ?_ | wp_step)
  show R _ _
  rw [Heap.size_push]
  exact z
/-- C(**kw), C's own __init__ at fI: the new object, then the __init__ with the keywords -/
theorem callK {prog : Program} {w : World} {A : Around} {R : Result → Shared → Prop} (hb : refsVE bm = true) (hC : h.get? C = some (excClassObj nm q C N bs bm dct sn sub ab col dd k0 k1 k2 k3 k5 "ValueError.__new__"))
    (hi : W.Looks (model prog w) h (typeLookup (.ref C) "__init__") (some (.ref fI))) (hf : ∀ self, W.Looks (model prog w) h (bindSpecial (.ref fI) self) (.ref fI, [self]))
    (z : codeAny (model prog w) (A.under (.builtin "type.__call__" ⟨[.ref C], kw⟩)) (.call (.ref fI) ⟨[.ref (h.objs.size + 1)], kw⟩) (W.InitBack (h.objs.size + 1) R) ⟨(h.push (W.kdv_tup [])).push (excO C h.objs.size), g, d, t, os⟩) :
    codeAny (model prog w) A (.call (.ref C) ⟨[], kw⟩) R ⟨h, g, d, t, os⟩ := by
  have X := F.excBase_ValueError
  have tl := tc_lookup
  have tb := tc_bind (.ref C)
  have ts := tc_sub
  have star := X.noStar
  have y1 := has_VE (C := C) hb
  have ty : (⟨h, g, d, t, os⟩ : Shared).TypeIs (.ref C) "type" := ⟨_, hC, rfl⟩
  have later : ∀ b o, h.get? b = some o → ((h.push (W.kdv_tup [])).push (excO C h.objs.size)).get? b = some o := fun b o e => Heap.get?_push_of_some _ (Heap.get?_push_of_some _ e)
  have newO : ((h.push (W.kdv_tup [])).push (excO C h.objs.size)).get? (h.objs.size + 1) = some (excO C h.objs.size) := by heap_get
  have self_in : (Value.ref C :: bm).contains (.ref C) = true := by simp
  -- the class is called as an object of type
  refine codeAny_of_tree ?_
  change wpAny _ _ (callAny (.ref C) _) _ _ _
  repeat (any_goals (first | assumption | with_reducible refine wpAny_loadPart_at hC ?_ | wp_step))
  refine ⟨rfl, codeAny_call_builtin_at (Code.quiet_builtin _ (by decide +kernel)) entry_typeCall ?_⟩
  -- its arguments are looked at
  simp only [checkBuiltinCall, tc_kind, tc_split]
  repeat (any_goals (first | assumption | with_reducible refine wpAny_loadPart_at hC ?_ | with_reducible refine wpAny_onRaise ?_ | with_reducible refine wpAny_map ?_ | wp_step))
  -- type.__call__
  repeat (first | with_reducible refine wpAny_madeBy_exc hC ?_ | with_reducible refine wpAny_loadPart_at hC ?_ | wp_step)
  refine codeAny_call_builtin_code (Code.quiet_builtin _ X.quiet) ?_
  simp only [checkBuiltinCall, X.newKind, X.newSplit, X.newRow]
  repeat (first | refine wpAny_staticBase_exc hC ?_ | refine wpAny_madeBy_exc hC ?_ | (refine wpAny_isSubtype_exc hC ?_; rw [y1]) | refine wpAny_loadPart_at hC ?_ | simp only [bne_self_eq_false, Bool.false_eq_true, if_false] | wp_step)
  refine newK hb hC ?_
  change wpAny _ _ _ _ _ _
  unfold isInstance
  repeat (first | with_reducible refine wpAny_loadPart_at newO ?_ | (with_reducible refine wpAny_isSubtype_exc (later _ _ hC) ?_; rw [self_in]) | wp_step)
  change wpAny _ _ (typeLookup (.ref C) _) _ _ _
  refine (hi.keeps later).at (wpAny_holding (wpAny_bind (((hf (.ref (h.objs.size + 1))).keeps later).at ?_)))
  refine wpAny_bind (wpAny_call (codeAny_mono z fun r s' y => ?_))
  cases r with
  | error e => exact y
  | ok f =>
    cases f with
    | ret v =>
      obtain ⟨rfl, y⟩ := y
      first | exact wpAny_pure (wpAny_pure y) | (wp_walk <;> exact y) | wp_walk
    | _ => exact y.elim
end
end Rp
namespace Rp
open PySem PySem.Spec PyProof.Rows L2
section
variable {X : Cx} {pos : Pos}
/-- .. and its __init__ by keywords ks, in the places ix -/
structure OwnK (P : Program) (w : World) (K : PySem.W.Frag) (mg : Str → Option Value) (base : Heap) (x : Str) (ps ks : List Str) (ix : List Nat) (k : Nat) : Prop where
  o : OexC K (He.ga K x)
  g : mg x = some (.ref (He.ga K x))
  i : ∃ (fI : Addr) (fd : FuncData) (qs : List Str), PySem.W.findIn K (.ref (He.ga K x)) "__init__" = some (some (.ref fI)) ∧ PySem.W.typeIn K (.ref fI) = some (.type "function") ∧
    FnOk P w K mg base (L2N.CX P w) k fI fd qs (spI (He.ga K x) ps) ∧ ∀ (s : Shared) (self : Value) (ws : List Value), K.In s.heap → ws.length = ks.length → BindsTo s fd ⟨[self], ks.zip ws⟩ (qs.zip (self :: pm ix ws))
def tMkK (n : Nat) (ix : List Nat) (C : Addr) (sp : Sp) (ta : TA) : TE := fun σ H Q => ta σ H fun zs H1 => zs.length = n ∧ ∀ a, H1 a = none → sp (.ref a :: pm ix zs) (upd H1 a (exo a C none)) (fun v H2 => v = .non ∧ Q (.ref a) H2) (fun _ _ _ => False)
theorem pe_oexK {k : Nat} {x : Str} {C fI : Addr} {fd : FuncData} {ps ks : List Str} {ix : List Nat} {sp : Sp} {kws : List Keyword} {ta : TA} {p : Pos} (T : OexC X.K C) (iC : PySem.W.findIn X.K (.ref C) "__init__" = some (some (.ref fI))) (tI : PySem.W.typeIn X.K (.ref fI) = some (.type "function"))
    (F1 : FnOk X.prog X.w X.K X.mg X.base (L2N.CX X.prog X.w) k fI fd ps sp) (hr : Room (k + 1) X.A) (hb : ∀ (s : Shared) (self : Value) (ws : List Value), X.K.In s.heap → ws.length = ks.length → BindsTo s fd ⟨[self], ks.zip ws⟩ (ps.zip (self :: pm ix ws))) (hg : Gl X x) (hm : X.mg x = some (.ref C)) (hkw : PK X kws ta)
    (hall : (backToKw pos (keywordEach kws X.env)).all (·.1.isSome) = true) (hks : (backToKw pos (keywordEach kws X.env)).filterMap (·.1) = ks) (hdb : (x == ("__debug__" : Str)) = false)
    (hpl : ((backTo pos (starEach [] X.env)).any (·.1) || (backToKw pos (keywordEach kws X.env)).any (·.1.isNone)) = false) :
    PE X (.Call (.Name x p) [] kws pos) (tMkK ks.length ix C sp ta) := by
  refine ⟨fun pins s σ H Q I h => ?_⟩
  obtain ⟨nm, q, N, bs, bm, sn, sub, ab, col, dd, k0, k1, k2, k3, k5, hC, hbm⟩ := T.cls
  refine wpAny_Call_Name_kw (ld_glob I hg hm ?_ hdb)
  refine PySem.W.callWith_KW0 (h₀ := X.base) I.ok.mod.kin T.kC hall ?_ hpl
  refine thn (hkw.run pos pins s σ H _ I h) fun ws s1 ⟨zs, H1, I1, rz, l2, q1⟩ => ⟨I1.kIn, ?_⟩
  rw [hks]
  have hws : ws.length = ks.length := rz.length.symm.trans l2
  show wpAny _ _ (call (.ref C) [] (ks.zip ws)) _ _ _
  obtain ⟨hp, g, dr, tk, os⟩ := s1
  obtain ⟨hn, I2⟩ := Inv.laidX I1 C []
  have hq := q1 (hp.objs.size + 1) hn
  have r2 : Vals (V.ref (hp.objs.size + 1) :: pm ix zs) (Value.ref (hp.objs.size + 1) :: pm ix ws) := .cons rfl (pm_vals rz ix)
  have bb := hb _ (Value.ref (hp.objs.size + 1)) ws I2.kIn hws
  refine wpAny_call (callK hbm (I1.kIn _ _ hC) (PySem.W.looks_findIn I1.kIn iC) (fun self => PySem.W.bind_fn I1.kIn self tI)
    (codeAny_mono (F1.run _ X.stack _ _ ⟨[Value.ref (hp.objs.size + 1)], ks.zip ws⟩ (Value.ref (hp.objs.size + 1) :: pm ix ws) _ _ (fun _ _ _ => False) (hr.make C [] (ks.zip ws)) (I2.env0.make C [] (ks.zip ws)) bb r2 hq) fun r s' hq' => ?_))
  cases r with
  | error er => exact L2N.passAt (W := fun _ _ _ _ => False) takes00 σ pins _ _ er s' I2 hq'
  | ok fl =>
    cases fl with
    | ret u =>
      obtain ⟨v, H2, os2, bare2, un2, hok2, rv, ev, q2⟩ := hq'
      subst ev
      exact ⟨rv, .ref (hp.objs.size + 1), H2, I2.call' (ch := []) os2 un2 hok2 bare2 (fun b z => absurd z (by simp)), rfl, q2⟩
    | next => exact False.elim hq'
    | brk => exact False.elim hq'
    | cont => exact False.elim hq'
def exMkK (n : Nat) (x : Str) (ps : List Str) (ix : List Nat) (fs : Env → Out (List Opd)) : Env → Out D := fun env => (fs env).bind fun os e => match valsO (pm ix os) with
  | some ds => if os.length = n ∧ ds.length = ps.length then .ok (.obj 1 [.str x, .lst (ps.reverse.map .str), .lst ds.reverse]) e else .bad
  | none => .bad
theorem se_exMkK {k j : Nat} {x : Str} {ps ks : List Str} {ix : List Nat} {kws : List Keyword} {fs : Env → Out (List Opd)} {pf : Pos} {n : Nat} (hn : ks.length = n) (c : OwnK X.prog X.w X.K X.mg X.base x ps ks ix k) (hr : Room j X.A) (hk : k + 1 ≤ j) (hg : Gl X x) (hdb : (x == ("__debug__" : Str)) = false)
    (hall : (backToKw pos (keywordEach kws X.env)).all (·.1.isSome) = true) (hks : (backToKw pos (keywordEach kws X.env)).filterMap (·.1) = ks)
    (hpl : ((backTo pos (starEach [] X.env)).any (·.1) || (backToKw pos (keywordEach kws X.env)).any (·.1.isNone)) = false) (h : SK X kws fs) : SE X (.Call (.Name x pf) [] kws pos) (exMkK n x ps ix fs) := by
  subst hn
  obtain ⟨fI, fd, qs, iC, tI, F1, hb⟩ := c.i
  intro Wx tk F O σ H env gd Q p
  refine TE.by (pe_oexK c.o iC tI F1 (hr.mono hk) hb hg c.g pk_of hall hks hdb hpl) ?_
  refine h Wx tk F O σ H env gd _ (Pst.bind p fun os e1 zs H1 O1 s1 f1 g1 r1 p1 => ?_)
  cases q : valsO (pm ix os) with
  | none => simp only [q] at p1; exact p1.elim
  | some ds =>
    simp only [q] at p1
    have r := valsO_reps (pm_repos r1 ix) q
    have p1' : Pst X.K X.mg Wx F O1 σ H1 (Rep X.K) Q (if os.length = ks.length ∧ ds.length = ps.length then .ok (.obj 1 [.str x, .lst (ps.reverse.map .str), .lst ds.reverse]) e1 else .bad) := p1
    split at p1'
    · rename_i hl
      have hl' : (pm ix zs).length = ps.length := by rw [r.length]; exact hl.2
      refine ⟨(reposO_len r1).trans hl.1, fun a ha => ⟨a, pm ix zs, rfl, hl', upd_same, fun dx H2 z1 z2 z3 z4 z5 => ⟨rfl, ?_⟩⟩⟩
      obtain ⟨sm, rep⟩ := made_rep ha z1 z2 z3 z4 z5 (fun z hz => g1.dom hz) hl' r
      exact p1'.okN g1 sm rep
    · exact p1'.elim
end
/-! ### such an __init__ -/
section
variable {P : Program} {w : World} {K : PySem.W.Frag} {mg : Str → Option Value} {base : Heap} {qual : Str} {params : Arguments} {body : List Stmt} {scope : Scope} {f : Addr} {fd : FuncData} {C : Addr} {x0 x1 x2 f1 f2 : Str} {p1 p2 p3 p4 p5 p6 p7 p8 : Pos}
theorem init1 (F : FunD K "__init__" qual params body scope [] [] f fd) (S : FnScope [x0, x1] [x0, x1] scope) (hbd : body = [.Assign [.Attribute (.Name x0 p1) f1 p2] (.Name x1 p3) p4]) (T : OexC K C) (h1 : PySem.W.findIn K (.ref C) f1 = some none)
    (v0 : Vis scope x0) (v1 : Vis scope x1) (d0 : (x0 == ("__debug__" : Str)) = false) (d1 : (x1 == ("__debug__" : Str)) = false) (c0 : (x0 == ("__classdict__" : Str)) = false) (c1 : (x1 == ("__classdict__" : Str)) = false) :
    FnOk P w K mg base (L2N.CX P w) 1 f fd [x0, x1] (spI C [f1]) := by
  subst hbd
  obtain ⟨oc, od, dV, kV, doc, pm, an, cdv, ct, osl, rfl, lk, hcd, hD, hK⟩ := F.ex
  refine fn_of lk hcd S (fun vs H Q E ⟨a, ws, e, hl, _⟩ => by rw [e]; simp [hl]) fun A outer s H vs Q E hr ⟨a, ws, e, hl, ha, k⟩ => ⟨_, pss_one (ps_ost (pe_var (i := 0) rfl v0 d0 c0) (pe_var (i := 1) rfl v1 d1 c1)), ?_⟩
  match ws, hl with
  | [y1], _ =>
    subst e
    exact ⟨y1, rfl, .ref a, rfl, a, C, rfl, T, h1, .inl ⟨ha, fun dx n ne => k dx _ n ne upd_same (by rw [upd_ne ne, upd_same]; rfl) fun b n1 n2 => by rw [upd_ne n1, upd_ne n2]⟩⟩
theorem init2 (F : FunD K "__init__" qual params body scope [] [] f fd) (S : FnScope [x0, x1, x2] [x0, x1, x2] scope) (hbd : body = [.Assign [.Attribute (.Name x0 p1) f1 p2] (.Name x1 p3) p4, .Assign [.Attribute (.Name x0 p5) f2 p6] (.Name x2 p7) p8]) (T : OexC K C) (h1 : PySem.W.findIn K (.ref C) f1 = some none) (h2 : PySem.W.findIn K (.ref C) f2 = some none)
    (v0 : Vis scope x0) (v1 : Vis scope x1) (v2 : Vis scope x2) (d0 : (x0 == ("__debug__" : Str)) = false) (d1 : (x1 == ("__debug__" : Str)) = false) (d2 : (x2 == ("__debug__" : Str)) = false) (c0 : (x0 == ("__classdict__" : Str)) = false) (c1 : (x1 == ("__classdict__" : Str)) = false) (c2 : (x2 == ("__classdict__" : Str)) = false) :
    FnOk P w K mg base (L2N.CX P w) 1 f fd [x0, x1, x2] (spI C [f1, f2]) := by
  subst hbd
  obtain ⟨oc, od, dV, kV, doc, pm, an, cdv, ct, osl, rfl, lk, hcd, hD, hK⟩ := F.ex
  refine fn_of lk hcd S (fun vs H Q E ⟨a, ws, e, hl, _⟩ => by rw [e]; simp [hl]) fun A outer s H vs Q E hr ⟨a, ws, e, hl, ha, k⟩ => ⟨_, pss_cons (ps_ost (pe_var (i := 0) rfl v0 d0 c0) (pe_var (i := 1) rfl v1 d1 c1)) (pss_one (ps_ost (pe_var (i := 0) rfl v0 d0 c0) (pe_var (i := 2) rfl v2 d2 c2))), ?_⟩
  match ws, hl with
  | [y1, y2], _ =>
    subst e
    refine ⟨y1, rfl, .ref a, rfl, a, C, rfl, T, h1, .inl ⟨ha, fun dx n ne => ?_⟩⟩
    refine ⟨y2, rfl, .ref a, rfl, a, C, rfl, T, h2, .inr ⟨dx, [(f1, y1)], upd_same, by rw [upd_ne ne, upd_same], by show 1 ≤ 900; decide, ?_⟩⟩
    exact k dx _ n ne (by rw [upd_ne (Ne.symm ne), upd_same]) (by rw [upd_same]; rfl) fun b n1 n2 => by rw [upd_ne n2, upd_ne n1, upd_ne n2]
theorem bindsInit {ps ks : List Str} {ix : List Nat} {x : Str} (F : FunD K x qual params body scope [] [] f fd)
    (h : ∀ (kV doc pm : Value) (an : Option Addr) (cdv ct self : Value) (ws : List Value), ws.length = ks.length → bindArgs (PySem.W.fnOf x qual params body scope .none kV doc pm an cdv ct) ⟨[self], ks.zip ws⟩ = pure (ps.zip (self :: Rp.pm ix ws))) :
    ∀ (s : Shared) (self : Value) (ws : List Value), K.In s.heap → ws.length = ks.length → BindsTo s fd ⟨[self], ks.zip ws⟩ (ps.zip (self :: Rp.pm ix ws)) := by
  intro s self ws _ hw
  obtain ⟨oc, od, dV, kV, doc, pm, an, cdv, ct, osl, rfl, lk, hcd, hD, hK⟩ := F.ex
  rcases hD with ⟨_, rfl⟩ | ⟨e, _⟩
  · exact .of_eq (h kV doc pm an cdv ct self ws hw)
  · exact absurd rfl e
/-- the statements of a class -/
def clsBody : Stmt → List Stmt
  | .ClassDef _ _ _ b .. => b
  | _ => []
/-- what the head must say of such a class -/
def oexB (x : Str) (K : PySem.W.Frag) : Bool :=
  let C := He.ga K x
  (match K.lookup C with
    | some ⟨.type "type", _, .cls cd, sl⟩ => (match cd.mro, sl.toList with
      | .ref C' :: bm, [_, _, _, _, some (.builtin n), _] => C' == C && (n == "ValueError.__new__" && (!cd.hasDel && (cd.hasDict && PySem.HandSPX.refsVE bm)))
      | _, _ => false)
    | _ => false) &&
  (decide (PySem.W.findIn K (.ref C) "__setattr__" = some (some (.builtin "object.__setattr__"))) && (decide (PySem.W.subIn K (.ref C) (.type "BaseException") = some true) && (decide (PySem.W.typeIn K (.ref C) = some (.type "type")) && (PySem.W.keepIn K (.ref C) &&
    (decide (PySem.W.findIn K (.ref C) "__init__" = some (some (.ref (He.ma K C "__init__")))) && decide (PySem.W.typeIn K (.ref (He.ma K C "__init__")) = some (.type "function")))))))
theorem oexB_ok {x : Str} (h : oexB x K = true) : OexC K (He.ga K x) ∧ PySem.W.findIn K (.ref (He.ga K x)) "__init__" = some (some (.ref (He.ma K (He.ga K x) "__init__"))) ∧ PySem.W.typeIn K (.ref (He.ma K (He.ga K x) "__init__")) = some (.type "function") := by
  unfold oexB at h
  simp only [Bool.and_eq_true, decide_eq_true_eq] at h
  obtain ⟨h0, h1, h2, h3, h4, h5, h6⟩ := h
  refine ⟨⟨?_, h1, h2, h3, h4⟩, h5, h6⟩
  split at h0
  · rename_i dd cd sl ho
    split at h0
    · rename_i C' bm k0 k1 k2 k3 n k5 hm hs
      simp only [Bool.and_eq_true, beq_iff_eq, Bool.not_eq_true'] at h0
      obtain ⟨rfl, rfl, hdel, hdc, hb⟩ := h0
      obtain ⟨nm, bs, mro, ns, qn, hd, sn, sub, ab, col, del⟩ := cd
      dsimp only at hm hdel hdc
      subst hm hdel hdc
      have hsl : sl = #[k0, k1, k2, k3, some (.builtin "ValueError.__new__"), k5] := by
        obtain ⟨l⟩ := sl
        simp only at hs
        rw [hs]
      subst hsl
      exact ⟨nm, qn, ns, bs, bm, sn, sub, ab, col, dd, k0, k1, k2, k3, k5, ho, hb⟩
    · cases h0
  · cases h0
end
end Rp
set_option Elab.async false
set_option linter.all false
set_option maxRecDepth 100000
set_option maxHeartbeats 4000000
/-! The walk of the law's defs, printed by gen.py. -/
namespace K01
open PySem PySem.Spec PyProof.Rows L2 L2H HotX Rp
def top (i : Nat) : Stmt := PySem.Challenge.pw_rideplans_k01_times_and_days.main.body.getD i (.Pass ⟨0, 0, 0, 0⟩)
theorem bt_ValueError : bootBuiltins "ValueError" = some (.type "ValueError") := by decide +kernel
theorem bt_abs : bootBuiltins "abs" = some (.builtin "abs") := by decide +kernel
theorem bt_bool : bootBuiltins "bool" = some (.type "bool") := by decide +kernel
theorem bt_int : bootBuiltins "int" = some (.type "int") := by decide +kernel
theorem bt_isinstance : bootBuiltins "isinstance" = some (.builtin "isinstance") := by decide +kernel
theorem bt_len : bootBuiltins "len" = some (.builtin "len") := by decide +kernel
theorem bt_max : bootBuiltins "max" = some (.builtin "max") := by decide +kernel
theorem bt_min : bootBuiltins "min" = some (.builtin "min") := by decide +kernel
theorem bt_repr : bootBuiltins "repr" = some (.builtin "repr") := by decide +kernel
abbrev s_is_integer : Stmt := top 35
theorem sc_is_integer : FnScope ["value", "low", "high"] ["value", "low", "high"] (defScope s_is_integer) := ⟨rfl, rfl, rfl, by decide +kernel, rfl, by decide +kernel, by decide +kernel⟩
abbrev s_check_time : Stmt := top 36
theorem sc_check_time : FnScope ["time"] ["time"] (defScope s_check_time) := ⟨rfl, rfl, rfl, by decide +kernel, rfl, by decide +kernel, by decide +kernel⟩
abbrev s_check_day : Stmt := top 37
theorem sc_check_day : FnScope ["day"] ["day"] (defScope s_check_day) := ⟨rfl, rfl, rfl, by decide +kernel, rfl, by decide +kernel, by decide +kernel⟩
abbrev s_day_of : Stmt := top 38
theorem sc_day_of : FnScope ["time"] ["time"] (defScope s_day_of) := ⟨rfl, rfl, rfl, by decide +kernel, rfl, by decide +kernel, by decide +kernel⟩
abbrev s_minute_of : Stmt := top 39
theorem sc_minute_of : FnScope ["time"] ["time"] (defScope s_minute_of) := ⟨rfl, rfl, rfl, by decide +kernel, rfl, by decide +kernel, by decide +kernel⟩
abbrev s_weekday_of : Stmt := top 40
theorem sc_weekday_of : FnScope ["day"] ["day"] (defScope s_weekday_of) := ⟨rfl, rfl, rfl, by decide +kernel, rfl, by decide +kernel, by decide +kernel⟩
abbrev s_time_at : Stmt := top 41
theorem sc_time_at : FnScope ["day", "minute"] ["day", "minute"] (defScope s_time_at) := ⟨rfl, rfl, rfl, by decide +kernel, rfl, by decide +kernel, by decide +kernel⟩
abbrev s_l_jug : Stmt := top 43
theorem sc_l_jug : FnScope ["_law_script", "_law_at", "_law_cell"] ["_law_script", "_law_at"] (defScope s_l_jug) := ⟨rfl, rfl, rfl, by decide +kernel, rfl, by decide +kernel, by decide +kernel⟩
abbrev s_l_pour : Stmt := top 44
theorem sc_l_pour : FnScope ["_law_jug_here", "_law_many", "_law_mixed", "_law_taken"] ["_law_jug_here", "_law_many"] (defScope s_l_pour) := ⟨rfl, rfl, rfl, by decide +kernel, rfl, by decide +kernel, by decide +kernel⟩
abbrev s_l_moment : Stmt := top 45
theorem sc_l_moment : FnScope ["_law_jug_here", "_law_some"] ["_law_jug_here"] (defScope s_l_moment) := ⟨rfl, rfl, rfl, by decide +kernel, rfl, by decide +kernel, by decide +kernel⟩
abbrev s_l_word : Stmt := top 46
theorem sc_l_word : FnScope ["_law_e", "_law_pairs", "_law_odd", "_law_found", "_law_tag", "_law_fits"] ["_law_e"] (defScope s_l_word) := ⟨rfl, rfl, rfl, by decide +kernel, rfl, by decide +kernel, by decide +kernel⟩
abbrev s_l_marks : Stmt := top 47
theorem sc_l_marks : FnScope ["_law_e", "_law_found"] ["_law_e"] (defScope s_l_marks) := ⟨rfl, rfl, rfl, by decide +kernel, rfl, by decide +kernel, by decide +kernel⟩
abbrev s_l_classes_right : Stmt := top 48
theorem sc_l_classes_right : FnScope ["_law_made", "_law_k", "_law_e", "_law_uno", "_law_mate", "_law_j"] [] (defScope s_l_classes_right) := ⟨rfl, rfl, rfl, by decide +kernel, rfl, by decide +kernel, by decide +kernel⟩
abbrev s_l_told : Stmt := top 49
theorem sc_l_told : FnScope ["_law_way", "_law_thing", "_law_more", "_law_e"] ["_law_way", "_law_thing", "_law_more"] (defScope s_l_told) := ⟨rfl, rfl, rfl, by decide +kernel, rfl, by decide +kernel, by decide +kernel⟩
abbrev s_l_right : Stmt := top 50
theorem sc_l_right : FnScope ["_law_when", "_law_date", "_law_late", "_law_told_here"] ["_law_when"] (defScope s_l_right) := ⟨rfl, rfl, rfl, by decide +kernel, rfl, by decide +kernel, by decide +kernel⟩
abbrev s_law : Stmt := top 51
theorem sc_law : FnScope ["_law_script", "_law_at", "_law_told_here", "_law_jug_here", "_law_turn", "_law_good", "_law_bad", "_law_date", "_law_late", "_law_way"] ["_law_script"] (defScope s_law) := ⟨rfl, rfl, rfl, by decide +kernel, rfl, by decide +kernel, by decide +kernel⟩
def EXL : List Str := ["InvalidTime", "InvalidDay", "InvalidMinute", "InvalidText", "InvalidCalendar", "InvalidIndex", "InvalidNumber", "NotANetwork", "InvalidStop", "InvalidTrip", "InvalidCall", "NotARun", "InvalidSpan", "InvalidJourney", "InvalidList", "InvalidProfile", "OtherSpan", "OtherStops", "InvalidMessages", "InvalidWaits", "WaitingRing", "InvalidRide", "InvalidLateness", "InvalidChanges", "InvalidChange", "NothingToUndo", "NotATimetable", "NotAStaircase", "NotAllowed", "BadJourney", "TooLate"]
def FLL : List (Str × Str) := [("BadJourney", "index"), ("BadJourney", "word"), ("TooLate", "minutes")]
/-- what the module holds -/
structure Wd (K : PySem.W.Frag) (mg : Str → Option Value) : Prop where
  n_ValueError : mg "ValueError" = none
  n_abs : mg "abs" = none
  n_bool : mg "bool" = none
  n_enumerate : mg "enumerate" = none
  n_int : mg "int" = none
  n_isinstance : mg "isinstance" = none
  n_len : mg "len" = none
  n_max : mg "max" = none
  n_min : mg "min" = none
  n_range : mg "range" = none
  n_repr : mg "repr" = none
  i_DAY : ∃ t, mg "DAY" = some (.int 1440 t)
  e_InvalidCalendar : OwnE K mg "InvalidCalendar" (He.ga K "InvalidCalendar")
  e_InvalidCall : OwnE K mg "InvalidCall" (He.ga K "InvalidCall")
  e_InvalidChange : OwnE K mg "InvalidChange" (He.ga K "InvalidChange")
  e_InvalidChanges : OwnE K mg "InvalidChanges" (He.ga K "InvalidChanges")
  e_InvalidDay : OwnE K mg "InvalidDay" (He.ga K "InvalidDay")
  e_InvalidIndex : OwnE K mg "InvalidIndex" (He.ga K "InvalidIndex")
  e_InvalidJourney : OwnE K mg "InvalidJourney" (He.ga K "InvalidJourney")
  e_InvalidLateness : OwnE K mg "InvalidLateness" (He.ga K "InvalidLateness")
  e_InvalidList : OwnE K mg "InvalidList" (He.ga K "InvalidList")
  e_InvalidMessages : OwnE K mg "InvalidMessages" (He.ga K "InvalidMessages")
  e_InvalidMinute : OwnE K mg "InvalidMinute" (He.ga K "InvalidMinute")
  e_InvalidNumber : OwnE K mg "InvalidNumber" (He.ga K "InvalidNumber")
  e_InvalidProfile : OwnE K mg "InvalidProfile" (He.ga K "InvalidProfile")
  e_InvalidRide : OwnE K mg "InvalidRide" (He.ga K "InvalidRide")
  e_InvalidSpan : OwnE K mg "InvalidSpan" (He.ga K "InvalidSpan")
  e_InvalidStop : OwnE K mg "InvalidStop" (He.ga K "InvalidStop")
  e_InvalidText : OwnE K mg "InvalidText" (He.ga K "InvalidText")
  e_InvalidTime : OwnE K mg "InvalidTime" (He.ga K "InvalidTime")
  e_InvalidTrip : OwnE K mg "InvalidTrip" (He.ga K "InvalidTrip")
  e_InvalidWaits : OwnE K mg "InvalidWaits" (He.ga K "InvalidWaits")
  e_NotANetwork : OwnE K mg "NotANetwork" (He.ga K "NotANetwork")
  e_NotARun : OwnE K mg "NotARun" (He.ga K "NotARun")
  e_NotAStaircase : OwnE K mg "NotAStaircase" (He.ga K "NotAStaircase")
  e_NotATimetable : OwnE K mg "NotATimetable" (He.ga K "NotATimetable")
  e_NotAllowed : OwnE K mg "NotAllowed" (He.ga K "NotAllowed")
  e_NothingToUndo : OwnE K mg "NothingToUndo" (He.ga K "NothingToUndo")
  e_OtherSpan : OwnE K mg "OtherSpan" (He.ga K "OtherSpan")
  e_OtherStops : OwnE K mg "OtherStops" (He.ga K "OtherStops")
  e_WaitingRing : OwnE K mg "WaitingRing" (He.ga K "WaitingRing")
  g_BadJourney : mg "BadJourney" = some (.ref (He.ga K "BadJourney"))
  g_InvalidCalendar : mg "InvalidCalendar" = some (.ref (He.ga K "InvalidCalendar"))
  g_InvalidCall : mg "InvalidCall" = some (.ref (He.ga K "InvalidCall"))
  g_InvalidChange : mg "InvalidChange" = some (.ref (He.ga K "InvalidChange"))
  g_InvalidChanges : mg "InvalidChanges" = some (.ref (He.ga K "InvalidChanges"))
  g_InvalidDay : mg "InvalidDay" = some (.ref (He.ga K "InvalidDay"))
  g_InvalidIndex : mg "InvalidIndex" = some (.ref (He.ga K "InvalidIndex"))
  g_InvalidJourney : mg "InvalidJourney" = some (.ref (He.ga K "InvalidJourney"))
  g_InvalidLateness : mg "InvalidLateness" = some (.ref (He.ga K "InvalidLateness"))
  g_InvalidList : mg "InvalidList" = some (.ref (He.ga K "InvalidList"))
  g_InvalidMessages : mg "InvalidMessages" = some (.ref (He.ga K "InvalidMessages"))
  g_InvalidMinute : mg "InvalidMinute" = some (.ref (He.ga K "InvalidMinute"))
  g_InvalidNumber : mg "InvalidNumber" = some (.ref (He.ga K "InvalidNumber"))
  g_InvalidProfile : mg "InvalidProfile" = some (.ref (He.ga K "InvalidProfile"))
  g_InvalidRide : mg "InvalidRide" = some (.ref (He.ga K "InvalidRide"))
  g_InvalidSpan : mg "InvalidSpan" = some (.ref (He.ga K "InvalidSpan"))
  g_InvalidStop : mg "InvalidStop" = some (.ref (He.ga K "InvalidStop"))
  g_InvalidText : mg "InvalidText" = some (.ref (He.ga K "InvalidText"))
  g_InvalidTime : mg "InvalidTime" = some (.ref (He.ga K "InvalidTime"))
  g_InvalidTrip : mg "InvalidTrip" = some (.ref (He.ga K "InvalidTrip"))
  g_InvalidWaits : mg "InvalidWaits" = some (.ref (He.ga K "InvalidWaits"))
  g_NotANetwork : mg "NotANetwork" = some (.ref (He.ga K "NotANetwork"))
  g_NotARun : mg "NotARun" = some (.ref (He.ga K "NotARun"))
  g_NotAStaircase : mg "NotAStaircase" = some (.ref (He.ga K "NotAStaircase"))
  g_NotATimetable : mg "NotATimetable" = some (.ref (He.ga K "NotATimetable"))
  g_NotAllowed : mg "NotAllowed" = some (.ref (He.ga K "NotAllowed"))
  g_NothingToUndo : mg "NothingToUndo" = some (.ref (He.ga K "NothingToUndo"))
  g_OtherSpan : mg "OtherSpan" = some (.ref (He.ga K "OtherSpan"))
  g_OtherStops : mg "OtherStops" = some (.ref (He.ga K "OtherStops"))
  g_RideError : mg "RideError" = some (.ref (He.ga K "RideError"))
  g_TooLate : mg "TooLate" = some (.ref (He.ga K "TooLate"))
  g_WaitingRing : mg "WaitingRing" = some (.ref (He.ga K "WaitingRing"))
  x_InvalidTime : ExcC K (He.ga K "InvalidTime")
  m_InvalidTime : PySem.W.exmOne K (.ref (He.ga K "InvalidTime")) (.ref (He.ga K "RideError")) = some true
  t_InvalidTime : PySem.W.kitOne K (.ref (He.ga K "InvalidTime")) (.type "ValueError") = some true
  k_InvalidTime_BadJourney : PySem.W.kitOne K (.ref (He.ga K "InvalidTime")) (.ref (He.ga K "BadJourney")) = some false
  k_InvalidTime_InvalidCalendar : PySem.W.kitOne K (.ref (He.ga K "InvalidTime")) (.ref (He.ga K "InvalidCalendar")) = some false
  k_InvalidTime_InvalidCall : PySem.W.kitOne K (.ref (He.ga K "InvalidTime")) (.ref (He.ga K "InvalidCall")) = some false
  k_InvalidTime_InvalidChange : PySem.W.kitOne K (.ref (He.ga K "InvalidTime")) (.ref (He.ga K "InvalidChange")) = some false
  k_InvalidTime_InvalidChanges : PySem.W.kitOne K (.ref (He.ga K "InvalidTime")) (.ref (He.ga K "InvalidChanges")) = some false
  k_InvalidTime_InvalidDay : PySem.W.kitOne K (.ref (He.ga K "InvalidTime")) (.ref (He.ga K "InvalidDay")) = some false
  k_InvalidTime_InvalidIndex : PySem.W.kitOne K (.ref (He.ga K "InvalidTime")) (.ref (He.ga K "InvalidIndex")) = some false
  k_InvalidTime_InvalidJourney : PySem.W.kitOne K (.ref (He.ga K "InvalidTime")) (.ref (He.ga K "InvalidJourney")) = some false
  k_InvalidTime_InvalidLateness : PySem.W.kitOne K (.ref (He.ga K "InvalidTime")) (.ref (He.ga K "InvalidLateness")) = some false
  k_InvalidTime_InvalidList : PySem.W.kitOne K (.ref (He.ga K "InvalidTime")) (.ref (He.ga K "InvalidList")) = some false
  k_InvalidTime_InvalidMessages : PySem.W.kitOne K (.ref (He.ga K "InvalidTime")) (.ref (He.ga K "InvalidMessages")) = some false
  k_InvalidTime_InvalidMinute : PySem.W.kitOne K (.ref (He.ga K "InvalidTime")) (.ref (He.ga K "InvalidMinute")) = some false
  k_InvalidTime_InvalidNumber : PySem.W.kitOne K (.ref (He.ga K "InvalidTime")) (.ref (He.ga K "InvalidNumber")) = some false
  k_InvalidTime_InvalidProfile : PySem.W.kitOne K (.ref (He.ga K "InvalidTime")) (.ref (He.ga K "InvalidProfile")) = some false
  k_InvalidTime_InvalidRide : PySem.W.kitOne K (.ref (He.ga K "InvalidTime")) (.ref (He.ga K "InvalidRide")) = some false
  k_InvalidTime_InvalidSpan : PySem.W.kitOne K (.ref (He.ga K "InvalidTime")) (.ref (He.ga K "InvalidSpan")) = some false
  k_InvalidTime_InvalidStop : PySem.W.kitOne K (.ref (He.ga K "InvalidTime")) (.ref (He.ga K "InvalidStop")) = some false
  k_InvalidTime_InvalidText : PySem.W.kitOne K (.ref (He.ga K "InvalidTime")) (.ref (He.ga K "InvalidText")) = some false
  k_InvalidTime_InvalidTime : PySem.W.kitOne K (.ref (He.ga K "InvalidTime")) (.ref (He.ga K "InvalidTime")) = some true
  k_InvalidTime_InvalidTrip : PySem.W.kitOne K (.ref (He.ga K "InvalidTime")) (.ref (He.ga K "InvalidTrip")) = some false
  k_InvalidTime_InvalidWaits : PySem.W.kitOne K (.ref (He.ga K "InvalidTime")) (.ref (He.ga K "InvalidWaits")) = some false
  k_InvalidTime_NotANetwork : PySem.W.kitOne K (.ref (He.ga K "InvalidTime")) (.ref (He.ga K "NotANetwork")) = some false
  k_InvalidTime_NotARun : PySem.W.kitOne K (.ref (He.ga K "InvalidTime")) (.ref (He.ga K "NotARun")) = some false
  k_InvalidTime_NotAStaircase : PySem.W.kitOne K (.ref (He.ga K "InvalidTime")) (.ref (He.ga K "NotAStaircase")) = some false
  k_InvalidTime_NotATimetable : PySem.W.kitOne K (.ref (He.ga K "InvalidTime")) (.ref (He.ga K "NotATimetable")) = some false
  k_InvalidTime_NotAllowed : PySem.W.kitOne K (.ref (He.ga K "InvalidTime")) (.ref (He.ga K "NotAllowed")) = some false
  k_InvalidTime_NothingToUndo : PySem.W.kitOne K (.ref (He.ga K "InvalidTime")) (.ref (He.ga K "NothingToUndo")) = some false
  k_InvalidTime_OtherSpan : PySem.W.kitOne K (.ref (He.ga K "InvalidTime")) (.ref (He.ga K "OtherSpan")) = some false
  k_InvalidTime_OtherStops : PySem.W.kitOne K (.ref (He.ga K "InvalidTime")) (.ref (He.ga K "OtherStops")) = some false
  k_InvalidTime_TooLate : PySem.W.kitOne K (.ref (He.ga K "InvalidTime")) (.ref (He.ga K "TooLate")) = some false
  k_InvalidTime_WaitingRing : PySem.W.kitOne K (.ref (He.ga K "InvalidTime")) (.ref (He.ga K "WaitingRing")) = some false
  x_InvalidDay : ExcC K (He.ga K "InvalidDay")
  m_InvalidDay : PySem.W.exmOne K (.ref (He.ga K "InvalidDay")) (.ref (He.ga K "RideError")) = some true
  t_InvalidDay : PySem.W.kitOne K (.ref (He.ga K "InvalidDay")) (.type "ValueError") = some true
  k_InvalidDay_BadJourney : PySem.W.kitOne K (.ref (He.ga K "InvalidDay")) (.ref (He.ga K "BadJourney")) = some false
  k_InvalidDay_InvalidCalendar : PySem.W.kitOne K (.ref (He.ga K "InvalidDay")) (.ref (He.ga K "InvalidCalendar")) = some false
  k_InvalidDay_InvalidCall : PySem.W.kitOne K (.ref (He.ga K "InvalidDay")) (.ref (He.ga K "InvalidCall")) = some false
  k_InvalidDay_InvalidChange : PySem.W.kitOne K (.ref (He.ga K "InvalidDay")) (.ref (He.ga K "InvalidChange")) = some false
  k_InvalidDay_InvalidChanges : PySem.W.kitOne K (.ref (He.ga K "InvalidDay")) (.ref (He.ga K "InvalidChanges")) = some false
  k_InvalidDay_InvalidDay : PySem.W.kitOne K (.ref (He.ga K "InvalidDay")) (.ref (He.ga K "InvalidDay")) = some true
  k_InvalidDay_InvalidIndex : PySem.W.kitOne K (.ref (He.ga K "InvalidDay")) (.ref (He.ga K "InvalidIndex")) = some false
  k_InvalidDay_InvalidJourney : PySem.W.kitOne K (.ref (He.ga K "InvalidDay")) (.ref (He.ga K "InvalidJourney")) = some false
  k_InvalidDay_InvalidLateness : PySem.W.kitOne K (.ref (He.ga K "InvalidDay")) (.ref (He.ga K "InvalidLateness")) = some false
  k_InvalidDay_InvalidList : PySem.W.kitOne K (.ref (He.ga K "InvalidDay")) (.ref (He.ga K "InvalidList")) = some false
  k_InvalidDay_InvalidMessages : PySem.W.kitOne K (.ref (He.ga K "InvalidDay")) (.ref (He.ga K "InvalidMessages")) = some false
  k_InvalidDay_InvalidMinute : PySem.W.kitOne K (.ref (He.ga K "InvalidDay")) (.ref (He.ga K "InvalidMinute")) = some false
  k_InvalidDay_InvalidNumber : PySem.W.kitOne K (.ref (He.ga K "InvalidDay")) (.ref (He.ga K "InvalidNumber")) = some false
  k_InvalidDay_InvalidProfile : PySem.W.kitOne K (.ref (He.ga K "InvalidDay")) (.ref (He.ga K "InvalidProfile")) = some false
  k_InvalidDay_InvalidRide : PySem.W.kitOne K (.ref (He.ga K "InvalidDay")) (.ref (He.ga K "InvalidRide")) = some false
  k_InvalidDay_InvalidSpan : PySem.W.kitOne K (.ref (He.ga K "InvalidDay")) (.ref (He.ga K "InvalidSpan")) = some false
  k_InvalidDay_InvalidStop : PySem.W.kitOne K (.ref (He.ga K "InvalidDay")) (.ref (He.ga K "InvalidStop")) = some false
  k_InvalidDay_InvalidText : PySem.W.kitOne K (.ref (He.ga K "InvalidDay")) (.ref (He.ga K "InvalidText")) = some false
  k_InvalidDay_InvalidTime : PySem.W.kitOne K (.ref (He.ga K "InvalidDay")) (.ref (He.ga K "InvalidTime")) = some false
  k_InvalidDay_InvalidTrip : PySem.W.kitOne K (.ref (He.ga K "InvalidDay")) (.ref (He.ga K "InvalidTrip")) = some false
  k_InvalidDay_InvalidWaits : PySem.W.kitOne K (.ref (He.ga K "InvalidDay")) (.ref (He.ga K "InvalidWaits")) = some false
  k_InvalidDay_NotANetwork : PySem.W.kitOne K (.ref (He.ga K "InvalidDay")) (.ref (He.ga K "NotANetwork")) = some false
  k_InvalidDay_NotARun : PySem.W.kitOne K (.ref (He.ga K "InvalidDay")) (.ref (He.ga K "NotARun")) = some false
  k_InvalidDay_NotAStaircase : PySem.W.kitOne K (.ref (He.ga K "InvalidDay")) (.ref (He.ga K "NotAStaircase")) = some false
  k_InvalidDay_NotATimetable : PySem.W.kitOne K (.ref (He.ga K "InvalidDay")) (.ref (He.ga K "NotATimetable")) = some false
  k_InvalidDay_NotAllowed : PySem.W.kitOne K (.ref (He.ga K "InvalidDay")) (.ref (He.ga K "NotAllowed")) = some false
  k_InvalidDay_NothingToUndo : PySem.W.kitOne K (.ref (He.ga K "InvalidDay")) (.ref (He.ga K "NothingToUndo")) = some false
  k_InvalidDay_OtherSpan : PySem.W.kitOne K (.ref (He.ga K "InvalidDay")) (.ref (He.ga K "OtherSpan")) = some false
  k_InvalidDay_OtherStops : PySem.W.kitOne K (.ref (He.ga K "InvalidDay")) (.ref (He.ga K "OtherStops")) = some false
  k_InvalidDay_TooLate : PySem.W.kitOne K (.ref (He.ga K "InvalidDay")) (.ref (He.ga K "TooLate")) = some false
  k_InvalidDay_WaitingRing : PySem.W.kitOne K (.ref (He.ga K "InvalidDay")) (.ref (He.ga K "WaitingRing")) = some false
  x_InvalidMinute : ExcC K (He.ga K "InvalidMinute")
  m_InvalidMinute : PySem.W.exmOne K (.ref (He.ga K "InvalidMinute")) (.ref (He.ga K "RideError")) = some true
  t_InvalidMinute : PySem.W.kitOne K (.ref (He.ga K "InvalidMinute")) (.type "ValueError") = some true
  k_InvalidMinute_BadJourney : PySem.W.kitOne K (.ref (He.ga K "InvalidMinute")) (.ref (He.ga K "BadJourney")) = some false
  k_InvalidMinute_InvalidCalendar : PySem.W.kitOne K (.ref (He.ga K "InvalidMinute")) (.ref (He.ga K "InvalidCalendar")) = some false
  k_InvalidMinute_InvalidCall : PySem.W.kitOne K (.ref (He.ga K "InvalidMinute")) (.ref (He.ga K "InvalidCall")) = some false
  k_InvalidMinute_InvalidChange : PySem.W.kitOne K (.ref (He.ga K "InvalidMinute")) (.ref (He.ga K "InvalidChange")) = some false
  k_InvalidMinute_InvalidChanges : PySem.W.kitOne K (.ref (He.ga K "InvalidMinute")) (.ref (He.ga K "InvalidChanges")) = some false
  k_InvalidMinute_InvalidDay : PySem.W.kitOne K (.ref (He.ga K "InvalidMinute")) (.ref (He.ga K "InvalidDay")) = some false
  k_InvalidMinute_InvalidIndex : PySem.W.kitOne K (.ref (He.ga K "InvalidMinute")) (.ref (He.ga K "InvalidIndex")) = some false
  k_InvalidMinute_InvalidJourney : PySem.W.kitOne K (.ref (He.ga K "InvalidMinute")) (.ref (He.ga K "InvalidJourney")) = some false
  k_InvalidMinute_InvalidLateness : PySem.W.kitOne K (.ref (He.ga K "InvalidMinute")) (.ref (He.ga K "InvalidLateness")) = some false
  k_InvalidMinute_InvalidList : PySem.W.kitOne K (.ref (He.ga K "InvalidMinute")) (.ref (He.ga K "InvalidList")) = some false
  k_InvalidMinute_InvalidMessages : PySem.W.kitOne K (.ref (He.ga K "InvalidMinute")) (.ref (He.ga K "InvalidMessages")) = some false
  k_InvalidMinute_InvalidMinute : PySem.W.kitOne K (.ref (He.ga K "InvalidMinute")) (.ref (He.ga K "InvalidMinute")) = some true
  k_InvalidMinute_InvalidNumber : PySem.W.kitOne K (.ref (He.ga K "InvalidMinute")) (.ref (He.ga K "InvalidNumber")) = some false
  k_InvalidMinute_InvalidProfile : PySem.W.kitOne K (.ref (He.ga K "InvalidMinute")) (.ref (He.ga K "InvalidProfile")) = some false
  k_InvalidMinute_InvalidRide : PySem.W.kitOne K (.ref (He.ga K "InvalidMinute")) (.ref (He.ga K "InvalidRide")) = some false
  k_InvalidMinute_InvalidSpan : PySem.W.kitOne K (.ref (He.ga K "InvalidMinute")) (.ref (He.ga K "InvalidSpan")) = some false
  k_InvalidMinute_InvalidStop : PySem.W.kitOne K (.ref (He.ga K "InvalidMinute")) (.ref (He.ga K "InvalidStop")) = some false
  k_InvalidMinute_InvalidText : PySem.W.kitOne K (.ref (He.ga K "InvalidMinute")) (.ref (He.ga K "InvalidText")) = some false
  k_InvalidMinute_InvalidTime : PySem.W.kitOne K (.ref (He.ga K "InvalidMinute")) (.ref (He.ga K "InvalidTime")) = some false
  k_InvalidMinute_InvalidTrip : PySem.W.kitOne K (.ref (He.ga K "InvalidMinute")) (.ref (He.ga K "InvalidTrip")) = some false
  k_InvalidMinute_InvalidWaits : PySem.W.kitOne K (.ref (He.ga K "InvalidMinute")) (.ref (He.ga K "InvalidWaits")) = some false
  k_InvalidMinute_NotANetwork : PySem.W.kitOne K (.ref (He.ga K "InvalidMinute")) (.ref (He.ga K "NotANetwork")) = some false
  k_InvalidMinute_NotARun : PySem.W.kitOne K (.ref (He.ga K "InvalidMinute")) (.ref (He.ga K "NotARun")) = some false
  k_InvalidMinute_NotAStaircase : PySem.W.kitOne K (.ref (He.ga K "InvalidMinute")) (.ref (He.ga K "NotAStaircase")) = some false
  k_InvalidMinute_NotATimetable : PySem.W.kitOne K (.ref (He.ga K "InvalidMinute")) (.ref (He.ga K "NotATimetable")) = some false
  k_InvalidMinute_NotAllowed : PySem.W.kitOne K (.ref (He.ga K "InvalidMinute")) (.ref (He.ga K "NotAllowed")) = some false
  k_InvalidMinute_NothingToUndo : PySem.W.kitOne K (.ref (He.ga K "InvalidMinute")) (.ref (He.ga K "NothingToUndo")) = some false
  k_InvalidMinute_OtherSpan : PySem.W.kitOne K (.ref (He.ga K "InvalidMinute")) (.ref (He.ga K "OtherSpan")) = some false
  k_InvalidMinute_OtherStops : PySem.W.kitOne K (.ref (He.ga K "InvalidMinute")) (.ref (He.ga K "OtherStops")) = some false
  k_InvalidMinute_TooLate : PySem.W.kitOne K (.ref (He.ga K "InvalidMinute")) (.ref (He.ga K "TooLate")) = some false
  k_InvalidMinute_WaitingRing : PySem.W.kitOne K (.ref (He.ga K "InvalidMinute")) (.ref (He.ga K "WaitingRing")) = some false
  vx : VX K EXL
  fx : FX K FLL
theorem ne_int0 (a b : Int) : D.neD (.int a) (.int b) = some (.bl (!(a == b))) := by
  simp [D.neD, D.shp, D.eqq, D.py, SeqAt.shaped, PyData.eqv, PyData.canLay0, PyData.depth]
def Zz (K : PySem.W.Frag) (nm : Str) : Obj → Prop := fun o => Zc (.ref (He.ga K nm)) none o ∧ ∃ vs, o.data = .fields vs
def hdl : List Stmt → List Stmt
  | [.Try _ [.ExceptHandler _ _ b _] _ _ _] => b
  | _ => []

section
variable {P : Program} {w : World} {K : PySem.W.Frag} {mg : Str → Option Value} {base : Heap}
def is_integer_b : Rp.Env → Res := (dSeq (dIf (orB (notB (truB (asV (isiD ["int"] (borO 0))))) (truB (asV (isiD ["bool"] (borO 0))))) (dRet (pureD (.bl false))) dNil) (dRet (andV (orV (bin2 (cmpD .Is) (borO 1) (asV (pureD .non))) (bin2 (cmpD .LtE) (borO 1) (borO 0))) (orV (bin2 (cmpD .Is) (borO 2) (asV (pureD .non))) (bin2 (cmpD .LtE) (borO 0) (borO 2))))))
def is_integer_den : List Rp.Arg → Res := fnDen 3 3 is_integer_b
theorem o_is_integer (W : Wd K mg) (hD : base.NoDigits) {f : Addr} {fd : FuncData} (F : FunD K "is_integer" "is_integer" (defArgs s_is_integer) (defBody s_is_integer) (defScope s_is_integer) [] [] f fd) : FnOk P w K mg base (L2N.CX P w) 1 f fd ["value", "low", "high"] (spD K mg 3 is_integer_den) := by
  refine funD_ok (N := ["value", "low", "high"]) (ps := ["value", "low", "high"]) (k := 0) (den := is_integer_b) F sc_is_integer (fun cdv A outer s H E hr => ?_)
  refine ss_cons ?_ ?_
  refine s1_if ?_ ?_ ss_nil
  refine st_or ?_ ?_
  refine st_not ?_
  refine st_val ?_ ?_
  refine so_of ?_
  refine se_isi (T := "int") ?_ W.n_isinstance bt_isinstance ?_ ?_ ?_ ⟨(by rfl), W.n_int, bt_int, by decide, (by rfl)⟩ ?_
  rfl
  decide
  rfl
  rfl
  refine so_borO (i := 0) ?_ ?_ ?_ ?_
  rfl
  (first | exact Or.inl rfl | exact Or.inr (Or.inl rfl) | exact Or.inr (Or.inr rfl))
  rfl
  rfl
  exact (fun _ => (by rfl))
  refine st_one ?_
  refine st_val ?_ ?_
  refine so_of ?_
  refine se_isi (T := "bool") ?_ W.n_isinstance bt_isinstance ?_ ?_ ?_ ⟨(by rfl), W.n_bool, bt_bool, by decide, (by rfl)⟩ ?_
  rfl
  decide
  rfl
  rfl
  refine so_borO (i := 0) ?_ ?_ ?_ ?_
  rfl
  (first | exact Or.inl rfl | exact Or.inr (Or.inl rfl) | exact Or.inr (Or.inr rfl))
  rfl
  rfl
  exact (fun _ => (by rfl))
  refine ss_one ?_
  refine s1_ret ?_
  refine se_const ?_
  rfl
  refine ss_one ?_
  refine s1_ret ?_
  refine se_and ?_ ?_
  refine se_or ?_ ?_
  refine se_cmp (op := .Is) (hu65 hr) ?_ ?_ ?_
  refine so_borO (i := 1) ?_ ?_ ?_ ?_
  rfl
  (first | exact Or.inl rfl | exact Or.inr (Or.inl rfl) | exact Or.inr (Or.inr rfl))
  rfl
  rfl
  refine so_of ?_
  refine se_const ?_
  rfl
  rfl
  refine se_one ?_
  refine se_cmp (op := .LtE) (hu65 hr) ?_ ?_ ?_
  refine so_borO (i := 1) ?_ ?_ ?_ ?_
  rfl
  (first | exact Or.inl rfl | exact Or.inr (Or.inl rfl) | exact Or.inr (Or.inr rfl))
  rfl
  rfl
  refine so_borO (i := 0) ?_ ?_ ?_ ?_
  rfl
  (first | exact Or.inl rfl | exact Or.inr (Or.inl rfl) | exact Or.inr (Or.inr rfl))
  rfl
  rfl
  rfl
  refine se_one ?_
  refine se_or ?_ ?_
  refine se_cmp (op := .Is) (hu65 hr) ?_ ?_ ?_
  refine so_borO (i := 2) ?_ ?_ ?_ ?_
  rfl
  (first | exact Or.inl rfl | exact Or.inr (Or.inl rfl) | exact Or.inr (Or.inr rfl))
  rfl
  rfl
  refine so_of ?_
  refine se_const ?_
  rfl
  rfl
  refine se_one ?_
  refine se_cmp (op := .LtE) (hu65 hr) ?_ ?_ ?_
  refine so_borO (i := 0) ?_ ?_ ?_ ?_
  rfl
  (first | exact Or.inl rfl | exact Or.inr (Or.inl rfl) | exact Or.inr (Or.inr rfl))
  rfl
  rfl
  refine so_borO (i := 2) ?_ ?_ ?_ ?_
  rfl
  (first | exact Or.inl rfl | exact Or.inr (Or.inl rfl) | exact Or.inr (Or.inr rfl))
  rfl
  rfl
  rfl
theorem c_is_integer (W : Wd K mg) (hD : base.NoDigits) {f : Addr} {fd : FuncData} (F : FunD K "is_integer" "is_integer" (defArgs s_is_integer) (defBody s_is_integer) (defScope s_is_integer) [] [] f fd) (hm : mg "is_integer" = some (.ref f)) : CalD P w K mg base 1 "is_integer" 3 is_integer_den := calD (ps := ["value", "low", "high"]) F (o_is_integer W hD F) hm fnDen_len (fun _ _ _ _ _ _ us hl => match us, hl with | [_, _, _], _ => rfl)
def check_time_b : Rp.Env → Res := (dIf (notB (truB (asV (callU true is_integer_den (consA (asV (rdVar 0)) (consA (asV (pureD (.int 0))) (consA (asV (pureD .non)) nilA))))))) (dRaise "InvalidTime") dNil)
def check_time_den : List Rp.Arg → Res := fnDen 1 1 check_time_b
theorem o_check_time (W : Wd K mg) (hD : base.NoDigits) {f : Addr} {fd : FuncData} (F : FunD K "check_time" "check_time" (defArgs s_check_time) (defBody s_check_time) (defScope s_check_time) [] [] f fd) (c_is_integer : CalD P w K mg base 1 "is_integer" 3 is_integer_den) : FnOk P w K mg base (L2N.CX P w) 2 f fd ["time"] (spD K mg 1 check_time_den) := by
  refine funD_ok (N := ["time"]) (ps := ["time"]) (k := 1) (den := check_time_b) F sc_check_time (fun cdv A outer s H E hr => ?_)
  refine ss_one ?_
  refine s1_if ?_ ?_ ss_nil
  refine st_not ?_
  refine st_val ?_ ?_
  refine so_of ?_
  refine SF.se ?_
  refine sf_callU c_is_integer hr ?_ ?_ ?_ ?_ ?_
  decide
  rfl
  rfl
  rfl
  refine sa_cons ?_ ?_ ?_
  rfl
  refine so_of ?_
  refine se_var (i := 0) ?_ ?_ ?_ ?_
  rfl
  (first | exact Or.inl rfl | exact Or.inr (Or.inl rfl) | exact Or.inr (Or.inr rfl))
  rfl
  rfl
  refine sa_cons ?_ ?_ ?_
  rfl
  refine so_of ?_
  refine se_const ?_
  rfl
  refine sa_cons ?_ ?_ sa_nil
  rfl
  refine so_of ?_
  refine se_const ?_
  rfl
  exact (fun _ => (by rfl))
  refine ss_one ?_
  refine s1_raise0 ?_ W.e_InvalidTime ?_ ?_
  rfl
  rfl
  rfl
theorem c_check_time (W : Wd K mg) (hD : base.NoDigits) {f : Addr} {fd : FuncData} (F : FunD K "check_time" "check_time" (defArgs s_check_time) (defBody s_check_time) (defScope s_check_time) [] [] f fd) (hm : mg "check_time" = some (.ref f)) (c_is_integer : CalD P w K mg base 1 "is_integer" 3 is_integer_den) : CalD P w K mg base 2 "check_time" 1 check_time_den := calD (ps := ["time"]) F (o_check_time W hD F c_is_integer) hm fnDen_len (fun _ _ _ _ _ _ us hl => match us, hl with | [_], _ => rfl)
def check_day_b : Rp.Env → Res := (dIf (notB (truB (asV (callU true is_integer_den (consA (asV (rdVar 0)) (consA (asV (pureD (.int 0))) (consA (asV (pureD .non)) nilA))))))) (dRaise "InvalidDay") dNil)
def check_day_den : List Rp.Arg → Res := fnDen 1 1 check_day_b
theorem o_check_day (W : Wd K mg) (hD : base.NoDigits) {f : Addr} {fd : FuncData} (F : FunD K "check_day" "check_day" (defArgs s_check_day) (defBody s_check_day) (defScope s_check_day) [] [] f fd) (c_is_integer : CalD P w K mg base 1 "is_integer" 3 is_integer_den) : FnOk P w K mg base (L2N.CX P w) 2 f fd ["day"] (spD K mg 1 check_day_den) := by
  refine funD_ok (N := ["day"]) (ps := ["day"]) (k := 1) (den := check_day_b) F sc_check_day (fun cdv A outer s H E hr => ?_)
  refine ss_one ?_
  refine s1_if ?_ ?_ ss_nil
  refine st_not ?_
  refine st_val ?_ ?_
  refine so_of ?_
  refine SF.se ?_
  refine sf_callU c_is_integer hr ?_ ?_ ?_ ?_ ?_
  decide
  rfl
  rfl
  rfl
  refine sa_cons ?_ ?_ ?_
  rfl
  refine so_of ?_
  refine se_var (i := 0) ?_ ?_ ?_ ?_
  rfl
  (first | exact Or.inl rfl | exact Or.inr (Or.inl rfl) | exact Or.inr (Or.inr rfl))
  rfl
  rfl
  refine sa_cons ?_ ?_ ?_
  rfl
  refine so_of ?_
  refine se_const ?_
  rfl
  refine sa_cons ?_ ?_ sa_nil
  rfl
  refine so_of ?_
  refine se_const ?_
  rfl
  exact (fun _ => (by rfl))
  refine ss_one ?_
  refine s1_raise0 ?_ W.e_InvalidDay ?_ ?_
  rfl
  rfl
  rfl
theorem c_check_day (W : Wd K mg) (hD : base.NoDigits) {f : Addr} {fd : FuncData} (F : FunD K "check_day" "check_day" (defArgs s_check_day) (defBody s_check_day) (defScope s_check_day) [] [] f fd) (hm : mg "check_day" = some (.ref f)) (c_is_integer : CalD P w K mg base 1 "is_integer" 3 is_integer_den) : CalD P w K mg base 2 "check_day" 1 check_day_den := calD (ps := ["day"]) F (o_check_day W hD F c_is_integer) hm fnDen_len (fun _ _ _ _ _ _ us hl => match us, hl with | [_], _ => rfl)
def day_of_b : Rp.Env → Res := (dSeq (dExp (callU true check_time_den (consA (asV (rdVar 0)) nilA))) (dRet (bin2 (binD .FloorDiv) (borO 0) (asV (pureD (.int 1440))))))
def day_of_den : List Rp.Arg → Res := fnDen 1 1 day_of_b
theorem o_day_of (W : Wd K mg) (hD : base.NoDigits) {f : Addr} {fd : FuncData} (F : FunD K "day_of" "day_of" (defArgs s_day_of) (defBody s_day_of) (defScope s_day_of) [] [] f fd) (c_check_time : CalD P w K mg base 2 "check_time" 1 check_time_den) : FnOk P w K mg base (L2N.CX P w) 3 f fd ["time"] (spD K mg 1 day_of_den) := by
  refine funD_ok (N := ["time"]) (ps := ["time"]) (k := 2) (den := day_of_b) F sc_day_of (fun cdv A outer s H E hr => ?_)
  refine ss_cons ?_ ?_
  refine s1_exp ?_ ?_
  rfl
  refine SF.se ?_
  refine sf_callU c_check_time hr ?_ ?_ ?_ ?_ ?_
  decide
  rfl
  rfl
  rfl
  refine sa_cons ?_ ?_ sa_nil
  rfl
  refine so_of ?_
  refine se_var (i := 0) ?_ ?_ ?_ ?_
  rfl
  (first | exact Or.inl rfl | exact Or.inr (Or.inl rfl) | exact Or.inr (Or.inr rfl))
  rfl
  rfl
  refine ss_one ?_
  refine s1_ret ?_
  refine se_op (s_bin .FloorDiv) ?_ ?_
  refine so_borO (i := 0) ?_ ?_ ?_ ?_
  rfl
  (first | exact Or.inl rfl | exact Or.inr (Or.inl rfl) | exact Or.inr (Or.inr rfl))
  rfl
  rfl
  refine so_of ?_
  refine se_gint ?_ W.i_DAY ?_
  rfl
  rfl
theorem c_day_of (W : Wd K mg) (hD : base.NoDigits) {f : Addr} {fd : FuncData} (F : FunD K "day_of" "day_of" (defArgs s_day_of) (defBody s_day_of) (defScope s_day_of) [] [] f fd) (hm : mg "day_of" = some (.ref f)) (c_check_time : CalD P w K mg base 2 "check_time" 1 check_time_den) : CalD P w K mg base 3 "day_of" 1 day_of_den := calD (ps := ["time"]) F (o_day_of W hD F c_check_time) hm fnDen_len (fun _ _ _ _ _ _ us hl => match us, hl with | [_], _ => rfl)
theorem k_day_of (W : Wd K mg) (hD : base.NoDigits) {f : Addr} {fd : FuncData} (F : FunD K "day_of" "day_of" (defArgs s_day_of) (defBody s_day_of) (defScope s_day_of) [] [] f fd) (hm : mg "day_of" = some (.ref f)) (c_check_time : CalD P w K mg base 2 "check_time" 1 check_time_den) : CalK P w K mg base 3 "day_of" ["time"] [0] 1 day_of_den := calK (ps := ["time"]) F (o_day_of W hD F c_check_time) hm fnDen_len (fun _ _ _ _ _ _ us hl => match us, hl with | [_], _ => rfl)
def minute_of_b : Rp.Env → Res := (dSeq (dExp (callU true check_time_den (consA (asV (rdVar 0)) nilA))) (dRet (bin2 (binD .Mod) (borO 0) (asV (pureD (.int 1440))))))
def minute_of_den : List Rp.Arg → Res := fnDen 1 1 minute_of_b
theorem o_minute_of (W : Wd K mg) (hD : base.NoDigits) {f : Addr} {fd : FuncData} (F : FunD K "minute_of" "minute_of" (defArgs s_minute_of) (defBody s_minute_of) (defScope s_minute_of) [] [] f fd) (c_check_time : CalD P w K mg base 2 "check_time" 1 check_time_den) : FnOk P w K mg base (L2N.CX P w) 3 f fd ["time"] (spD K mg 1 minute_of_den) := by
  refine funD_ok (N := ["time"]) (ps := ["time"]) (k := 2) (den := minute_of_b) F sc_minute_of (fun cdv A outer s H E hr => ?_)
  refine ss_cons ?_ ?_
  refine s1_exp ?_ ?_
  rfl
  refine SF.se ?_
  refine sf_callU c_check_time hr ?_ ?_ ?_ ?_ ?_
  decide
  rfl
  rfl
  rfl
  refine sa_cons ?_ ?_ sa_nil
  rfl
  refine so_of ?_
  refine se_var (i := 0) ?_ ?_ ?_ ?_
  rfl
  (first | exact Or.inl rfl | exact Or.inr (Or.inl rfl) | exact Or.inr (Or.inr rfl))
  rfl
  rfl
  refine ss_one ?_
  refine s1_ret ?_
  refine se_op (s_bin .Mod) ?_ ?_
  refine so_borO (i := 0) ?_ ?_ ?_ ?_
  rfl
  (first | exact Or.inl rfl | exact Or.inr (Or.inl rfl) | exact Or.inr (Or.inr rfl))
  rfl
  rfl
  refine so_of ?_
  refine se_gint ?_ W.i_DAY ?_
  rfl
  rfl
theorem c_minute_of (W : Wd K mg) (hD : base.NoDigits) {f : Addr} {fd : FuncData} (F : FunD K "minute_of" "minute_of" (defArgs s_minute_of) (defBody s_minute_of) (defScope s_minute_of) [] [] f fd) (hm : mg "minute_of" = some (.ref f)) (c_check_time : CalD P w K mg base 2 "check_time" 1 check_time_den) : CalD P w K mg base 3 "minute_of" 1 minute_of_den := calD (ps := ["time"]) F (o_minute_of W hD F c_check_time) hm fnDen_len (fun _ _ _ _ _ _ us hl => match us, hl with | [_], _ => rfl)
theorem k_minute_of (W : Wd K mg) (hD : base.NoDigits) {f : Addr} {fd : FuncData} (F : FunD K "minute_of" "minute_of" (defArgs s_minute_of) (defBody s_minute_of) (defScope s_minute_of) [] [] f fd) (hm : mg "minute_of" = some (.ref f)) (c_check_time : CalD P w K mg base 2 "check_time" 1 check_time_den) : CalK P w K mg base 3 "minute_of" ["time"] [0] 1 minute_of_den := calK (ps := ["time"]) F (o_minute_of W hD F c_check_time) hm fnDen_len (fun _ _ _ _ _ _ us hl => match us, hl with | [_], _ => rfl)
def weekday_of_b : Rp.Env → Res := (dSeq (dExp (callU true check_day_den (consA (asV (rdVar 0)) nilA))) (dRet (bin2 (binD .Mod) (borO 0) (asV (pureD (.int 7))))))
def weekday_of_den : List Rp.Arg → Res := fnDen 1 1 weekday_of_b
theorem o_weekday_of (W : Wd K mg) (hD : base.NoDigits) {f : Addr} {fd : FuncData} (F : FunD K "weekday_of" "weekday_of" (defArgs s_weekday_of) (defBody s_weekday_of) (defScope s_weekday_of) [] [] f fd) (c_check_day : CalD P w K mg base 2 "check_day" 1 check_day_den) : FnOk P w K mg base (L2N.CX P w) 3 f fd ["day"] (spD K mg 1 weekday_of_den) := by
  refine funD_ok (N := ["day"]) (ps := ["day"]) (k := 2) (den := weekday_of_b) F sc_weekday_of (fun cdv A outer s H E hr => ?_)
  refine ss_cons ?_ ?_
  refine s1_exp ?_ ?_
  rfl
  refine SF.se ?_
  refine sf_callU c_check_day hr ?_ ?_ ?_ ?_ ?_
  decide
  rfl
  rfl
  rfl
  refine sa_cons ?_ ?_ sa_nil
  rfl
  refine so_of ?_
  refine se_var (i := 0) ?_ ?_ ?_ ?_
  rfl
  (first | exact Or.inl rfl | exact Or.inr (Or.inl rfl) | exact Or.inr (Or.inr rfl))
  rfl
  rfl
  refine ss_one ?_
  refine s1_ret ?_
  refine se_op (s_bin .Mod) ?_ ?_
  refine so_borO (i := 0) ?_ ?_ ?_ ?_
  rfl
  (first | exact Or.inl rfl | exact Or.inr (Or.inl rfl) | exact Or.inr (Or.inr rfl))
  rfl
  rfl
  refine so_of ?_
  refine se_const ?_
  rfl
theorem c_weekday_of (W : Wd K mg) (hD : base.NoDigits) {f : Addr} {fd : FuncData} (F : FunD K "weekday_of" "weekday_of" (defArgs s_weekday_of) (defBody s_weekday_of) (defScope s_weekday_of) [] [] f fd) (hm : mg "weekday_of" = some (.ref f)) (c_check_day : CalD P w K mg base 2 "check_day" 1 check_day_den) : CalD P w K mg base 3 "weekday_of" 1 weekday_of_den := calD (ps := ["day"]) F (o_weekday_of W hD F c_check_day) hm fnDen_len (fun _ _ _ _ _ _ us hl => match us, hl with | [_], _ => rfl)
theorem k_weekday_of (W : Wd K mg) (hD : base.NoDigits) {f : Addr} {fd : FuncData} (F : FunD K "weekday_of" "weekday_of" (defArgs s_weekday_of) (defBody s_weekday_of) (defScope s_weekday_of) [] [] f fd) (hm : mg "weekday_of" = some (.ref f)) (c_check_day : CalD P w K mg base 2 "check_day" 1 check_day_den) : CalK P w K mg base 3 "weekday_of" ["day"] [0] 1 weekday_of_den := calK (ps := ["day"]) F (o_weekday_of W hD F c_check_day) hm fnDen_len (fun _ _ _ _ _ _ us hl => match us, hl with | [_], _ => rfl)
def time_at_b : Rp.Env → Res := (dSeq (dExp (callU true check_day_den (consA (asV (rdVar 0)) nilA))) (dSeq (dIf (notB (truB (asV (callU true is_integer_den (consA (asV (rdVar 1)) (consA (asV (pureD (.int 0))) (consA (asV (bin2 (binD .Sub) (asV (pureD (.int 1440))) (asV (pureD (.int 1))))) nilA))))))) (dRaise "InvalidMinute") dNil) (dRetF (bin2 (binD .Add) (asV (bin2 (binD .Mult) (asV (pureD (.int 1440))) (borO 0))) (borO 1)))))
def time_at_den : List Rp.Arg → Res := fnDen 2 2 time_at_b
theorem o_time_at (W : Wd K mg) (hD : base.NoDigits) {f : Addr} {fd : FuncData} (F : FunD K "time_at" "time_at" (defArgs s_time_at) (defBody s_time_at) (defScope s_time_at) [] [] f fd) (c_check_day : CalD P w K mg base 2 "check_day" 1 check_day_den) (c_is_integer : CalD P w K mg base 1 "is_integer" 3 is_integer_den) : FnOk P w K mg base (L2N.CX P w) 3 f fd ["day", "minute"] (spD K mg 2 time_at_den) := by
  refine funD_ok (N := ["day", "minute"]) (ps := ["day", "minute"]) (k := 2) (den := time_at_b) F sc_time_at (fun cdv A outer s H E hr => ?_)
  refine ss_cons ?_ ?_
  refine s1_exp ?_ ?_
  rfl
  refine SF.se ?_
  refine sf_callU c_check_day hr ?_ ?_ ?_ ?_ ?_
  decide
  rfl
  rfl
  rfl
  refine sa_cons ?_ ?_ sa_nil
  rfl
  refine so_of ?_
  refine se_var (i := 0) ?_ ?_ ?_ ?_
  rfl
  (first | exact Or.inl rfl | exact Or.inr (Or.inl rfl) | exact Or.inr (Or.inr rfl))
  rfl
  rfl
  refine ss_cons ?_ ?_
  refine s1_if ?_ ?_ ss_nil
  refine st_not ?_
  refine st_val ?_ ?_
  refine so_of ?_
  refine SF.se ?_
  refine sf_callU c_is_integer hr ?_ ?_ ?_ ?_ ?_
  decide
  rfl
  rfl
  rfl
  refine sa_cons ?_ ?_ ?_
  rfl
  refine so_of ?_
  refine se_var (i := 1) ?_ ?_ ?_ ?_
  rfl
  (first | exact Or.inl rfl | exact Or.inr (Or.inl rfl) | exact Or.inr (Or.inr rfl))
  rfl
  rfl
  refine sa_cons ?_ ?_ ?_
  rfl
  refine so_of ?_
  refine se_const ?_
  rfl
  refine sa_cons ?_ ?_ sa_nil
  rfl
  refine so_of ?_
  refine se_op (s_bin .Sub) ?_ ?_
  refine so_of ?_
  refine se_gint ?_ W.i_DAY ?_
  rfl
  rfl
  refine so_of ?_
  refine se_const ?_
  rfl
  exact (fun _ => (by rfl))
  refine ss_one ?_
  refine s1_raise0 ?_ W.e_InvalidMinute ?_ ?_
  rfl
  rfl
  rfl
  refine ss_one ?_
  refine s1_retF ?_
  refine sf_op f_add ?_ ?_
  refine so_of ?_
  refine SF.se ?_
  refine sf_op f_mul ?_ ?_
  refine so_of ?_
  refine se_gint ?_ W.i_DAY ?_
  rfl
  rfl
  refine so_borO (i := 0) ?_ ?_ ?_ ?_
  rfl
  (first | exact Or.inl rfl | exact Or.inr (Or.inl rfl) | exact Or.inr (Or.inr rfl))
  rfl
  rfl
  refine so_borO (i := 1) ?_ ?_ ?_ ?_
  rfl
  (first | exact Or.inl rfl | exact Or.inr (Or.inl rfl) | exact Or.inr (Or.inr rfl))
  rfl
  rfl
theorem c_time_at (W : Wd K mg) (hD : base.NoDigits) {f : Addr} {fd : FuncData} (F : FunD K "time_at" "time_at" (defArgs s_time_at) (defBody s_time_at) (defScope s_time_at) [] [] f fd) (hm : mg "time_at" = some (.ref f)) (c_check_day : CalD P w K mg base 2 "check_day" 1 check_day_den) (c_is_integer : CalD P w K mg base 1 "is_integer" 3 is_integer_den) : CalD P w K mg base 3 "time_at" 2 time_at_den := calD (ps := ["day", "minute"]) F (o_time_at W hD F c_check_day c_is_integer) hm fnDen_len (fun _ _ _ _ _ _ us hl => match us, hl with | [_, _], _ => rfl)
theorem k_time_at_1_0 (W : Wd K mg) (hD : base.NoDigits) {f : Addr} {fd : FuncData} (F : FunD K "time_at" "time_at" (defArgs s_time_at) (defBody s_time_at) (defScope s_time_at) [] [] f fd) (hm : mg "time_at" = some (.ref f)) (c_check_day : CalD P w K mg base 2 "check_day" 1 check_day_den) (c_is_integer : CalD P w K mg base 1 "is_integer" 3 is_integer_den) : CalK P w K mg base 3 "time_at" ["minute", "day"] [1, 0] 2 time_at_den := calK (ps := ["day", "minute"]) F (o_time_at W hD F c_check_day c_is_integer) hm fnDen_len (fun _ _ _ _ _ _ us hl => match us, hl with | [_, _], _ => rfl)
def l_jug_b : Rp.Env → Res := (dSeq (dSet 2 (iteV (bB (bin2 (cmpD .Lt) (borO 1) (asV (callD lenD (consA (borO 0) nilA))))) (bin2 D.idx (borO 0) (borO 1)) (pureD (.int 0)))) (dRetF (dispD .lst (consA (asV (callD maxD (consA (asV (pureD (.int 0))) (consA (asV (bin2 (binD .Sub) (asV (callD absD (consA (borO 2) nilA))) (asV (bin2 (binD .Pow) (asV (pureD (.int 10))) (asV (pureD (.int 18))))))) nilA)))) (consA (asV (bin2 (binD .Add) (asV (bin2 (binD .Add) (asV (bin2 (binD .Mult) (asV (bin2 (binD .Mod) (borO 2) (asV (bin2 (binD .Add) (asV (bin2 (binD .Pow) (asV (pureD (.int 10))) (asV (pureD (.int 37))))) (asV (pureD (.int 43))))))) (asV (pureD (.int 89))))) (asV (bin2 (binD .Mult) (asV (pureD (.int 53))) (borO 1))))) (asV (pureD (.int 31))))) (consA (asV (pureD (.int 0))) nilA))))))
def l_jug_den : List Rp.Arg → Res := fnDen 3 2 l_jug_b
theorem o_l_jug (W : Wd K mg) (hD : base.NoDigits) {f : Addr} {fd : FuncData} (F : FunD K "_law_jug" "_law_jug" (defArgs s_l_jug) (defBody s_l_jug) (defScope s_l_jug) [] [] f fd) : FnOk P w K mg base (L2N.CX P w) 1 f fd ["_law_script", "_law_at"] (spD K mg 2 l_jug_den) := by
  refine funD_ok (N := ["_law_script", "_law_at", "_law_cell"]) (ps := ["_law_script", "_law_at"]) (k := 0) (den := l_jug_b) F sc_l_jug (fun cdv A outer s H E hr => ?_)
  refine ss_cons ?_ ?_
  refine s1_set (i := 2) ?_ ?_ ?_ ?_ ?_ ?_
  exact sc_l_jug.nd
  rfl
  (first | exact Or.inl rfl | exact Or.inr rfl)
  rfl
  (first | exact Or.inr rfl | exact Or.inl rfl)
  refine se_ite ?_ ?_ ?_
  refine st_cmp (op := .Lt) (hu65 hr) ?_ ?_ ?_
  refine so_borO (i := 1) ?_ ?_ ?_ ?_
  rfl
  (first | exact Or.inl rfl | exact Or.inr (Or.inl rfl) | exact Or.inr (Or.inr rfl))
  rfl
  rfl
  refine so_of ?_
  refine SF.se ?_
  refine sf_callB c_len ?_ W.n_len bt_len ?_ ?_ ?_ ?_
  rfl
  decide
  rfl
  rfl
  refine sa_cons ?_ ?_ sa_nil
  rfl
  refine so_borO (i := 0) ?_ ?_ ?_ ?_
  rfl
  (first | exact Or.inl rfl | exact Or.inr (Or.inl rfl) | exact Or.inr (Or.inr rfl))
  rfl
  rfl
  rfl
  refine se_idx ?_ ?_ ?_
  exact (fun _ _ => (by rfl))
  refine so_borO (i := 0) ?_ ?_ ?_ ?_
  rfl
  (first | exact Or.inl rfl | exact Or.inr (Or.inl rfl) | exact Or.inr (Or.inr rfl))
  rfl
  rfl
  refine so_borO (i := 1) ?_ ?_ ?_ ?_
  rfl
  (first | exact Or.inl rfl | exact Or.inr (Or.inl rfl) | exact Or.inr (Or.inr rfl))
  rfl
  rfl
  refine se_const ?_
  rfl
  refine ss_one ?_
  refine s1_retF ?_
  refine sf_lst ?_
  refine sa_cons ?_ ?_ ?_
  rfl
  refine so_of ?_
  refine SF.se ?_
  refine sf_callB (c_max (by rfl)) ?_ W.n_max bt_max ?_ ?_ ?_ ?_
  rfl
  decide
  rfl
  rfl
  refine sa_cons ?_ ?_ ?_
  rfl
  refine so_of ?_
  refine se_const ?_
  rfl
  refine sa_cons ?_ ?_ sa_nil
  rfl
  refine so_of ?_
  refine se_op (s_bin .Sub) ?_ ?_
  refine so_of ?_
  refine SF.se ?_
  refine sf_callB c_abs ?_ W.n_abs bt_abs ?_ ?_ ?_ ?_
  rfl
  decide
  rfl
  rfl
  refine sa_cons ?_ ?_ sa_nil
  rfl
  refine so_borO (i := 2) ?_ ?_ ?_ ?_
  rfl
  (first | exact Or.inl rfl | exact Or.inr (Or.inl rfl) | exact Or.inr (Or.inr rfl))
  rfl
  rfl
  refine so_of ?_
  refine se_op (s_bin .Pow) ?_ ?_
  refine so_of ?_
  refine se_const ?_
  rfl
  refine so_of ?_
  refine se_const ?_
  rfl
  refine sa_cons ?_ ?_ ?_
  rfl
  refine so_of ?_
  refine SF.se ?_
  refine sf_op f_add ?_ ?_
  refine so_of ?_
  refine SF.se ?_
  refine sf_op f_add ?_ ?_
  refine so_of ?_
  refine SF.se ?_
  refine sf_op f_mul ?_ ?_
  refine so_of ?_
  refine se_op (s_bin .Mod) ?_ ?_
  refine so_borO (i := 2) ?_ ?_ ?_ ?_
  rfl
  (first | exact Or.inl rfl | exact Or.inr (Or.inl rfl) | exact Or.inr (Or.inr rfl))
  rfl
  rfl
  refine so_of ?_
  refine SF.se ?_
  refine sf_op f_add ?_ ?_
  refine so_of ?_
  refine se_op (s_bin .Pow) ?_ ?_
  refine so_of ?_
  refine se_const ?_
  rfl
  refine so_of ?_
  refine se_const ?_
  rfl
  refine so_of ?_
  refine se_const ?_
  rfl
  refine so_of ?_
  refine se_const ?_
  rfl
  refine so_of ?_
  refine SF.se ?_
  refine sf_op f_mul ?_ ?_
  refine so_of ?_
  refine se_const ?_
  rfl
  refine so_borO (i := 1) ?_ ?_ ?_ ?_
  rfl
  (first | exact Or.inl rfl | exact Or.inr (Or.inl rfl) | exact Or.inr (Or.inr rfl))
  rfl
  rfl
  refine so_of ?_
  refine se_const ?_
  rfl
  refine sa_cons ?_ ?_ sa_nil
  rfl
  refine so_of ?_
  refine se_const ?_
  rfl
theorem c_l_jug (W : Wd K mg) (hD : base.NoDigits) {f : Addr} {fd : FuncData} (F : FunD K "_law_jug" "_law_jug" (defArgs s_l_jug) (defBody s_l_jug) (defScope s_l_jug) [] [] f fd) (hm : mg "_law_jug" = some (.ref f)) : CalD P w K mg base 1 "_law_jug" 2 l_jug_den := calD (ps := ["_law_script", "_law_at"]) F (o_l_jug W hD F) hm fnDen_len (fun _ _ _ _ _ _ us hl => match us, hl with | [_, _], _ => rfl)
def l_pour_b : Rp.Env → Res := (dSeq (dIf (bB (bin2 (cmpD .Gt) (asV (bin2 D.idx (borO 0) (asV (pureD (.int 0))))) (asV (pureD (.int 0))))) (dSeq (dSet 3 (bin2 (binD .Mod) (asV (bin2 D.idx (borO 0) (asV (pureD (.int 0))))) (borO 1))) (dSeq (dPut 0 (bin2 (binD .FloorDiv) (asV (bin2 D.idx (borO 0) (asV (pureD (.int 0))))) (borO 1)) (pureD (.int 0))) (dRetO 3))) dNil) (dSeq (dPut 0 (bin2 (binD .Add) (asV (bin2 D.idx (borO 0) (asV (pureD (.int 2))))) (asV (pureD (.int 1)))) (pureD (.int 2))) (dSeq (dSet 2 (bin2 (binD .Mod) (asV (bin2 (binD .Pow) (asV (bin2 (binD .Add) (asV (bin2 D.idx (borO 0) (asV (pureD (.int 1))))) (asV (bin2 (binD .Mult) (asV (pureD (.int 715225741))) (asV (bin2 D.idx (borO 0) (asV (pureD (.int 2))))))))) (asV (pureD (.int 3))))) (asV (bin2 (binD .Add) (asV (bin2 (binD .Pow) (asV (pureD (.int 10))) (asV (pureD (.int 41))))) (asV (pureD (.int 109))))))) (dSeq (dSet 2 (bin2 (binD .Mod) (asV (bin2 (binD .Pow) (asV (bin2 (binD .Add) (borO 2) (asV (bin2 (binD .Mult) (asV (pureD (.int 179424673))) (asV (bin2 D.idx (borO 0) (asV (pureD (.int 2))))))))) (asV (pureD (.int 3))))) (asV (bin2 (binD .Add) (asV (bin2 (binD .Pow) (asV (pureD (.int 10))) (asV (pureD (.int 40))))) (asV (pureD (.int 121))))))) (dRet (bin2 (binD .Mod) (asV (bin2 (binD .FloorDiv) (borO 2) (asV (pureD (.int 1299709))))) (borO 1)))))))
def l_pour_den : List Rp.Arg → Res := fnDen 4 2 l_pour_b
theorem o_l_pour (W : Wd K mg) (hD : base.NoDigits) {f : Addr} {fd : FuncData} (F : FunD K "_law_pour" "_law_pour" (defArgs s_l_pour) (defBody s_l_pour) (defScope s_l_pour) [] [] f fd) : FnOk P w K mg base (L2N.CX P w) 1 f fd ["_law_jug_here", "_law_many"] (spD K mg 2 l_pour_den) := by
  refine funD_ok (N := ["_law_jug_here", "_law_many", "_law_mixed", "_law_taken"]) (ps := ["_law_jug_here", "_law_many"]) (k := 0) (den := l_pour_b) F sc_l_pour (fun cdv A outer s H E hr => ?_)
  refine ss_cons ?_ ?_
  refine s1_if ?_ ?_ ss_nil
  refine st_cmp (op := .Gt) (hu65 hr) ?_ ?_ ?_
  refine so_of ?_
  refine se_idx ?_ ?_ ?_
  exact (fun _ _ => (by rfl))
  refine so_borO (i := 0) ?_ ?_ ?_ ?_
  rfl
  (first | exact Or.inl rfl | exact Or.inr (Or.inl rfl) | exact Or.inr (Or.inr rfl))
  rfl
  rfl
  refine so_of ?_
  refine se_const ?_
  rfl
  refine so_of ?_
  refine se_const ?_
  rfl
  rfl
  refine ss_cons ?_ ?_
  refine s1_set (i := 3) ?_ ?_ ?_ ?_ ?_ ?_
  exact sc_l_pour.nd
  rfl
  (first | exact Or.inl rfl | exact Or.inr rfl)
  rfl
  (first | exact Or.inr rfl | exact Or.inl rfl)
  refine se_op (s_bin .Mod) ?_ ?_
  refine so_of ?_
  refine se_idx ?_ ?_ ?_
  exact (fun _ _ => (by rfl))
  refine so_borO (i := 0) ?_ ?_ ?_ ?_
  rfl
  (first | exact Or.inl rfl | exact Or.inr (Or.inl rfl) | exact Or.inr (Or.inr rfl))
  rfl
  rfl
  refine so_of ?_
  refine se_const ?_
  rfl
  refine so_borO (i := 1) ?_ ?_ ?_ ?_
  rfl
  (first | exact Or.inl rfl | exact Or.inr (Or.inl rfl) | exact Or.inr (Or.inr rfl))
  rfl
  rfl
  refine ss_cons ?_ ?_
  refine s1_put (i := 0) ?_ ?_ ?_ ?_ ?_ ?_ ?_ ?_ ?_ ?_
  rfl
  (first | exact Or.inl rfl | exact Or.inr (Or.inl rfl) | exact Or.inr (Or.inr rfl))
  rfl
  rfl
  exact (fun _ => (by rfl))
  rfl
  rfl
  rfl
  refine se_op (s_bin .FloorDiv) ?_ ?_
  refine so_of ?_
  refine se_idx ?_ ?_ ?_
  exact (fun _ _ => (by rfl))
  refine so_borO (i := 0) ?_ ?_ ?_ ?_
  rfl
  (first | exact Or.inl rfl | exact Or.inr (Or.inl rfl) | exact Or.inr (Or.inr rfl))
  rfl
  rfl
  refine so_of ?_
  refine se_const ?_
  rfl
  refine so_borO (i := 1) ?_ ?_ ?_ ?_
  rfl
  (first | exact Or.inl rfl | exact Or.inr (Or.inl rfl) | exact Or.inr (Or.inr rfl))
  rfl
  rfl
  refine se_const ?_
  rfl
  refine ss_one ?_
  refine s1_retO (i := 3) ?_ ?_ ?_ ?_
  rfl
  (first | exact Or.inl rfl | exact Or.inr (Or.inl rfl) | exact Or.inr (Or.inr rfl))
  rfl
  rfl
  refine ss_cons ?_ ?_
  refine s1_put (i := 0) ?_ ?_ ?_ ?_ ?_ ?_ ?_ ?_ ?_ ?_
  rfl
  (first | exact Or.inl rfl | exact Or.inr (Or.inl rfl) | exact Or.inr (Or.inr rfl))
  rfl
  rfl
  exact (fun _ => (by rfl))
  rfl
  rfl
  rfl
  refine SF.se ?_
  refine sf_op f_add ?_ ?_
  refine so_of ?_
  refine se_idx ?_ ?_ ?_
  exact (fun _ _ => (by rfl))
  refine so_borO (i := 0) ?_ ?_ ?_ ?_
  rfl
  (first | exact Or.inl rfl | exact Or.inr (Or.inl rfl) | exact Or.inr (Or.inr rfl))
  rfl
  rfl
  refine so_of ?_
  refine se_const ?_
  rfl
  refine so_of ?_
  refine se_const ?_
  rfl
  refine se_const ?_
  rfl
  refine ss_cons ?_ ?_
  refine s1_set (i := 2) ?_ ?_ ?_ ?_ ?_ ?_
  exact sc_l_pour.nd
  rfl
  (first | exact Or.inl rfl | exact Or.inr rfl)
  rfl
  (first | exact Or.inr rfl | exact Or.inl rfl)
  refine se_op (s_bin .Mod) ?_ ?_
  refine so_of ?_
  refine se_op (s_bin .Pow) ?_ ?_
  refine so_of ?_
  refine SF.se ?_
  refine sf_op f_add ?_ ?_
  refine so_of ?_
  refine se_idx ?_ ?_ ?_
  exact (fun _ _ => (by rfl))
  refine so_borO (i := 0) ?_ ?_ ?_ ?_
  rfl
  (first | exact Or.inl rfl | exact Or.inr (Or.inl rfl) | exact Or.inr (Or.inr rfl))
  rfl
  rfl
  refine so_of ?_
  refine se_const ?_
  rfl
  refine so_of ?_
  refine SF.se ?_
  refine sf_op f_mul ?_ ?_
  refine so_of ?_
  refine se_const ?_
  rfl
  refine so_of ?_
  refine se_idx ?_ ?_ ?_
  exact (fun _ _ => (by rfl))
  refine so_borO (i := 0) ?_ ?_ ?_ ?_
  rfl
  (first | exact Or.inl rfl | exact Or.inr (Or.inl rfl) | exact Or.inr (Or.inr rfl))
  rfl
  rfl
  refine so_of ?_
  refine se_const ?_
  rfl
  refine so_of ?_
  refine se_const ?_
  rfl
  refine so_of ?_
  refine SF.se ?_
  refine sf_op f_add ?_ ?_
  refine so_of ?_
  refine se_op (s_bin .Pow) ?_ ?_
  refine so_of ?_
  refine se_const ?_
  rfl
  refine so_of ?_
  refine se_const ?_
  rfl
  refine so_of ?_
  refine se_const ?_
  rfl
  refine ss_cons ?_ ?_
  refine s1_set (i := 2) ?_ ?_ ?_ ?_ ?_ ?_
  exact sc_l_pour.nd
  rfl
  (first | exact Or.inl rfl | exact Or.inr rfl)
  rfl
  (first | exact Or.inr rfl | exact Or.inl rfl)
  refine se_op (s_bin .Mod) ?_ ?_
  refine so_of ?_
  refine se_op (s_bin .Pow) ?_ ?_
  refine so_of ?_
  refine SF.se ?_
  refine sf_op f_add ?_ ?_
  refine so_borO (i := 2) ?_ ?_ ?_ ?_
  rfl
  (first | exact Or.inl rfl | exact Or.inr (Or.inl rfl) | exact Or.inr (Or.inr rfl))
  rfl
  rfl
  refine so_of ?_
  refine SF.se ?_
  refine sf_op f_mul ?_ ?_
  refine so_of ?_
  refine se_const ?_
  rfl
  refine so_of ?_
  refine se_idx ?_ ?_ ?_
  exact (fun _ _ => (by rfl))
  refine so_borO (i := 0) ?_ ?_ ?_ ?_
  rfl
  (first | exact Or.inl rfl | exact Or.inr (Or.inl rfl) | exact Or.inr (Or.inr rfl))
  rfl
  rfl
  refine so_of ?_
  refine se_const ?_
  rfl
  refine so_of ?_
  refine se_const ?_
  rfl
  refine so_of ?_
  refine SF.se ?_
  refine sf_op f_add ?_ ?_
  refine so_of ?_
  refine se_op (s_bin .Pow) ?_ ?_
  refine so_of ?_
  refine se_const ?_
  rfl
  refine so_of ?_
  refine se_const ?_
  rfl
  refine so_of ?_
  refine se_const ?_
  rfl
  refine ss_one ?_
  refine s1_ret ?_
  refine se_op (s_bin .Mod) ?_ ?_
  refine so_of ?_
  refine se_op (s_bin .FloorDiv) ?_ ?_
  refine so_borO (i := 2) ?_ ?_ ?_ ?_
  rfl
  (first | exact Or.inl rfl | exact Or.inr (Or.inl rfl) | exact Or.inr (Or.inr rfl))
  rfl
  rfl
  refine so_of ?_
  refine se_const ?_
  rfl
  refine so_borO (i := 1) ?_ ?_ ?_ ?_
  rfl
  (first | exact Or.inl rfl | exact Or.inr (Or.inl rfl) | exact Or.inr (Or.inr rfl))
  rfl
  rfl
theorem c_l_pour (W : Wd K mg) (hD : base.NoDigits) {f : Addr} {fd : FuncData} (F : FunD K "_law_pour" "_law_pour" (defArgs s_l_pour) (defBody s_l_pour) (defScope s_l_pour) [] [] f fd) (hm : mg "_law_pour" = some (.ref f)) : CalD P w K mg base 1 "_law_pour" 2 l_pour_den := calD (ps := ["_law_jug_here", "_law_many"]) F (o_l_pour W hD F) hm fnDen_len (fun _ _ _ _ _ _ us hl => match us, hl with | [_, _], _ => rfl)
def l_moment_b : Rp.Env → Res := (dSeq (dSetF 1 (dispD .lst (consA (asV (callU true l_pour_den (consA (borO 0) (consA (asV (bin2 (binD .Pow) (asV (pureD (.int 10))) (asV (pureD (.int 40))))) nilA)))) (consA (asV (callU true l_pour_den (consA (borO 0) (consA (asV (pureD (.int 5000))) nilA)))) (consA (asV (bin2 (binD .Mult) (asV (pureD (.int 1440))) (asV (callU true l_pour_den (consA (borO 0) (consA (asV (bin2 (binD .Pow) (asV (pureD (.int 10))) (asV (pureD (.int 36))))) nilA)))))) nilA))))) (dSeq (dApp 1 (bin2 (binD .Add) (asV (bin2 (binD .Mult) (asV (pureD (.int 1440))) (asV (callU true l_pour_den (consA (borO 0) (consA (asV (bin2 (binD .Pow) (asV (pureD (.int 10))) (asV (pureD (.int 6))))) nilA)))))) (asV (pureD (.int 1439))))) (dRet (bin2 D.idx (borO 1) (asV (callU true l_pour_den (consA (borO 0) (consA (asV (pureD (.int 4))) nilA))))))))
def l_moment_den : List Rp.Arg → Res := fnDen 2 1 l_moment_b
theorem o_l_moment (W : Wd K mg) (hD : base.NoDigits) {f : Addr} {fd : FuncData} (F : FunD K "_law_moment" "_law_moment" (defArgs s_l_moment) (defBody s_l_moment) (defScope s_l_moment) [] [] f fd) (c_l_pour : CalD P w K mg base 1 "_law_pour" 2 l_pour_den) : FnOk P w K mg base (L2N.CX P w) 2 f fd ["_law_jug_here"] (spD K mg 1 l_moment_den) := by
  refine funD_ok (N := ["_law_jug_here", "_law_some"]) (ps := ["_law_jug_here"]) (k := 1) (den := l_moment_b) F sc_l_moment (fun cdv A outer s H E hr => ?_)
  refine ss_cons ?_ ?_
  refine s1_setF (i := 1) ?_ ?_ ?_ ?_ ?_ ?_
  exact sc_l_moment.nd
  rfl
  (first | exact Or.inl rfl | exact Or.inr rfl)
  rfl
  (first | exact Or.inr rfl | exact Or.inl rfl)
  refine sf_lst ?_
  refine sa_cons ?_ ?_ ?_
  rfl
  refine so_of ?_
  refine SF.se ?_
  refine sf_callU c_l_pour hr ?_ ?_ ?_ ?_ ?_
  decide
  rfl
  rfl
  rfl
  refine sa_cons ?_ ?_ ?_
  rfl
  refine so_borO (i := 0) ?_ ?_ ?_ ?_
  rfl
  (first | exact Or.inl rfl | exact Or.inr (Or.inl rfl) | exact Or.inr (Or.inr rfl))
  rfl
  rfl
  refine sa_cons ?_ ?_ sa_nil
  rfl
  refine so_of ?_
  refine se_op (s_bin .Pow) ?_ ?_
  refine so_of ?_
  refine se_const ?_
  rfl
  refine so_of ?_
  refine se_const ?_
  rfl
  refine sa_cons ?_ ?_ ?_
  rfl
  refine so_of ?_
  refine SF.se ?_
  refine sf_callU c_l_pour hr ?_ ?_ ?_ ?_ ?_
  decide
  rfl
  rfl
  rfl
  refine sa_cons ?_ ?_ ?_
  rfl
  refine so_borO (i := 0) ?_ ?_ ?_ ?_
  rfl
  (first | exact Or.inl rfl | exact Or.inr (Or.inl rfl) | exact Or.inr (Or.inr rfl))
  rfl
  rfl
  refine sa_cons ?_ ?_ sa_nil
  rfl
  refine so_of ?_
  refine se_const ?_
  rfl
  refine sa_cons ?_ ?_ sa_nil
  rfl
  refine so_of ?_
  refine SF.se ?_
  refine sf_op f_mul ?_ ?_
  refine so_of ?_
  refine se_const ?_
  rfl
  refine so_of ?_
  refine SF.se ?_
  refine sf_callU c_l_pour hr ?_ ?_ ?_ ?_ ?_
  decide
  rfl
  rfl
  rfl
  refine sa_cons ?_ ?_ ?_
  rfl
  refine so_borO (i := 0) ?_ ?_ ?_ ?_
  rfl
  (first | exact Or.inl rfl | exact Or.inr (Or.inl rfl) | exact Or.inr (Or.inr rfl))
  rfl
  rfl
  refine sa_cons ?_ ?_ sa_nil
  rfl
  refine so_of ?_
  refine se_op (s_bin .Pow) ?_ ?_
  refine so_of ?_
  refine se_const ?_
  rfl
  refine so_of ?_
  refine se_const ?_
  rfl
  refine ss_cons ?_ ?_
  refine s1_app (i := 1) ?_ ?_ ?_ ?_ ?_ ?_ ?_ ?_ ?_ ?_
  rfl
  (first | exact Or.inl rfl | exact Or.inr (Or.inl rfl) | exact Or.inr (Or.inr rfl))
  rfl
  rfl
  rfl
  rfl
  rfl
  rfl
  rfl
  refine SF.se ?_
  refine sf_op f_add ?_ ?_
  refine so_of ?_
  refine SF.se ?_
  refine sf_op f_mul ?_ ?_
  refine so_of ?_
  refine se_const ?_
  rfl
  refine so_of ?_
  refine SF.se ?_
  refine sf_callU c_l_pour hr ?_ ?_ ?_ ?_ ?_
  decide
  rfl
  rfl
  rfl
  refine sa_cons ?_ ?_ ?_
  rfl
  refine so_borO (i := 0) ?_ ?_ ?_ ?_
  rfl
  (first | exact Or.inl rfl | exact Or.inr (Or.inl rfl) | exact Or.inr (Or.inr rfl))
  rfl
  rfl
  refine sa_cons ?_ ?_ sa_nil
  rfl
  refine so_of ?_
  refine se_op (s_bin .Pow) ?_ ?_
  refine so_of ?_
  refine se_const ?_
  rfl
  refine so_of ?_
  refine se_const ?_
  rfl
  refine so_of ?_
  refine se_const ?_
  rfl
  refine ss_one ?_
  refine s1_ret ?_
  refine se_idx ?_ ?_ ?_
  exact (fun _ _ => (by rfl))
  refine so_borO (i := 1) ?_ ?_ ?_ ?_
  rfl
  (first | exact Or.inl rfl | exact Or.inr (Or.inl rfl) | exact Or.inr (Or.inr rfl))
  rfl
  rfl
  refine so_of ?_
  refine SF.se ?_
  refine sf_callU c_l_pour hr ?_ ?_ ?_ ?_ ?_
  decide
  rfl
  rfl
  rfl
  refine sa_cons ?_ ?_ ?_
  rfl
  refine so_borO (i := 0) ?_ ?_ ?_ ?_
  rfl
  (first | exact Or.inl rfl | exact Or.inr (Or.inl rfl) | exact Or.inr (Or.inr rfl))
  rfl
  rfl
  refine sa_cons ?_ ?_ sa_nil
  rfl
  refine so_of ?_
  refine se_const ?_
  rfl
theorem c_l_moment (W : Wd K mg) (hD : base.NoDigits) {f : Addr} {fd : FuncData} (F : FunD K "_law_moment" "_law_moment" (defArgs s_l_moment) (defBody s_l_moment) (defScope s_l_moment) [] [] f fd) (hm : mg "_law_moment" = some (.ref f)) (c_l_pour : CalD P w K mg base 1 "_law_pour" 2 l_pour_den) : CalD P w K mg base 2 "_law_moment" 1 l_moment_den := calD (ps := ["_law_jug_here"]) F (o_l_moment W hD F c_l_pour) hm fnDen_len (fun _ _ _ _ _ _ us hl => match us, hl with | [_], _ => rfl)
def l_word_InvalidTime_b (a : Addr) : Rp.Env → Res := (dSeq (dSetF 1 (dispD .lst (consA (asV (dispD .tup (consA (asV (pureD (.str "time"))) (consA (asV (exI 0 a true)) nilA)))) (consA (asV (dispD .tup (consA (asV (pureD (.str "day"))) (consA (asV (exI 0 a false)) nilA)))) nilA)))) (dSeq (dSetF 1 (bin2 (binD .Add) (borO 1) (asV (dispD .lst (consA (asV (dispD .tup (consA (asV (pureD (.str "minute"))) (consA (asV (exI 0 a false)) nilA)))) nilA))))) (dSeq (dSet 2 (exI 0 a (false || (false || (false || (false || (false || false))))))) (dSeq (dSet 2 (orV (rdVar 2) (exI 0 a (false || (false || (false || (false || (false || false)))))))) (dSeq (dSet 2 (orV (rdVar 2) (exI 0 a (false || (false || (false || (false || (false || false)))))))) (dSeq (dSet 2 (orV (rdVar 2) (exI 0 a (false || (false || (false || (false || (false || false)))))))) (dSeq (dSet 2 (orV (rdVar 2) (exI 0 a (false || (false || (false || (false || (false || false)))))))) (dSeq (dSet 2 (orV (rdVar 2) (exI 0 a (false || (false || (false || false)))))) (dSeq (dSetF 3 (lcD [4, 5] (borI 1) (gTupD 2 (gConsD (setN 4) (gConsD (setN 5) gNilD))) (truB (borO 5)) (rdVar 4))) (dRet (iteV (orB (truB (borO 2)) (orB (bB (bin2 (cmpD .NotEq) (asV (callD lenD (consA (borO 3) nilA))) (asV (pureD (.int 1))))) (notB (truB (asV (exI 0 a true)))))) (pureD (.str "odd")) (bin2 D.idx (borO 3) (asV (pureD (.int 0)))))))))))))))
def l_word_InvalidTime_den (a : Addr) : List Rp.Arg → Res := fnDen 6 1 (l_word_InvalidTime_b a)
theorem p_l_word_InvalidTime (W : Wd K mg) {f : Addr} {fd : FuncData} (F : FunD K "_law_word" "_law_word" (defArgs s_l_word) (defBody s_l_word) (defScope s_l_word) [] [] f fd) (hm : mg "_law_word" = some (.ref f)) : CalP P w K mg base 1 "_law_word" (Zz K "InvalidTime") l_word_InvalidTime_den := by
  refine calP (N := ["_law_e", "_law_pairs", "_law_odd", "_law_found", "_law_tag", "_law_fits"]) (y := "_law_e") (k := 0) (den := l_word_InvalidTime_b) (Z := Zz K "InvalidTime") F sc_l_word hm (fun _ _ _ _ _ _ us hl => match us, hl with | [_], _ => rfl) (fun cdv A outer s H E p hot hz hr => ?_)
  have xp : ExPin (cxH (L2N.CX P w) P w K mg base ["_law_e", "_law_pairs", "_law_odd", "_law_found", "_law_tag", "_law_fits"] "_law_word" (defScope s_l_word) f cdv A outer s H E p) p (He.ga K "InvalidTime") := ⟨List.mem_cons_self, W.x_InvalidTime, hz.1, hz.2⟩
  refine ss_cons ?_ ?_
  refine s1_setF (i := 1) ?_ ?_ ?_ ?_ ?_ ?_
  exact sc_l_word.nd
  rfl
  (first | exact Or.inl rfl | exact Or.inr rfl)
  rfl
  (first | exact Or.inr rfl | exact Or.inl rfl)
  refine sf_lst ?_
  refine sa_cons ?_ ?_ ?_
  rfl
  refine so_of ?_
  refine se_tup ?_
  refine sa_cons ?_ ?_ ?_
  rfl
  refine so_of ?_
  refine se_const ?_
  rfl
  refine sa_cons ?_ ?_ sa_nil
  rfl
  refine so_of ?_
  refine se_exI (p := p) (i := 0) (b := true) xp ?_ ?_ ?_ ?_ ?_ W.n_isinstance ?_ W.g_InvalidTime ?_ W.k_InvalidTime_InvalidTime
  rfl
  (first | exact Or.inl rfl | exact Or.inr (Or.inl rfl) | exact Or.inr (Or.inr rfl))
  rfl
  rfl
  rfl
  rfl
  rfl
  refine sa_cons ?_ ?_ sa_nil
  rfl
  refine so_of ?_
  refine se_tup ?_
  refine sa_cons ?_ ?_ ?_
  rfl
  refine so_of ?_
  refine se_const ?_
  rfl
  refine sa_cons ?_ ?_ sa_nil
  rfl
  refine so_of ?_
  refine se_exI (p := p) (i := 0) (b := false) xp ?_ ?_ ?_ ?_ ?_ W.n_isinstance ?_ W.g_InvalidDay ?_ W.k_InvalidTime_InvalidDay
  rfl
  (first | exact Or.inl rfl | exact Or.inr (Or.inl rfl) | exact Or.inr (Or.inr rfl))
  rfl
  rfl
  rfl
  rfl
  rfl
  refine ss_cons ?_ ?_
  refine s1_setF (i := 1) ?_ ?_ ?_ ?_ ?_ ?_
  exact sc_l_word.nd
  rfl
  (first | exact Or.inl rfl | exact Or.inr rfl)
  rfl
  (first | exact Or.inr rfl | exact Or.inl rfl)
  refine sf_op f_add ?_ ?_
  refine so_borO (i := 1) ?_ ?_ ?_ ?_
  rfl
  (first | exact Or.inl rfl | exact Or.inr (Or.inl rfl) | exact Or.inr (Or.inr rfl))
  rfl
  rfl
  refine so_of ?_
  refine SF.se ?_
  refine sf_lst ?_
  refine sa_cons ?_ ?_ sa_nil
  rfl
  refine so_of ?_
  refine se_tup ?_
  refine sa_cons ?_ ?_ ?_
  rfl
  refine so_of ?_
  refine se_const ?_
  rfl
  refine sa_cons ?_ ?_ sa_nil
  rfl
  refine so_of ?_
  refine se_exI (p := p) (i := 0) (b := false) xp ?_ ?_ ?_ ?_ ?_ W.n_isinstance ?_ W.g_InvalidMinute ?_ W.k_InvalidTime_InvalidMinute
  rfl
  (first | exact Or.inl rfl | exact Or.inr (Or.inl rfl) | exact Or.inr (Or.inr rfl))
  rfl
  rfl
  rfl
  rfl
  rfl
  refine ss_cons ?_ ?_
  refine s1_set (i := 2) ?_ ?_ ?_ ?_ ?_ ?_
  exact sc_l_word.nd
  rfl
  (first | exact Or.inl rfl | exact Or.inr rfl)
  rfl
  (first | exact Or.inr rfl | exact Or.inl rfl)
  refine se_exIT (p := p) (i := 0) (b := (false || (false || (false || (false || (false || false)))))) xp ?_ ?_ ?_ ?_ ?_ W.n_isinstance (OwnNames.cons (by rfl) W.g_InvalidText (by rfl) W.k_InvalidTime_InvalidText (OwnNames.cons (by rfl) W.g_InvalidCalendar (by rfl) W.k_InvalidTime_InvalidCalendar (OwnNames.cons (by rfl) W.g_InvalidIndex (by rfl) W.k_InvalidTime_InvalidIndex (OwnNames.cons (by rfl) W.g_InvalidNumber (by rfl) W.k_InvalidTime_InvalidNumber (OwnNames.cons (by rfl) W.g_NotANetwork (by rfl) W.k_InvalidTime_NotANetwork OwnNames.nil))))) ?_
  rfl
  (first | exact Or.inl rfl | exact Or.inr (Or.inl rfl) | exact Or.inr (Or.inr rfl))
  rfl
  rfl
  rfl
  simp
  refine ss_cons ?_ ?_
  refine s1_set (i := 2) ?_ ?_ ?_ ?_ ?_ ?_
  exact sc_l_word.nd
  rfl
  (first | exact Or.inl rfl | exact Or.inr rfl)
  rfl
  (first | exact Or.inr rfl | exact Or.inl rfl)
  refine se_or ?_ ?_
  refine se_var (i := 2) ?_ ?_ ?_ ?_
  rfl
  (first | exact Or.inl rfl | exact Or.inr (Or.inl rfl) | exact Or.inr (Or.inr rfl))
  rfl
  rfl
  refine se_one ?_
  refine se_exIT (p := p) (i := 0) (b := (false || (false || (false || (false || (false || false)))))) xp ?_ ?_ ?_ ?_ ?_ W.n_isinstance (OwnNames.cons (by rfl) W.g_InvalidStop (by rfl) W.k_InvalidTime_InvalidStop (OwnNames.cons (by rfl) W.g_InvalidTrip (by rfl) W.k_InvalidTime_InvalidTrip (OwnNames.cons (by rfl) W.g_InvalidCall (by rfl) W.k_InvalidTime_InvalidCall (OwnNames.cons (by rfl) W.g_NotARun (by rfl) W.k_InvalidTime_NotARun (OwnNames.cons (by rfl) W.g_InvalidSpan (by rfl) W.k_InvalidTime_InvalidSpan OwnNames.nil))))) ?_
  rfl
  (first | exact Or.inl rfl | exact Or.inr (Or.inl rfl) | exact Or.inr (Or.inr rfl))
  rfl
  rfl
  rfl
  simp
  refine ss_cons ?_ ?_
  refine s1_set (i := 2) ?_ ?_ ?_ ?_ ?_ ?_
  exact sc_l_word.nd
  rfl
  (first | exact Or.inl rfl | exact Or.inr rfl)
  rfl
  (first | exact Or.inr rfl | exact Or.inl rfl)
  refine se_or ?_ ?_
  refine se_var (i := 2) ?_ ?_ ?_ ?_
  rfl
  (first | exact Or.inl rfl | exact Or.inr (Or.inl rfl) | exact Or.inr (Or.inr rfl))
  rfl
  rfl
  refine se_one ?_
  refine se_exIT (p := p) (i := 0) (b := (false || (false || (false || (false || (false || false)))))) xp ?_ ?_ ?_ ?_ ?_ W.n_isinstance (OwnNames.cons (by rfl) W.g_InvalidJourney (by rfl) W.k_InvalidTime_InvalidJourney (OwnNames.cons (by rfl) W.g_InvalidList (by rfl) W.k_InvalidTime_InvalidList (OwnNames.cons (by rfl) W.g_InvalidProfile (by rfl) W.k_InvalidTime_InvalidProfile (OwnNames.cons (by rfl) W.g_OtherSpan (by rfl) W.k_InvalidTime_OtherSpan (OwnNames.cons (by rfl) W.g_OtherStops (by rfl) W.k_InvalidTime_OtherStops OwnNames.nil))))) ?_
  rfl
  (first | exact Or.inl rfl | exact Or.inr (Or.inl rfl) | exact Or.inr (Or.inr rfl))
  rfl
  rfl
  rfl
  simp
  refine ss_cons ?_ ?_
  refine s1_set (i := 2) ?_ ?_ ?_ ?_ ?_ ?_
  exact sc_l_word.nd
  rfl
  (first | exact Or.inl rfl | exact Or.inr rfl)
  rfl
  (first | exact Or.inr rfl | exact Or.inl rfl)
  refine se_or ?_ ?_
  refine se_var (i := 2) ?_ ?_ ?_ ?_
  rfl
  (first | exact Or.inl rfl | exact Or.inr (Or.inl rfl) | exact Or.inr (Or.inr rfl))
  rfl
  rfl
  refine se_one ?_
  refine se_exIT (p := p) (i := 0) (b := (false || (false || (false || (false || (false || false)))))) xp ?_ ?_ ?_ ?_ ?_ W.n_isinstance (OwnNames.cons (by rfl) W.g_InvalidMessages (by rfl) W.k_InvalidTime_InvalidMessages (OwnNames.cons (by rfl) W.g_InvalidWaits (by rfl) W.k_InvalidTime_InvalidWaits (OwnNames.cons (by rfl) W.g_WaitingRing (by rfl) W.k_InvalidTime_WaitingRing (OwnNames.cons (by rfl) W.g_InvalidRide (by rfl) W.k_InvalidTime_InvalidRide (OwnNames.cons (by rfl) W.g_InvalidLateness (by rfl) W.k_InvalidTime_InvalidLateness OwnNames.nil))))) ?_
  rfl
  (first | exact Or.inl rfl | exact Or.inr (Or.inl rfl) | exact Or.inr (Or.inr rfl))
  rfl
  rfl
  rfl
  simp
  refine ss_cons ?_ ?_
  refine s1_set (i := 2) ?_ ?_ ?_ ?_ ?_ ?_
  exact sc_l_word.nd
  rfl
  (first | exact Or.inl rfl | exact Or.inr rfl)
  rfl
  (first | exact Or.inr rfl | exact Or.inl rfl)
  refine se_or ?_ ?_
  refine se_var (i := 2) ?_ ?_ ?_ ?_
  rfl
  (first | exact Or.inl rfl | exact Or.inr (Or.inl rfl) | exact Or.inr (Or.inr rfl))
  rfl
  rfl
  refine se_one ?_
  refine se_exIT (p := p) (i := 0) (b := (false || (false || (false || (false || (false || false)))))) xp ?_ ?_ ?_ ?_ ?_ W.n_isinstance (OwnNames.cons (by rfl) W.g_InvalidChanges (by rfl) W.k_InvalidTime_InvalidChanges (OwnNames.cons (by rfl) W.g_InvalidChange (by rfl) W.k_InvalidTime_InvalidChange (OwnNames.cons (by rfl) W.g_NothingToUndo (by rfl) W.k_InvalidTime_NothingToUndo (OwnNames.cons (by rfl) W.g_NotATimetable (by rfl) W.k_InvalidTime_NotATimetable (OwnNames.cons (by rfl) W.g_NotAStaircase (by rfl) W.k_InvalidTime_NotAStaircase OwnNames.nil))))) ?_
  rfl
  (first | exact Or.inl rfl | exact Or.inr (Or.inl rfl) | exact Or.inr (Or.inr rfl))
  rfl
  rfl
  rfl
  simp
  refine ss_cons ?_ ?_
  refine s1_set (i := 2) ?_ ?_ ?_ ?_ ?_ ?_
  exact sc_l_word.nd
  rfl
  (first | exact Or.inl rfl | exact Or.inr rfl)
  rfl
  (first | exact Or.inr rfl | exact Or.inl rfl)
  refine se_or ?_ ?_
  refine se_var (i := 2) ?_ ?_ ?_ ?_
  rfl
  (first | exact Or.inl rfl | exact Or.inr (Or.inl rfl) | exact Or.inr (Or.inr rfl))
  rfl
  rfl
  refine se_one ?_
  refine se_exIT (p := p) (i := 0) (b := (false || (false || (false || false)))) xp ?_ ?_ ?_ ?_ ?_ W.n_isinstance (OwnNames.cons (by rfl) W.g_NotAllowed (by rfl) W.k_InvalidTime_NotAllowed (OwnNames.cons (by rfl) W.g_BadJourney (by rfl) W.k_InvalidTime_BadJourney (OwnNames.cons (by rfl) W.g_TooLate (by rfl) W.k_InvalidTime_TooLate OwnNames.nil))) ?_
  rfl
  (first | exact Or.inl rfl | exact Or.inr (Or.inl rfl) | exact Or.inr (Or.inr rfl))
  rfl
  rfl
  rfl
  simp
  refine ss_cons ?_ ?_
  refine s1_setLcO (p := p) (i := 3) (own := [("_law_tag", 4), ("_law_fits", 5)]) (is := [4, 5]) ?_ ?_ ?_ ?_ ?_ ?_ ?_ ?_ ?_ ?_ ?_ ?_ ?_
  exact hot
  exact List.mem_cons_self
  exact sc_l_word.nd
  exact (blkOk_by (by rfl))
  decide
  exact (fun _ => (by rfl))
  rfl
  rfl
  exact (sw_true (by rfl) (by rfl) (by rfl) (by rfl))
  exact (siO_bor (i := 1) (by rfl) (by first | exact Or.inl rfl | exact Or.inr (Or.inl rfl) | exact Or.inr (Or.inr rfl)) (by rfl) (by rfl))
  exact (sgO_tup (p := p) (by exact hot) (by rfl) (fun _ _ _ _ _ => (sgs_cons (i1 := [4]) (i2 := [5]) (by rfl) (sg_name (i := 4) sc_l_word.nd (by rfl) (by first | exact Or.inl rfl | exact Or.inr rfl) (by first | exact Or.inr rfl | exact Or.inl rfl)) (sgs_cons (i1 := [5]) (i2 := []) (by rfl) (sg_name (i := 5) sc_l_word.nd (by rfl) (by first | exact Or.inl rfl | exact Or.inr rfl) (by first | exact Or.inr rfl | exact Or.inl rfl)) sgs_nil))))
  intro _ _ _ _ _
  refine st_some ?_
  refine st_val ?_ ?_
  refine so_borO (i := 5) ?_ ?_ ?_ ?_
  rfl
  (first | exact Or.inl rfl | exact Or.inr (Or.inl rfl) | exact Or.inr (Or.inr rfl))
  rfl
  rfl
  exact (fun _ => (by rfl))
  intro _ _ _ _ _
  refine se_var (i := 4) ?_ ?_ ?_ ?_
  rfl
  (first | exact Or.inl rfl | exact Or.inr (Or.inl rfl) | exact Or.inr (Or.inr rfl))
  rfl
  rfl
  refine ss_one ?_
  refine s1_ret ?_
  refine se_ite ?_ ?_ ?_
  refine st_or ?_ ?_
  refine st_val ?_ ?_
  refine so_borO (i := 2) ?_ ?_ ?_ ?_
  rfl
  (first | exact Or.inl rfl | exact Or.inr (Or.inl rfl) | exact Or.inr (Or.inr rfl))
  rfl
  rfl
  exact (fun _ => (by rfl))
  refine st_or ?_ ?_
  refine st_cmp (op := .NotEq) (hu65H hr) ?_ ?_ ?_
  refine so_of ?_
  refine SF.se ?_
  refine sf_callB c_len ?_ W.n_len bt_len ?_ ?_ ?_ ?_
  rfl
  decide
  rfl
  rfl
  refine sa_cons ?_ ?_ sa_nil
  rfl
  refine so_borO (i := 3) ?_ ?_ ?_ ?_
  rfl
  (first | exact Or.inl rfl | exact Or.inr (Or.inl rfl) | exact Or.inr (Or.inr rfl))
  rfl
  rfl
  refine so_of ?_
  refine se_const ?_
  rfl
  rfl
  refine st_one ?_
  refine st_not ?_
  refine st_val ?_ ?_
  refine so_of ?_
  refine se_exIB (p := p) (i := 0) (b := true) xp ?_ ?_ ?_ ?_ ?_ W.n_isinstance ⟨(by rfl), W.n_ValueError, bt_ValueError, by decide, (by rfl)⟩ W.t_InvalidTime
  rfl
  (first | exact Or.inl rfl | exact Or.inr (Or.inl rfl) | exact Or.inr (Or.inr rfl))
  rfl
  rfl
  rfl
  exact (fun _ => (by rfl))
  refine se_const ?_
  rfl
  refine se_idx ?_ ?_ ?_
  exact (fun _ _ => (by rfl))
  refine so_borO (i := 3) ?_ ?_ ?_ ?_
  rfl
  (first | exact Or.inl rfl | exact Or.inr (Or.inl rfl) | exact Or.inr (Or.inr rfl))
  rfl
  rfl
  refine so_of ?_
  refine se_const ?_
  rfl
theorem v_l_word_InvalidTime (a : Addr) : ∃ (b : Bool) (e : Rp.Env), l_word_InvalidTime_den a [.v (.obj a [])] = .rt (.str "time") b e := by
  apply Exists.intro
  apply Exists.intro
  simp [l_word_InvalidTime_den, startE, Arg.slot, l_word_InvalidTime_b, Res.chk, backsOk, lockE, unlockE, lcL, wipeE, backE, lenD, ne_int0, D.add]
  first | exact ⟨rfl, rfl⟩ | exact rfl
def l_word_InvalidDay_b (a : Addr) : Rp.Env → Res := (dSeq (dSetF 1 (dispD .lst (consA (asV (dispD .tup (consA (asV (pureD (.str "time"))) (consA (asV (exI 0 a false)) nilA)))) (consA (asV (dispD .tup (consA (asV (pureD (.str "day"))) (consA (asV (exI 0 a true)) nilA)))) nilA)))) (dSeq (dSetF 1 (bin2 (binD .Add) (borO 1) (asV (dispD .lst (consA (asV (dispD .tup (consA (asV (pureD (.str "minute"))) (consA (asV (exI 0 a false)) nilA)))) nilA))))) (dSeq (dSet 2 (exI 0 a (false || (false || (false || (false || (false || false))))))) (dSeq (dSet 2 (orV (rdVar 2) (exI 0 a (false || (false || (false || (false || (false || false)))))))) (dSeq (dSet 2 (orV (rdVar 2) (exI 0 a (false || (false || (false || (false || (false || false)))))))) (dSeq (dSet 2 (orV (rdVar 2) (exI 0 a (false || (false || (false || (false || (false || false)))))))) (dSeq (dSet 2 (orV (rdVar 2) (exI 0 a (false || (false || (false || (false || (false || false)))))))) (dSeq (dSet 2 (orV (rdVar 2) (exI 0 a (false || (false || (false || false)))))) (dSeq (dSetF 3 (lcD [4, 5] (borI 1) (gTupD 2 (gConsD (setN 4) (gConsD (setN 5) gNilD))) (truB (borO 5)) (rdVar 4))) (dRet (iteV (orB (truB (borO 2)) (orB (bB (bin2 (cmpD .NotEq) (asV (callD lenD (consA (borO 3) nilA))) (asV (pureD (.int 1))))) (notB (truB (asV (exI 0 a true)))))) (pureD (.str "odd")) (bin2 D.idx (borO 3) (asV (pureD (.int 0)))))))))))))))
def l_word_InvalidDay_den (a : Addr) : List Rp.Arg → Res := fnDen 6 1 (l_word_InvalidDay_b a)
theorem p_l_word_InvalidDay (W : Wd K mg) {f : Addr} {fd : FuncData} (F : FunD K "_law_word" "_law_word" (defArgs s_l_word) (defBody s_l_word) (defScope s_l_word) [] [] f fd) (hm : mg "_law_word" = some (.ref f)) : CalP P w K mg base 1 "_law_word" (Zz K "InvalidDay") l_word_InvalidDay_den := by
  refine calP (N := ["_law_e", "_law_pairs", "_law_odd", "_law_found", "_law_tag", "_law_fits"]) (y := "_law_e") (k := 0) (den := l_word_InvalidDay_b) (Z := Zz K "InvalidDay") F sc_l_word hm (fun _ _ _ _ _ _ us hl => match us, hl with | [_], _ => rfl) (fun cdv A outer s H E p hot hz hr => ?_)
  have xp : ExPin (cxH (L2N.CX P w) P w K mg base ["_law_e", "_law_pairs", "_law_odd", "_law_found", "_law_tag", "_law_fits"] "_law_word" (defScope s_l_word) f cdv A outer s H E p) p (He.ga K "InvalidDay") := ⟨List.mem_cons_self, W.x_InvalidDay, hz.1, hz.2⟩
  refine ss_cons ?_ ?_
  refine s1_setF (i := 1) ?_ ?_ ?_ ?_ ?_ ?_
  exact sc_l_word.nd
  rfl
  (first | exact Or.inl rfl | exact Or.inr rfl)
  rfl
  (first | exact Or.inr rfl | exact Or.inl rfl)
  refine sf_lst ?_
  refine sa_cons ?_ ?_ ?_
  rfl
  refine so_of ?_
  refine se_tup ?_
  refine sa_cons ?_ ?_ ?_
  rfl
  refine so_of ?_
  refine se_const ?_
  rfl
  refine sa_cons ?_ ?_ sa_nil
  rfl
  refine so_of ?_
  refine se_exI (p := p) (i := 0) (b := false) xp ?_ ?_ ?_ ?_ ?_ W.n_isinstance ?_ W.g_InvalidTime ?_ W.k_InvalidDay_InvalidTime
  rfl
  (first | exact Or.inl rfl | exact Or.inr (Or.inl rfl) | exact Or.inr (Or.inr rfl))
  rfl
  rfl
  rfl
  rfl
  rfl
  refine sa_cons ?_ ?_ sa_nil
  rfl
  refine so_of ?_
  refine se_tup ?_
  refine sa_cons ?_ ?_ ?_
  rfl
  refine so_of ?_
  refine se_const ?_
  rfl
  refine sa_cons ?_ ?_ sa_nil
  rfl
  refine so_of ?_
  refine se_exI (p := p) (i := 0) (b := true) xp ?_ ?_ ?_ ?_ ?_ W.n_isinstance ?_ W.g_InvalidDay ?_ W.k_InvalidDay_InvalidDay
  rfl
  (first | exact Or.inl rfl | exact Or.inr (Or.inl rfl) | exact Or.inr (Or.inr rfl))
  rfl
  rfl
  rfl
  rfl
  rfl
  refine ss_cons ?_ ?_
  refine s1_setF (i := 1) ?_ ?_ ?_ ?_ ?_ ?_
  exact sc_l_word.nd
  rfl
  (first | exact Or.inl rfl | exact Or.inr rfl)
  rfl
  (first | exact Or.inr rfl | exact Or.inl rfl)
  refine sf_op f_add ?_ ?_
  refine so_borO (i := 1) ?_ ?_ ?_ ?_
  rfl
  (first | exact Or.inl rfl | exact Or.inr (Or.inl rfl) | exact Or.inr (Or.inr rfl))
  rfl
  rfl
  refine so_of ?_
  refine SF.se ?_
  refine sf_lst ?_
  refine sa_cons ?_ ?_ sa_nil
  rfl
  refine so_of ?_
  refine se_tup ?_
  refine sa_cons ?_ ?_ ?_
  rfl
  refine so_of ?_
  refine se_const ?_
  rfl
  refine sa_cons ?_ ?_ sa_nil
  rfl
  refine so_of ?_
  refine se_exI (p := p) (i := 0) (b := false) xp ?_ ?_ ?_ ?_ ?_ W.n_isinstance ?_ W.g_InvalidMinute ?_ W.k_InvalidDay_InvalidMinute
  rfl
  (first | exact Or.inl rfl | exact Or.inr (Or.inl rfl) | exact Or.inr (Or.inr rfl))
  rfl
  rfl
  rfl
  rfl
  rfl
  refine ss_cons ?_ ?_
  refine s1_set (i := 2) ?_ ?_ ?_ ?_ ?_ ?_
  exact sc_l_word.nd
  rfl
  (first | exact Or.inl rfl | exact Or.inr rfl)
  rfl
  (first | exact Or.inr rfl | exact Or.inl rfl)
  refine se_exIT (p := p) (i := 0) (b := (false || (false || (false || (false || (false || false)))))) xp ?_ ?_ ?_ ?_ ?_ W.n_isinstance (OwnNames.cons (by rfl) W.g_InvalidText (by rfl) W.k_InvalidDay_InvalidText (OwnNames.cons (by rfl) W.g_InvalidCalendar (by rfl) W.k_InvalidDay_InvalidCalendar (OwnNames.cons (by rfl) W.g_InvalidIndex (by rfl) W.k_InvalidDay_InvalidIndex (OwnNames.cons (by rfl) W.g_InvalidNumber (by rfl) W.k_InvalidDay_InvalidNumber (OwnNames.cons (by rfl) W.g_NotANetwork (by rfl) W.k_InvalidDay_NotANetwork OwnNames.nil))))) ?_
  rfl
  (first | exact Or.inl rfl | exact Or.inr (Or.inl rfl) | exact Or.inr (Or.inr rfl))
  rfl
  rfl
  rfl
  simp
  refine ss_cons ?_ ?_
  refine s1_set (i := 2) ?_ ?_ ?_ ?_ ?_ ?_
  exact sc_l_word.nd
  rfl
  (first | exact Or.inl rfl | exact Or.inr rfl)
  rfl
  (first | exact Or.inr rfl | exact Or.inl rfl)
  refine se_or ?_ ?_
  refine se_var (i := 2) ?_ ?_ ?_ ?_
  rfl
  (first | exact Or.inl rfl | exact Or.inr (Or.inl rfl) | exact Or.inr (Or.inr rfl))
  rfl
  rfl
  refine se_one ?_
  refine se_exIT (p := p) (i := 0) (b := (false || (false || (false || (false || (false || false)))))) xp ?_ ?_ ?_ ?_ ?_ W.n_isinstance (OwnNames.cons (by rfl) W.g_InvalidStop (by rfl) W.k_InvalidDay_InvalidStop (OwnNames.cons (by rfl) W.g_InvalidTrip (by rfl) W.k_InvalidDay_InvalidTrip (OwnNames.cons (by rfl) W.g_InvalidCall (by rfl) W.k_InvalidDay_InvalidCall (OwnNames.cons (by rfl) W.g_NotARun (by rfl) W.k_InvalidDay_NotARun (OwnNames.cons (by rfl) W.g_InvalidSpan (by rfl) W.k_InvalidDay_InvalidSpan OwnNames.nil))))) ?_
  rfl
  (first | exact Or.inl rfl | exact Or.inr (Or.inl rfl) | exact Or.inr (Or.inr rfl))
  rfl
  rfl
  rfl
  simp
  refine ss_cons ?_ ?_
  refine s1_set (i := 2) ?_ ?_ ?_ ?_ ?_ ?_
  exact sc_l_word.nd
  rfl
  (first | exact Or.inl rfl | exact Or.inr rfl)
  rfl
  (first | exact Or.inr rfl | exact Or.inl rfl)
  refine se_or ?_ ?_
  refine se_var (i := 2) ?_ ?_ ?_ ?_
  rfl
  (first | exact Or.inl rfl | exact Or.inr (Or.inl rfl) | exact Or.inr (Or.inr rfl))
  rfl
  rfl
  refine se_one ?_
  refine se_exIT (p := p) (i := 0) (b := (false || (false || (false || (false || (false || false)))))) xp ?_ ?_ ?_ ?_ ?_ W.n_isinstance (OwnNames.cons (by rfl) W.g_InvalidJourney (by rfl) W.k_InvalidDay_InvalidJourney (OwnNames.cons (by rfl) W.g_InvalidList (by rfl) W.k_InvalidDay_InvalidList (OwnNames.cons (by rfl) W.g_InvalidProfile (by rfl) W.k_InvalidDay_InvalidProfile (OwnNames.cons (by rfl) W.g_OtherSpan (by rfl) W.k_InvalidDay_OtherSpan (OwnNames.cons (by rfl) W.g_OtherStops (by rfl) W.k_InvalidDay_OtherStops OwnNames.nil))))) ?_
  rfl
  (first | exact Or.inl rfl | exact Or.inr (Or.inl rfl) | exact Or.inr (Or.inr rfl))
  rfl
  rfl
  rfl
  simp
  refine ss_cons ?_ ?_
  refine s1_set (i := 2) ?_ ?_ ?_ ?_ ?_ ?_
  exact sc_l_word.nd
  rfl
  (first | exact Or.inl rfl | exact Or.inr rfl)
  rfl
  (first | exact Or.inr rfl | exact Or.inl rfl)
  refine se_or ?_ ?_
  refine se_var (i := 2) ?_ ?_ ?_ ?_
  rfl
  (first | exact Or.inl rfl | exact Or.inr (Or.inl rfl) | exact Or.inr (Or.inr rfl))
  rfl
  rfl
  refine se_one ?_
  refine se_exIT (p := p) (i := 0) (b := (false || (false || (false || (false || (false || false)))))) xp ?_ ?_ ?_ ?_ ?_ W.n_isinstance (OwnNames.cons (by rfl) W.g_InvalidMessages (by rfl) W.k_InvalidDay_InvalidMessages (OwnNames.cons (by rfl) W.g_InvalidWaits (by rfl) W.k_InvalidDay_InvalidWaits (OwnNames.cons (by rfl) W.g_WaitingRing (by rfl) W.k_InvalidDay_WaitingRing (OwnNames.cons (by rfl) W.g_InvalidRide (by rfl) W.k_InvalidDay_InvalidRide (OwnNames.cons (by rfl) W.g_InvalidLateness (by rfl) W.k_InvalidDay_InvalidLateness OwnNames.nil))))) ?_
  rfl
  (first | exact Or.inl rfl | exact Or.inr (Or.inl rfl) | exact Or.inr (Or.inr rfl))
  rfl
  rfl
  rfl
  simp
  refine ss_cons ?_ ?_
  refine s1_set (i := 2) ?_ ?_ ?_ ?_ ?_ ?_
  exact sc_l_word.nd
  rfl
  (first | exact Or.inl rfl | exact Or.inr rfl)
  rfl
  (first | exact Or.inr rfl | exact Or.inl rfl)
  refine se_or ?_ ?_
  refine se_var (i := 2) ?_ ?_ ?_ ?_
  rfl
  (first | exact Or.inl rfl | exact Or.inr (Or.inl rfl) | exact Or.inr (Or.inr rfl))
  rfl
  rfl
  refine se_one ?_
  refine se_exIT (p := p) (i := 0) (b := (false || (false || (false || (false || (false || false)))))) xp ?_ ?_ ?_ ?_ ?_ W.n_isinstance (OwnNames.cons (by rfl) W.g_InvalidChanges (by rfl) W.k_InvalidDay_InvalidChanges (OwnNames.cons (by rfl) W.g_InvalidChange (by rfl) W.k_InvalidDay_InvalidChange (OwnNames.cons (by rfl) W.g_NothingToUndo (by rfl) W.k_InvalidDay_NothingToUndo (OwnNames.cons (by rfl) W.g_NotATimetable (by rfl) W.k_InvalidDay_NotATimetable (OwnNames.cons (by rfl) W.g_NotAStaircase (by rfl) W.k_InvalidDay_NotAStaircase OwnNames.nil))))) ?_
  rfl
  (first | exact Or.inl rfl | exact Or.inr (Or.inl rfl) | exact Or.inr (Or.inr rfl))
  rfl
  rfl
  rfl
  simp
  refine ss_cons ?_ ?_
  refine s1_set (i := 2) ?_ ?_ ?_ ?_ ?_ ?_
  exact sc_l_word.nd
  rfl
  (first | exact Or.inl rfl | exact Or.inr rfl)
  rfl
  (first | exact Or.inr rfl | exact Or.inl rfl)
  refine se_or ?_ ?_
  refine se_var (i := 2) ?_ ?_ ?_ ?_
  rfl
  (first | exact Or.inl rfl | exact Or.inr (Or.inl rfl) | exact Or.inr (Or.inr rfl))
  rfl
  rfl
  refine se_one ?_
  refine se_exIT (p := p) (i := 0) (b := (false || (false || (false || false)))) xp ?_ ?_ ?_ ?_ ?_ W.n_isinstance (OwnNames.cons (by rfl) W.g_NotAllowed (by rfl) W.k_InvalidDay_NotAllowed (OwnNames.cons (by rfl) W.g_BadJourney (by rfl) W.k_InvalidDay_BadJourney (OwnNames.cons (by rfl) W.g_TooLate (by rfl) W.k_InvalidDay_TooLate OwnNames.nil))) ?_
  rfl
  (first | exact Or.inl rfl | exact Or.inr (Or.inl rfl) | exact Or.inr (Or.inr rfl))
  rfl
  rfl
  rfl
  simp
  refine ss_cons ?_ ?_
  refine s1_setLcO (p := p) (i := 3) (own := [("_law_tag", 4), ("_law_fits", 5)]) (is := [4, 5]) ?_ ?_ ?_ ?_ ?_ ?_ ?_ ?_ ?_ ?_ ?_ ?_ ?_
  exact hot
  exact List.mem_cons_self
  exact sc_l_word.nd
  exact (blkOk_by (by rfl))
  decide
  exact (fun _ => (by rfl))
  rfl
  rfl
  exact (sw_true (by rfl) (by rfl) (by rfl) (by rfl))
  exact (siO_bor (i := 1) (by rfl) (by first | exact Or.inl rfl | exact Or.inr (Or.inl rfl) | exact Or.inr (Or.inr rfl)) (by rfl) (by rfl))
  exact (sgO_tup (p := p) (by exact hot) (by rfl) (fun _ _ _ _ _ => (sgs_cons (i1 := [4]) (i2 := [5]) (by rfl) (sg_name (i := 4) sc_l_word.nd (by rfl) (by first | exact Or.inl rfl | exact Or.inr rfl) (by first | exact Or.inr rfl | exact Or.inl rfl)) (sgs_cons (i1 := [5]) (i2 := []) (by rfl) (sg_name (i := 5) sc_l_word.nd (by rfl) (by first | exact Or.inl rfl | exact Or.inr rfl) (by first | exact Or.inr rfl | exact Or.inl rfl)) sgs_nil))))
  intro _ _ _ _ _
  refine st_some ?_
  refine st_val ?_ ?_
  refine so_borO (i := 5) ?_ ?_ ?_ ?_
  rfl
  (first | exact Or.inl rfl | exact Or.inr (Or.inl rfl) | exact Or.inr (Or.inr rfl))
  rfl
  rfl
  exact (fun _ => (by rfl))
  intro _ _ _ _ _
  refine se_var (i := 4) ?_ ?_ ?_ ?_
  rfl
  (first | exact Or.inl rfl | exact Or.inr (Or.inl rfl) | exact Or.inr (Or.inr rfl))
  rfl
  rfl
  refine ss_one ?_
  refine s1_ret ?_
  refine se_ite ?_ ?_ ?_
  refine st_or ?_ ?_
  refine st_val ?_ ?_
  refine so_borO (i := 2) ?_ ?_ ?_ ?_
  rfl
  (first | exact Or.inl rfl | exact Or.inr (Or.inl rfl) | exact Or.inr (Or.inr rfl))
  rfl
  rfl
  exact (fun _ => (by rfl))
  refine st_or ?_ ?_
  refine st_cmp (op := .NotEq) (hu65H hr) ?_ ?_ ?_
  refine so_of ?_
  refine SF.se ?_
  refine sf_callB c_len ?_ W.n_len bt_len ?_ ?_ ?_ ?_
  rfl
  decide
  rfl
  rfl
  refine sa_cons ?_ ?_ sa_nil
  rfl
  refine so_borO (i := 3) ?_ ?_ ?_ ?_
  rfl
  (first | exact Or.inl rfl | exact Or.inr (Or.inl rfl) | exact Or.inr (Or.inr rfl))
  rfl
  rfl
  refine so_of ?_
  refine se_const ?_
  rfl
  rfl
  refine st_one ?_
  refine st_not ?_
  refine st_val ?_ ?_
  refine so_of ?_
  refine se_exIB (p := p) (i := 0) (b := true) xp ?_ ?_ ?_ ?_ ?_ W.n_isinstance ⟨(by rfl), W.n_ValueError, bt_ValueError, by decide, (by rfl)⟩ W.t_InvalidDay
  rfl
  (first | exact Or.inl rfl | exact Or.inr (Or.inl rfl) | exact Or.inr (Or.inr rfl))
  rfl
  rfl
  rfl
  exact (fun _ => (by rfl))
  refine se_const ?_
  rfl
  refine se_idx ?_ ?_ ?_
  exact (fun _ _ => (by rfl))
  refine so_borO (i := 3) ?_ ?_ ?_ ?_
  rfl
  (first | exact Or.inl rfl | exact Or.inr (Or.inl rfl) | exact Or.inr (Or.inr rfl))
  rfl
  rfl
  refine so_of ?_
  refine se_const ?_
  rfl
theorem v_l_word_InvalidDay (a : Addr) : ∃ (b : Bool) (e : Rp.Env), l_word_InvalidDay_den a [.v (.obj a [])] = .rt (.str "day") b e := by
  apply Exists.intro
  apply Exists.intro
  simp [l_word_InvalidDay_den, startE, Arg.slot, l_word_InvalidDay_b, Res.chk, backsOk, lockE, unlockE, lcL, wipeE, backE, lenD, ne_int0, D.add]
  first | exact ⟨rfl, rfl⟩ | exact rfl
def l_word_InvalidMinute_b (a : Addr) : Rp.Env → Res := (dSeq (dSetF 1 (dispD .lst (consA (asV (dispD .tup (consA (asV (pureD (.str "time"))) (consA (asV (exI 0 a false)) nilA)))) (consA (asV (dispD .tup (consA (asV (pureD (.str "day"))) (consA (asV (exI 0 a false)) nilA)))) nilA)))) (dSeq (dSetF 1 (bin2 (binD .Add) (borO 1) (asV (dispD .lst (consA (asV (dispD .tup (consA (asV (pureD (.str "minute"))) (consA (asV (exI 0 a true)) nilA)))) nilA))))) (dSeq (dSet 2 (exI 0 a (false || (false || (false || (false || (false || false))))))) (dSeq (dSet 2 (orV (rdVar 2) (exI 0 a (false || (false || (false || (false || (false || false)))))))) (dSeq (dSet 2 (orV (rdVar 2) (exI 0 a (false || (false || (false || (false || (false || false)))))))) (dSeq (dSet 2 (orV (rdVar 2) (exI 0 a (false || (false || (false || (false || (false || false)))))))) (dSeq (dSet 2 (orV (rdVar 2) (exI 0 a (false || (false || (false || (false || (false || false)))))))) (dSeq (dSet 2 (orV (rdVar 2) (exI 0 a (false || (false || (false || false)))))) (dSeq (dSetF 3 (lcD [4, 5] (borI 1) (gTupD 2 (gConsD (setN 4) (gConsD (setN 5) gNilD))) (truB (borO 5)) (rdVar 4))) (dRet (iteV (orB (truB (borO 2)) (orB (bB (bin2 (cmpD .NotEq) (asV (callD lenD (consA (borO 3) nilA))) (asV (pureD (.int 1))))) (notB (truB (asV (exI 0 a true)))))) (pureD (.str "odd")) (bin2 D.idx (borO 3) (asV (pureD (.int 0)))))))))))))))
def l_word_InvalidMinute_den (a : Addr) : List Rp.Arg → Res := fnDen 6 1 (l_word_InvalidMinute_b a)
theorem p_l_word_InvalidMinute (W : Wd K mg) {f : Addr} {fd : FuncData} (F : FunD K "_law_word" "_law_word" (defArgs s_l_word) (defBody s_l_word) (defScope s_l_word) [] [] f fd) (hm : mg "_law_word" = some (.ref f)) : CalP P w K mg base 1 "_law_word" (Zz K "InvalidMinute") l_word_InvalidMinute_den := by
  refine calP (N := ["_law_e", "_law_pairs", "_law_odd", "_law_found", "_law_tag", "_law_fits"]) (y := "_law_e") (k := 0) (den := l_word_InvalidMinute_b) (Z := Zz K "InvalidMinute") F sc_l_word hm (fun _ _ _ _ _ _ us hl => match us, hl with | [_], _ => rfl) (fun cdv A outer s H E p hot hz hr => ?_)
  have xp : ExPin (cxH (L2N.CX P w) P w K mg base ["_law_e", "_law_pairs", "_law_odd", "_law_found", "_law_tag", "_law_fits"] "_law_word" (defScope s_l_word) f cdv A outer s H E p) p (He.ga K "InvalidMinute") := ⟨List.mem_cons_self, W.x_InvalidMinute, hz.1, hz.2⟩
  refine ss_cons ?_ ?_
  refine s1_setF (i := 1) ?_ ?_ ?_ ?_ ?_ ?_
  exact sc_l_word.nd
  rfl
  (first | exact Or.inl rfl | exact Or.inr rfl)
  rfl
  (first | exact Or.inr rfl | exact Or.inl rfl)
  refine sf_lst ?_
  refine sa_cons ?_ ?_ ?_
  rfl
  refine so_of ?_
  refine se_tup ?_
  refine sa_cons ?_ ?_ ?_
  rfl
  refine so_of ?_
  refine se_const ?_
  rfl
  refine sa_cons ?_ ?_ sa_nil
  rfl
  refine so_of ?_
  refine se_exI (p := p) (i := 0) (b := false) xp ?_ ?_ ?_ ?_ ?_ W.n_isinstance ?_ W.g_InvalidTime ?_ W.k_InvalidMinute_InvalidTime
  rfl
  (first | exact Or.inl rfl | exact Or.inr (Or.inl rfl) | exact Or.inr (Or.inr rfl))
  rfl
  rfl
  rfl
  rfl
  rfl
  refine sa_cons ?_ ?_ sa_nil
  rfl
  refine so_of ?_
  refine se_tup ?_
  refine sa_cons ?_ ?_ ?_
  rfl
  refine so_of ?_
  refine se_const ?_
  rfl
  refine sa_cons ?_ ?_ sa_nil
  rfl
  refine so_of ?_
  refine se_exI (p := p) (i := 0) (b := false) xp ?_ ?_ ?_ ?_ ?_ W.n_isinstance ?_ W.g_InvalidDay ?_ W.k_InvalidMinute_InvalidDay
  rfl
  (first | exact Or.inl rfl | exact Or.inr (Or.inl rfl) | exact Or.inr (Or.inr rfl))
  rfl
  rfl
  rfl
  rfl
  rfl
  refine ss_cons ?_ ?_
  refine s1_setF (i := 1) ?_ ?_ ?_ ?_ ?_ ?_
  exact sc_l_word.nd
  rfl
  (first | exact Or.inl rfl | exact Or.inr rfl)
  rfl
  (first | exact Or.inr rfl | exact Or.inl rfl)
  refine sf_op f_add ?_ ?_
  refine so_borO (i := 1) ?_ ?_ ?_ ?_
  rfl
  (first | exact Or.inl rfl | exact Or.inr (Or.inl rfl) | exact Or.inr (Or.inr rfl))
  rfl
  rfl
  refine so_of ?_
  refine SF.se ?_
  refine sf_lst ?_
  refine sa_cons ?_ ?_ sa_nil
  rfl
  refine so_of ?_
  refine se_tup ?_
  refine sa_cons ?_ ?_ ?_
  rfl
  refine so_of ?_
  refine se_const ?_
  rfl
  refine sa_cons ?_ ?_ sa_nil
  rfl
  refine so_of ?_
  refine se_exI (p := p) (i := 0) (b := true) xp ?_ ?_ ?_ ?_ ?_ W.n_isinstance ?_ W.g_InvalidMinute ?_ W.k_InvalidMinute_InvalidMinute
  rfl
  (first | exact Or.inl rfl | exact Or.inr (Or.inl rfl) | exact Or.inr (Or.inr rfl))
  rfl
  rfl
  rfl
  rfl
  rfl
  refine ss_cons ?_ ?_
  refine s1_set (i := 2) ?_ ?_ ?_ ?_ ?_ ?_
  exact sc_l_word.nd
  rfl
  (first | exact Or.inl rfl | exact Or.inr rfl)
  rfl
  (first | exact Or.inr rfl | exact Or.inl rfl)
  refine se_exIT (p := p) (i := 0) (b := (false || (false || (false || (false || (false || false)))))) xp ?_ ?_ ?_ ?_ ?_ W.n_isinstance (OwnNames.cons (by rfl) W.g_InvalidText (by rfl) W.k_InvalidMinute_InvalidText (OwnNames.cons (by rfl) W.g_InvalidCalendar (by rfl) W.k_InvalidMinute_InvalidCalendar (OwnNames.cons (by rfl) W.g_InvalidIndex (by rfl) W.k_InvalidMinute_InvalidIndex (OwnNames.cons (by rfl) W.g_InvalidNumber (by rfl) W.k_InvalidMinute_InvalidNumber (OwnNames.cons (by rfl) W.g_NotANetwork (by rfl) W.k_InvalidMinute_NotANetwork OwnNames.nil))))) ?_
  rfl
  (first | exact Or.inl rfl | exact Or.inr (Or.inl rfl) | exact Or.inr (Or.inr rfl))
  rfl
  rfl
  rfl
  simp
  refine ss_cons ?_ ?_
  refine s1_set (i := 2) ?_ ?_ ?_ ?_ ?_ ?_
  exact sc_l_word.nd
  rfl
  (first | exact Or.inl rfl | exact Or.inr rfl)
  rfl
  (first | exact Or.inr rfl | exact Or.inl rfl)
  refine se_or ?_ ?_
  refine se_var (i := 2) ?_ ?_ ?_ ?_
  rfl
  (first | exact Or.inl rfl | exact Or.inr (Or.inl rfl) | exact Or.inr (Or.inr rfl))
  rfl
  rfl
  refine se_one ?_
  refine se_exIT (p := p) (i := 0) (b := (false || (false || (false || (false || (false || false)))))) xp ?_ ?_ ?_ ?_ ?_ W.n_isinstance (OwnNames.cons (by rfl) W.g_InvalidStop (by rfl) W.k_InvalidMinute_InvalidStop (OwnNames.cons (by rfl) W.g_InvalidTrip (by rfl) W.k_InvalidMinute_InvalidTrip (OwnNames.cons (by rfl) W.g_InvalidCall (by rfl) W.k_InvalidMinute_InvalidCall (OwnNames.cons (by rfl) W.g_NotARun (by rfl) W.k_InvalidMinute_NotARun (OwnNames.cons (by rfl) W.g_InvalidSpan (by rfl) W.k_InvalidMinute_InvalidSpan OwnNames.nil))))) ?_
  rfl
  (first | exact Or.inl rfl | exact Or.inr (Or.inl rfl) | exact Or.inr (Or.inr rfl))
  rfl
  rfl
  rfl
  simp
  refine ss_cons ?_ ?_
  refine s1_set (i := 2) ?_ ?_ ?_ ?_ ?_ ?_
  exact sc_l_word.nd
  rfl
  (first | exact Or.inl rfl | exact Or.inr rfl)
  rfl
  (first | exact Or.inr rfl | exact Or.inl rfl)
  refine se_or ?_ ?_
  refine se_var (i := 2) ?_ ?_ ?_ ?_
  rfl
  (first | exact Or.inl rfl | exact Or.inr (Or.inl rfl) | exact Or.inr (Or.inr rfl))
  rfl
  rfl
  refine se_one ?_
  refine se_exIT (p := p) (i := 0) (b := (false || (false || (false || (false || (false || false)))))) xp ?_ ?_ ?_ ?_ ?_ W.n_isinstance (OwnNames.cons (by rfl) W.g_InvalidJourney (by rfl) W.k_InvalidMinute_InvalidJourney (OwnNames.cons (by rfl) W.g_InvalidList (by rfl) W.k_InvalidMinute_InvalidList (OwnNames.cons (by rfl) W.g_InvalidProfile (by rfl) W.k_InvalidMinute_InvalidProfile (OwnNames.cons (by rfl) W.g_OtherSpan (by rfl) W.k_InvalidMinute_OtherSpan (OwnNames.cons (by rfl) W.g_OtherStops (by rfl) W.k_InvalidMinute_OtherStops OwnNames.nil))))) ?_
  rfl
  (first | exact Or.inl rfl | exact Or.inr (Or.inl rfl) | exact Or.inr (Or.inr rfl))
  rfl
  rfl
  rfl
  simp
  refine ss_cons ?_ ?_
  refine s1_set (i := 2) ?_ ?_ ?_ ?_ ?_ ?_
  exact sc_l_word.nd
  rfl
  (first | exact Or.inl rfl | exact Or.inr rfl)
  rfl
  (first | exact Or.inr rfl | exact Or.inl rfl)
  refine se_or ?_ ?_
  refine se_var (i := 2) ?_ ?_ ?_ ?_
  rfl
  (first | exact Or.inl rfl | exact Or.inr (Or.inl rfl) | exact Or.inr (Or.inr rfl))
  rfl
  rfl
  refine se_one ?_
  refine se_exIT (p := p) (i := 0) (b := (false || (false || (false || (false || (false || false)))))) xp ?_ ?_ ?_ ?_ ?_ W.n_isinstance (OwnNames.cons (by rfl) W.g_InvalidMessages (by rfl) W.k_InvalidMinute_InvalidMessages (OwnNames.cons (by rfl) W.g_InvalidWaits (by rfl) W.k_InvalidMinute_InvalidWaits (OwnNames.cons (by rfl) W.g_WaitingRing (by rfl) W.k_InvalidMinute_WaitingRing (OwnNames.cons (by rfl) W.g_InvalidRide (by rfl) W.k_InvalidMinute_InvalidRide (OwnNames.cons (by rfl) W.g_InvalidLateness (by rfl) W.k_InvalidMinute_InvalidLateness OwnNames.nil))))) ?_
  rfl
  (first | exact Or.inl rfl | exact Or.inr (Or.inl rfl) | exact Or.inr (Or.inr rfl))
  rfl
  rfl
  rfl
  simp
  refine ss_cons ?_ ?_
  refine s1_set (i := 2) ?_ ?_ ?_ ?_ ?_ ?_
  exact sc_l_word.nd
  rfl
  (first | exact Or.inl rfl | exact Or.inr rfl)
  rfl
  (first | exact Or.inr rfl | exact Or.inl rfl)
  refine se_or ?_ ?_
  refine se_var (i := 2) ?_ ?_ ?_ ?_
  rfl
  (first | exact Or.inl rfl | exact Or.inr (Or.inl rfl) | exact Or.inr (Or.inr rfl))
  rfl
  rfl
  refine se_one ?_
  refine se_exIT (p := p) (i := 0) (b := (false || (false || (false || (false || (false || false)))))) xp ?_ ?_ ?_ ?_ ?_ W.n_isinstance (OwnNames.cons (by rfl) W.g_InvalidChanges (by rfl) W.k_InvalidMinute_InvalidChanges (OwnNames.cons (by rfl) W.g_InvalidChange (by rfl) W.k_InvalidMinute_InvalidChange (OwnNames.cons (by rfl) W.g_NothingToUndo (by rfl) W.k_InvalidMinute_NothingToUndo (OwnNames.cons (by rfl) W.g_NotATimetable (by rfl) W.k_InvalidMinute_NotATimetable (OwnNames.cons (by rfl) W.g_NotAStaircase (by rfl) W.k_InvalidMinute_NotAStaircase OwnNames.nil))))) ?_
  rfl
  (first | exact Or.inl rfl | exact Or.inr (Or.inl rfl) | exact Or.inr (Or.inr rfl))
  rfl
  rfl
  rfl
  simp
  refine ss_cons ?_ ?_
  refine s1_set (i := 2) ?_ ?_ ?_ ?_ ?_ ?_
  exact sc_l_word.nd
  rfl
  (first | exact Or.inl rfl | exact Or.inr rfl)
  rfl
  (first | exact Or.inr rfl | exact Or.inl rfl)
  refine se_or ?_ ?_
  refine se_var (i := 2) ?_ ?_ ?_ ?_
  rfl
  (first | exact Or.inl rfl | exact Or.inr (Or.inl rfl) | exact Or.inr (Or.inr rfl))
  rfl
  rfl
  refine se_one ?_
  refine se_exIT (p := p) (i := 0) (b := (false || (false || (false || false)))) xp ?_ ?_ ?_ ?_ ?_ W.n_isinstance (OwnNames.cons (by rfl) W.g_NotAllowed (by rfl) W.k_InvalidMinute_NotAllowed (OwnNames.cons (by rfl) W.g_BadJourney (by rfl) W.k_InvalidMinute_BadJourney (OwnNames.cons (by rfl) W.g_TooLate (by rfl) W.k_InvalidMinute_TooLate OwnNames.nil))) ?_
  rfl
  (first | exact Or.inl rfl | exact Or.inr (Or.inl rfl) | exact Or.inr (Or.inr rfl))
  rfl
  rfl
  rfl
  simp
  refine ss_cons ?_ ?_
  refine s1_setLcO (p := p) (i := 3) (own := [("_law_tag", 4), ("_law_fits", 5)]) (is := [4, 5]) ?_ ?_ ?_ ?_ ?_ ?_ ?_ ?_ ?_ ?_ ?_ ?_ ?_
  exact hot
  exact List.mem_cons_self
  exact sc_l_word.nd
  exact (blkOk_by (by rfl))
  decide
  exact (fun _ => (by rfl))
  rfl
  rfl
  exact (sw_true (by rfl) (by rfl) (by rfl) (by rfl))
  exact (siO_bor (i := 1) (by rfl) (by first | exact Or.inl rfl | exact Or.inr (Or.inl rfl) | exact Or.inr (Or.inr rfl)) (by rfl) (by rfl))
  exact (sgO_tup (p := p) (by exact hot) (by rfl) (fun _ _ _ _ _ => (sgs_cons (i1 := [4]) (i2 := [5]) (by rfl) (sg_name (i := 4) sc_l_word.nd (by rfl) (by first | exact Or.inl rfl | exact Or.inr rfl) (by first | exact Or.inr rfl | exact Or.inl rfl)) (sgs_cons (i1 := [5]) (i2 := []) (by rfl) (sg_name (i := 5) sc_l_word.nd (by rfl) (by first | exact Or.inl rfl | exact Or.inr rfl) (by first | exact Or.inr rfl | exact Or.inl rfl)) sgs_nil))))
  intro _ _ _ _ _
  refine st_some ?_
  refine st_val ?_ ?_
  refine so_borO (i := 5) ?_ ?_ ?_ ?_
  rfl
  (first | exact Or.inl rfl | exact Or.inr (Or.inl rfl) | exact Or.inr (Or.inr rfl))
  rfl
  rfl
  exact (fun _ => (by rfl))
  intro _ _ _ _ _
  refine se_var (i := 4) ?_ ?_ ?_ ?_
  rfl
  (first | exact Or.inl rfl | exact Or.inr (Or.inl rfl) | exact Or.inr (Or.inr rfl))
  rfl
  rfl
  refine ss_one ?_
  refine s1_ret ?_
  refine se_ite ?_ ?_ ?_
  refine st_or ?_ ?_
  refine st_val ?_ ?_
  refine so_borO (i := 2) ?_ ?_ ?_ ?_
  rfl
  (first | exact Or.inl rfl | exact Or.inr (Or.inl rfl) | exact Or.inr (Or.inr rfl))
  rfl
  rfl
  exact (fun _ => (by rfl))
  refine st_or ?_ ?_
  refine st_cmp (op := .NotEq) (hu65H hr) ?_ ?_ ?_
  refine so_of ?_
  refine SF.se ?_
  refine sf_callB c_len ?_ W.n_len bt_len ?_ ?_ ?_ ?_
  rfl
  decide
  rfl
  rfl
  refine sa_cons ?_ ?_ sa_nil
  rfl
  refine so_borO (i := 3) ?_ ?_ ?_ ?_
  rfl
  (first | exact Or.inl rfl | exact Or.inr (Or.inl rfl) | exact Or.inr (Or.inr rfl))
  rfl
  rfl
  refine so_of ?_
  refine se_const ?_
  rfl
  rfl
  refine st_one ?_
  refine st_not ?_
  refine st_val ?_ ?_
  refine so_of ?_
  refine se_exIB (p := p) (i := 0) (b := true) xp ?_ ?_ ?_ ?_ ?_ W.n_isinstance ⟨(by rfl), W.n_ValueError, bt_ValueError, by decide, (by rfl)⟩ W.t_InvalidMinute
  rfl
  (first | exact Or.inl rfl | exact Or.inr (Or.inl rfl) | exact Or.inr (Or.inr rfl))
  rfl
  rfl
  rfl
  exact (fun _ => (by rfl))
  refine se_const ?_
  rfl
  refine se_idx ?_ ?_ ?_
  exact (fun _ _ => (by rfl))
  refine so_borO (i := 3) ?_ ?_ ?_ ?_
  rfl
  (first | exact Or.inl rfl | exact Or.inr (Or.inl rfl) | exact Or.inr (Or.inr rfl))
  rfl
  rfl
  refine so_of ?_
  refine se_const ?_
  rfl
theorem v_l_word_InvalidMinute (a : Addr) : ∃ (b : Bool) (e : Rp.Env), l_word_InvalidMinute_den a [.v (.obj a [])] = .rt (.str "minute") b e := by
  apply Exists.intro
  apply Exists.intro
  simp [l_word_InvalidMinute_den, startE, Arg.slot, l_word_InvalidMinute_b, Res.chk, backsOk, lockE, unlockE, lcL, wipeE, backE, lenD, ne_int0, D.add]
  first | exact ⟨rfl, rfl⟩ | exact rfl
def l_marks_b : Rp.Env → Res := (dSeq (dSetF 1 (dispD .lst (consA (asV (un1 (exIsB EXL "InvalidTime") (borO 0))) (consA (asV (un1 (exIsB EXL "InvalidDay") (borO 0))) (consA (asV (un1 (exIsB EXL "InvalidMinute") (borO 0))) nilA))))) (dSeq (dSetF 1 (bin2 (binD .Add) (borO 1) (asV (dispD .lst (consA (asV (un1 (exIsB EXL "InvalidText") (borO 0))) (consA (asV (un1 (exIsB EXL "InvalidCalendar") (borO 0))) (consA (asV (un1 (exIsB EXL "InvalidIndex") (borO 0))) nilA))))))) (dSeq (dSetF 1 (bin2 (binD .Add) (borO 1) (asV (dispD .lst (consA (asV (un1 (exIsB EXL "InvalidNumber") (borO 0))) (consA (asV (un1 (exIsB EXL "NotANetwork") (borO 0))) (consA (asV (un1 (exIsB EXL "InvalidStop") (borO 0))) nilA))))))) (dSeq (dSetF 1 (bin2 (binD .Add) (borO 1) (asV (dispD .lst (consA (asV (un1 (exIsB EXL "InvalidTrip") (borO 0))) (consA (asV (un1 (exIsB EXL "InvalidCall") (borO 0))) (consA (asV (un1 (exIsB EXL "NotARun") (borO 0))) nilA))))))) (dSeq (dSetF 1 (bin2 (binD .Add) (borO 1) (asV (dispD .lst (consA (asV (un1 (exIsB EXL "InvalidSpan") (borO 0))) (consA (asV (un1 (exIsB EXL "InvalidJourney") (borO 0))) (consA (asV (un1 (exIsB EXL "InvalidList") (borO 0))) nilA))))))) (dSeq (dSetF 1 (bin2 (binD .Add) (borO 1) (asV (dispD .lst (consA (asV (un1 (exIsB EXL "InvalidProfile") (borO 0))) (consA (asV (un1 (exIsB EXL "OtherSpan") (borO 0))) (consA (asV (un1 (exIsB EXL "OtherStops") (borO 0))) nilA))))))) (dSeq (dSetF 1 (bin2 (binD .Add) (borO 1) (asV (dispD .lst (consA (asV (un1 (exIsB EXL "InvalidMessages") (borO 0))) (consA (asV (un1 (exIsB EXL "InvalidWaits") (borO 0))) (consA (asV (un1 (exIsB EXL "WaitingRing") (borO 0))) nilA))))))) (dSeq (dSetF 1 (bin2 (binD .Add) (borO 1) (asV (dispD .lst (consA (asV (un1 (exIsB EXL "InvalidRide") (borO 0))) (consA (asV (un1 (exIsB EXL "InvalidLateness") (borO 0))) (consA (asV (un1 (exIsB EXL "InvalidChanges") (borO 0))) nilA))))))) (dSeq (dSetF 1 (bin2 (binD .Add) (borO 1) (asV (dispD .lst (consA (asV (un1 (exIsB EXL "InvalidChange") (borO 0))) (consA (asV (un1 (exIsB EXL "NothingToUndo") (borO 0))) (consA (asV (un1 (exIsB EXL "NotATimetable") (borO 0))) nilA))))))) (dSeq (dSetF 1 (bin2 (binD .Add) (borO 1) (asV (dispD .lst (consA (asV (un1 (exIsB EXL "NotAStaircase") (borO 0))) (consA (asV (un1 (exIsB EXL "NotAllowed") (borO 0))) (consA (asV (un1 (exIsB EXL "BadJourney") (borO 0))) nilA))))))) (dRetF (bin2 (binD .Add) (borO 1) (asV (dispD .lst (consA (asV (un1 (exIsB EXL "TooLate") (borO 0))) nilA)))))))))))))))
def l_marks_den : List Rp.Arg → Res := fnDen 2 1 l_marks_b
theorem o_l_marks (W : Wd K mg) (hD : base.NoDigits) {f : Addr} {fd : FuncData} (F : FunD K "_law_marks" "_law_marks" (defArgs s_l_marks) (defBody s_l_marks) (defScope s_l_marks) [] [] f fd) : FnOk P w K mg base (L2N.CX P w) 1 f fd ["_law_e"] (spD K mg 1 l_marks_den) := by
  refine funD_ok (N := ["_law_e", "_law_found"]) (ps := ["_law_e"]) (k := 0) (den := l_marks_b) F sc_l_marks (fun cdv A outer s H E hr => ?_)
  refine ss_cons ?_ ?_
  refine s1_setF (i := 1) ?_ ?_ ?_ ?_ ?_ ?_
  exact sc_l_marks.nd
  rfl
  (first | exact Or.inl rfl | exact Or.inr rfl)
  rfl
  (first | exact Or.inr rfl | exact Or.inl rfl)
  refine sf_lst ?_
  refine sa_cons ?_ ?_ ?_
  rfl
  refine so_of ?_
  refine se_exV (EX := EXL) (c := "InvalidTime") W.vx ?_ W.n_isinstance ?_ ?_ ?_ W.g_InvalidTime ?_ ?_
  rfl
  rfl
  rfl
  rfl
  rfl
  refine so_borO (i := 0) ?_ ?_ ?_ ?_
  rfl
  (first | exact Or.inl rfl | exact Or.inr (Or.inl rfl) | exact Or.inr (Or.inr rfl))
  rfl
  rfl
  refine sa_cons ?_ ?_ ?_
  rfl
  refine so_of ?_
  refine se_exV (EX := EXL) (c := "InvalidDay") W.vx ?_ W.n_isinstance ?_ ?_ ?_ W.g_InvalidDay ?_ ?_
  rfl
  rfl
  rfl
  rfl
  rfl
  refine so_borO (i := 0) ?_ ?_ ?_ ?_
  rfl
  (first | exact Or.inl rfl | exact Or.inr (Or.inl rfl) | exact Or.inr (Or.inr rfl))
  rfl
  rfl
  refine sa_cons ?_ ?_ sa_nil
  rfl
  refine so_of ?_
  refine se_exV (EX := EXL) (c := "InvalidMinute") W.vx ?_ W.n_isinstance ?_ ?_ ?_ W.g_InvalidMinute ?_ ?_
  rfl
  rfl
  rfl
  rfl
  rfl
  refine so_borO (i := 0) ?_ ?_ ?_ ?_
  rfl
  (first | exact Or.inl rfl | exact Or.inr (Or.inl rfl) | exact Or.inr (Or.inr rfl))
  rfl
  rfl
  refine ss_cons ?_ ?_
  refine s1_setF (i := 1) ?_ ?_ ?_ ?_ ?_ ?_
  exact sc_l_marks.nd
  rfl
  (first | exact Or.inl rfl | exact Or.inr rfl)
  rfl
  (first | exact Or.inr rfl | exact Or.inl rfl)
  refine sf_op f_add ?_ ?_
  refine so_borO (i := 1) ?_ ?_ ?_ ?_
  rfl
  (first | exact Or.inl rfl | exact Or.inr (Or.inl rfl) | exact Or.inr (Or.inr rfl))
  rfl
  rfl
  refine so_of ?_
  refine SF.se ?_
  refine sf_lst ?_
  refine sa_cons ?_ ?_ ?_
  rfl
  refine so_of ?_
  refine se_exV (EX := EXL) (c := "InvalidText") W.vx ?_ W.n_isinstance ?_ ?_ ?_ W.g_InvalidText ?_ ?_
  rfl
  rfl
  rfl
  rfl
  rfl
  refine so_borO (i := 0) ?_ ?_ ?_ ?_
  rfl
  (first | exact Or.inl rfl | exact Or.inr (Or.inl rfl) | exact Or.inr (Or.inr rfl))
  rfl
  rfl
  refine sa_cons ?_ ?_ ?_
  rfl
  refine so_of ?_
  refine se_exV (EX := EXL) (c := "InvalidCalendar") W.vx ?_ W.n_isinstance ?_ ?_ ?_ W.g_InvalidCalendar ?_ ?_
  rfl
  rfl
  rfl
  rfl
  rfl
  refine so_borO (i := 0) ?_ ?_ ?_ ?_
  rfl
  (first | exact Or.inl rfl | exact Or.inr (Or.inl rfl) | exact Or.inr (Or.inr rfl))
  rfl
  rfl
  refine sa_cons ?_ ?_ sa_nil
  rfl
  refine so_of ?_
  refine se_exV (EX := EXL) (c := "InvalidIndex") W.vx ?_ W.n_isinstance ?_ ?_ ?_ W.g_InvalidIndex ?_ ?_
  rfl
  rfl
  rfl
  rfl
  rfl
  refine so_borO (i := 0) ?_ ?_ ?_ ?_
  rfl
  (first | exact Or.inl rfl | exact Or.inr (Or.inl rfl) | exact Or.inr (Or.inr rfl))
  rfl
  rfl
  refine ss_cons ?_ ?_
  refine s1_setF (i := 1) ?_ ?_ ?_ ?_ ?_ ?_
  exact sc_l_marks.nd
  rfl
  (first | exact Or.inl rfl | exact Or.inr rfl)
  rfl
  (first | exact Or.inr rfl | exact Or.inl rfl)
  refine sf_op f_add ?_ ?_
  refine so_borO (i := 1) ?_ ?_ ?_ ?_
  rfl
  (first | exact Or.inl rfl | exact Or.inr (Or.inl rfl) | exact Or.inr (Or.inr rfl))
  rfl
  rfl
  refine so_of ?_
  refine SF.se ?_
  refine sf_lst ?_
  refine sa_cons ?_ ?_ ?_
  rfl
  refine so_of ?_
  refine se_exV (EX := EXL) (c := "InvalidNumber") W.vx ?_ W.n_isinstance ?_ ?_ ?_ W.g_InvalidNumber ?_ ?_
  rfl
  rfl
  rfl
  rfl
  rfl
  refine so_borO (i := 0) ?_ ?_ ?_ ?_
  rfl
  (first | exact Or.inl rfl | exact Or.inr (Or.inl rfl) | exact Or.inr (Or.inr rfl))
  rfl
  rfl
  refine sa_cons ?_ ?_ ?_
  rfl
  refine so_of ?_
  refine se_exV (EX := EXL) (c := "NotANetwork") W.vx ?_ W.n_isinstance ?_ ?_ ?_ W.g_NotANetwork ?_ ?_
  rfl
  rfl
  rfl
  rfl
  rfl
  refine so_borO (i := 0) ?_ ?_ ?_ ?_
  rfl
  (first | exact Or.inl rfl | exact Or.inr (Or.inl rfl) | exact Or.inr (Or.inr rfl))
  rfl
  rfl
  refine sa_cons ?_ ?_ sa_nil
  rfl
  refine so_of ?_
  refine se_exV (EX := EXL) (c := "InvalidStop") W.vx ?_ W.n_isinstance ?_ ?_ ?_ W.g_InvalidStop ?_ ?_
  rfl
  rfl
  rfl
  rfl
  rfl
  refine so_borO (i := 0) ?_ ?_ ?_ ?_
  rfl
  (first | exact Or.inl rfl | exact Or.inr (Or.inl rfl) | exact Or.inr (Or.inr rfl))
  rfl
  rfl
  refine ss_cons ?_ ?_
  refine s1_setF (i := 1) ?_ ?_ ?_ ?_ ?_ ?_
  exact sc_l_marks.nd
  rfl
  (first | exact Or.inl rfl | exact Or.inr rfl)
  rfl
  (first | exact Or.inr rfl | exact Or.inl rfl)
  refine sf_op f_add ?_ ?_
  refine so_borO (i := 1) ?_ ?_ ?_ ?_
  rfl
  (first | exact Or.inl rfl | exact Or.inr (Or.inl rfl) | exact Or.inr (Or.inr rfl))
  rfl
  rfl
  refine so_of ?_
  refine SF.se ?_
  refine sf_lst ?_
  refine sa_cons ?_ ?_ ?_
  rfl
  refine so_of ?_
  refine se_exV (EX := EXL) (c := "InvalidTrip") W.vx ?_ W.n_isinstance ?_ ?_ ?_ W.g_InvalidTrip ?_ ?_
  rfl
  rfl
  rfl
  rfl
  rfl
  refine so_borO (i := 0) ?_ ?_ ?_ ?_
  rfl
  (first | exact Or.inl rfl | exact Or.inr (Or.inl rfl) | exact Or.inr (Or.inr rfl))
  rfl
  rfl
  refine sa_cons ?_ ?_ ?_
  rfl
  refine so_of ?_
  refine se_exV (EX := EXL) (c := "InvalidCall") W.vx ?_ W.n_isinstance ?_ ?_ ?_ W.g_InvalidCall ?_ ?_
  rfl
  rfl
  rfl
  rfl
  rfl
  refine so_borO (i := 0) ?_ ?_ ?_ ?_
  rfl
  (first | exact Or.inl rfl | exact Or.inr (Or.inl rfl) | exact Or.inr (Or.inr rfl))
  rfl
  rfl
  refine sa_cons ?_ ?_ sa_nil
  rfl
  refine so_of ?_
  refine se_exV (EX := EXL) (c := "NotARun") W.vx ?_ W.n_isinstance ?_ ?_ ?_ W.g_NotARun ?_ ?_
  rfl
  rfl
  rfl
  rfl
  rfl
  refine so_borO (i := 0) ?_ ?_ ?_ ?_
  rfl
  (first | exact Or.inl rfl | exact Or.inr (Or.inl rfl) | exact Or.inr (Or.inr rfl))
  rfl
  rfl
  refine ss_cons ?_ ?_
  refine s1_setF (i := 1) ?_ ?_ ?_ ?_ ?_ ?_
  exact sc_l_marks.nd
  rfl
  (first | exact Or.inl rfl | exact Or.inr rfl)
  rfl
  (first | exact Or.inr rfl | exact Or.inl rfl)
  refine sf_op f_add ?_ ?_
  refine so_borO (i := 1) ?_ ?_ ?_ ?_
  rfl
  (first | exact Or.inl rfl | exact Or.inr (Or.inl rfl) | exact Or.inr (Or.inr rfl))
  rfl
  rfl
  refine so_of ?_
  refine SF.se ?_
  refine sf_lst ?_
  refine sa_cons ?_ ?_ ?_
  rfl
  refine so_of ?_
  refine se_exV (EX := EXL) (c := "InvalidSpan") W.vx ?_ W.n_isinstance ?_ ?_ ?_ W.g_InvalidSpan ?_ ?_
  rfl
  rfl
  rfl
  rfl
  rfl
  refine so_borO (i := 0) ?_ ?_ ?_ ?_
  rfl
  (first | exact Or.inl rfl | exact Or.inr (Or.inl rfl) | exact Or.inr (Or.inr rfl))
  rfl
  rfl
  refine sa_cons ?_ ?_ ?_
  rfl
  refine so_of ?_
  refine se_exV (EX := EXL) (c := "InvalidJourney") W.vx ?_ W.n_isinstance ?_ ?_ ?_ W.g_InvalidJourney ?_ ?_
  rfl
  rfl
  rfl
  rfl
  rfl
  refine so_borO (i := 0) ?_ ?_ ?_ ?_
  rfl
  (first | exact Or.inl rfl | exact Or.inr (Or.inl rfl) | exact Or.inr (Or.inr rfl))
  rfl
  rfl
  refine sa_cons ?_ ?_ sa_nil
  rfl
  refine so_of ?_
  refine se_exV (EX := EXL) (c := "InvalidList") W.vx ?_ W.n_isinstance ?_ ?_ ?_ W.g_InvalidList ?_ ?_
  rfl
  rfl
  rfl
  rfl
  rfl
  refine so_borO (i := 0) ?_ ?_ ?_ ?_
  rfl
  (first | exact Or.inl rfl | exact Or.inr (Or.inl rfl) | exact Or.inr (Or.inr rfl))
  rfl
  rfl
  refine ss_cons ?_ ?_
  refine s1_setF (i := 1) ?_ ?_ ?_ ?_ ?_ ?_
  exact sc_l_marks.nd
  rfl
  (first | exact Or.inl rfl | exact Or.inr rfl)
  rfl
  (first | exact Or.inr rfl | exact Or.inl rfl)
  refine sf_op f_add ?_ ?_
  refine so_borO (i := 1) ?_ ?_ ?_ ?_
  rfl
  (first | exact Or.inl rfl | exact Or.inr (Or.inl rfl) | exact Or.inr (Or.inr rfl))
  rfl
  rfl
  refine so_of ?_
  refine SF.se ?_
  refine sf_lst ?_
  refine sa_cons ?_ ?_ ?_
  rfl
  refine so_of ?_
  refine se_exV (EX := EXL) (c := "InvalidProfile") W.vx ?_ W.n_isinstance ?_ ?_ ?_ W.g_InvalidProfile ?_ ?_
  rfl
  rfl
  rfl
  rfl
  rfl
  refine so_borO (i := 0) ?_ ?_ ?_ ?_
  rfl
  (first | exact Or.inl rfl | exact Or.inr (Or.inl rfl) | exact Or.inr (Or.inr rfl))
  rfl
  rfl
  refine sa_cons ?_ ?_ ?_
  rfl
  refine so_of ?_
  refine se_exV (EX := EXL) (c := "OtherSpan") W.vx ?_ W.n_isinstance ?_ ?_ ?_ W.g_OtherSpan ?_ ?_
  rfl
  rfl
  rfl
  rfl
  rfl
  refine so_borO (i := 0) ?_ ?_ ?_ ?_
  rfl
  (first | exact Or.inl rfl | exact Or.inr (Or.inl rfl) | exact Or.inr (Or.inr rfl))
  rfl
  rfl
  refine sa_cons ?_ ?_ sa_nil
  rfl
  refine so_of ?_
  refine se_exV (EX := EXL) (c := "OtherStops") W.vx ?_ W.n_isinstance ?_ ?_ ?_ W.g_OtherStops ?_ ?_
  rfl
  rfl
  rfl
  rfl
  rfl
  refine so_borO (i := 0) ?_ ?_ ?_ ?_
  rfl
  (first | exact Or.inl rfl | exact Or.inr (Or.inl rfl) | exact Or.inr (Or.inr rfl))
  rfl
  rfl
  refine ss_cons ?_ ?_
  refine s1_setF (i := 1) ?_ ?_ ?_ ?_ ?_ ?_
  exact sc_l_marks.nd
  rfl
  (first | exact Or.inl rfl | exact Or.inr rfl)
  rfl
  (first | exact Or.inr rfl | exact Or.inl rfl)
  refine sf_op f_add ?_ ?_
  refine so_borO (i := 1) ?_ ?_ ?_ ?_
  rfl
  (first | exact Or.inl rfl | exact Or.inr (Or.inl rfl) | exact Or.inr (Or.inr rfl))
  rfl
  rfl
  refine so_of ?_
  refine SF.se ?_
  refine sf_lst ?_
  refine sa_cons ?_ ?_ ?_
  rfl
  refine so_of ?_
  refine se_exV (EX := EXL) (c := "InvalidMessages") W.vx ?_ W.n_isinstance ?_ ?_ ?_ W.g_InvalidMessages ?_ ?_
  rfl
  rfl
  rfl
  rfl
  rfl
  refine so_borO (i := 0) ?_ ?_ ?_ ?_
  rfl
  (first | exact Or.inl rfl | exact Or.inr (Or.inl rfl) | exact Or.inr (Or.inr rfl))
  rfl
  rfl
  refine sa_cons ?_ ?_ ?_
  rfl
  refine so_of ?_
  refine se_exV (EX := EXL) (c := "InvalidWaits") W.vx ?_ W.n_isinstance ?_ ?_ ?_ W.g_InvalidWaits ?_ ?_
  rfl
  rfl
  rfl
  rfl
  rfl
  refine so_borO (i := 0) ?_ ?_ ?_ ?_
  rfl
  (first | exact Or.inl rfl | exact Or.inr (Or.inl rfl) | exact Or.inr (Or.inr rfl))
  rfl
  rfl
  refine sa_cons ?_ ?_ sa_nil
  rfl
  refine so_of ?_
  refine se_exV (EX := EXL) (c := "WaitingRing") W.vx ?_ W.n_isinstance ?_ ?_ ?_ W.g_WaitingRing ?_ ?_
  rfl
  rfl
  rfl
  rfl
  rfl
  refine so_borO (i := 0) ?_ ?_ ?_ ?_
  rfl
  (first | exact Or.inl rfl | exact Or.inr (Or.inl rfl) | exact Or.inr (Or.inr rfl))
  rfl
  rfl
  refine ss_cons ?_ ?_
  refine s1_setF (i := 1) ?_ ?_ ?_ ?_ ?_ ?_
  exact sc_l_marks.nd
  rfl
  (first | exact Or.inl rfl | exact Or.inr rfl)
  rfl
  (first | exact Or.inr rfl | exact Or.inl rfl)
  refine sf_op f_add ?_ ?_
  refine so_borO (i := 1) ?_ ?_ ?_ ?_
  rfl
  (first | exact Or.inl rfl | exact Or.inr (Or.inl rfl) | exact Or.inr (Or.inr rfl))
  rfl
  rfl
  refine so_of ?_
  refine SF.se ?_
  refine sf_lst ?_
  refine sa_cons ?_ ?_ ?_
  rfl
  refine so_of ?_
  refine se_exV (EX := EXL) (c := "InvalidRide") W.vx ?_ W.n_isinstance ?_ ?_ ?_ W.g_InvalidRide ?_ ?_
  rfl
  rfl
  rfl
  rfl
  rfl
  refine so_borO (i := 0) ?_ ?_ ?_ ?_
  rfl
  (first | exact Or.inl rfl | exact Or.inr (Or.inl rfl) | exact Or.inr (Or.inr rfl))
  rfl
  rfl
  refine sa_cons ?_ ?_ ?_
  rfl
  refine so_of ?_
  refine se_exV (EX := EXL) (c := "InvalidLateness") W.vx ?_ W.n_isinstance ?_ ?_ ?_ W.g_InvalidLateness ?_ ?_
  rfl
  rfl
  rfl
  rfl
  rfl
  refine so_borO (i := 0) ?_ ?_ ?_ ?_
  rfl
  (first | exact Or.inl rfl | exact Or.inr (Or.inl rfl) | exact Or.inr (Or.inr rfl))
  rfl
  rfl
  refine sa_cons ?_ ?_ sa_nil
  rfl
  refine so_of ?_
  refine se_exV (EX := EXL) (c := "InvalidChanges") W.vx ?_ W.n_isinstance ?_ ?_ ?_ W.g_InvalidChanges ?_ ?_
  rfl
  rfl
  rfl
  rfl
  rfl
  refine so_borO (i := 0) ?_ ?_ ?_ ?_
  rfl
  (first | exact Or.inl rfl | exact Or.inr (Or.inl rfl) | exact Or.inr (Or.inr rfl))
  rfl
  rfl
  refine ss_cons ?_ ?_
  refine s1_setF (i := 1) ?_ ?_ ?_ ?_ ?_ ?_
  exact sc_l_marks.nd
  rfl
  (first | exact Or.inl rfl | exact Or.inr rfl)
  rfl
  (first | exact Or.inr rfl | exact Or.inl rfl)
  refine sf_op f_add ?_ ?_
  refine so_borO (i := 1) ?_ ?_ ?_ ?_
  rfl
  (first | exact Or.inl rfl | exact Or.inr (Or.inl rfl) | exact Or.inr (Or.inr rfl))
  rfl
  rfl
  refine so_of ?_
  refine SF.se ?_
  refine sf_lst ?_
  refine sa_cons ?_ ?_ ?_
  rfl
  refine so_of ?_
  refine se_exV (EX := EXL) (c := "InvalidChange") W.vx ?_ W.n_isinstance ?_ ?_ ?_ W.g_InvalidChange ?_ ?_
  rfl
  rfl
  rfl
  rfl
  rfl
  refine so_borO (i := 0) ?_ ?_ ?_ ?_
  rfl
  (first | exact Or.inl rfl | exact Or.inr (Or.inl rfl) | exact Or.inr (Or.inr rfl))
  rfl
  rfl
  refine sa_cons ?_ ?_ ?_
  rfl
  refine so_of ?_
  refine se_exV (EX := EXL) (c := "NothingToUndo") W.vx ?_ W.n_isinstance ?_ ?_ ?_ W.g_NothingToUndo ?_ ?_
  rfl
  rfl
  rfl
  rfl
  rfl
  refine so_borO (i := 0) ?_ ?_ ?_ ?_
  rfl
  (first | exact Or.inl rfl | exact Or.inr (Or.inl rfl) | exact Or.inr (Or.inr rfl))
  rfl
  rfl
  refine sa_cons ?_ ?_ sa_nil
  rfl
  refine so_of ?_
  refine se_exV (EX := EXL) (c := "NotATimetable") W.vx ?_ W.n_isinstance ?_ ?_ ?_ W.g_NotATimetable ?_ ?_
  rfl
  rfl
  rfl
  rfl
  rfl
  refine so_borO (i := 0) ?_ ?_ ?_ ?_
  rfl
  (first | exact Or.inl rfl | exact Or.inr (Or.inl rfl) | exact Or.inr (Or.inr rfl))
  rfl
  rfl
  refine ss_cons ?_ ?_
  refine s1_setF (i := 1) ?_ ?_ ?_ ?_ ?_ ?_
  exact sc_l_marks.nd
  rfl
  (first | exact Or.inl rfl | exact Or.inr rfl)
  rfl
  (first | exact Or.inr rfl | exact Or.inl rfl)
  refine sf_op f_add ?_ ?_
  refine so_borO (i := 1) ?_ ?_ ?_ ?_
  rfl
  (first | exact Or.inl rfl | exact Or.inr (Or.inl rfl) | exact Or.inr (Or.inr rfl))
  rfl
  rfl
  refine so_of ?_
  refine SF.se ?_
  refine sf_lst ?_
  refine sa_cons ?_ ?_ ?_
  rfl
  refine so_of ?_
  refine se_exV (EX := EXL) (c := "NotAStaircase") W.vx ?_ W.n_isinstance ?_ ?_ ?_ W.g_NotAStaircase ?_ ?_
  rfl
  rfl
  rfl
  rfl
  rfl
  refine so_borO (i := 0) ?_ ?_ ?_ ?_
  rfl
  (first | exact Or.inl rfl | exact Or.inr (Or.inl rfl) | exact Or.inr (Or.inr rfl))
  rfl
  rfl
  refine sa_cons ?_ ?_ ?_
  rfl
  refine so_of ?_
  refine se_exV (EX := EXL) (c := "NotAllowed") W.vx ?_ W.n_isinstance ?_ ?_ ?_ W.g_NotAllowed ?_ ?_
  rfl
  rfl
  rfl
  rfl
  rfl
  refine so_borO (i := 0) ?_ ?_ ?_ ?_
  rfl
  (first | exact Or.inl rfl | exact Or.inr (Or.inl rfl) | exact Or.inr (Or.inr rfl))
  rfl
  rfl
  refine sa_cons ?_ ?_ sa_nil
  rfl
  refine so_of ?_
  refine se_exV (EX := EXL) (c := "BadJourney") W.vx ?_ W.n_isinstance ?_ ?_ ?_ W.g_BadJourney ?_ ?_
  rfl
  rfl
  rfl
  rfl
  rfl
  refine so_borO (i := 0) ?_ ?_ ?_ ?_
  rfl
  (first | exact Or.inl rfl | exact Or.inr (Or.inl rfl) | exact Or.inr (Or.inr rfl))
  rfl
  rfl
  refine ss_one ?_
  refine s1_retF ?_
  refine sf_op f_add ?_ ?_
  refine so_borO (i := 1) ?_ ?_ ?_ ?_
  rfl
  (first | exact Or.inl rfl | exact Or.inr (Or.inl rfl) | exact Or.inr (Or.inr rfl))
  rfl
  rfl
  refine so_of ?_
  refine SF.se ?_
  refine sf_lst ?_
  refine sa_cons ?_ ?_ sa_nil
  rfl
  refine so_of ?_
  refine se_exV (EX := EXL) (c := "TooLate") W.vx ?_ W.n_isinstance ?_ ?_ ?_ W.g_TooLate ?_ ?_
  rfl
  rfl
  rfl
  rfl
  rfl
  refine so_borO (i := 0) ?_ ?_ ?_ ?_
  rfl
  (first | exact Or.inl rfl | exact Or.inr (Or.inl rfl) | exact Or.inr (Or.inr rfl))
  rfl
  rfl
theorem c_l_marks (W : Wd K mg) (hD : base.NoDigits) {f : Addr} {fd : FuncData} (F : FunD K "_law_marks" "_law_marks" (defArgs s_l_marks) (defBody s_l_marks) (defScope s_l_marks) [] [] f fd) (hm : mg "_law_marks" = some (.ref f)) : CalD P w K mg base 1 "_law_marks" 1 l_marks_den := calD (ps := ["_law_e"]) F (o_l_marks W hD F) hm fnDen_len (fun _ _ _ _ _ _ us hl => match us, hl with | [_], _ => rfl)
def l_classes_right_b : Rp.Env → Res := (dSeq (dSetF 0 (dispD .lst (consA (asV (pureD (.obj 1 [.str "InvalidTime"]))) (consA (asV (pureD (.obj 1 [.str "InvalidDay"]))) (consA (asV (pureD (.obj 1 [.str "InvalidMinute"]))) (consA (asV (pureD (.obj 1 [.str "InvalidText"]))) (consA (asV (pureD (.obj 1 [.str "InvalidCalendar"]))) (consA (asV (pureD (.obj 1 [.str "InvalidIndex"]))) nilA)))))))) (dSeq (dSetF 0 (bin2 (binD .Add) (borO 0) (asV (dispD .lst (consA (asV (pureD (.obj 1 [.str "InvalidNumber"]))) (consA (asV (pureD (.obj 1 [.str "NotANetwork"]))) (consA (asV (pureD (.obj 1 [.str "InvalidStop"]))) (consA (asV (pureD (.obj 1 [.str "InvalidTrip"]))) (consA (asV (pureD (.obj 1 [.str "InvalidCall"]))) (consA (asV (pureD (.obj 1 [.str "NotARun"]))) nilA)))))))))) (dSeq (dSetF 0 (bin2 (binD .Add) (borO 0) (asV (dispD .lst (consA (asV (pureD (.obj 1 [.str "InvalidSpan"]))) (consA (asV (pureD (.obj 1 [.str "InvalidJourney"]))) (consA (asV (pureD (.obj 1 [.str "InvalidList"]))) (consA (asV (pureD (.obj 1 [.str "InvalidProfile"]))) (consA (asV (pureD (.obj 1 [.str "OtherSpan"]))) (consA (asV (pureD (.obj 1 [.str "OtherStops"]))) nilA)))))))))) (dSeq (dSetF 0 (bin2 (binD .Add) (borO 0) (asV (dispD .lst (consA (asV (pureD (.obj 1 [.str "InvalidMessages"]))) (consA (asV (pureD (.obj 1 [.str "InvalidWaits"]))) (consA (asV (pureD (.obj 1 [.str "WaitingRing"]))) (consA (asV (pureD (.obj 1 [.str "InvalidRide"]))) (consA (asV (pureD (.obj 1 [.str "InvalidLateness"]))) nilA))))))))) (dSeq (dSetF 0 (bin2 (binD .Add) (borO 0) (asV (dispD .lst (consA (asV (pureD (.obj 1 [.str "InvalidChanges"]))) (consA (asV (pureD (.obj 1 [.str "InvalidChange"]))) (consA (asV (pureD (.obj 1 [.str "NothingToUndo"]))) (consA (asV (pureD (.obj 1 [.str "NotATimetable"]))) (consA (asV (pureD (.obj 1 [.str "NotAStaircase"]))) nilA))))))))) (dSeq (dSetF 0 (bin2 (binD .Add) (borO 0) (asV (dispD .lst (consA (asV (pureD (.obj 1 [.str "NotAllowed"]))) (consA (asV (exMk "BadJourney" ["index", "word"] (consA (asV (pureD (.int 4))) (consA (asV (pureD (.str "no run"))) nilA)))) (consA (asV (exMk "TooLate" ["minutes"] (consA (asV (pureD (.int 7))) nilA))) nilA))))))) (dSeq (dFor (enumI (rdVar 0)) (gTupD 2 (gConsD (setN 1) (gConsD (setN 2) gNilD))) (dSeq (dIf (bB (bin2 (cmpD .NotEq) (asV (callU true l_marks_den (consA (asV (rdVar 2)) nilA))) (asV (lcD [5] (rng1I (consA (asV (callD lenD (consA (borO 0) nilA))) nilA)) (setN 5) (fun env => .ok true env) (bin2 (cmpD .Eq) (borO 5) (borO 1)))))) (dRet (pureD (.bl false))) dNil) (dIf (orB (notB (truB (asV (un1 (exIsT EXL) (borO 2))))) (notB (truB (asV (un1 (exIsT EXL) (borO 2)))))) (dRet (pureD (.bl false))) dNil))) (dSeq (dPar2 3 4 (consA (asV (bin2 D.idx (borO 0) (asV (pureD (.int 29))))) (consA (asV (bin2 D.idx (borO 0) (asV (pureD (.int 30))))) nilA))) (dSeq (dIf (bB (bin2 (cmpD .NotEq) (asV (dispD .lst (consA (asV (un1 (fldD FLL "index") (borO 3))) (consA (asV (un1 (fldD FLL "word") (borO 3))) (consA (asV (un1 (fldD FLL "minutes") (borO 4))) nilA))))) (asV (dispD .lst (consA (asV (pureD (.int 4))) (consA (asV (pureD (.str "no run"))) (consA (asV (pureD (.int 7))) nilA))))))) (dRet (pureD (.bl false))) dNil) (dSeq (dPar2 3 4 (consA (asV (exMkK 2 "BadJourney" ["index", "word"] [1, 0] (consA (asV (pureD (.str "same run"))) (consA (asV (pureD (.int 2))) nilA)))) (consA (asV (exMkK 1 "TooLate" ["minutes"] [0] (consA (asV (pureD (.int 9))) nilA))) nilA))) (dRet (bin2 (cmpD .Eq) (asV (dispD .lst (consA (asV (un1 (fldD FLL "index") (borO 3))) (consA (asV (un1 (fldD FLL "word") (borO 3))) (consA (asV (un1 (fldD FLL "minutes") (borO 4))) nilA))))) (asV (dispD .lst (consA (asV (pureD (.int 2))) (consA (asV (pureD (.str "same run"))) (consA (asV (pureD (.int 9))) nilA)))))))))))))))))
def l_classes_right_den : List Rp.Arg → Res := fnDen 6 0 l_classes_right_b
theorem o_l_classes_right (W : Wd K mg) (hD : base.NoDigits) {f : Addr} {fd : FuncData} (F : FunD K "_law_classes_right" "_law_classes_right" (defArgs s_l_classes_right) (defBody s_l_classes_right) (defScope s_l_classes_right) [] [] f fd) (n_BadJourney : OwnI P w K mg base "BadJourney" ["index", "word"] 1) (n_TooLate : OwnI P w K mg base "TooLate" ["minutes"] 1) (q_BadJourney : OwnK P w K mg base "BadJourney" ["index", "word"] ["word", "index"] [1, 0] 1) (q_TooLate : OwnK P w K mg base "TooLate" ["minutes"] ["minutes"] [0] 1) (c_l_marks : CalD P w K mg base 1 "_law_marks" 1 l_marks_den) : FnOk P w K mg base (L2N.CX P w) 3 f fd [] (spD K mg 0 l_classes_right_den) := by
  refine funD_ok (N := ["_law_made", "_law_k", "_law_e", "_law_uno", "_law_mate", "_law_j"]) (ps := []) (k := 2) (den := l_classes_right_b) F sc_l_classes_right (fun cdv A outer s H E hr => ?_)
  refine ss_cons ?_ ?_
  refine s1_setF (i := 0) ?_ ?_ ?_ ?_ ?_ ?_
  exact sc_l_classes_right.nd
  rfl
  (first | exact Or.inl rfl | exact Or.inr rfl)
  rfl
  (first | exact Or.inr rfl | exact Or.inl rfl)
  refine sf_lst ?_
  refine sa_cons ?_ ?_ ?_
  rfl
  refine so_of ?_
  refine se_exN W.e_InvalidTime ?_ ?_
  rfl
  rfl
  refine sa_cons ?_ ?_ ?_
  rfl
  refine so_of ?_
  refine se_exN W.e_InvalidDay ?_ ?_
  rfl
  rfl
  refine sa_cons ?_ ?_ ?_
  rfl
  refine so_of ?_
  refine se_exN W.e_InvalidMinute ?_ ?_
  rfl
  rfl
  refine sa_cons ?_ ?_ ?_
  rfl
  refine so_of ?_
  refine se_exN W.e_InvalidText ?_ ?_
  rfl
  rfl
  refine sa_cons ?_ ?_ ?_
  rfl
  refine so_of ?_
  refine se_exN W.e_InvalidCalendar ?_ ?_
  rfl
  rfl
  refine sa_cons ?_ ?_ sa_nil
  rfl
  refine so_of ?_
  refine se_exN W.e_InvalidIndex ?_ ?_
  rfl
  rfl
  refine ss_cons ?_ ?_
  refine s1_setF (i := 0) ?_ ?_ ?_ ?_ ?_ ?_
  exact sc_l_classes_right.nd
  rfl
  (first | exact Or.inl rfl | exact Or.inr rfl)
  rfl
  (first | exact Or.inr rfl | exact Or.inl rfl)
  refine sf_op f_add ?_ ?_
  refine so_borO (i := 0) ?_ ?_ ?_ ?_
  rfl
  (first | exact Or.inl rfl | exact Or.inr (Or.inl rfl) | exact Or.inr (Or.inr rfl))
  rfl
  rfl
  refine so_of ?_
  refine SF.se ?_
  refine sf_lst ?_
  refine sa_cons ?_ ?_ ?_
  rfl
  refine so_of ?_
  refine se_exN W.e_InvalidNumber ?_ ?_
  rfl
  rfl
  refine sa_cons ?_ ?_ ?_
  rfl
  refine so_of ?_
  refine se_exN W.e_NotANetwork ?_ ?_
  rfl
  rfl
  refine sa_cons ?_ ?_ ?_
  rfl
  refine so_of ?_
  refine se_exN W.e_InvalidStop ?_ ?_
  rfl
  rfl
  refine sa_cons ?_ ?_ ?_
  rfl
  refine so_of ?_
  refine se_exN W.e_InvalidTrip ?_ ?_
  rfl
  rfl
  refine sa_cons ?_ ?_ ?_
  rfl
  refine so_of ?_
  refine se_exN W.e_InvalidCall ?_ ?_
  rfl
  rfl
  refine sa_cons ?_ ?_ sa_nil
  rfl
  refine so_of ?_
  refine se_exN W.e_NotARun ?_ ?_
  rfl
  rfl
  refine ss_cons ?_ ?_
  refine s1_setF (i := 0) ?_ ?_ ?_ ?_ ?_ ?_
  exact sc_l_classes_right.nd
  rfl
  (first | exact Or.inl rfl | exact Or.inr rfl)
  rfl
  (first | exact Or.inr rfl | exact Or.inl rfl)
  refine sf_op f_add ?_ ?_
  refine so_borO (i := 0) ?_ ?_ ?_ ?_
  rfl
  (first | exact Or.inl rfl | exact Or.inr (Or.inl rfl) | exact Or.inr (Or.inr rfl))
  rfl
  rfl
  refine so_of ?_
  refine SF.se ?_
  refine sf_lst ?_
  refine sa_cons ?_ ?_ ?_
  rfl
  refine so_of ?_
  refine se_exN W.e_InvalidSpan ?_ ?_
  rfl
  rfl
  refine sa_cons ?_ ?_ ?_
  rfl
  refine so_of ?_
  refine se_exN W.e_InvalidJourney ?_ ?_
  rfl
  rfl
  refine sa_cons ?_ ?_ ?_
  rfl
  refine so_of ?_
  refine se_exN W.e_InvalidList ?_ ?_
  rfl
  rfl
  refine sa_cons ?_ ?_ ?_
  rfl
  refine so_of ?_
  refine se_exN W.e_InvalidProfile ?_ ?_
  rfl
  rfl
  refine sa_cons ?_ ?_ ?_
  rfl
  refine so_of ?_
  refine se_exN W.e_OtherSpan ?_ ?_
  rfl
  rfl
  refine sa_cons ?_ ?_ sa_nil
  rfl
  refine so_of ?_
  refine se_exN W.e_OtherStops ?_ ?_
  rfl
  rfl
  refine ss_cons ?_ ?_
  refine s1_setF (i := 0) ?_ ?_ ?_ ?_ ?_ ?_
  exact sc_l_classes_right.nd
  rfl
  (first | exact Or.inl rfl | exact Or.inr rfl)
  rfl
  (first | exact Or.inr rfl | exact Or.inl rfl)
  refine sf_op f_add ?_ ?_
  refine so_borO (i := 0) ?_ ?_ ?_ ?_
  rfl
  (first | exact Or.inl rfl | exact Or.inr (Or.inl rfl) | exact Or.inr (Or.inr rfl))
  rfl
  rfl
  refine so_of ?_
  refine SF.se ?_
  refine sf_lst ?_
  refine sa_cons ?_ ?_ ?_
  rfl
  refine so_of ?_
  refine se_exN W.e_InvalidMessages ?_ ?_
  rfl
  rfl
  refine sa_cons ?_ ?_ ?_
  rfl
  refine so_of ?_
  refine se_exN W.e_InvalidWaits ?_ ?_
  rfl
  rfl
  refine sa_cons ?_ ?_ ?_
  rfl
  refine so_of ?_
  refine se_exN W.e_WaitingRing ?_ ?_
  rfl
  rfl
  refine sa_cons ?_ ?_ ?_
  rfl
  refine so_of ?_
  refine se_exN W.e_InvalidRide ?_ ?_
  rfl
  rfl
  refine sa_cons ?_ ?_ sa_nil
  rfl
  refine so_of ?_
  refine se_exN W.e_InvalidLateness ?_ ?_
  rfl
  rfl
  refine ss_cons ?_ ?_
  refine s1_setF (i := 0) ?_ ?_ ?_ ?_ ?_ ?_
  exact sc_l_classes_right.nd
  rfl
  (first | exact Or.inl rfl | exact Or.inr rfl)
  rfl
  (first | exact Or.inr rfl | exact Or.inl rfl)
  refine sf_op f_add ?_ ?_
  refine so_borO (i := 0) ?_ ?_ ?_ ?_
  rfl
  (first | exact Or.inl rfl | exact Or.inr (Or.inl rfl) | exact Or.inr (Or.inr rfl))
  rfl
  rfl
  refine so_of ?_
  refine SF.se ?_
  refine sf_lst ?_
  refine sa_cons ?_ ?_ ?_
  rfl
  refine so_of ?_
  refine se_exN W.e_InvalidChanges ?_ ?_
  rfl
  rfl
  refine sa_cons ?_ ?_ ?_
  rfl
  refine so_of ?_
  refine se_exN W.e_InvalidChange ?_ ?_
  rfl
  rfl
  refine sa_cons ?_ ?_ ?_
  rfl
  refine so_of ?_
  refine se_exN W.e_NothingToUndo ?_ ?_
  rfl
  rfl
  refine sa_cons ?_ ?_ ?_
  rfl
  refine so_of ?_
  refine se_exN W.e_NotATimetable ?_ ?_
  rfl
  rfl
  refine sa_cons ?_ ?_ sa_nil
  rfl
  refine so_of ?_
  refine se_exN W.e_NotAStaircase ?_ ?_
  rfl
  rfl
  refine ss_cons ?_ ?_
  refine s1_setF (i := 0) ?_ ?_ ?_ ?_ ?_ ?_
  exact sc_l_classes_right.nd
  rfl
  (first | exact Or.inl rfl | exact Or.inr rfl)
  rfl
  (first | exact Or.inr rfl | exact Or.inl rfl)
  refine sf_op f_add ?_ ?_
  refine so_borO (i := 0) ?_ ?_ ?_ ?_
  rfl
  (first | exact Or.inl rfl | exact Or.inr (Or.inl rfl) | exact Or.inr (Or.inr rfl))
  rfl
  rfl
  refine so_of ?_
  refine SF.se ?_
  refine sf_lst ?_
  refine sa_cons ?_ ?_ ?_
  rfl
  refine so_of ?_
  refine se_exN W.e_NotAllowed ?_ ?_
  rfl
  rfl
  refine sa_cons ?_ ?_ ?_
  rfl
  refine so_of ?_
  refine se_exMk n_BadJourney hr ?_ ?_ ?_ ?_ ?_ ?_
  decide
  rfl
  rfl
  decide
  rfl
  refine sa_cons ?_ ?_ ?_
  rfl
  refine so_of ?_
  refine se_const ?_
  rfl
  refine sa_cons ?_ ?_ sa_nil
  rfl
  refine so_of ?_
  refine se_const ?_
  rfl
  refine sa_cons ?_ ?_ sa_nil
  rfl
  refine so_of ?_
  refine se_exMk n_TooLate hr ?_ ?_ ?_ ?_ ?_ ?_
  decide
  rfl
  rfl
  decide
  rfl
  refine sa_cons ?_ ?_ sa_nil
  rfl
  refine so_of ?_
  refine se_const ?_
  rfl
  refine ss_cons ?_ ?_
  refine s1_for (is := [1, 2]) ?_ ?_ ?_ ?_ ?_ ?_
  exact (passes_of (by rfl))
  rfl
  exact (fun _ => (by rfl))
  refine si_enum ?_ W.n_enumerate ?_ ?_
  rfl
  rfl
  refine se_var (i := 0) ?_ ?_ ?_ ?_
  rfl
  (first | exact Or.inl rfl | exact Or.inr (Or.inl rfl) | exact Or.inr (Or.inr rfl))
  rfl
  rfl
  refine sg_tup ?_ ?_ ?_
  rfl
  rfl
  refine sgs_cons (i1 := [1]) (i2 := [2]) ?_ ?_ ?_
  rfl
  refine sg_name (i := 1) ?_ ?_ ?_ ?_
  exact sc_l_classes_right.nd
  rfl
  (first | exact Or.inl rfl | exact Or.inr rfl)
  (first | exact Or.inr rfl | exact Or.inl rfl)
  refine sgs_cons (i1 := [2]) (i2 := []) ?_ ?_ sgs_nil
  rfl
  refine sg_name (i := 2) ?_ ?_ ?_ ?_
  exact sc_l_classes_right.nd
  rfl
  (first | exact Or.inl rfl | exact Or.inr rfl)
  (first | exact Or.inr rfl | exact Or.inl rfl)
  refine ss_cons ?_ ?_
  refine s1_if ?_ ?_ ss_nil
  refine st_cmp (op := .NotEq) (hu65 hr) ?_ ?_ ?_
  refine so_of ?_
  refine SF.se ?_
  refine sf_callU c_l_marks hr ?_ ?_ ?_ ?_ ?_
  decide
  rfl
  rfl
  rfl
  refine sa_cons ?_ ?_ sa_nil
  rfl
  refine so_of ?_
  refine se_var (i := 2) ?_ ?_ ?_ ?_
  rfl
  (first | exact Or.inl rfl | exact Or.inr (Or.inl rfl) | exact Or.inr (Or.inr rfl))
  rfl
  rfl
  refine so_of ?_
  refine SF.se ?_
  refine sf_lc (own := [("_law_j", 5)]) (is := [5]) ?_ ?_ ?_ ?_ ?_ ?_ ?_ ?_ ?_
  rfl
  exact sc_l_classes_right.nd
  exact (blkOk_by (by rfl))
  decide
  exact (fun _ => (by rfl))
  refine si_rng1 ?_ W.n_range ?_ ?_
  rfl
  rfl
  refine sa_cons ?_ ?_ sa_nil
  rfl
  refine so_of ?_
  refine SF.se ?_
  refine sf_callB c_len ?_ W.n_len bt_len ?_ ?_ ?_ ?_
  rfl
  decide
  rfl
  rfl
  refine sa_cons ?_ ?_ sa_nil
  rfl
  refine so_borO (i := 0) ?_ ?_ ?_ ?_
  rfl
  (first | exact Or.inl rfl | exact Or.inr (Or.inl rfl) | exact Or.inr (Or.inr rfl))
  rfl
  rfl
  intro _ _ _ _ _
  refine sg_name (i := 5) ?_ ?_ ?_ ?_
  exact sc_l_classes_right.nd
  rfl
  (first | exact Or.inl rfl | exact Or.inr rfl)
  (first | exact Or.inr rfl | exact Or.inl rfl)
  intro _ _ _ _ _
  refine st_yes ?_
  rfl
  intro _ _ _ _ _
  refine se_cmp (op := .Eq) (hu65 hr) ?_ ?_ ?_
  refine so_borO (i := 5) ?_ ?_ ?_ ?_
  rfl
  (first | exact Or.inl rfl | exact Or.inr (Or.inl rfl) | exact Or.inr (Or.inr rfl))
  rfl
  rfl
  refine so_borO (i := 1) ?_ ?_ ?_ ?_
  rfl
  (first | exact Or.inl rfl | exact Or.inr (Or.inl rfl) | exact Or.inr (Or.inr rfl))
  rfl
  rfl
  rfl
  rfl
  refine ss_one ?_
  refine s1_ret ?_
  refine se_const ?_
  rfl
  refine ss_one ?_
  refine s1_if ?_ ?_ ss_nil
  refine st_or ?_ ?_
  refine st_not ?_
  refine st_val ?_ ?_
  refine so_of ?_
  refine se_exVR (EX := EXL) W.vx ?_ W.n_isinstance ?_ ?_ W.g_RideError ?_
  rfl
  rfl
  rfl
  refine so_borO (i := 2) ?_ ?_ ?_ ?_
  rfl
  (first | exact Or.inl rfl | exact Or.inr (Or.inl rfl) | exact Or.inr (Or.inr rfl))
  rfl
  rfl
  exact (fun _ => (by rfl))
  refine st_one ?_
  refine st_not ?_
  refine st_val ?_ ?_
  refine so_of ?_
  refine se_exVT (EX := EXL) W.vx ?_ W.n_isinstance ?_ ?_ W.n_ValueError ?_
  rfl
  rfl
  rfl
  refine so_borO (i := 2) ?_ ?_ ?_ ?_
  rfl
  (first | exact Or.inl rfl | exact Or.inr (Or.inl rfl) | exact Or.inr (Or.inr rfl))
  rfl
  rfl
  exact (fun _ => (by rfl))
  refine ss_one ?_
  refine s1_ret ?_
  refine se_const ?_
  rfl
  refine ss_cons ?_ ?_
  refine s1_par2 (i := 3) (j := 4) ?_ ?_ ?_ ?_ ?_ ?_ ?_ ?_ ?_ ?_
  rfl
  exact sc_l_classes_right.nd
  rfl
  rfl
  decide
  rfl
  rfl
  rfl
  rfl
  refine sa_cons ?_ ?_ ?_
  rfl
  refine so_of ?_
  refine se_idx ?_ ?_ ?_
  exact (fun _ _ => (by rfl))
  refine so_borO (i := 0) ?_ ?_ ?_ ?_
  rfl
  (first | exact Or.inl rfl | exact Or.inr (Or.inl rfl) | exact Or.inr (Or.inr rfl))
  rfl
  rfl
  refine so_of ?_
  refine se_const ?_
  rfl
  refine sa_cons ?_ ?_ sa_nil
  rfl
  refine so_of ?_
  refine se_idx ?_ ?_ ?_
  exact (fun _ _ => (by rfl))
  refine so_borO (i := 0) ?_ ?_ ?_ ?_
  rfl
  (first | exact Or.inl rfl | exact Or.inr (Or.inl rfl) | exact Or.inr (Or.inr rfl))
  rfl
  rfl
  refine so_of ?_
  refine se_const ?_
  rfl
  refine ss_cons ?_ ?_
  refine s1_if ?_ ?_ ss_nil
  refine st_cmp (op := .NotEq) (hu65 hr) ?_ ?_ ?_
  refine so_of ?_
  refine SF.se ?_
  refine sf_lst ?_
  refine sa_cons ?_ ?_ ?_
  rfl
  refine so_of ?_
  refine se_fld (FL := FLL) (n := "index") W.fx ?_ ?_
  rfl
  refine so_borO (i := 3) ?_ ?_ ?_ ?_
  rfl
  (first | exact Or.inl rfl | exact Or.inr (Or.inl rfl) | exact Or.inr (Or.inr rfl))
  rfl
  rfl
  refine sa_cons ?_ ?_ ?_
  rfl
  refine so_of ?_
  refine se_fld (FL := FLL) (n := "word") W.fx ?_ ?_
  rfl
  refine so_borO (i := 3) ?_ ?_ ?_ ?_
  rfl
  (first | exact Or.inl rfl | exact Or.inr (Or.inl rfl) | exact Or.inr (Or.inr rfl))
  rfl
  rfl
  refine sa_cons ?_ ?_ sa_nil
  rfl
  refine so_of ?_
  refine se_fld (FL := FLL) (n := "minutes") W.fx ?_ ?_
  rfl
  refine so_borO (i := 4) ?_ ?_ ?_ ?_
  rfl
  (first | exact Or.inl rfl | exact Or.inr (Or.inl rfl) | exact Or.inr (Or.inr rfl))
  rfl
  rfl
  refine so_of ?_
  refine SF.se ?_
  refine sf_lst ?_
  refine sa_cons ?_ ?_ ?_
  rfl
  refine so_of ?_
  refine se_const ?_
  rfl
  refine sa_cons ?_ ?_ ?_
  rfl
  refine so_of ?_
  refine se_const ?_
  rfl
  refine sa_cons ?_ ?_ sa_nil
  rfl
  refine so_of ?_
  refine se_const ?_
  rfl
  rfl
  refine ss_one ?_
  refine s1_ret ?_
  refine se_const ?_
  rfl
  refine ss_cons ?_ ?_
  refine s1_par2 (i := 3) (j := 4) ?_ ?_ ?_ ?_ ?_ ?_ ?_ ?_ ?_ ?_
  rfl
  exact sc_l_classes_right.nd
  rfl
  rfl
  decide
  rfl
  rfl
  rfl
  rfl
  refine sa_cons ?_ ?_ ?_
  rfl
  refine so_of ?_
  refine se_exMkK ?_ q_BadJourney hr ?_ ?_ ?_ ?_ ?_ ?_ ?_
  rfl
  decide
  rfl
  rfl
  rfl
  rfl
  rfl
  refine sk_cons ?_ ?_
  refine so_of ?_
  refine se_const ?_
  rfl
  refine sk_cons ?_ sk_nil
  refine so_of ?_
  refine se_const ?_
  rfl
  refine sa_cons ?_ ?_ sa_nil
  rfl
  refine so_of ?_
  refine se_exMkK ?_ q_TooLate hr ?_ ?_ ?_ ?_ ?_ ?_ ?_
  rfl
  decide
  rfl
  rfl
  rfl
  rfl
  rfl
  refine sk_cons ?_ sk_nil
  refine so_of ?_
  refine se_const ?_
  rfl
  refine ss_one ?_
  refine s1_ret ?_
  refine se_cmp (op := .Eq) (hu65 hr) ?_ ?_ ?_
  refine so_of ?_
  refine SF.se ?_
  refine sf_lst ?_
  refine sa_cons ?_ ?_ ?_
  rfl
  refine so_of ?_
  refine se_fld (FL := FLL) (n := "index") W.fx ?_ ?_
  rfl
  refine so_borO (i := 3) ?_ ?_ ?_ ?_
  rfl
  (first | exact Or.inl rfl | exact Or.inr (Or.inl rfl) | exact Or.inr (Or.inr rfl))
  rfl
  rfl
  refine sa_cons ?_ ?_ ?_
  rfl
  refine so_of ?_
  refine se_fld (FL := FLL) (n := "word") W.fx ?_ ?_
  rfl
  refine so_borO (i := 3) ?_ ?_ ?_ ?_
  rfl
  (first | exact Or.inl rfl | exact Or.inr (Or.inl rfl) | exact Or.inr (Or.inr rfl))
  rfl
  rfl
  refine sa_cons ?_ ?_ sa_nil
  rfl
  refine so_of ?_
  refine se_fld (FL := FLL) (n := "minutes") W.fx ?_ ?_
  rfl
  refine so_borO (i := 4) ?_ ?_ ?_ ?_
  rfl
  (first | exact Or.inl rfl | exact Or.inr (Or.inl rfl) | exact Or.inr (Or.inr rfl))
  rfl
  rfl
  refine so_of ?_
  refine SF.se ?_
  refine sf_lst ?_
  refine sa_cons ?_ ?_ ?_
  rfl
  refine so_of ?_
  refine se_const ?_
  rfl
  refine sa_cons ?_ ?_ ?_
  rfl
  refine so_of ?_
  refine se_const ?_
  rfl
  refine sa_cons ?_ ?_ sa_nil
  rfl
  refine so_of ?_
  refine se_const ?_
  rfl
  rfl
theorem c_l_classes_right (W : Wd K mg) (hD : base.NoDigits) {f : Addr} {fd : FuncData} (F : FunD K "_law_classes_right" "_law_classes_right" (defArgs s_l_classes_right) (defBody s_l_classes_right) (defScope s_l_classes_right) [] [] f fd) (hm : mg "_law_classes_right" = some (.ref f)) (n_BadJourney : OwnI P w K mg base "BadJourney" ["index", "word"] 1) (n_TooLate : OwnI P w K mg base "TooLate" ["minutes"] 1) (q_BadJourney : OwnK P w K mg base "BadJourney" ["index", "word"] ["word", "index"] [1, 0] 1) (q_TooLate : OwnK P w K mg base "TooLate" ["minutes"] ["minutes"] [0] 1) (c_l_marks : CalD P w K mg base 1 "_law_marks" 1 l_marks_den) : CalD P w K mg base 3 "_law_classes_right" 0 l_classes_right_den := calD (ps := []) F (o_l_classes_right W hD F n_BadJourney n_TooLate q_BadJourney q_TooLate c_l_marks) hm fnDen_len (fun _ _ _ _ _ _ us hl => match us, hl with | [], _ => rfl)
def l_told_h : Str → Option D := fun nm => if nm = "InvalidTime" then some (.str "time") else if nm = "InvalidDay" then some (.str "day") else if nm = "InvalidMinute" then some (.str "minute") else none
theorem l_told_hd (W : Wd K mg) {f : Addr} {cdv : Value} {A : Around} {outer : List PySem.Env} {s : Shared} {H : Hp} {E : XK} (hr : Room 3 (A.deeper (envOfC "_law_told" (defScope s_l_told) s.heap.objs.size f cdv))) (p_l_word_InvalidTime : CalP P w K mg base 1 "_law_word" (Zz K "InvalidTime") l_word_InvalidTime_den) (p_l_word_InvalidDay : CalP P w K mg base 1 "_law_word" (Zz K "InvalidDay") l_word_InvalidDay_den) (p_l_word_InvalidMinute : CalP P w K mg base 1 "_law_word" (Zz K "InvalidMinute") l_word_InvalidMinute_den) : ∀ nm d, l_told_h nm = some d → ∃ v, scalV d = some v ∧ ∀ C, mg nm = some (.ref C) → PySem.W.exmOne K (.ref C) (.ref (He.ga K "RideError")) = some true ∧ ∀ a oe pn, L2N.Zn (.ref C) none oe → (∃ vs, oe.data = .fields vs) → SU2 ((cxOf (L2N.CX P w) P w K mg base ["_law_way", "_law_thing", "_law_more", "_law_e"] "_law_told" (defScope s_l_told) f cdv A outer s H E).suite a ((a, oe) :: pn)) 3 a (hdl (defBody s_l_told)) v := by
  intro nm d h
  unfold l_told_h at h
  split at h
  · rename_i e; subst e; injection h with h; subst h
    refine ⟨.str "time", rfl, fun C hC => ?_⟩
    have e := hC.symm.trans W.g_InvalidTime
    cases e
    refine ⟨W.m_InvalidTime, fun a oe pn hz hf => ?_⟩
    obtain ⟨b, e, hv⟩ := v_l_word_InvalidTime a
    exact su2_call p_l_word_InvalidTime ⟨⟨hz.1, hz.2.1⟩, hf⟩ hz hf hr (by decide) (by rfl) (by rfl) (by rfl) (by first | exact Or.inl rfl | exact Or.inr (Or.inl rfl)) (by rfl) (by rfl) hv (by rfl)
  split at h
  · rename_i e; subst e; injection h with h; subst h
    refine ⟨.str "day", rfl, fun C hC => ?_⟩
    have e := hC.symm.trans W.g_InvalidDay
    cases e
    refine ⟨W.m_InvalidDay, fun a oe pn hz hf => ?_⟩
    obtain ⟨b, e, hv⟩ := v_l_word_InvalidDay a
    exact su2_call p_l_word_InvalidDay ⟨⟨hz.1, hz.2.1⟩, hf⟩ hz hf hr (by decide) (by rfl) (by rfl) (by rfl) (by first | exact Or.inl rfl | exact Or.inr (Or.inl rfl)) (by rfl) (by rfl) hv (by rfl)
  split at h
  · rename_i e; subst e; injection h with h; subst h
    refine ⟨.str "minute", rfl, fun C hC => ?_⟩
    have e := hC.symm.trans W.g_InvalidMinute
    cases e
    refine ⟨W.m_InvalidMinute, fun a oe pn hz hf => ?_⟩
    obtain ⟨b, e, hv⟩ := v_l_word_InvalidMinute a
    exact su2_call p_l_word_InvalidMinute ⟨⟨hz.1, hz.2.1⟩, hf⟩ hz hf hr (by decide) (by rfl) (by rfl) (by rfl) (by first | exact Or.inl rfl | exact Or.inr (Or.inl rfl)) (by rfl) (by rfl) hv (by rfl)
  cases h
def l_told_b : Rp.Env → Res := (dTryC 3 (dSeq (dIf (bB (bin2 (cmpD .Eq) (borO 0) (asV (pureD (.int 0))))) (dRetF (callU true day_of_den (consA (asV (rdVar 1)) nilA))) dNil) (dSeq (dIf (bB (bin2 (cmpD .Eq) (borO 0) (asV (pureD (.int 1))))) (dRetF (callU true minute_of_den (consA (asV (rdVar 1)) nilA))) dNil) (dSeq (dIf (bB (bin2 (cmpD .Eq) (borO 0) (asV (pureD (.int 2))))) (dRetF (callU true weekday_of_den (consA (asV (rdVar 1)) nilA))) dNil) (dRetF (callU true time_at_den (consA (asV (rdVar 1)) (consA (asV (rdVar 2)) nilA))))))) l_told_h)
def l_told_den : List Rp.Arg → Res := fnDen 4 3 l_told_b
theorem o_l_told (W : Wd K mg) (hD : base.NoDigits) {f : Addr} {fd : FuncData} (F : FunD K "_law_told" "_law_told" (defArgs s_l_told) (defBody s_l_told) (defScope s_l_told) [] [] f fd) (c_day_of : CalD P w K mg base 3 "day_of" 1 day_of_den) (c_minute_of : CalD P w K mg base 3 "minute_of" 1 minute_of_den) (c_weekday_of : CalD P w K mg base 3 "weekday_of" 1 weekday_of_den) (c_time_at : CalD P w K mg base 3 "time_at" 2 time_at_den) (p_l_word_InvalidTime : CalP P w K mg base 1 "_law_word" (Zz K "InvalidTime") l_word_InvalidTime_den) (p_l_word_InvalidDay : CalP P w K mg base 1 "_law_word" (Zz K "InvalidDay") l_word_InvalidDay_den) (p_l_word_InvalidMinute : CalP P w K mg base 1 "_law_word" (Zz K "InvalidMinute") l_word_InvalidMinute_den) : FnOk P w K mg base (L2N.CX P w) 4 f fd ["_law_way", "_law_thing", "_law_more"] (spD K mg 3 l_told_den) := by
  refine funD_ok (N := ["_law_way", "_law_thing", "_law_more", "_law_e"]) (ps := ["_law_way", "_law_thing", "_law_more"]) (k := 3) (den := l_told_b) F sc_l_told (fun cdv A outer s H E hr => ?_)
  refine ss_one ?_
  refine s1_tryP (i := 3) ?_ ?_ ?_ ?_ ?_ ⟨(by rfl), (by rfl), Or.inl W.g_RideError⟩ ?_ ?_
  rfl
  rfl
  exact sc_l_told.nd
  rfl
  rfl
  intro pn xe hp
  refine ss_cons ?_ ?_
  refine s1_if ?_ ?_ ss_nil
  refine st_cmp (op := .Eq) (hu65 hr) ?_ ?_ ?_
  refine so_borO (i := 0) ?_ ?_ ?_ ?_
  rfl
  (first | exact Or.inl rfl | exact Or.inr (Or.inl rfl) | exact Or.inr (Or.inr rfl))
  rfl
  rfl
  refine so_of ?_
  refine se_const ?_
  rfl
  rfl
  refine ss_one ?_
  refine s1_retF ?_
  refine sf_callU c_day_of hr ?_ ?_ ?_ ?_ ?_
  decide
  rfl
  rfl
  rfl
  refine sa_cons ?_ ?_ sa_nil
  rfl
  refine so_of ?_
  refine se_var (i := 1) ?_ ?_ ?_ ?_
  rfl
  (first | exact Or.inl rfl | exact Or.inr (Or.inl rfl) | exact Or.inr (Or.inr rfl))
  rfl
  rfl
  refine ss_cons ?_ ?_
  refine s1_if ?_ ?_ ss_nil
  refine st_cmp (op := .Eq) (hu65 hr) ?_ ?_ ?_
  refine so_borO (i := 0) ?_ ?_ ?_ ?_
  rfl
  (first | exact Or.inl rfl | exact Or.inr (Or.inl rfl) | exact Or.inr (Or.inr rfl))
  rfl
  rfl
  refine so_of ?_
  refine se_const ?_
  rfl
  rfl
  refine ss_one ?_
  refine s1_retF ?_
  refine sf_callU c_minute_of hr ?_ ?_ ?_ ?_ ?_
  decide
  rfl
  rfl
  rfl
  refine sa_cons ?_ ?_ sa_nil
  rfl
  refine so_of ?_
  refine se_var (i := 1) ?_ ?_ ?_ ?_
  rfl
  (first | exact Or.inl rfl | exact Or.inr (Or.inl rfl) | exact Or.inr (Or.inr rfl))
  rfl
  rfl
  refine ss_cons ?_ ?_
  refine s1_if ?_ ?_ ss_nil
  refine st_cmp (op := .Eq) (hu65 hr) ?_ ?_ ?_
  refine so_borO (i := 0) ?_ ?_ ?_ ?_
  rfl
  (first | exact Or.inl rfl | exact Or.inr (Or.inl rfl) | exact Or.inr (Or.inr rfl))
  rfl
  rfl
  refine so_of ?_
  refine se_const ?_
  rfl
  rfl
  refine ss_one ?_
  refine s1_retF ?_
  refine sf_callU c_weekday_of hr ?_ ?_ ?_ ?_ ?_
  decide
  rfl
  rfl
  rfl
  refine sa_cons ?_ ?_ sa_nil
  rfl
  refine so_of ?_
  refine se_var (i := 1) ?_ ?_ ?_ ?_
  rfl
  (first | exact Or.inl rfl | exact Or.inr (Or.inl rfl) | exact Or.inr (Or.inr rfl))
  rfl
  rfl
  refine ss_one ?_
  refine s1_retF ?_
  refine sf_callU c_time_at hr ?_ ?_ ?_ ?_ ?_
  decide
  rfl
  rfl
  rfl
  refine sa_cons ?_ ?_ ?_
  rfl
  refine so_of ?_
  refine se_var (i := 1) ?_ ?_ ?_ ?_
  rfl
  (first | exact Or.inl rfl | exact Or.inr (Or.inl rfl) | exact Or.inr (Or.inr rfl))
  rfl
  rfl
  refine sa_cons ?_ ?_ sa_nil
  rfl
  refine so_of ?_
  refine se_var (i := 2) ?_ ?_ ?_ ?_
  rfl
  (first | exact Or.inl rfl | exact Or.inr (Or.inl rfl) | exact Or.inr (Or.inr rfl))
  rfl
  rfl
  exact (l_told_hd W hr p_l_word_InvalidTime p_l_word_InvalidDay p_l_word_InvalidMinute)
theorem c_l_told (W : Wd K mg) (hD : base.NoDigits) {f : Addr} {fd : FuncData} (F : FunD K "_law_told" "_law_told" (defArgs s_l_told) (defBody s_l_told) (defScope s_l_told) [] [] f fd) (hm : mg "_law_told" = some (.ref f)) (c_day_of : CalD P w K mg base 3 "day_of" 1 day_of_den) (c_minute_of : CalD P w K mg base 3 "minute_of" 1 minute_of_den) (c_weekday_of : CalD P w K mg base 3 "weekday_of" 1 weekday_of_den) (c_time_at : CalD P w K mg base 3 "time_at" 2 time_at_den) (p_l_word_InvalidTime : CalP P w K mg base 1 "_law_word" (Zz K "InvalidTime") l_word_InvalidTime_den) (p_l_word_InvalidDay : CalP P w K mg base 1 "_law_word" (Zz K "InvalidDay") l_word_InvalidDay_den) (p_l_word_InvalidMinute : CalP P w K mg base 1 "_law_word" (Zz K "InvalidMinute") l_word_InvalidMinute_den) : CalD P w K mg base 4 "_law_told" 3 l_told_den := calD (ps := ["_law_way", "_law_thing", "_law_more"]) F (o_l_told W hD F c_day_of c_minute_of c_weekday_of c_time_at p_l_word_InvalidTime p_l_word_InvalidDay p_l_word_InvalidMinute) hm fnDen_len (fun _ _ _ _ _ _ us hl => match us, hl with | [_, _, _], _ => rfl)
def l_right_b : Rp.Env → Res := (dSeq (dSetF 1 (callU true day_of_den (consA (asV (rdVar 0)) nilA))) (dSeq (dSet 2 (bin2 (binD .Sub) (borO 0) (asV (bin2 (binD .Mult) (asV (pureD (.int 1440))) (borO 1))))) (dSeq (dIf (bB (bin2 (cmpD .NotEq) (asV (callD reprD (consA (asV (dispD .lst (consA (asV (callKU true 1 [0] day_of_den (consA (asV (rdVar 0)) nilA))) (consA (asV (isiD ["int"] (borO 1))) (consA (asV (chain3 .LtE .Lt (asV (pureD (.int 0))) (borO 2) (asV (pureD (.int 1440))))) nilA))))) nilA))) (asV (callD reprD (consA (asV (dispD .lst (consA (asV (rdVar 1)) (consA (asV (pureD (.bl true))) (consA (asV (pureD (.bl true))) nilA))))) nilA))))) (dRet (pureD (.bl false))) dNil) (dSeq (dIf (bB (bin2 (cmpD .NotEq) (asV (callD reprD (consA (asV (dispD .lst (consA (asV (callU true minute_of_den (consA (asV (rdVar 0)) nilA))) (consA (asV (callKU true 1 [0] minute_of_den (consA (asV (rdVar 0)) nilA))) (consA (asV (callU true time_at_den (consA (asV (rdVar 1)) (consA (asV (rdVar 2)) nilA)))) nilA))))) nilA))) (asV (callD reprD (consA (asV (dispD .lst (consA (asV (rdVar 2)) (consA (asV (rdVar 2)) (consA (asV (rdVar 0)) nilA))))) nilA))))) (dRet (pureD (.bl false))) dNil) (dSeq (dSetF 3 (callU true weekday_of_den (consA (asV (rdVar 1)) nilA))) (dSeq (dIf (bB (bin2 (cmpD .NotEq) (asV (callD reprD (consA (asV (dispD .lst (consA (asV (callKU true 1 [0] weekday_of_den (consA (asV (rdVar 1)) nilA))) (consA (asV (callKU true 2 [1, 0] time_at_den (consA (asV (rdVar 2)) (consA (asV (rdVar 1)) nilA)))) nilA)))) nilA))) (asV (callD reprD (consA (asV (dispD .lst (consA (asV (rdVar 3)) (consA (asV (rdVar 0)) nilA)))) nilA))))) (dRet (pureD (.bl false))) dNil) (dSeq (dIf (bB (bin2 (cmpD .NotEq) (asV (callD reprD (consA (asV (dispD .lst (consA (asV (rdVar 1)) (consA (asV (rdVar 3)) nilA)))) nilA))) (asV (callD reprD (consA (asV (dispD .lst (consA (asV (bin2 (binD .Add) (borO 1) (asV (pureD (.int 0))))) (consA (asV (bin2 (binD .Add) (borO 3) (asV (pureD (.int 0))))) nilA)))) nilA))))) (dRet (pureD (.bl false))) dNil) (dRet (andV (bin2 inRng (borO 3) (asV (pureD (.int 7)))) (andV (bin2 (cmpD .Eq) (asV (bin2 (binD .Mod) (asV (bin2 (binD .Sub) (borO 1) (borO 3))) (asV (pureD (.int 7))))) (asV (pureD (.int 0)))) (bin2 (cmpD .Eq) (asV (callU true weekday_of_den (consA (asV (bin2 (binD .Add) (borO 1) (asV (pureD (.int 1))))) nilA))) (asV (bin2 (binD .Mod) (asV (bin2 (binD .Add) (borO 3) (asV (pureD (.int 1))))) (asV (pureD (.int 7))))))))))))))))
def l_right_den : List Rp.Arg → Res := fnDen 4 1 l_right_b
theorem o_l_right (W : Wd K mg) (hD : base.NoDigits) {f : Addr} {fd : FuncData} (F : FunD K "_law_right" "_law_right" (defArgs s_l_right) (defBody s_l_right) (defScope s_l_right) [] [] f fd) (c_day_of : CalD P w K mg base 3 "day_of" 1 day_of_den) (c_minute_of : CalD P w K mg base 3 "minute_of" 1 minute_of_den) (c_time_at : CalD P w K mg base 3 "time_at" 2 time_at_den) (c_weekday_of : CalD P w K mg base 3 "weekday_of" 1 weekday_of_den) (k_day_of : CalK P w K mg base 3 "day_of" ["time"] [0] 1 day_of_den) (k_minute_of : CalK P w K mg base 3 "minute_of" ["time"] [0] 1 minute_of_den) (k_weekday_of : CalK P w K mg base 3 "weekday_of" ["day"] [0] 1 weekday_of_den) (k_time_at_1_0 : CalK P w K mg base 3 "time_at" ["minute", "day"] [1, 0] 2 time_at_den) : FnG P w K mg base 4 f fd ["_law_when"] (spD K mg 1 l_right_den) := by
  refine funG_ok (N := ["_law_when", "_law_date", "_law_late", "_law_told_here"]) (ps := ["_law_when"]) (k := 3) (den := l_right_b) F sc_l_right (fun cdv A outer s H E hG hr => ?_)
  refine ss_cons ?_ ?_
  refine s1_setF (i := 1) ?_ ?_ ?_ ?_ ?_ ?_
  exact sc_l_right.nd
  rfl
  (first | exact Or.inl rfl | exact Or.inr rfl)
  rfl
  (first | exact Or.inr rfl | exact Or.inl rfl)
  refine sf_callU c_day_of hr ?_ ?_ ?_ ?_ ?_
  decide
  rfl
  rfl
  rfl
  refine sa_cons ?_ ?_ sa_nil
  rfl
  refine so_of ?_
  refine se_var (i := 0) ?_ ?_ ?_ ?_
  rfl
  (first | exact Or.inl rfl | exact Or.inr (Or.inl rfl) | exact Or.inr (Or.inr rfl))
  rfl
  rfl
  refine ss_cons ?_ ?_
  refine s1_set (i := 2) ?_ ?_ ?_ ?_ ?_ ?_
  exact sc_l_right.nd
  rfl
  (first | exact Or.inl rfl | exact Or.inr rfl)
  rfl
  (first | exact Or.inr rfl | exact Or.inl rfl)
  refine se_op (s_bin .Sub) ?_ ?_
  refine so_borO (i := 0) ?_ ?_ ?_ ?_
  rfl
  (first | exact Or.inl rfl | exact Or.inr (Or.inl rfl) | exact Or.inr (Or.inr rfl))
  rfl
  rfl
  refine so_of ?_
  refine SF.se ?_
  refine sf_op f_mul ?_ ?_
  refine so_of ?_
  refine se_const ?_
  rfl
  refine so_borO (i := 1) ?_ ?_ ?_ ?_
  rfl
  (first | exact Or.inl rfl | exact Or.inr (Or.inl rfl) | exact Or.inr (Or.inr rfl))
  rfl
  rfl
  refine ss_cons ?_ ?_
  refine s1_if ?_ ?_ ss_nil
  refine st_cmp (op := .NotEq) (hu65 hr) ?_ ?_ ?_
  refine so_of ?_
  refine SF.se ?_
  refine sf_callB (c_repr hG (hu65 hr)) ?_ W.n_repr bt_repr ?_ ?_ ?_ ?_
  rfl
  decide
  rfl
  rfl
  refine sa_cons ?_ ?_ sa_nil
  rfl
  refine so_of ?_
  refine SF.se ?_
  refine sf_lst ?_
  refine sa_cons ?_ ?_ ?_
  rfl
  refine so_of ?_
  refine SF.se ?_
  refine sf_callK ?_ k_day_of hr ?_ ?_ ?_ ?_ ?_ ?_ ?_
  rfl
  decide
  rfl
  rfl
  rfl
  rfl
  rfl
  refine sk_cons ?_ sk_nil
  refine so_of ?_
  refine se_var (i := 0) ?_ ?_ ?_ ?_
  rfl
  (first | exact Or.inl rfl | exact Or.inr (Or.inl rfl) | exact Or.inr (Or.inr rfl))
  rfl
  rfl
  refine sa_cons ?_ ?_ ?_
  rfl
  refine so_of ?_
  refine se_isi (T := "int") ?_ W.n_isinstance bt_isinstance ?_ ?_ ?_ ⟨(by rfl), W.n_int, bt_int, by decide, (by rfl)⟩ ?_
  rfl
  decide
  rfl
  rfl
  refine so_borO (i := 1) ?_ ?_ ?_ ?_
  rfl
  (first | exact Or.inl rfl | exact Or.inr (Or.inl rfl) | exact Or.inr (Or.inr rfl))
  rfl
  rfl
  refine sa_cons ?_ ?_ sa_nil
  rfl
  refine so_of ?_
  refine se_chain (op := .LtE) (op2 := .Lt) (hu65 hr) ?_ ?_ ?_ ?_
  refine so_of ?_
  refine se_const ?_
  rfl
  refine so_borO (i := 2) ?_ ?_ ?_ ?_
  rfl
  (first | exact Or.inl rfl | exact Or.inr (Or.inl rfl) | exact Or.inr (Or.inr rfl))
  rfl
  rfl
  refine so_of ?_
  refine se_const ?_
  rfl
  rfl
  refine so_of ?_
  refine SF.se ?_
  refine sf_callB (c_repr hG (hu65 hr)) ?_ W.n_repr bt_repr ?_ ?_ ?_ ?_
  rfl
  decide
  rfl
  rfl
  refine sa_cons ?_ ?_ sa_nil
  rfl
  refine so_of ?_
  refine SF.se ?_
  refine sf_lst ?_
  refine sa_cons ?_ ?_ ?_
  rfl
  refine so_of ?_
  refine se_var (i := 1) ?_ ?_ ?_ ?_
  rfl
  (first | exact Or.inl rfl | exact Or.inr (Or.inl rfl) | exact Or.inr (Or.inr rfl))
  rfl
  rfl
  refine sa_cons ?_ ?_ ?_
  rfl
  refine so_of ?_
  refine se_const ?_
  rfl
  refine sa_cons ?_ ?_ sa_nil
  rfl
  refine so_of ?_
  refine se_const ?_
  rfl
  rfl
  refine ss_one ?_
  refine s1_ret ?_
  refine se_const ?_
  rfl
  refine ss_cons ?_ ?_
  refine s1_if ?_ ?_ ss_nil
  refine st_cmp (op := .NotEq) (hu65 hr) ?_ ?_ ?_
  refine so_of ?_
  refine SF.se ?_
  refine sf_callB (c_repr hG (hu65 hr)) ?_ W.n_repr bt_repr ?_ ?_ ?_ ?_
  rfl
  decide
  rfl
  rfl
  refine sa_cons ?_ ?_ sa_nil
  rfl
  refine so_of ?_
  refine SF.se ?_
  refine sf_lst ?_
  refine sa_cons ?_ ?_ ?_
  rfl
  refine so_of ?_
  refine SF.se ?_
  refine sf_callU c_minute_of hr ?_ ?_ ?_ ?_ ?_
  decide
  rfl
  rfl
  rfl
  refine sa_cons ?_ ?_ sa_nil
  rfl
  refine so_of ?_
  refine se_var (i := 0) ?_ ?_ ?_ ?_
  rfl
  (first | exact Or.inl rfl | exact Or.inr (Or.inl rfl) | exact Or.inr (Or.inr rfl))
  rfl
  rfl
  refine sa_cons ?_ ?_ ?_
  rfl
  refine so_of ?_
  refine SF.se ?_
  refine sf_callK ?_ k_minute_of hr ?_ ?_ ?_ ?_ ?_ ?_ ?_
  rfl
  decide
  rfl
  rfl
  rfl
  rfl
  rfl
  refine sk_cons ?_ sk_nil
  refine so_of ?_
  refine se_var (i := 0) ?_ ?_ ?_ ?_
  rfl
  (first | exact Or.inl rfl | exact Or.inr (Or.inl rfl) | exact Or.inr (Or.inr rfl))
  rfl
  rfl
  refine sa_cons ?_ ?_ sa_nil
  rfl
  refine so_of ?_
  refine SF.se ?_
  refine sf_callU c_time_at hr ?_ ?_ ?_ ?_ ?_
  decide
  rfl
  rfl
  rfl
  refine sa_cons ?_ ?_ ?_
  rfl
  refine so_of ?_
  refine se_var (i := 1) ?_ ?_ ?_ ?_
  rfl
  (first | exact Or.inl rfl | exact Or.inr (Or.inl rfl) | exact Or.inr (Or.inr rfl))
  rfl
  rfl
  refine sa_cons ?_ ?_ sa_nil
  rfl
  refine so_of ?_
  refine se_var (i := 2) ?_ ?_ ?_ ?_
  rfl
  (first | exact Or.inl rfl | exact Or.inr (Or.inl rfl) | exact Or.inr (Or.inr rfl))
  rfl
  rfl
  refine so_of ?_
  refine SF.se ?_
  refine sf_callB (c_repr hG (hu65 hr)) ?_ W.n_repr bt_repr ?_ ?_ ?_ ?_
  rfl
  decide
  rfl
  rfl
  refine sa_cons ?_ ?_ sa_nil
  rfl
  refine so_of ?_
  refine SF.se ?_
  refine sf_lst ?_
  refine sa_cons ?_ ?_ ?_
  rfl
  refine so_of ?_
  refine se_var (i := 2) ?_ ?_ ?_ ?_
  rfl
  (first | exact Or.inl rfl | exact Or.inr (Or.inl rfl) | exact Or.inr (Or.inr rfl))
  rfl
  rfl
  refine sa_cons ?_ ?_ ?_
  rfl
  refine so_of ?_
  refine se_var (i := 2) ?_ ?_ ?_ ?_
  rfl
  (first | exact Or.inl rfl | exact Or.inr (Or.inl rfl) | exact Or.inr (Or.inr rfl))
  rfl
  rfl
  refine sa_cons ?_ ?_ sa_nil
  rfl
  refine so_of ?_
  refine se_var (i := 0) ?_ ?_ ?_ ?_
  rfl
  (first | exact Or.inl rfl | exact Or.inr (Or.inl rfl) | exact Or.inr (Or.inr rfl))
  rfl
  rfl
  rfl
  refine ss_one ?_
  refine s1_ret ?_
  refine se_const ?_
  rfl
  refine ss_cons ?_ ?_
  refine s1_setF (i := 3) ?_ ?_ ?_ ?_ ?_ ?_
  exact sc_l_right.nd
  rfl
  (first | exact Or.inl rfl | exact Or.inr rfl)
  rfl
  (first | exact Or.inr rfl | exact Or.inl rfl)
  refine sf_callU c_weekday_of hr ?_ ?_ ?_ ?_ ?_
  decide
  rfl
  rfl
  rfl
  refine sa_cons ?_ ?_ sa_nil
  rfl
  refine so_of ?_
  refine se_var (i := 1) ?_ ?_ ?_ ?_
  rfl
  (first | exact Or.inl rfl | exact Or.inr (Or.inl rfl) | exact Or.inr (Or.inr rfl))
  rfl
  rfl
  refine ss_cons ?_ ?_
  refine s1_if ?_ ?_ ss_nil
  refine st_cmp (op := .NotEq) (hu65 hr) ?_ ?_ ?_
  refine so_of ?_
  refine SF.se ?_
  refine sf_callB (c_repr hG (hu65 hr)) ?_ W.n_repr bt_repr ?_ ?_ ?_ ?_
  rfl
  decide
  rfl
  rfl
  refine sa_cons ?_ ?_ sa_nil
  rfl
  refine so_of ?_
  refine SF.se ?_
  refine sf_lst ?_
  refine sa_cons ?_ ?_ ?_
  rfl
  refine so_of ?_
  refine SF.se ?_
  refine sf_callK ?_ k_weekday_of hr ?_ ?_ ?_ ?_ ?_ ?_ ?_
  rfl
  decide
  rfl
  rfl
  rfl
  rfl
  rfl
  refine sk_cons ?_ sk_nil
  refine so_of ?_
  refine se_var (i := 1) ?_ ?_ ?_ ?_
  rfl
  (first | exact Or.inl rfl | exact Or.inr (Or.inl rfl) | exact Or.inr (Or.inr rfl))
  rfl
  rfl
  refine sa_cons ?_ ?_ sa_nil
  rfl
  refine so_of ?_
  refine SF.se ?_
  refine sf_callK ?_ k_time_at_1_0 hr ?_ ?_ ?_ ?_ ?_ ?_ ?_
  rfl
  decide
  rfl
  rfl
  rfl
  rfl
  rfl
  refine sk_cons ?_ ?_
  refine so_of ?_
  refine se_var (i := 2) ?_ ?_ ?_ ?_
  rfl
  (first | exact Or.inl rfl | exact Or.inr (Or.inl rfl) | exact Or.inr (Or.inr rfl))
  rfl
  rfl
  refine sk_cons ?_ sk_nil
  refine so_of ?_
  refine se_var (i := 1) ?_ ?_ ?_ ?_
  rfl
  (first | exact Or.inl rfl | exact Or.inr (Or.inl rfl) | exact Or.inr (Or.inr rfl))
  rfl
  rfl
  refine so_of ?_
  refine SF.se ?_
  refine sf_callB (c_repr hG (hu65 hr)) ?_ W.n_repr bt_repr ?_ ?_ ?_ ?_
  rfl
  decide
  rfl
  rfl
  refine sa_cons ?_ ?_ sa_nil
  rfl
  refine so_of ?_
  refine SF.se ?_
  refine sf_lst ?_
  refine sa_cons ?_ ?_ ?_
  rfl
  refine so_of ?_
  refine se_var (i := 3) ?_ ?_ ?_ ?_
  rfl
  (first | exact Or.inl rfl | exact Or.inr (Or.inl rfl) | exact Or.inr (Or.inr rfl))
  rfl
  rfl
  refine sa_cons ?_ ?_ sa_nil
  rfl
  refine so_of ?_
  refine se_var (i := 0) ?_ ?_ ?_ ?_
  rfl
  (first | exact Or.inl rfl | exact Or.inr (Or.inl rfl) | exact Or.inr (Or.inr rfl))
  rfl
  rfl
  rfl
  refine ss_one ?_
  refine s1_ret ?_
  refine se_const ?_
  rfl
  refine ss_cons ?_ ?_
  refine s1_if ?_ ?_ ss_nil
  refine st_cmp (op := .NotEq) (hu65 hr) ?_ ?_ ?_
  refine so_of ?_
  refine SF.se ?_
  refine sf_callB (c_repr hG (hu65 hr)) ?_ W.n_repr bt_repr ?_ ?_ ?_ ?_
  rfl
  decide
  rfl
  rfl
  refine sa_cons ?_ ?_ sa_nil
  rfl
  refine so_of ?_
  refine SF.se ?_
  refine sf_lst ?_
  refine sa_cons ?_ ?_ ?_
  rfl
  refine so_of ?_
  refine se_var (i := 1) ?_ ?_ ?_ ?_
  rfl
  (first | exact Or.inl rfl | exact Or.inr (Or.inl rfl) | exact Or.inr (Or.inr rfl))
  rfl
  rfl
  refine sa_cons ?_ ?_ sa_nil
  rfl
  refine so_of ?_
  refine se_var (i := 3) ?_ ?_ ?_ ?_
  rfl
  (first | exact Or.inl rfl | exact Or.inr (Or.inl rfl) | exact Or.inr (Or.inr rfl))
  rfl
  rfl
  refine so_of ?_
  refine SF.se ?_
  refine sf_callB (c_repr hG (hu65 hr)) ?_ W.n_repr bt_repr ?_ ?_ ?_ ?_
  rfl
  decide
  rfl
  rfl
  refine sa_cons ?_ ?_ sa_nil
  rfl
  refine so_of ?_
  refine SF.se ?_
  refine sf_lst ?_
  refine sa_cons ?_ ?_ ?_
  rfl
  refine so_of ?_
  refine SF.se ?_
  refine sf_op f_add ?_ ?_
  refine so_borO (i := 1) ?_ ?_ ?_ ?_
  rfl
  (first | exact Or.inl rfl | exact Or.inr (Or.inl rfl) | exact Or.inr (Or.inr rfl))
  rfl
  rfl
  refine so_of ?_
  refine se_const ?_
  rfl
  refine sa_cons ?_ ?_ sa_nil
  rfl
  refine so_of ?_
  refine SF.se ?_
  refine sf_op f_add ?_ ?_
  refine so_borO (i := 3) ?_ ?_ ?_ ?_
  rfl
  (first | exact Or.inl rfl | exact Or.inr (Or.inl rfl) | exact Or.inr (Or.inr rfl))
  rfl
  rfl
  refine so_of ?_
  refine se_const ?_
  rfl
  rfl
  refine ss_one ?_
  refine s1_ret ?_
  refine se_const ?_
  rfl
  refine ss_one ?_
  refine s1_ret ?_
  refine se_and ?_ ?_
  refine se_inRng ?_ W.n_range ?_ ?_ ?_ ?_
  rfl
  rfl
  refine so_borO (i := 3) ?_ ?_ ?_ ?_
  rfl
  (first | exact Or.inl rfl | exact Or.inr (Or.inl rfl) | exact Or.inr (Or.inr rfl))
  rfl
  rfl
  refine so_of ?_
  refine se_const ?_
  rfl
  rfl
  refine se_and ?_ ?_
  refine se_cmp (op := .Eq) (hu65 hr) ?_ ?_ ?_
  refine so_of ?_
  refine se_op (s_bin .Mod) ?_ ?_
  refine so_of ?_
  refine se_op (s_bin .Sub) ?_ ?_
  refine so_borO (i := 1) ?_ ?_ ?_ ?_
  rfl
  (first | exact Or.inl rfl | exact Or.inr (Or.inl rfl) | exact Or.inr (Or.inr rfl))
  rfl
  rfl
  refine so_borO (i := 3) ?_ ?_ ?_ ?_
  rfl
  (first | exact Or.inl rfl | exact Or.inr (Or.inl rfl) | exact Or.inr (Or.inr rfl))
  rfl
  rfl
  refine so_of ?_
  refine se_const ?_
  rfl
  refine so_of ?_
  refine se_const ?_
  rfl
  rfl
  refine se_one ?_
  refine se_cmp (op := .Eq) (hu65 hr) ?_ ?_ ?_
  refine so_of ?_
  refine SF.se ?_
  refine sf_callU c_weekday_of hr ?_ ?_ ?_ ?_ ?_
  decide
  rfl
  rfl
  rfl
  refine sa_cons ?_ ?_ sa_nil
  rfl
  refine so_of ?_
  refine SF.se ?_
  refine sf_op f_add ?_ ?_
  refine so_borO (i := 1) ?_ ?_ ?_ ?_
  rfl
  (first | exact Or.inl rfl | exact Or.inr (Or.inl rfl) | exact Or.inr (Or.inr rfl))
  rfl
  rfl
  refine so_of ?_
  refine se_const ?_
  rfl
  refine so_of ?_
  refine se_op (s_bin .Mod) ?_ ?_
  refine so_of ?_
  refine SF.se ?_
  refine sf_op f_add ?_ ?_
  refine so_borO (i := 3) ?_ ?_ ?_ ?_
  rfl
  (first | exact Or.inl rfl | exact Or.inr (Or.inl rfl) | exact Or.inr (Or.inr rfl))
  rfl
  rfl
  refine so_of ?_
  refine se_const ?_
  rfl
  refine so_of ?_
  refine se_const ?_
  rfl
  rfl
theorem c_l_right (W : Wd K mg) (hD : base.NoDigits) {f : Addr} {fd : FuncData} (F : FunD K "_law_right" "_law_right" (defArgs s_l_right) (defBody s_l_right) (defScope s_l_right) [] [] f fd) (hm : mg "_law_right" = some (.ref f)) (c_day_of : CalD P w K mg base 3 "day_of" 1 day_of_den) (c_minute_of : CalD P w K mg base 3 "minute_of" 1 minute_of_den) (c_time_at : CalD P w K mg base 3 "time_at" 2 time_at_den) (c_weekday_of : CalD P w K mg base 3 "weekday_of" 1 weekday_of_den) (k_day_of : CalK P w K mg base 3 "day_of" ["time"] [0] 1 day_of_den) (k_minute_of : CalK P w K mg base 3 "minute_of" ["time"] [0] 1 minute_of_den) (k_weekday_of : CalK P w K mg base 3 "weekday_of" ["day"] [0] 1 weekday_of_den) (k_time_at_1_0 : CalK P w K mg base 3 "time_at" ["minute", "day"] [1, 0] 2 time_at_den) : CalG P w K mg base 4 "_law_right" 1 l_right_den := calG (ps := ["_law_when"]) F (o_l_right W hD F c_day_of c_minute_of c_time_at c_weekday_of k_day_of k_minute_of k_weekday_of k_time_at_1_0) hm fnDen_len (fun _ _ _ _ _ _ us hl => match us, hl with | [_], _ => rfl)
def law_b : Rp.Env → Res := (dSeq (dFor (rng1I (consA (asV (callD maxD (consA (asV (pureD (.int 1))) (consA (asV (callD minD (consA (asV (pureD (.int 10))) (consA (asV (callD lenD (consA (borO 0) nilA))) nilA)))) nilA)))) nilA)) (setN 1) (dSeq (dSetF 3 (callU true l_jug_den (consA (asV (rdVar 0)) (consA (asV (rdVar 1)) nilA)))) (dSeq (dFor (rng1I (consA (asV (pureD (.int 6))) nilA)) (setN 4) (dIf (notB (truB (asV (callU true l_right_den (consA (asV (callU true l_moment_den (consA (borO 3) nilA))) nilA))))) (dRet (pureD (.bl false))) dNil)) (dSeq (dSetF 5 (callU true l_moment_den (consA (borO 3) nilA))) (dSeq (dPar2 7 8 (consA (asV (callU true l_pour_den (consA (borO 3) (consA (asV (bin2 (binD .Sub) (asV (bin2 (binD .Pow) (asV (pureD (.int 10))) (asV (pureD (.int 40))))) (asV (pureD (.int 9))))) nilA)))) (consA (asV (callU true l_pour_den (consA (borO 3) (consA (asV (pureD (.int 1440))) nilA)))) nilA))) (dSeq (dIf (bB (bin2 (cmpD .NotEq) (asV (callU true time_at_den (consA (asV (rdVar 7)) (consA (asV (rdVar 8)) nilA)))) (asV (bin2 (binD .Add) (asV (bin2 (binD .Mult) (asV (pureD (.int 1440))) (borO 7))) (borO 8))))) (dRet (pureD (.bl false))) dNil) (dSeq (dIf (bB (bin2 (cmpD .NotEq) (asV (bin2 (binD .Mod) (asV (bin2 (binD .Sub) (borO 7) (asV (callU true weekday_of_den (consA (asV (rdVar 7)) nilA))))) (asV (pureD (.int 7))))) (asV (pureD (.int 0))))) (dRet (pureD (.bl false))) dNil) (dSeq (dFor (lstI (dispD .lst (consA (asV (pureD .non)) (consA (asV (pureD (.bl true))) (consA (asV (pureD (.bl false))) (consA (asV (negV (pureD (.int 1)))) (consA (asV (negV (pureD (.int 1440)))) (consA (asV (pureD (.str "0"))) (consA (asV (pureD (.str ""))) (consA (asV (dispD .tup (consA (asV (pureD (.int 0))) nilA))) (consA (asV (dispD .lst (consA (asV (pureD (.int 0))) nilA))) (consA (asV (pureD (.dct [] []))) (consA (asV (bin2 (binD .Sub) (asV (negV (pureD (.int 1)))) (asV (callU true l_pour_den (consA (borO 3) (consA (asV (bin2 (binD .Pow) (asV (pureD (.int 10))) (asV (pureD (.int 39))))) nilA)))))) (consA (asV (dispD .tup (consA (asV (dispD .tup (consA (asV (pureD (.int 0))) nilA))) nilA))) nilA)))))))))))))) (setN 6) (dSeq (dSetF 2 (bin2 (binD .Add) (asV (lcD [9] (rng1I (consA (asV (pureD (.int 4))) nilA)) (setN 9) (fun env => .ok true env) (callU true l_told_den (consA (asV (rdVar 9)) (consA (asV (rdVar 6)) (consA (asV (pureD (.int 0))) nilA)))))) (asV (dispD .lst (consA (asV (callU true l_told_den (consA (asV (pureD (.int 3))) (consA (asV (rdVar 6)) (consA (asV (negV (pureD (.int 1)))) nilA))))) nilA))))) (dSeq (dIf (bB (bin2 (cmpD .NotEq) (borO 2) (asV (dispD .lst (consA (asV (pureD (.str "time"))) (consA (asV (pureD (.str "time"))) (consA (asV (pureD (.str "day"))) (consA (asV (pureD (.str "day"))) (consA (asV (pureD (.str "day"))) nilA))))))))) (dRet (pureD (.bl false))) dNil) (dIf (bB (bin2 (cmpD .NotEq) (asV (callU true l_told_den (consA (asV (pureD (.int 3))) (consA (asV (rdVar 5)) (consA (asV (rdVar 6)) nilA))))) (asV (pureD (.str "minute"))))) (dRet (pureD (.bl false))) dNil)))) (dFor (lstI (dispD .lst (consA (asV (pureD (.int 1440))) (consA (asV (pureD (.int 1441))) (consA (asV (bin2 (binD .Add) (asV (pureD (.int 1440))) (asV (callU true l_pour_den (consA (borO 3) (consA (asV (bin2 (binD .Pow) (asV (pureD (.int 10))) (asV (pureD (.int 39))))) nilA)))))) (consA (asV (bin2 (binD .Sub) (asV (bin2 (binD .Pow) (asV (pureD (.int 10))) (asV (pureD (.int 40))))) (asV (pureD (.int 1))))) nilA)))))) (setN 6) (dIf (orB (bB (bin2 (cmpD .NotEq) (asV (callU true l_told_den (consA (asV (pureD (.int 3))) (consA (asV (rdVar 5)) (consA (asV (rdVar 6)) nilA))))) (asV (pureD (.str "minute"))))) (bB (bin2 (cmpD .NotEq) (asV (callU true l_told_den (consA (asV (pureD (.int 3))) (consA (asV (negV (pureD (.int 1)))) (consA (asV (rdVar 6)) nilA))))) (asV (pureD (.str "day")))))) (dRet (pureD (.bl false))) dNil)))))))))) (dSeq (dSetF 2 (dispD .lst (consA (asV (callU true day_of_den (consA (asV (pureD (.int 1439))) nilA))) (consA (asV (callU true day_of_den (consA (asV (pureD (.int 1440))) nilA))) (consA (asV (callU true minute_of_den (consA (asV (pureD (.int 1439))) nilA))) (consA (asV (callU true weekday_of_den (consA (asV (pureD (.int 0))) nilA))) (consA (asV (callU true weekday_of_den (consA (asV (pureD (.int 13))) nilA))) (consA (asV (callU true time_at_den (consA (asV (pureD (.int 3))) (consA (asV (pureD (.int 425))) nilA)))) nilA)))))))) (dRet (andV (bin2 (cmpD .Eq) (asV (callD reprD (consA (borO 2) nilA))) (asV (callD reprD (consA (asV (dispD .lst (consA (asV (pureD (.int 0))) (consA (asV (pureD (.int 1))) (consA (asV (pureD (.int 1439))) (consA (asV (pureD (.int 0))) (consA (asV (pureD (.int 6))) (consA (asV (pureD (.int 4745))) nilA)))))))) nilA)))) (callU true l_classes_right_den nilA)))))
def law_den : List Rp.Arg → Res := fnDen 10 1 law_b
theorem o_law (W : Wd K mg) (hD : base.NoDigits) {f : Addr} {fd : FuncData} (F : FunD K "law" "law" (defArgs s_law) (defBody s_law) (defScope s_law) [] [] f fd) (c_l_jug : CalD P w K mg base 1 "_law_jug" 2 l_jug_den) (c_l_right : CalG P w K mg base 4 "_law_right" 1 l_right_den) (c_l_moment : CalD P w K mg base 2 "_law_moment" 1 l_moment_den) (c_l_pour : CalD P w K mg base 1 "_law_pour" 2 l_pour_den) (c_time_at : CalD P w K mg base 3 "time_at" 2 time_at_den) (c_weekday_of : CalD P w K mg base 3 "weekday_of" 1 weekday_of_den) (c_l_told : CalD P w K mg base 4 "_law_told" 3 l_told_den) (c_day_of : CalD P w K mg base 3 "day_of" 1 day_of_den) (c_minute_of : CalD P w K mg base 3 "minute_of" 1 minute_of_den) (c_l_classes_right : CalD P w K mg base 3 "_law_classes_right" 0 l_classes_right_den) : FnG P w K mg base 5 f fd ["_law_script"] (spD K mg 1 law_den) := by
  refine funG_ok (N := ["_law_script", "_law_at", "_law_told_here", "_law_jug_here", "_law_turn", "_law_good", "_law_bad", "_law_date", "_law_late", "_law_way"]) (ps := ["_law_script"]) (k := 4) (den := law_b) F sc_law (fun cdv A outer s H E hG hr => ?_)
  refine ss_cons ?_ ?_
  refine s1_for (is := [1]) ?_ ?_ ?_ ?_ ?_ ?_
  exact (passes_of (by rfl))
  rfl
  exact (fun _ => (by rfl))
  refine si_rng1 ?_ W.n_range ?_ ?_
  rfl
  rfl
  refine sa_cons ?_ ?_ sa_nil
  rfl
  refine so_of ?_
  refine SF.se ?_
  refine sf_callB (c_max (by rfl)) ?_ W.n_max bt_max ?_ ?_ ?_ ?_
  rfl
  decide
  rfl
  rfl
  refine sa_cons ?_ ?_ ?_
  rfl
  refine so_of ?_
  refine se_const ?_
  rfl
  refine sa_cons ?_ ?_ sa_nil
  rfl
  refine so_of ?_
  refine SF.se ?_
  refine sf_callB (c_min (by rfl)) ?_ W.n_min bt_min ?_ ?_ ?_ ?_
  rfl
  decide
  rfl
  rfl
  refine sa_cons ?_ ?_ ?_
  rfl
  refine so_of ?_
  refine se_const ?_
  rfl
  refine sa_cons ?_ ?_ sa_nil
  rfl
  refine so_of ?_
  refine SF.se ?_
  refine sf_callB c_len ?_ W.n_len bt_len ?_ ?_ ?_ ?_
  rfl
  decide
  rfl
  rfl
  refine sa_cons ?_ ?_ sa_nil
  rfl
  refine so_borO (i := 0) ?_ ?_ ?_ ?_
  rfl
  (first | exact Or.inl rfl | exact Or.inr (Or.inl rfl) | exact Or.inr (Or.inr rfl))
  rfl
  rfl
  refine sg_name (i := 1) ?_ ?_ ?_ ?_
  exact sc_law.nd
  rfl
  (first | exact Or.inl rfl | exact Or.inr rfl)
  (first | exact Or.inr rfl | exact Or.inl rfl)
  refine ss_cons ?_ ?_
  refine s1_setF (i := 3) ?_ ?_ ?_ ?_ ?_ ?_
  exact sc_law.nd
  rfl
  (first | exact Or.inl rfl | exact Or.inr rfl)
  rfl
  (first | exact Or.inr rfl | exact Or.inl rfl)
  refine sf_callU c_l_jug hr ?_ ?_ ?_ ?_ ?_
  decide
  rfl
  rfl
  rfl
  refine sa_cons ?_ ?_ ?_
  rfl
  refine so_of ?_
  refine se_var (i := 0) ?_ ?_ ?_ ?_
  rfl
  (first | exact Or.inl rfl | exact Or.inr (Or.inl rfl) | exact Or.inr (Or.inr rfl))
  rfl
  rfl
  refine sa_cons ?_ ?_ sa_nil
  rfl
  refine so_of ?_
  refine se_var (i := 1) ?_ ?_ ?_ ?_
  rfl
  (first | exact Or.inl rfl | exact Or.inr (Or.inl rfl) | exact Or.inr (Or.inr rfl))
  rfl
  rfl
  refine ss_cons ?_ ?_
  refine s1_for (is := [4]) ?_ ?_ ?_ ?_ ?_ ?_
  exact (passes_of (by rfl))
  rfl
  exact (fun _ => (by rfl))
  refine si_rng1 ?_ W.n_range ?_ ?_
  rfl
  rfl
  refine sa_cons ?_ ?_ sa_nil
  rfl
  refine so_of ?_
  refine se_const ?_
  rfl
  refine sg_name (i := 4) ?_ ?_ ?_ ?_
  exact sc_law.nd
  rfl
  (first | exact Or.inl rfl | exact Or.inr rfl)
  (first | exact Or.inr rfl | exact Or.inl rfl)
  refine ss_one ?_
  refine s1_if ?_ ?_ ss_nil
  refine st_not ?_
  refine st_val ?_ ?_
  refine so_of ?_
  refine SF.se ?_
  refine sf_callG c_l_right hG hr ?_ ?_ ?_ ?_ ?_
  decide
  rfl
  rfl
  rfl
  refine sa_cons ?_ ?_ sa_nil
  rfl
  refine so_of ?_
  refine SF.se ?_
  refine sf_callU c_l_moment hr ?_ ?_ ?_ ?_ ?_
  decide
  rfl
  rfl
  rfl
  refine sa_cons ?_ ?_ sa_nil
  rfl
  refine so_borO (i := 3) ?_ ?_ ?_ ?_
  rfl
  (first | exact Or.inl rfl | exact Or.inr (Or.inl rfl) | exact Or.inr (Or.inr rfl))
  rfl
  rfl
  exact (fun _ => (by rfl))
  refine ss_one ?_
  refine s1_ret ?_
  refine se_const ?_
  rfl
  refine ss_cons ?_ ?_
  refine s1_setF (i := 5) ?_ ?_ ?_ ?_ ?_ ?_
  exact sc_law.nd
  rfl
  (first | exact Or.inl rfl | exact Or.inr rfl)
  rfl
  (first | exact Or.inr rfl | exact Or.inl rfl)
  refine sf_callU c_l_moment hr ?_ ?_ ?_ ?_ ?_
  decide
  rfl
  rfl
  rfl
  refine sa_cons ?_ ?_ sa_nil
  rfl
  refine so_borO (i := 3) ?_ ?_ ?_ ?_
  rfl
  (first | exact Or.inl rfl | exact Or.inr (Or.inl rfl) | exact Or.inr (Or.inr rfl))
  rfl
  rfl
  refine ss_cons ?_ ?_
  refine s1_par2 (i := 7) (j := 8) ?_ ?_ ?_ ?_ ?_ ?_ ?_ ?_ ?_ ?_
  rfl
  exact sc_law.nd
  rfl
  rfl
  decide
  rfl
  rfl
  rfl
  rfl
  refine sa_cons ?_ ?_ ?_
  rfl
  refine so_of ?_
  refine SF.se ?_
  refine sf_callU c_l_pour hr ?_ ?_ ?_ ?_ ?_
  decide
  rfl
  rfl
  rfl
  refine sa_cons ?_ ?_ ?_
  rfl
  refine so_borO (i := 3) ?_ ?_ ?_ ?_
  rfl
  (first | exact Or.inl rfl | exact Or.inr (Or.inl rfl) | exact Or.inr (Or.inr rfl))
  rfl
  rfl
  refine sa_cons ?_ ?_ sa_nil
  rfl
  refine so_of ?_
  refine se_op (s_bin .Sub) ?_ ?_
  refine so_of ?_
  refine se_op (s_bin .Pow) ?_ ?_
  refine so_of ?_
  refine se_const ?_
  rfl
  refine so_of ?_
  refine se_const ?_
  rfl
  refine so_of ?_
  refine se_const ?_
  rfl
  refine sa_cons ?_ ?_ sa_nil
  rfl
  refine so_of ?_
  refine SF.se ?_
  refine sf_callU c_l_pour hr ?_ ?_ ?_ ?_ ?_
  decide
  rfl
  rfl
  rfl
  refine sa_cons ?_ ?_ ?_
  rfl
  refine so_borO (i := 3) ?_ ?_ ?_ ?_
  rfl
  (first | exact Or.inl rfl | exact Or.inr (Or.inl rfl) | exact Or.inr (Or.inr rfl))
  rfl
  rfl
  refine sa_cons ?_ ?_ sa_nil
  rfl
  refine so_of ?_
  refine se_const ?_
  rfl
  refine ss_cons ?_ ?_
  refine s1_if ?_ ?_ ss_nil
  refine st_cmp (op := .NotEq) (hu65 hr) ?_ ?_ ?_
  refine so_of ?_
  refine SF.se ?_
  refine sf_callU c_time_at hr ?_ ?_ ?_ ?_ ?_
  decide
  rfl
  rfl
  rfl
  refine sa_cons ?_ ?_ ?_
  rfl
  refine so_of ?_
  refine se_var (i := 7) ?_ ?_ ?_ ?_
  rfl
  (first | exact Or.inl rfl | exact Or.inr (Or.inl rfl) | exact Or.inr (Or.inr rfl))
  rfl
  rfl
  refine sa_cons ?_ ?_ sa_nil
  rfl
  refine so_of ?_
  refine se_var (i := 8) ?_ ?_ ?_ ?_
  rfl
  (first | exact Or.inl rfl | exact Or.inr (Or.inl rfl) | exact Or.inr (Or.inr rfl))
  rfl
  rfl
  refine so_of ?_
  refine SF.se ?_
  refine sf_op f_add ?_ ?_
  refine so_of ?_
  refine SF.se ?_
  refine sf_op f_mul ?_ ?_
  refine so_of ?_
  refine se_const ?_
  rfl
  refine so_borO (i := 7) ?_ ?_ ?_ ?_
  rfl
  (first | exact Or.inl rfl | exact Or.inr (Or.inl rfl) | exact Or.inr (Or.inr rfl))
  rfl
  rfl
  refine so_borO (i := 8) ?_ ?_ ?_ ?_
  rfl
  (first | exact Or.inl rfl | exact Or.inr (Or.inl rfl) | exact Or.inr (Or.inr rfl))
  rfl
  rfl
  rfl
  refine ss_one ?_
  refine s1_ret ?_
  refine se_const ?_
  rfl
  refine ss_cons ?_ ?_
  refine s1_if ?_ ?_ ss_nil
  refine st_cmp (op := .NotEq) (hu65 hr) ?_ ?_ ?_
  refine so_of ?_
  refine se_op (s_bin .Mod) ?_ ?_
  refine so_of ?_
  refine se_op (s_bin .Sub) ?_ ?_
  refine so_borO (i := 7) ?_ ?_ ?_ ?_
  rfl
  (first | exact Or.inl rfl | exact Or.inr (Or.inl rfl) | exact Or.inr (Or.inr rfl))
  rfl
  rfl
  refine so_of ?_
  refine SF.se ?_
  refine sf_callU c_weekday_of hr ?_ ?_ ?_ ?_ ?_
  decide
  rfl
  rfl
  rfl
  refine sa_cons ?_ ?_ sa_nil
  rfl
  refine so_of ?_
  refine se_var (i := 7) ?_ ?_ ?_ ?_
  rfl
  (first | exact Or.inl rfl | exact Or.inr (Or.inl rfl) | exact Or.inr (Or.inr rfl))
  rfl
  rfl
  refine so_of ?_
  refine se_const ?_
  rfl
  refine so_of ?_
  refine se_const ?_
  rfl
  rfl
  refine ss_one ?_
  refine s1_ret ?_
  refine se_const ?_
  rfl
  refine ss_cons ?_ ?_
  refine s1_for (is := [6]) ?_ ?_ ?_ ?_ ?_ ?_
  exact (passes_of (by rfl))
  rfl
  exact (fun _ => (by rfl))
  refine si_lst ?_
  refine SF.se ?_
  refine sf_lst ?_
  refine sa_cons ?_ ?_ ?_
  rfl
  refine so_of ?_
  refine se_const ?_
  rfl
  refine sa_cons ?_ ?_ ?_
  rfl
  refine so_of ?_
  refine se_const ?_
  rfl
  refine sa_cons ?_ ?_ ?_
  rfl
  refine so_of ?_
  refine se_const ?_
  rfl
  refine sa_cons ?_ ?_ ?_
  rfl
  refine so_of ?_
  refine se_negV ?_
  refine se_const ?_
  rfl
  refine sa_cons ?_ ?_ ?_
  rfl
  refine so_of ?_
  refine se_negV ?_
  refine se_const ?_
  rfl
  refine sa_cons ?_ ?_ ?_
  rfl
  refine so_of ?_
  refine se_const ?_
  rfl
  refine sa_cons ?_ ?_ ?_
  rfl
  refine so_of ?_
  refine se_const ?_
  rfl
  refine sa_cons ?_ ?_ ?_
  rfl
  refine so_of ?_
  refine se_tup ?_
  refine sa_cons ?_ ?_ sa_nil
  rfl
  refine so_of ?_
  refine se_const ?_
  rfl
  refine sa_cons ?_ ?_ ?_
  rfl
  refine so_of ?_
  refine SF.se ?_
  refine sf_lst ?_
  refine sa_cons ?_ ?_ sa_nil
  rfl
  refine so_of ?_
  refine se_const ?_
  rfl
  refine sa_cons ?_ ?_ ?_
  rfl
  refine so_of ?_
  exact se_dct0
  refine sa_cons ?_ ?_ ?_
  rfl
  refine so_of ?_
  refine se_op (s_bin .Sub) ?_ ?_
  refine so_of ?_
  refine se_negV ?_
  refine se_const ?_
  rfl
  refine so_of ?_
  refine SF.se ?_
  refine sf_callU c_l_pour hr ?_ ?_ ?_ ?_ ?_
  decide
  rfl
  rfl
  rfl
  refine sa_cons ?_ ?_ ?_
  rfl
  refine so_borO (i := 3) ?_ ?_ ?_ ?_
  rfl
  (first | exact Or.inl rfl | exact Or.inr (Or.inl rfl) | exact Or.inr (Or.inr rfl))
  rfl
  rfl
  refine sa_cons ?_ ?_ sa_nil
  rfl
  refine so_of ?_
  refine se_op (s_bin .Pow) ?_ ?_
  refine so_of ?_
  refine se_const ?_
  rfl
  refine so_of ?_
  refine se_const ?_
  rfl
  refine sa_cons ?_ ?_ sa_nil
  rfl
  refine so_of ?_
  refine se_tup ?_
  refine sa_cons ?_ ?_ sa_nil
  rfl
  refine so_of ?_
  refine se_tup ?_
  refine sa_cons ?_ ?_ sa_nil
  rfl
  refine so_of ?_
  refine se_const ?_
  rfl
  refine sg_name (i := 6) ?_ ?_ ?_ ?_
  exact sc_law.nd
  rfl
  (first | exact Or.inl rfl | exact Or.inr rfl)
  (first | exact Or.inr rfl | exact Or.inl rfl)
  refine ss_cons ?_ ?_
  refine s1_setF (i := 2) ?_ ?_ ?_ ?_ ?_ ?_
  exact sc_law.nd
  rfl
  (first | exact Or.inl rfl | exact Or.inr rfl)
  rfl
  (first | exact Or.inr rfl | exact Or.inl rfl)
  refine sf_op f_add ?_ ?_
  refine so_of ?_
  refine SF.se ?_
  refine sf_lc (own := [("_law_way", 9)]) (is := [9]) ?_ ?_ ?_ ?_ ?_ ?_ ?_ ?_ ?_
  rfl
  exact sc_law.nd
  exact (blkOk_by (by rfl))
  decide
  exact (fun _ => (by rfl))
  refine si_rng1 ?_ W.n_range ?_ ?_
  rfl
  rfl
  refine sa_cons ?_ ?_ sa_nil
  rfl
  refine so_of ?_
  refine se_const ?_
  rfl
  intro _ _ _ _ _
  refine sg_name (i := 9) ?_ ?_ ?_ ?_
  exact sc_law.nd
  rfl
  (first | exact Or.inl rfl | exact Or.inr rfl)
  (first | exact Or.inr rfl | exact Or.inl rfl)
  intro _ _ _ _ _
  refine st_yes ?_
  rfl
  intro _ _ _ _ _
  refine SF.se ?_
  refine sf_callU c_l_told hr ?_ ?_ ?_ ?_ ?_
  decide
  rfl
  rfl
  rfl
  refine sa_cons ?_ ?_ ?_
  rfl
  refine so_of ?_
  refine se_var (i := 9) ?_ ?_ ?_ ?_
  rfl
  (first | exact Or.inl rfl | exact Or.inr (Or.inl rfl) | exact Or.inr (Or.inr rfl))
  rfl
  rfl
  refine sa_cons ?_ ?_ ?_
  rfl
  refine so_of ?_
  refine se_var (i := 6) ?_ ?_ ?_ ?_
  rfl
  (first | exact Or.inl rfl | exact Or.inr (Or.inl rfl) | exact Or.inr (Or.inr rfl))
  rfl
  rfl
  refine sa_cons ?_ ?_ sa_nil
  rfl
  refine so_of ?_
  refine se_const ?_
  rfl
  refine so_of ?_
  refine SF.se ?_
  refine sf_lst ?_
  refine sa_cons ?_ ?_ sa_nil
  rfl
  refine so_of ?_
  refine SF.se ?_
  refine sf_callU c_l_told hr ?_ ?_ ?_ ?_ ?_
  decide
  rfl
  rfl
  rfl
  refine sa_cons ?_ ?_ ?_
  rfl
  refine so_of ?_
  refine se_const ?_
  rfl
  refine sa_cons ?_ ?_ ?_
  rfl
  refine so_of ?_
  refine se_var (i := 6) ?_ ?_ ?_ ?_
  rfl
  (first | exact Or.inl rfl | exact Or.inr (Or.inl rfl) | exact Or.inr (Or.inr rfl))
  rfl
  rfl
  refine sa_cons ?_ ?_ sa_nil
  rfl
  refine so_of ?_
  refine se_negV ?_
  refine se_const ?_
  rfl
  refine ss_cons ?_ ?_
  refine s1_if ?_ ?_ ss_nil
  refine st_cmp (op := .NotEq) (hu65 hr) ?_ ?_ ?_
  refine so_borO (i := 2) ?_ ?_ ?_ ?_
  rfl
  (first | exact Or.inl rfl | exact Or.inr (Or.inl rfl) | exact Or.inr (Or.inr rfl))
  rfl
  rfl
  refine so_of ?_
  refine SF.se ?_
  refine sf_lst ?_
  refine sa_cons ?_ ?_ ?_
  rfl
  refine so_of ?_
  refine se_const ?_
  rfl
  refine sa_cons ?_ ?_ ?_
  rfl
  refine so_of ?_
  refine se_const ?_
  rfl
  refine sa_cons ?_ ?_ ?_
  rfl
  refine so_of ?_
  refine se_const ?_
  rfl
  refine sa_cons ?_ ?_ ?_
  rfl
  refine so_of ?_
  refine se_const ?_
  rfl
  refine sa_cons ?_ ?_ sa_nil
  rfl
  refine so_of ?_
  refine se_const ?_
  rfl
  rfl
  refine ss_one ?_
  refine s1_ret ?_
  refine se_const ?_
  rfl
  refine ss_one ?_
  refine s1_if ?_ ?_ ss_nil
  refine st_cmp (op := .NotEq) (hu65 hr) ?_ ?_ ?_
  refine so_of ?_
  refine SF.se ?_
  refine sf_callU c_l_told hr ?_ ?_ ?_ ?_ ?_
  decide
  rfl
  rfl
  rfl
  refine sa_cons ?_ ?_ ?_
  rfl
  refine so_of ?_
  refine se_const ?_
  rfl
  refine sa_cons ?_ ?_ ?_
  rfl
  refine so_of ?_
  refine se_var (i := 5) ?_ ?_ ?_ ?_
  rfl
  (first | exact Or.inl rfl | exact Or.inr (Or.inl rfl) | exact Or.inr (Or.inr rfl))
  rfl
  rfl
  refine sa_cons ?_ ?_ sa_nil
  rfl
  refine so_of ?_
  refine se_var (i := 6) ?_ ?_ ?_ ?_
  rfl
  (first | exact Or.inl rfl | exact Or.inr (Or.inl rfl) | exact Or.inr (Or.inr rfl))
  rfl
  rfl
  refine so_of ?_
  refine se_const ?_
  rfl
  rfl
  refine ss_one ?_
  refine s1_ret ?_
  refine se_const ?_
  rfl
  refine ss_one ?_
  refine s1_for (is := [6]) ?_ ?_ ?_ ?_ ?_ ?_
  exact (passes_of (by rfl))
  rfl
  exact (fun _ => (by rfl))
  refine si_lst ?_
  refine SF.se ?_
  refine sf_lst ?_
  refine sa_cons ?_ ?_ ?_
  rfl
  refine so_of ?_
  refine se_const ?_
  rfl
  refine sa_cons ?_ ?_ ?_
  rfl
  refine so_of ?_
  refine se_const ?_
  rfl
  refine sa_cons ?_ ?_ ?_
  rfl
  refine so_of ?_
  refine SF.se ?_
  refine sf_op f_add ?_ ?_
  refine so_of ?_
  refine se_const ?_
  rfl
  refine so_of ?_
  refine SF.se ?_
  refine sf_callU c_l_pour hr ?_ ?_ ?_ ?_ ?_
  decide
  rfl
  rfl
  rfl
  refine sa_cons ?_ ?_ ?_
  rfl
  refine so_borO (i := 3) ?_ ?_ ?_ ?_
  rfl
  (first | exact Or.inl rfl | exact Or.inr (Or.inl rfl) | exact Or.inr (Or.inr rfl))
  rfl
  rfl
  refine sa_cons ?_ ?_ sa_nil
  rfl
  refine so_of ?_
  refine se_op (s_bin .Pow) ?_ ?_
  refine so_of ?_
  refine se_const ?_
  rfl
  refine so_of ?_
  refine se_const ?_
  rfl
  refine sa_cons ?_ ?_ sa_nil
  rfl
  refine so_of ?_
  refine se_op (s_bin .Sub) ?_ ?_
  refine so_of ?_
  refine se_op (s_bin .Pow) ?_ ?_
  refine so_of ?_
  refine se_const ?_
  rfl
  refine so_of ?_
  refine se_const ?_
  rfl
  refine so_of ?_
  refine se_const ?_
  rfl
  refine sg_name (i := 6) ?_ ?_ ?_ ?_
  exact sc_law.nd
  rfl
  (first | exact Or.inl rfl | exact Or.inr rfl)
  (first | exact Or.inr rfl | exact Or.inl rfl)
  refine ss_one ?_
  refine s1_if ?_ ?_ ss_nil
  refine st_or ?_ ?_
  refine st_cmp (op := .NotEq) (hu65 hr) ?_ ?_ ?_
  refine so_of ?_
  refine SF.se ?_
  refine sf_callU c_l_told hr ?_ ?_ ?_ ?_ ?_
  decide
  rfl
  rfl
  rfl
  refine sa_cons ?_ ?_ ?_
  rfl
  refine so_of ?_
  refine se_const ?_
  rfl
  refine sa_cons ?_ ?_ ?_
  rfl
  refine so_of ?_
  refine se_var (i := 5) ?_ ?_ ?_ ?_
  rfl
  (first | exact Or.inl rfl | exact Or.inr (Or.inl rfl) | exact Or.inr (Or.inr rfl))
  rfl
  rfl
  refine sa_cons ?_ ?_ sa_nil
  rfl
  refine so_of ?_
  refine se_var (i := 6) ?_ ?_ ?_ ?_
  rfl
  (first | exact Or.inl rfl | exact Or.inr (Or.inl rfl) | exact Or.inr (Or.inr rfl))
  rfl
  rfl
  refine so_of ?_
  refine se_const ?_
  rfl
  rfl
  refine st_one ?_
  refine st_cmp (op := .NotEq) (hu65 hr) ?_ ?_ ?_
  refine so_of ?_
  refine SF.se ?_
  refine sf_callU c_l_told hr ?_ ?_ ?_ ?_ ?_
  decide
  rfl
  rfl
  rfl
  refine sa_cons ?_ ?_ ?_
  rfl
  refine so_of ?_
  refine se_const ?_
  rfl
  refine sa_cons ?_ ?_ ?_
  rfl
  refine so_of ?_
  refine se_negV ?_
  refine se_const ?_
  rfl
  refine sa_cons ?_ ?_ sa_nil
  rfl
  refine so_of ?_
  refine se_var (i := 6) ?_ ?_ ?_ ?_
  rfl
  (first | exact Or.inl rfl | exact Or.inr (Or.inl rfl) | exact Or.inr (Or.inr rfl))
  rfl
  rfl
  refine so_of ?_
  refine se_const ?_
  rfl
  rfl
  refine ss_one ?_
  refine s1_ret ?_
  refine se_const ?_
  rfl
  refine ss_cons ?_ ?_
  refine s1_setF (i := 2) ?_ ?_ ?_ ?_ ?_ ?_
  exact sc_law.nd
  rfl
  (first | exact Or.inl rfl | exact Or.inr rfl)
  rfl
  (first | exact Or.inr rfl | exact Or.inl rfl)
  refine sf_lst ?_
  refine sa_cons ?_ ?_ ?_
  rfl
  refine so_of ?_
  refine SF.se ?_
  refine sf_callU c_day_of hr ?_ ?_ ?_ ?_ ?_
  decide
  rfl
  rfl
  rfl
  refine sa_cons ?_ ?_ sa_nil
  rfl
  refine so_of ?_
  refine se_const ?_
  rfl
  refine sa_cons ?_ ?_ ?_
  rfl
  refine so_of ?_
  refine SF.se ?_
  refine sf_callU c_day_of hr ?_ ?_ ?_ ?_ ?_
  decide
  rfl
  rfl
  rfl
  refine sa_cons ?_ ?_ sa_nil
  rfl
  refine so_of ?_
  refine se_const ?_
  rfl
  refine sa_cons ?_ ?_ ?_
  rfl
  refine so_of ?_
  refine SF.se ?_
  refine sf_callU c_minute_of hr ?_ ?_ ?_ ?_ ?_
  decide
  rfl
  rfl
  rfl
  refine sa_cons ?_ ?_ sa_nil
  rfl
  refine so_of ?_
  refine se_const ?_
  rfl
  refine sa_cons ?_ ?_ ?_
  rfl
  refine so_of ?_
  refine SF.se ?_
  refine sf_callU c_weekday_of hr ?_ ?_ ?_ ?_ ?_
  decide
  rfl
  rfl
  rfl
  refine sa_cons ?_ ?_ sa_nil
  rfl
  refine so_of ?_
  refine se_const ?_
  rfl
  refine sa_cons ?_ ?_ ?_
  rfl
  refine so_of ?_
  refine SF.se ?_
  refine sf_callU c_weekday_of hr ?_ ?_ ?_ ?_ ?_
  decide
  rfl
  rfl
  rfl
  refine sa_cons ?_ ?_ sa_nil
  rfl
  refine so_of ?_
  refine se_const ?_
  rfl
  refine sa_cons ?_ ?_ sa_nil
  rfl
  refine so_of ?_
  refine SF.se ?_
  refine sf_callU c_time_at hr ?_ ?_ ?_ ?_ ?_
  decide
  rfl
  rfl
  rfl
  refine sa_cons ?_ ?_ ?_
  rfl
  refine so_of ?_
  refine se_const ?_
  rfl
  refine sa_cons ?_ ?_ sa_nil
  rfl
  refine so_of ?_
  refine se_const ?_
  rfl
  refine ss_one ?_
  refine s1_ret ?_
  refine se_and ?_ ?_
  refine se_cmp (op := .Eq) (hu65 hr) ?_ ?_ ?_
  refine so_of ?_
  refine SF.se ?_
  refine sf_callB (c_repr hG (hu65 hr)) ?_ W.n_repr bt_repr ?_ ?_ ?_ ?_
  rfl
  decide
  rfl
  rfl
  refine sa_cons ?_ ?_ sa_nil
  rfl
  refine so_borO (i := 2) ?_ ?_ ?_ ?_
  rfl
  (first | exact Or.inl rfl | exact Or.inr (Or.inl rfl) | exact Or.inr (Or.inr rfl))
  rfl
  rfl
  refine so_of ?_
  refine SF.se ?_
  refine sf_callB (c_repr hG (hu65 hr)) ?_ W.n_repr bt_repr ?_ ?_ ?_ ?_
  rfl
  decide
  rfl
  rfl
  refine sa_cons ?_ ?_ sa_nil
  rfl
  refine so_of ?_
  refine SF.se ?_
  refine sf_lst ?_
  refine sa_cons ?_ ?_ ?_
  rfl
  refine so_of ?_
  refine se_const ?_
  rfl
  refine sa_cons ?_ ?_ ?_
  rfl
  refine so_of ?_
  refine se_const ?_
  rfl
  refine sa_cons ?_ ?_ ?_
  rfl
  refine so_of ?_
  refine se_const ?_
  rfl
  refine sa_cons ?_ ?_ ?_
  rfl
  refine so_of ?_
  refine se_const ?_
  rfl
  refine sa_cons ?_ ?_ ?_
  rfl
  refine so_of ?_
  refine se_const ?_
  rfl
  refine sa_cons ?_ ?_ sa_nil
  rfl
  refine so_of ?_
  refine se_const ?_
  rfl
  rfl
  refine se_one ?_
  refine SF.se ?_
  refine sf_call0 c_l_classes_right hr ?_ ?_ ?_
  decide
  rfl
  rfl
end
end K01
set_option Elab.async false
set_option linter.all false
set_option maxRecDepth 100000
/-! K01b: the draws (as for k02). -/
namespace K01
open PySem Rp L2
theorem bits_le {i : Int} {k : Nat} (h0 : 0 ≤ i) (h : i < 2 ^ k) : Builtin.Int.intBits i ≤ k := by
  unfold Builtin.Int.intBits
  split
  · omega
  · rename_i hz
    have hz' : i ≠ 0 := by simpa using hz
    have : i.natAbs < 2 ^ k := by
      have e : (i.natAbs : Int) = i := Int.natAbs_of_nonneg h0
      have : (i.natAbs : Int) < (2 : Int) ^ k := by rw [e]; exact h
      exact_mod_cast this
    have h3 := (Nat.log2_lt (by omega)).mpr this
    exact h3
theorem powOk_by {i j : Int} {k : Nat} (h0 : 0 ≤ i) (h : i < 2 ^ k) (hj : 0 ≤ j) (hk : (k : Int) * j ≤ 1000000) : powOk i j = true := by
  unfold powOk
  simp only [hj, decide_true, Bool.true_and, decide_eq_true_eq]
  have : ((Builtin.Int.intBits i : Nat) : Int) ≤ k := by exact_mod_cast bits_le h0 h
  exact Int.le_trans (Int.mul_le_mul_of_nonneg_right this hj) hk
theorem eq_str {a b : Str} (ha : PyData.strOk a = true) (hb : PyData.strOk b = true) : D.eqD (.str a) (.str b) = some (.bl (a == b)) := by
  simp [ha, hb, D.eqD, D.shp, D.eqq, D.py, SeqAt.shaped, PyData.eqv, PyData.canLay0, PyData.depth]
theorem ne_str {a b : Str} (ha : PyData.strOk a = true) (hb : PyData.strOk b = true) : D.neD (.str a) (.str b) = some (.bl (!(a == b))) := by
  simp [ha, hb, D.neD, D.shp, D.eqq, D.py, SeqAt.shaped, PyData.eqv, PyData.canLay0, PyData.depth]
@[simp] theorem eq_int (a b : Int) : D.eqD (.int a) (.int b) = some (.bl (a == b)) := by
  simp [D.eqD, D.shp, D.eqq, D.py, SeqAt.shaped, PyData.eqv, PyData.canLay0, PyData.depth]
@[simp] theorem ne_int (a b : Int) : D.neD (.int a) (.int b) = some (.bl (!(a == b))) := by
  simp [D.neD, D.shp, D.eqq, D.py, SeqAt.shaped, PyData.eqv, PyData.canLay0, PyData.depth]
def mixA (b c : Int) : Int := (b + 715225741 * (c + 1)) ^ 3 % (10 ^ 41 + 109)
def mixB (b c : Int) : Int := (mixA b c + 179424673 * (c + 1)) ^ 3 % (10 ^ 40 + 121)
theorem pw {i j : Int} (h : powOk i j = true) : D.pow (.int i) (.int j) = some (.int (i ^ j.toNat)) := u_powI h
theorem p18 : powOk 10 18 = true := by decide +kernel
theorem p37 : powOk 10 37 = true := by decide +kernel
theorem p41 : powOk 10 41 = true := by decide +kernel
theorem p40 : powOk 10 40 = true := by decide +kernel
theorem p36 : powOk 10 36 = true := by decide +kernel
theorem p6 : powOk 10 6 = true := by decide +kernel
theorem p39 : powOk 10 39 = true := by decide +kernel
theorem pour1 (a b c n : Int) (hn : 1 ≤ n) (h2 : n.natAbs.log2 < 9000) (ha : 0 < a) : l_pour_den [.m (.lst [.int a, .int b, .int c]), .v (.int n)] = .rt (.int (a % n)) false [.own true (.lst [.int (a / n), .int b, .int c]), .val (.int n), .no, .val (.int (a % n))] := by
  have hn0 : 0 < n := by omega
  simp [l_pour_den, fnDen, startE, Arg.slot, l_pour_b, ha, dSet, setN, D.fdiv, hn0, h2, dPut, L2.ixN, dRetO, Res.chk, backsOk]
theorem pour2 (a b c n : Int) (hn : 1 ≤ n) (ha : ¬ 0 < a) (hb : 0 ≤ b) (hb2 : b < 2 ^ 160) (hc : 0 ≤ c) (hc2 : c < 2 ^ 32) : l_pour_den [.m (.lst [.int a, .int b, .int c]), .v (.int n)] = .rt (.int (mixB b c / 1299709 % n)) false [.own true (.lst [.int a, .int b, .int (c + 1)]), .val (.int n), .val (.int (mixB b c)), .no] := by
  have hn0 : 0 < n := by omega
  have q41 : (0 : Int) < 10 ^ 41 + 109 := by decide +kernel
  have q40 : (0 : Int) < 10 ^ 40 + 121 := by decide +kernel
  have p1 : powOk (b + 715225741 * (c + 1)) 3 = true := powOk_by (k := 200) (by omega) (by omega) (by decide) (by decide)
  have m1 : 0 ≤ mixA b c ∧ mixA b c < 10 ^ 41 + 109 := ⟨Int.emod_nonneg _ (by omega), Int.emod_lt_of_pos _ q41⟩
  have b41 : (10 : Int) ^ 41 + 109 < 2 ^ 160 := by decide +kernel
  have p2 : powOk (mixA b c + 179424673 * (c + 1)) 3 = true := powOk_by (k := 200) (by omega) (by omega) (by decide) (by decide)
  have e1 : (b + 715225741 * (c + 1)) ^ 3 % (10 ^ 41 + 109) = mixA b c := rfl
  have e2 : (mixA b c + 179424673 * (c + 1)) ^ 3 % (10 ^ 40 + 121) = mixB b c := rfl
  have l : Nat.log2 1299709 < 9000 := by decide +kernel
  have i41 : D.pow (.int 10) (.int 41) = some (.int (10 ^ 41)) := pw p41
  have i40 : D.pow (.int 10) (.int 40) = some (.int (10 ^ 40)) := pw p40
  have i1 : D.pow (.int (b + 715225741 * (c + 1))) (.int 3) = some (.int ((b + 715225741 * (c + 1)) ^ 3)) := pw p1
  have i2 : D.pow (.int (mixA b c + 179424673 * (c + 1))) (.int 3) = some (.int ((mixA b c + 179424673 * (c + 1)) ^ 3)) := pw p2
  have j1 : D.mod (.int ((b + 715225741 * (c + 1)) ^ 3)) (.int (10 ^ 41 + 109)) = some (.int (mixA b c)) := u_modI q41
  have j2 : D.mod (.int ((mixA b c + 179424673 * (c + 1)) ^ 3)) (.int (10 ^ 40 + 121)) = some (.int (mixB b c)) := u_modI q40
  have t1 : D.mul (.int 715225741) (.int (c + 1)) = some (.int (715225741 * (c + 1))) := u_mulL (by decide) (by decide)
  have t2 : D.mul (.int 179424673) (.int (c + 1)) = some (.int (179424673 * (c + 1))) := u_mulL (by decide) (by decide)
  generalize hA : mixA b c = A at *
  generalize hB : mixB b c = B at *
  generalize hX : (10 : Int) ^ 41 = X at *
  generalize hY : (10 : Int) ^ 40 = Y at *
  simp [l_pour_den, fnDen, startE, Arg.slot, l_pour_b, ha, dSet, setN, dPut, L2.ixN, i41, i40, i1, i2, j1, j2, t1, t2]
  simp [D.fdiv, l, D.mod, hn0, Res.chk, backsOk]
def Jug (N : Int) (d : D) : Prop := ∃ a b c, d = .lst [.int a, .int b, .int c] ∧ 0 ≤ b ∧ b < 2 ^ 160 ∧ 0 ≤ c ∧ c ≤ N
/-- a draw below n -/
theorem pour_ok {N n : Int} {d : D} (s : Jug N d) (hN : N < 2 ^ 31) (hn : 1 ≤ n) (h2 : n.natAbs.log2 < 9000) : ∃ r d' l, 0 ≤ r ∧ r < n ∧ Jug (N + 1) d' ∧ l_pour_den [.m d, .v (.int n)] = .rt (.int r) false (.own true d' :: l) := by
  obtain ⟨a, b, c, rfl, hb, hb2, hc, hc2⟩ := s
  by_cases ha : 0 < a
  · exact ⟨a % n, _, _, Int.emod_nonneg _ (by omega), Int.emod_lt_of_pos _ (by omega), ⟨a / n, b, c, rfl, hb, hb2, hc, by omega⟩, pour1 a b c n hn h2 ha⟩
  · exact ⟨mixB b c / 1299709 % n, _, _, Int.emod_nonneg _ (by omega), Int.emod_lt_of_pos _ (by omega), ⟨a, b, c + 1, rfl, hb, hb2, by omega, by omega⟩, pour2 a b c n hn ha hb hb2 hc (by omega)⟩
theorem pour_call {N n : Int} {d : D} {e : Rp.Env} {i : Nat} {p : Bool} (h : e.get i = .own p d) (s : Jug N d) (hN : N < 2 ^ 31) (hn : 1 ≤ n) (h2 : n.natAbs.log2 < 9000) :
    ∃ r d', 0 ≤ r ∧ r < n ∧ Jug (N + 1) d' ∧ callR true l_pour_den [.s i, .v (.int n)] e = .ok (.int r) (e.set i (.own p d')) := by
  obtain ⟨r, d', l, h0, h1, hs, he⟩ := pour_ok s hN hn h2
  exact ⟨r, d', h0, h1, hs, by simp [callR, argsOf, h, lents, he, isLst, putBk]⟩
def jugR : Rp.Env → Res := (dRetF (dispD .lst (consA (asV (callD maxD (consA (asV (pureD (.int 0))) (consA (asV (bin2 (binD .Sub) (asV (callD absD (consA (borO 2) nilA))) (asV (bin2 (binD .Pow) (asV (pureD (.int 10))) (asV (pureD (.int 18))))))) nilA)))) (consA (asV (bin2 (binD .Add) (asV (bin2 (binD .Add) (asV (bin2 (binD .Mult) (asV (bin2 (binD .Mod) (borO 2) (asV (bin2 (binD .Add) (asV (bin2 (binD .Pow) (asV (pureD (.int 10))) (asV (pureD (.int 37))))) (asV (pureD (.int 43))))))) (asV (pureD (.int 89))))) (asV (bin2 (binD .Mult) (asV (pureD (.int 53))) (borO 1))))) (asV (pureD (.int 31))))) (consA (asV (pureD (.int 0))) nilA)))))
theorem jug_eq : l_jug_b = dSeq (dSet 2 (iteV (bB (bin2 (cmpD .Lt) (borO 1) (asV (callD lenD (consA (borO 0) nilA))))) (bin2 D.idx (borO 0) (borO 1)) (pureD (.int 0)))) jugR := rfl
theorem jug_ok (ns : List Int) (k : Nat) (hk : k < 64) (hz : ns.length ≤ 63) : ∃ d e, l_jug_den [.v (.scr (ns.map D.int)), .v (.int k)] = .rt d true e ∧ Jug 0 d := by
  have q37 : (0 : Int) < 10 ^ 37 + 43 := by decide +kernel
  have b37 : (10 : Int) ^ 37 + 43 < 2 ^ 140 := by decide +kernel
  have i37 : D.pow (.int 10) (.int 37) = some (.int (10 ^ 37)) := pw p37
  have i18 : D.pow (.int 10) (.int 18) = some (.int (10 ^ 18)) := pw p18
  have t1 : D.mul (.int 53) (.int k) = some (.int (53 * k)) := u_mulL (by decide) (by decide)
  have main : ∀ cell : Int, ∃ d e, jugR [.val (.scr (ns.map D.int)), .val (.int k), .val (.int cell)] = .rt d true e ∧ e = [.val (.scr (ns.map D.int)), .val (.int k), .val (.int cell)] ∧ Jug 0 d := by
    intro cell
    have j1 : D.mod (.int cell) (.int (10 ^ 37 + 43)) = some (.int (cell % (10 ^ 37 + 43))) := u_modI q37
    have m1 := Int.emod_nonneg cell (b := 10 ^ 37 + 43) (by omega)
    have m2 := Int.emod_lt_of_pos cell q37
    generalize hM : cell % (10 ^ 37 + 43) = M at *
    generalize hX : (10 : Int) ^ 37 = X at *
    generalize hY : (10 : Int) ^ 18 = Y at *
    have t2 : D.mul (.int M) (.int 89) = some (.int (M * 89)) := u_mulI (by simp [mulOk])
    refine ⟨_, _, by simp [jugR, i37, i18, t1, t2, j1, absD, maxD]; exact ⟨rfl, rfl, rfl⟩, rfl, _, _, _, rfl, ?_, ?_, by decide, by decide⟩
    · omega
    · omega
  by_cases hl : k < ns.length
  · have g : (k : Int) < (ns.length : Int) := by omega
    obtain ⟨d, e, h1, h2, h3⟩ := main (ns[k]'hl)
    have a1 : L2.atI (ns.map D.int) (k : Int) = some (.int (ns[k]'hl)) := by rw [at_nat (by simpa using hl)]; simp
    refine ⟨d, e, ?_, h3⟩
    subst h2
    simp [l_jug_den, startE, Arg.slot, jug_eq, lenD, g, a1, h1, Res.chk, backsOk]
  · have g : ¬ (k : Int) < (ns.length : Int) := by omega
    obtain ⟨d, e, h1, h2, h3⟩ := main 0
    refine ⟨d, e, ?_, h3⟩
    subst h2
    simp [l_jug_den, startE, Arg.slot, jug_eq, lenD, g, h1, Res.chk, backsOk]
theorem pour_at {N n : Int} {d : D} {l : Rp.Env} {p : Bool} (s : Jug N d) (hN : N < 2 ^ 31) (hn : 1 ≤ n) (h2 : n.natAbs.log2 < 9000) :
    ∃ r d', 0 ≤ r ∧ r < n ∧ Jug (N + 1) d' ∧ callR true l_pour_den [.s 0, .v (.int n)] (.own p d :: l) = .ok (.int r) (.own p d' :: l) := by
  obtain ⟨r, d', h0, h1, h2, h3⟩ := pour_call (e := .own p d :: l) (i := 0) (n := n) rfl s hN hn h2
  exact ⟨r, d', h0, h1, h2, h3⟩
theorem moment_ok {N : Int} {d : D} (s : Jug N d) (hN : N < 2 ^ 30) : ∃ (t : Nat) (d' : D) (b : Bool) (l : Rp.Env), t < 10 ^ 40 ∧ Jug (N + 5) d' ∧ l_moment_den [.m d] = .rt (.int t) b (.own true d' :: l) := by
  have i40 : D.pow (.int 10) (.int 40) = some (.int (10 ^ 40)) := pw p40
  have i36 : D.pow (.int 10) (.int 36) = some (.int (10 ^ 36)) := pw p36
  have i6 : D.pow (.int 10) (.int 6) = some (.int (10 ^ 6)) := pw p6
  have n40 : (1 : Int) ≤ 10 ^ 40 ∧ ((10 : Int) ^ 40).natAbs.log2 < 9000 := by decide +kernel
  have n36 : (1 : Int) ≤ 10 ^ 36 ∧ ((10 : Int) ^ 36).natAbs.log2 < 9000 := by decide +kernel
  have n6 : (1 : Int) ≤ 10 ^ 6 ∧ ((10 : Int) ^ 6).natAbs.log2 < 9000 := by decide +kernel
  have b1 : (1440 : Int) * 10 ^ 36 + 1440 < 10 ^ 40 := by decide +kernel
  have b2 : (1440 : Int) * 10 ^ 6 + 1440 < 10 ^ 40 := by decide +kernel
  have b3 : (5000 : Int) < 10 ^ 40 := by decide +kernel
  have b4 : (10 : Int) ^ 40 = ((10 ^ 40 : Nat) : Int) := by decide +kernel
  generalize hX : (10 : Int) ^ 40 = X at *
  generalize hY : (10 : Int) ^ 36 = Y at *
  generalize hZ : (10 : Int) ^ 6 = Z at *
  obtain ⟨r1, d1, a1, a2, s1, c1⟩ := pour_at (l := [.no]) (p := true) s (by omega) n40.1 n40.2
  obtain ⟨r2, d2, a3, a4, s2, c2⟩ := pour_at (l := [.no]) (p := true) (n := 5000) s1 (by omega) (by decide) (by decide +kernel)
  obtain ⟨r3, d3, a5, a6, s3, c3⟩ := pour_at (l := [.no]) (p := true) s2 (by omega) n36.1 n36.2
  have t3 : D.mul (.int 1440) (.int r3) = some (.int (1440 * r3)) := u_mulL (by decide) (by decide)
  obtain ⟨r4, d4, a7, a8, s4, c4⟩ := pour_at (l := [.own false (.lst [.int r1, .int r2, .int (1440 * r3)])]) (p := true) s3 (by omega) n6.1 n6.2
  have t4 : D.mul (.int 1440) (.int r4) = some (.int (1440 * r4)) := u_mulL (by decide) (by decide)
  obtain ⟨r5, d5, a9, a10, s5, c5⟩ := pour_at (l := [.own false (.lst [.int r1, .int r2, .int (1440 * r3), .int (1440 * r4 + 1439)])]) (p := true) (n := 4) s4 (by omega) (by decide) (by decide +kernel)
  have key : ∀ v : Int, 0 ≤ v → v < X → L2.atI [D.int r1, .int r2, .int (1440 * r3), .int (1440 * r4 + 1439)] r5 = some (.int v) → ∃ (t : Nat) (d' : D) (b : Bool) (l : Rp.Env), t < 10 ^ 40 ∧ Jug (N + 5) d' ∧ l_moment_den [.m d] = .rt (.int t) b (.own true d' :: l) := by
    intro v v0 v1 v2
    refine ⟨v.toNat, d5, false, [.own false (.lst [.int r1, .int r2, .int (1440 * r3), .int (1440 * r4 + 1439)])], ?_, ?_, ?_⟩
    · rw [b4] at v1; omega
    · have e : N + 5 = N + 1 + 1 + 1 + 1 + 1 := by omega
      rw [e]; exact s5
    · have e : ((v.toNat : Nat) : Int) = v := Int.toNat_of_nonneg v0
      rw [e]
      simp [l_moment_den, startE, Arg.slot, l_moment_b, i40, i36, i6, c1, c2, c3, c4, c5, t3, t4, v2, Res.chk, backsOk]
  rcases (by omega : r5 = 0 ∨ r5 = 1 ∨ r5 = 2 ∨ r5 = 3) with h | h | h | h
  · exact key r1 a1 a2 (by rw [h]; simp)
  · exact key r2 a3 (by omega) (by rw [h]; simp)
  · exact key (1440 * r3) (by omega) (by omega) (by rw [h]; simp)
  · exact key (1440 * r4 + 1439) (by omega) (by omega) (by rw [h]; simp)
end K01
set_option Elab.async false
set_option linter.all false
set_option maxRecDepth 100000
set_option maxHeartbeats 1000000
/-! K01c: days and minutes; what repr shows. -/
namespace K01
open PySem Rp L2 TL
@[simp] theorem u_dExp' {f : Rp.Env → Out D} {s : Slot} {l : Rp.Env} : dExp f (s :: l) = (f (s :: l)).stm fun _ e => .nx e := (rfl)
theorem t_ii : isTy "int" ["int"] = some true := by decide +kernel
theorem t_ib : isTy "int" ["bool"] = some false := by decide +kernel
theorem t_bi : isTy "bool" ["int"] = some true := by decide +kernel
theorem t_bb : isTy "bool" ["bool"] = some true := by decide +kernel
theorem t_si : isTy "str" ["int"] = some false := by decide +kernel
theorem t_ni : isTy "NoneType" ["int"] = some false := by decide +kernel
theorem t_li : isTy "list" ["int"] = some false := by decide +kernel
theorem t_ti : isTy "tuple" ["int"] = some false := by decide +kernel
theorem t_di : isTy "dict" ["int"] = some false := by decide +kernel
/-- what is no integer from 0 on -/
def NoI (d : D) : Prop := (∃ i : Int, i < 0 ∧ d = .int i) ∨ (∃ b, d = .bl b) ∨ ∃ t, d.tyN = some t ∧ isTy t ["int"] = some false
theorem isint_int (i : Int) {e : Rp.Env} : callR true is_integer_den [.v (.int i), .v (.int 0), .v .non] e = .ok (.bl (decide (0 ≤ i))) e := by
  refine call3 (r := .bl (decide (0 ≤ i))) (b := false) (e' := [.val (.int i), .val (.int 0), .val .non]) ?_ rfl
  by_cases h : 0 ≤ i
  · simp [is_integer_den, startE, Arg.slot, is_integer_b, D.tyN, t_ii, t_ib, D.isN, D.truth, h, Res.chk, backsOk]
  · simp [is_integer_den, startE, Arg.slot, is_integer_b, D.tyN, t_ii, t_ib, D.isN, D.truth, h, Res.chk, backsOk]
theorem isint_bnd (i k : Int) {e : Rp.Env} : callR true is_integer_den [.v (.int i), .v (.int 0), .v (.int k)] e = .ok (.bl (decide (0 ≤ i ∧ i ≤ k))) e := by
  refine call3 (r := .bl (decide (0 ≤ i ∧ i ≤ k))) (b := false) (e' := [.val (.int i), .val (.int 0), .val (.int k)]) ?_ rfl
  by_cases h : 0 ≤ i
  · by_cases h2 : i ≤ k
    · simp [is_integer_den, startE, Arg.slot, is_integer_b, D.tyN, t_ii, t_ib, D.isN, D.truth, h, h2, Res.chk, backsOk]
    · simp [is_integer_den, startE, Arg.slot, is_integer_b, D.tyN, t_ii, t_ib, D.isN, D.truth, h, h2, Res.chk, backsOk]
  · simp [is_integer_den, startE, Arg.slot, is_integer_b, D.tyN, t_ii, t_ib, D.isN, D.truth, h, Res.chk, backsOk]
theorem isint_bad {d hi : D} (h : NoI d) (hh : hi = .non ∨ ∃ k : Int, 0 ≤ k ∧ hi = .int k) {e : Rp.Env} : callR true is_integer_den [.v d, .v (.int 0), .v hi] e = .ok (.bl false) e := by
  rcases h with ⟨i, h0, rfl⟩ | ⟨b, rfl⟩ | ⟨t, h1, h2⟩
  · have h4 : decide (0 ≤ i) = false := by simp; omega
    rcases hh with rfl | ⟨k, hk, rfl⟩
    · rw [isint_int, h4]
    · rw [isint_bnd]
      have : decide (0 ≤ i ∧ i ≤ k) = false := by simp; omega
      rw [this]
  · refine call3 (b := false) (e' := [.val (.bl b), .val (.int 0), .val hi]) ?_ rfl
    simp [is_integer_den, startE, Arg.slot, is_integer_b, D.tyN, t_bi, t_bb, Res.chk, backsOk]
  · refine call3 (b := false) (e' := [.val d, .val (.int 0), .val hi]) ?_ rfl
    simp [is_integer_den, startE, Arg.slot, is_integer_b, h1, h2, Res.chk, backsOk]
theorem time_bad {d : D} (h : NoI d) {e : Rp.Env} : callR true check_time_den [.v d] e = .exc (.str "InvalidTime") e := by
  refine call1x (e' := [.val d]) ?_
  simp [check_time_den, startE, Arg.slot, check_time_b, isint_bad h (.inl rfl), Res.chk, backsOk]
theorem day_bad {d : D} (h : NoI d) {e : Rp.Env} : callR true check_day_den [.v d] e = .exc (.str "InvalidDay") e := by
  refine call1x (e' := [.val d]) ?_
  simp [check_day_den, startE, Arg.slot, check_day_b, isint_bad h (.inl rfl), Res.chk, backsOk]
theorem time_ok (t : Nat) {e : Rp.Env} : callR true check_time_den [.v (.int t)] e = .ok .non e := by
  refine call1 (b := false) (e' := [.val (.int t)]) ?_ rfl
  simp [check_time_den, startE, Arg.slot, check_time_b, isint_int, Res.chk, backsOk]
theorem day_ok (t : Nat) {e : Rp.Env} : callR true check_day_den [.v (.int t)] e = .ok .non e := by
  refine call1 (b := false) (e' := [.val (.int t)]) ?_ rfl
  simp [check_day_den, startE, Arg.slot, check_day_b, isint_int, Res.chk, backsOk]
/-! ### the four -/
theorem dayof (t : Nat) : day_of_den [.v (.int t)] = .rt (.int ((t / 1440 : Nat) : Int)) false [.val (.int t)] := by
  have v1 : D.fdiv (.int (t : Int)) (.int 1440) = some (.int ((t / 1440 : Nat) : Int)) := u_fdivI (by decide) (by decide +kernel)
  simp [day_of_den, startE, Arg.slot, day_of_b, time_ok, v1, Res.chk, backsOk]
theorem minof (t : Nat) : minute_of_den [.v (.int t)] = .rt (.int ((t % 1440 : Nat) : Int)) false [.val (.int t)] := by
  have v1 : D.mod (.int (t : Int)) (.int 1440) = some (.int ((t % 1440 : Nat) : Int)) := u_modI (by decide)
  simp [minute_of_den, startE, Arg.slot, minute_of_b, time_ok, v1, Res.chk, backsOk]
theorem wkof (t : Nat) : weekday_of_den [.v (.int t)] = .rt (.int ((t % 7 : Nat) : Int)) false [.val (.int t)] := by
  have v1 : D.mod (.int (t : Int)) (.int 7) = some (.int ((t % 7 : Nat) : Int)) := u_modI (by decide)
  simp [weekday_of_den, startE, Arg.slot, weekday_of_b, day_ok, v1, Res.chk, backsOk]
theorem timeat (d m : Nat) (h : m < 1440) : time_at_den [.v (.int d), .v (.int m)] = .rt (.int ((1440 * d + m : Nat) : Int)) true [.val (.int d), .val (.int m)] := by
  have v1 : D.mul (.int 1440) (.int (d : Int)) = some (.int (1440 * (d : Int))) := u_mulL (by decide) (by decide)
  have h1 : (0 : Int) ≤ (m : Int) ∧ (m : Int) ≤ 1439 := by omega
  simp [time_at_den, startE, Arg.slot, time_at_b, day_ok, isint_bnd, h1, v1, Res.chk, backsOk]
theorem dayof_bad {d : D} (h : NoI d) : day_of_den [.v d] = .exc (.str "InvalidTime") [.val d] := by
  simp [day_of_den, startE, Arg.slot, day_of_b, time_bad h, Res.chk, backsOk]
theorem minof_bad {d : D} (h : NoI d) : minute_of_den [.v d] = .exc (.str "InvalidTime") [.val d] := by
  simp [minute_of_den, startE, Arg.slot, minute_of_b, time_bad h, Res.chk, backsOk]
theorem wkof_bad {d : D} (h : NoI d) : weekday_of_den [.v d] = .exc (.str "InvalidDay") [.val d] := by
  simp [weekday_of_den, startE, Arg.slot, weekday_of_b, day_bad h, Res.chk, backsOk]
theorem timeat_day {d m : D} (h : NoI d) : time_at_den [.v d, .v m] = .exc (.str "InvalidDay") [.val d, .val m] := by
  simp [time_at_den, startE, Arg.slot, time_at_b, day_bad h, Res.chk, backsOk]
/-- no minute of a day -/
def NoM (m : D) : Prop := NoI m ∨ ∃ i : Int, 1440 ≤ i ∧ m = .int i
theorem timeat_min {m : D} (d : Nat) (h : NoM m) : time_at_den [.v (.int d), .v m] = .exc (.str "InvalidMinute") [.val (.int d), .val m] := by
  have c : ∀ {e : Rp.Env}, callR true is_integer_den [.v m, .v (.int 0), .v (.int 1439)] e = .ok (.bl false) e := by
    intro e
    rcases h with h | ⟨i, h, rfl⟩
    · exact isint_bad h (.inr ⟨1439, by decide, rfl⟩)
    · rw [isint_bnd]
      have : decide (0 ≤ i ∧ i ≤ 1439) = false := by simp; omega
      rw [this]
  simp [time_at_den, startE, Arg.slot, time_at_b, day_ok, c, Res.chk, backsOk]
/-! ### what is told -/
theorem h_time : l_told_h "InvalidTime" = some (.str "time") := by
  unfold l_told_h
  rw [if_pos rfl]
theorem h_day : l_told_h "InvalidDay" = some (.str "day") := by
  unfold l_told_h
  have n : ¬ ("InvalidDay" : Str) = "InvalidTime" := by decide +kernel
  rw [if_neg n, if_pos rfl]
theorem h_minute : l_told_h "InvalidMinute" = some (.str "minute") := by
  unfold l_told_h
  have n : ¬ ("InvalidMinute" : Str) = "InvalidTime" := by decide +kernel
  have n2 : ¬ ("InvalidMinute" : Str) = "InvalidDay" := by decide +kernel
  rw [if_neg n, if_neg n2, if_pos rfl]
theorem told0 {d m : D} (h : NoI d) : ∃ b e, l_told_den [.v (.int 0), .v d, .v m] = .rt (.str "time") b e := by
  have c := fun e => call1x (fresh := true) (e := e) (dayof_bad h)
  apply Exists.intro
  apply Exists.intro
  simp [l_told_den, startE, Arg.slot, l_told_b, c, h_time, Res.chk, backsOk]
  exact ⟨rfl, rfl⟩
theorem told1 {d m : D} (h : NoI d) : ∃ b e, l_told_den [.v (.int 1), .v d, .v m] = .rt (.str "time") b e := by
  have c := fun e => call1x (fresh := true) (e := e) (minof_bad h)
  apply Exists.intro
  apply Exists.intro
  simp [l_told_den, startE, Arg.slot, l_told_b, c, h_time, Res.chk, backsOk]
  exact ⟨rfl, rfl⟩
theorem told2 {d m : D} (h : NoI d) : ∃ b e, l_told_den [.v (.int 2), .v d, .v m] = .rt (.str "day") b e := by
  have c := fun e => call1x (fresh := true) (e := e) (wkof_bad h)
  apply Exists.intro
  apply Exists.intro
  simp [l_told_den, startE, Arg.slot, l_told_b, c, h_day, Res.chk, backsOk]
  exact ⟨rfl, rfl⟩
theorem call2x {fresh : Bool} {den : List Rp.Arg → Res} {d d2 x : D} {e e' : Rp.Env} (h : den [.v d, .v d2] = .exc x e') : callR fresh den [.v d, .v d2] e = .exc x e := by
  simp [callR, argsOf, lents, h, putBk]
theorem told3d {d m : D} (h : NoI d) : ∃ b e, l_told_den [.v (.int 3), .v d, .v m] = .rt (.str "day") b e := by
  have c := fun e => call2x (fresh := true) (e := e) (timeat_day (m := m) h)
  apply Exists.intro
  apply Exists.intro
  simp [l_told_den, startE, Arg.slot, l_told_b, c, h_day, Res.chk, backsOk]
  exact ⟨rfl, rfl⟩
theorem told3m {m : D} (d : Nat) (h : NoM m) : ∃ b e, l_told_den [.v (.int 3), .v (.int d), .v m] = .rt (.str "minute") b e := by
  have c := fun e => call2x (fresh := true) (e := e) (timeat_min d h)
  apply Exists.intro
  apply Exists.intro
  simp [l_told_den, startE, Arg.slot, l_told_b, c, h_minute, Res.chk, backsOk]
  exact ⟨rfl, rfl⟩
/-! ### what repr shows -/
def Asc (l : List Nat) : Prop := ∀ c ∈ l, c < 128
theorem Asc.app {a b : List Nat} (h : Asc a) (k : Asc b) : Asc (a ++ b) := fun c hc => (List.mem_append.mp hc).elim (h c) (k c)
theorem Asc.ok {w : Str} (h : Asc (tl w)) : PyData.strOk w = true := by
  unfold PyData.strOk
  rw [← Array.all_toList, List.all_eq_true]
  intro c hc
  have := h c hc
  simp
  omega
theorem num_asc (n : Nat) : Asc (numL n) := fun c hc => by
  have := numL_digits n c hc
  omega
theorem log_lt {n : Nat} (h : n < 10 ^ 50) : ((n : Int)).natAbs.log2 < 1920 := by
  rw [Int.natAbs_natCast]
  by_cases h0 : n = 0
  · subst h0; decide
  · refine (Nat.log2_lt h0).mpr (Nat.lt_of_lt_of_le h ?_)
    exact Nat.le_trans (show (10 : Nat) ^ 50 ≤ 2 ^ 200 by decide +kernel) (Nat.pow_le_pow_right (by decide) (by decide))
/-- numbers and bools -/
def Nb (d : D) : Prop := (∃ b, d = .bl b) ∨ ∃ n : Nat, n < 10 ^ 50 ∧ d = .int n
theorem nb_shown {d : D} (h : Nb d) : ∃ p, flatP d = some p ∧ Asc (tl p.shown) ∧ (tl p.shown).length ≤ 50 := by
  rcases h with ⟨b, rfl⟩ | ⟨n, hn, rfl⟩
  · refine ⟨.bool b, rfl, ?_⟩
    rw [PyData.shown_bool]
    cases b
    · have : tl (("False" : Str)) = [70, 97, 108, 115, 101] := by decide +kernel
      rw [if_neg (by decide), this]
      exact ⟨by intro c hc; simp at hc; omega, by decide⟩
    · have : tl (("True" : Str)) = [84, 114, 117, 101] := by decide +kernel
      rw [if_pos rfl, this]
      exact ⟨by intro c hc; simp at hc; omega, by decide⟩
  · refine ⟨.int n, if_pos (by simpa using log_lt hn), ?_⟩
    rw [PyData.shown_int, show tl (((toString (n : Int) : String) : Str)) = numL n from tl_num n]
    exact ⟨num_asc n, numL_len (by decide) hn⟩
theorem nbs_shown : ∀ {ds : List D}, (∀ d ∈ ds, Nb d) → ∃ ps, flatsP ds = some ps ∧ ps.length = ds.length ∧ ∀ x ∈ PyData.shownAll ps, Asc (tl x) ∧ (tl x).length ≤ 50
  | [], _ => ⟨[], rfl, rfl, by simp [PyData.shownAll_nil]⟩
  | d :: ds, h => by
    obtain ⟨p, h1, h2, h3⟩ := nb_shown (h d (List.mem_cons_self ..))
    obtain ⟨ps, q1, q2, q3⟩ := nbs_shown (ds := ds) fun x hx => h x (List.mem_cons_of_mem _ hx)
    refine ⟨p :: ps, by simp [flatsP, h1, q1], by simp [q2], fun x hx => ?_⟩
    rw [PyData.shownAll_cons] at hx
    rcases List.mem_cons.mp hx with rfl | hx
    · exact ⟨h2, h3⟩
    · exact q3 x hx
theorem asc_join : ∀ {ls : List (List Nat)}, (∀ l ∈ ls, Asc l ∧ l.length ≤ 50) → Asc (joinL [44, 32] ls) ∧ (joinL [44, 32] ls).length ≤ 52 * ls.length
  | [], _ => ⟨by intro c hc; simp [joinL] at hc, by simp [joinL]⟩
  | [p], h => ⟨(h p (by simp)).1, by have := (h p (by simp)).2; simp [joinL]; omega⟩
  | p :: q :: r, h => by
    obtain ⟨h1, h2⟩ := h p (by simp)
    obtain ⟨h3, h4⟩ := asc_join (ls := q :: r) fun l hl => h l (List.mem_cons_of_mem _ hl)
    refine ⟨h1.app ((show Asc [44, 32] by intro c hc; simp at hc; omega).app h3), ?_⟩
    simp only [joinL, List.length_append, List.length_cons, List.length_nil] at h4 ⊢
    omega
theorem rep_lst {ds : List D} (h : ∀ d ∈ ds, Nb d) (hl : ds.length ≤ 100) : ∃ S : Str, reprD [.lst ds] = some (.str S) ∧ PyData.strOk S = true := by
  obtain ⟨ps, q1, q2, q3⟩ := nbs_shown h
  have sp : tl ((", " : Str)) = [44, 32] := by decide +kernel
  have b1 : tl (("[" : Str)) = [91] := by decide +kernel
  have b2 : tl (("]" : Str)) = [93] := by decide +kernel
  have hS : tl (shownL ps) = [91] ++ joinL [44, 32] ((PyData.shownAll ps).map tl) ++ [93] := by
    unfold shownL
    rw [PyData.shown_list, tl_append, tl_append, tl_join, sp, b1, b2]
  have sl : (PyData.shownAll ps).length = ps.length := PyData.shownAll_length ps
  obtain ⟨a1, a2⟩ := asc_join (ls := (PyData.shownAll ps).map tl) fun l hl => by
    obtain ⟨x, hx, rfl⟩ := List.mem_map.mp hl
    exact q3 x hx
  rw [List.length_map, sl] at a2
  have len : (shownL ps).length ≤ 16777216 := by
    have : (tl (shownL ps)).length = (shownL ps).length := by simp [tl, Str.length]
    rw [← this, hS]
    simp only [List.length_append, List.length_cons, List.length_nil]
    omega
  refine ⟨shownL ps, by simp [reprD, q1, len], Asc.ok ?_⟩
  rw [hS]
  exact (Asc.app (a := [91]) (by intro c hc; simp at hc; omega) a1).app (by intro c hc; simp at hc; omega)
end K01
set_option Elab.async false
set_option linter.all false
set_option maxRecDepth 100000
set_option maxHeartbeats 1000000
/-! K01d: a time is judged; the classes. -/
namespace K01
open PySem Rp L2 TL
@[simp] theorem u_chain3' {op op2 : CmpOp} {fa fb fc : Rp.Env → Out Opd} {s : Slot} {l : Rp.Env} : chain3 op op2 fa fb fc (s :: l) = (fa (s :: l)).bind fun a e1 => (fb e1).bind fun b e2 =>
    match ((deref a e2).bind fun x => (deref b e2).bind fun y => (cmpD op x y).bind asB) with
    | some true => (fc e2).bind fun c e3 => Out.of ((deref b e3).bind fun y => (deref c e3).bind fun z => cmpD op2 y z) e3
    | some false => .ok (.bl false) e2
    | none => .bad := (rfl)
theorem call2K {den : List Rp.Arg → Res} {fresh b : Bool} {d d2 r : D} {e e1 e' : Rp.Env} (h : den [.v d2, .v d] = .rt r b e') (hb : (fresh && isLst r && !b) = false) {fs : Rp.Env → Out (List Opd)} (hf : fs e = .ok [.v d, .v d2] e1) : callKU fresh 2 [1, 0] den fs e = .ok r e1 := by
  unfold callKU; rw [hf]; show (if ([Opd.v d, Opd.v d2] : List Opd).length = 2 then callR fresh den (pm [1, 0] [.v d, .v d2]) e1 else .bad) = _
  rw [if_pos (by rfl)]; exact call2 h hb
theorem right_ok (t : Nat) (ht : t < 10 ^ 45) : ∃ b e, l_right_den [.v (.int t)] = .rt (.bl true) b e := by
  have big : ∀ {n : Nat}, n ≤ t → n < 10 ^ 50 := fun {n} h => Nat.lt_of_le_of_lt h (Nat.lt_trans ht (by decide +kernel))
  have c1 := fun e => call1 (fresh := true) (e := e) (dayof t) rfl
  have c2 : ∀ {e e1 : Rp.Env} {fs : Rp.Env → Out (List Opd)}, fs e = .ok [.v (.int (t : Int))] e1 → callKU true 1 [0] day_of_den fs e = .ok (.int ((t / 1440 : Nat) : Int)) e1 := fun h => call1K (dayof t) rfl h
  have c3 := fun e => call1 (fresh := true) (e := e) (minof t) rfl
  have c4 : ∀ {e e1 : Rp.Env} {fs : Rp.Env → Out (List Opd)}, fs e = .ok [.v (.int (t : Int))] e1 → callKU true 1 [0] minute_of_den fs e = .ok (.int ((t % 1440 : Nat) : Int)) e1 := fun h => call1K (minof t) rfl h
  have e0 : 1440 * (t / 1440) + t % 1440 = t := by omega
  have ta := timeat (t / 1440) (t % 1440) (by omega)
  rw [e0] at ta
  have c5 := fun e => call2 (fresh := true) (e := e) ta rfl
  have c6 := fun e => call1 (fresh := true) (e := e) (wkof (t / 1440)) rfl
  have c7 : ∀ {e e1 : Rp.Env} {fs : Rp.Env → Out (List Opd)}, fs e = .ok [.v (.int ((t / 1440 : Nat) : Int))] e1 → callKU true 1 [0] weekday_of_den fs e = .ok (.int ((t / 1440 % 7 : Nat) : Int)) e1 := fun h => call1K (wkof (t / 1440)) rfl h
  have c8 : ∀ {e e1 : Rp.Env} {fs : Rp.Env → Out (List Opd)}, fs e = .ok [.v (.int ((t % 1440 : Nat) : Int)), .v (.int ((t / 1440 : Nat) : Int))] e1 → callKU true 2 [1, 0] time_at_den fs e = .ok (.int (t : Int)) e1 := fun h => call2K ta rfl h
  have c9 := fun e => call1 (fresh := true) (e := e) (wkof (t / 1440 + 1)) rfl
  have m1 : D.mul (.int 1440) (.int ((t / 1440 : Nat) : Int)) = some (.int (1440 * ((t / 1440 : Nat) : Int))) := u_mulL (by decide) (by simp)
  have s1 : (t : Int) - 1440 * ((t / 1440 : Nat) : Int) = ((t % 1440 : Nat) : Int) := by omega
  obtain ⟨S1, r1, o1⟩ := rep_lst (ds := [.int ((t / 1440 : Nat) : Int), .bl true, .bl true]) (by
    intro d hd
    simp only [List.mem_cons, List.not_mem_nil, or_false] at hd
    rcases hd with rfl | rfl | rfl
    · exact .inr ⟨t / 1440, big (by omega), rfl⟩
    · exact .inl ⟨_, rfl⟩
    · exact .inl ⟨_, rfl⟩) (by simp)
  obtain ⟨S2, r2, o2⟩ := rep_lst (ds := [.int ((t % 1440 : Nat) : Int), .int ((t % 1440 : Nat) : Int), .int (t : Int)]) (by
    intro d hd
    simp only [List.mem_cons, List.not_mem_nil, or_false] at hd
    rcases hd with rfl | rfl | rfl
    · exact .inr ⟨t % 1440, big (by omega), rfl⟩
    · exact .inr ⟨t % 1440, big (by omega), rfl⟩
    · exact .inr ⟨t, big (by omega), rfl⟩) (by simp)
  obtain ⟨S3, r3, o3⟩ := rep_lst (ds := [.int ((t / 1440 % 7 : Nat) : Int), .int (t : Int)]) (by
    intro d hd
    simp only [List.mem_cons, List.not_mem_nil, or_false] at hd
    rcases hd with rfl | rfl
    · exact .inr ⟨t / 1440 % 7, big (by omega), rfl⟩
    · exact .inr ⟨t, big (by omega), rfl⟩) (by simp)
  obtain ⟨S4, r4, o4⟩ := rep_lst (ds := [.int ((t / 1440 : Nat) : Int), .int ((t / 1440 % 7 : Nat) : Int)]) (by
    intro d hd
    simp only [List.mem_cons, List.not_mem_nil, or_false] at hd
    rcases hd with rfl | rfl
    · exact .inr ⟨t / 1440, big (by omega), rfl⟩
    · exact .inr ⟨t / 1440 % 7, big (by omega), rfl⟩) (by simp)
  have j1 : D.mod (.int (((t / 1440 : Nat) : Int) - ((t / 1440 % 7 : Nat) : Int))) (.int 7) = some (.int 0) := by
    rw [u_modI (by decide)]
    have : (((t / 1440 : Nat) : Int) - ((t / 1440 % 7 : Nat) : Int)) % 7 = 0 := by omega
    rw [this]
  have j2 : D.mod (.int (((t / 1440 % 7 : Nat) : Int) + 1)) (.int 7) = some (.int (((t / 1440 + 1) % 7 : Nat) : Int)) := by
    rw [u_modI (by decide)]
    have : (((t / 1440 % 7 : Nat) : Int) + 1) % 7 = (((t / 1440 + 1) % 7 : Nat) : Int) := by omega
    rw [this]
  have a9 : ((t / 1440 + 1 : Nat) : Int) = ((t / 1440 : Nat) : Int) + 1 := by omega
  rw [a9] at c9
  have x1 : (0 : Int) ≤ ((t % 1440 : Nat) : Int) := by omega
  have x2 : ((t % 1440 : Nat) : Int) < 1440 := by omega
  have x3 : ((t / 1440 % 7 : Nat) : Int) < 7 := by omega
  have x4 : (0 : Int) ≤ ((t / 1440 % 7 : Nat) : Int) := by omega
  generalize ((t / 1440 + 1) % 7 : Nat) = B at *
  generalize (t / 1440 % 7 : Nat) = W at *
  generalize (t % 1440 : Nat) = M at *
  generalize (t / 1440 : Nat) = DD at *
  apply Exists.intro
  apply Exists.intro
  simp [l_right_den, startE, Arg.slot, l_right_b, c1, m1, s1, c2, D.tyN, t_ii, x1, x2, r1, ne_str o1 o1, c3, c4, c5, r2, ne_str o2 o2, c6, c7, c8, r3, ne_str o3 o3, r4, ne_str o4 o4, inRng, x3, x4, j1, j2, c9, D.truth, Res.chk, backsOk]
  exact ⟨rfl, rfl⟩
end K01
set_option Elab.async false
set_option linter.all false
set_option maxRecDepth 100000
set_option maxHeartbeats 1000000
/-! K01e: the classes. -/
namespace K01
open PySem Rp L2 TL
def saysT : Res → Bool
  | .rt (.bl true) _ _ => true
  | _ => false
theorem saysT_of : ∀ {r : Res}, saysT r = true → ∃ b e, r = .rt (.bl true) b e := by
  intro r h
  unfold saysT at h
  split at h
  · exact ⟨_, _, rfl⟩
  · cases h
theorem classes_ok : ∃ b e, l_classes_right_den [] = .rt (.bl true) b e := saysT_of (by decide +kernel)
end K01
set_option Elab.async false
set_option linter.all false
set_option maxRecDepth 100000
set_option maxHeartbeats 1000000
/-! K01p: the law. -/
namespace K01
open PySem Rp L2 TL
def turnB : Rp.Env → Res := (dIf (notB (truB (asV (callU true l_right_den (consA (asV (callU true l_moment_den (consA (borO 3) nilA))) nilA))))) (dRet (pureD (.bl false))) dNil)
def loop6 : Rp.Env → Res := (dFor (rng1I (consA (asV (pureD (.int 6))) nilA)) (setN 4) turnB)
def badA : Rp.Env → Res := (dSeq (dSetF 2 (bin2 (binD .Add) (asV (lcD [9] (rng1I (consA (asV (pureD (.int 4))) nilA)) (setN 9) (fun env => .ok true env) (callU true l_told_den (consA (asV (rdVar 9)) (consA (asV (rdVar 6)) (consA (asV (pureD (.int 0))) nilA)))))) (asV (dispD .lst (consA (asV (callU true l_told_den (consA (asV (pureD (.int 3))) (consA (asV (rdVar 6)) (consA (asV (negV (pureD (.int 1)))) nilA))))) nilA))))) (dSeq (dIf (bB (bin2 (cmpD .NotEq) (borO 2) (asV (dispD .lst (consA (asV (pureD (.str "time"))) (consA (asV (pureD (.str "time"))) (consA (asV (pureD (.str "day"))) (consA (asV (pureD (.str "day"))) (consA (asV (pureD (.str "day"))) nilA))))))))) (dRet (pureD (.bl false))) dNil) (dIf (bB (bin2 (cmpD .NotEq) (asV (callU true l_told_den (consA (asV (pureD (.int 3))) (consA (asV (rdVar 5)) (consA (asV (rdVar 6)) nilA))))) (asV (pureD (.str "minute"))))) (dRet (pureD (.bl false))) dNil)))
def itA : Rp.Env → Out ItD := (lstI (dispD .lst (consA (asV (pureD .non)) (consA (asV (pureD (.bl true))) (consA (asV (pureD (.bl false))) (consA (asV (negV (pureD (.int 1)))) (consA (asV (negV (pureD (.int 1440)))) (consA (asV (pureD (.str "0"))) (consA (asV (pureD (.str ""))) (consA (asV (dispD .tup (consA (asV (pureD (.int 0))) nilA))) (consA (asV (dispD .lst (consA (asV (pureD (.int 0))) nilA))) (consA (asV (pureD (.dct [] []))) (consA (asV (bin2 (binD .Sub) (asV (negV (pureD (.int 1)))) (asV (callU true l_pour_den (consA (borO 3) (consA (asV (bin2 (binD .Pow) (asV (pureD (.int 10))) (asV (pureD (.int 39))))) nilA)))))) (consA (asV (dispD .tup (consA (asV (dispD .tup (consA (asV (pureD (.int 0))) nilA))) nilA))) nilA))))))))))))))
def loopA : Rp.Env → Res := (dFor itA (setN 6) badA)
def badB : Rp.Env → Res := (dIf (orB (bB (bin2 (cmpD .NotEq) (asV (callU true l_told_den (consA (asV (pureD (.int 3))) (consA (asV (rdVar 5)) (consA (asV (rdVar 6)) nilA))))) (asV (pureD (.str "minute"))))) (bB (bin2 (cmpD .NotEq) (asV (callU true l_told_den (consA (asV (pureD (.int 3))) (consA (asV (negV (pureD (.int 1)))) (consA (asV (rdVar 6)) nilA))))) (asV (pureD (.str "day")))))) (dRet (pureD (.bl false))) dNil)
def itB : Rp.Env → Out ItD := (lstI (dispD .lst (consA (asV (pureD (.int 1440))) (consA (asV (pureD (.int 1441))) (consA (asV (bin2 (binD .Add) (asV (pureD (.int 1440))) (asV (callU true l_pour_den (consA (borO 3) (consA (asV (bin2 (binD .Pow) (asV (pureD (.int 10))) (asV (pureD (.int 39))))) nilA)))))) (consA (asV (bin2 (binD .Sub) (asV (bin2 (binD .Pow) (asV (pureD (.int 10))) (asV (pureD (.int 40))))) (asV (pureD (.int 1))))) nilA))))))
def loopB : Rp.Env → Res := (dFor itB (setN 6) badB)
def seg : Rp.Env → Res := (dSeq (dSetF 5 (callU true l_moment_den (consA (borO 3) nilA))) (dSeq (dPar2 7 8 (consA (asV (callU true l_pour_den (consA (borO 3) (consA (asV (bin2 (binD .Sub) (asV (bin2 (binD .Pow) (asV (pureD (.int 10))) (asV (pureD (.int 40))))) (asV (pureD (.int 9))))) nilA)))) (consA (asV (callU true l_pour_den (consA (borO 3) (consA (asV (pureD (.int 1440))) nilA)))) nilA))) (dSeq (dIf (bB (bin2 (cmpD .NotEq) (asV (callU true time_at_den (consA (asV (rdVar 7)) (consA (asV (rdVar 8)) nilA)))) (asV (bin2 (binD .Add) (asV (bin2 (binD .Mult) (asV (pureD (.int 1440))) (borO 7))) (borO 8))))) (dRet (pureD (.bl false))) dNil) (dSeq (dIf (bB (bin2 (cmpD .NotEq) (asV (bin2 (binD .Mod) (asV (bin2 (binD .Sub) (borO 7) (asV (callU true weekday_of_den (consA (asV (rdVar 7)) nilA))))) (asV (pureD (.int 7))))) (asV (pureD (.int 0))))) (dRet (pureD (.bl false))) dNil) (dSeq loopA loopB)))))
def cellB : Rp.Env → Res := (dSeq (dSetF 3 (callU true l_jug_den (consA (asV (rdVar 0)) (consA (asV (rdVar 1)) nilA)))) (dSeq loop6 seg))
def loop1 : Rp.Env → Res := (dFor (rng1I (consA (asV (callD maxD (consA (asV (pureD (.int 1))) (consA (asV (callD minD (consA (asV (pureD (.int 10))) (consA (asV (callD lenD (consA (borO 0) nilA))) nilA)))) nilA)))) nilA)) (setN 1) cellB)
def tail1 : Rp.Env → Res := (dSeq (dSetF 2 (dispD .lst (consA (asV (callU true day_of_den (consA (asV (pureD (.int 1439))) nilA))) (consA (asV (callU true day_of_den (consA (asV (pureD (.int 1440))) nilA))) (consA (asV (callU true minute_of_den (consA (asV (pureD (.int 1439))) nilA))) (consA (asV (callU true weekday_of_den (consA (asV (pureD (.int 0))) nilA))) (consA (asV (callU true weekday_of_den (consA (asV (pureD (.int 13))) nilA))) (consA (asV (callU true time_at_den (consA (asV (pureD (.int 3))) (consA (asV (pureD (.int 425))) nilA)))) nilA)))))))) (dRet (andV (bin2 (cmpD .Eq) (asV (callD reprD (consA (borO 2) nilA))) (asV (callD reprD (consA (asV (dispD .lst (consA (asV (pureD (.int 0))) (consA (asV (pureD (.int 1))) (consA (asV (pureD (.int 1439))) (consA (asV (pureD (.int 0))) (consA (asV (pureD (.int 6))) (consA (asV (pureD (.int 4745))) nilA)))))))) nilA)))) (callU true l_classes_right_den nilA))))
theorem law_eq : law_b = (dSeq loop1 tail1) := rfl

theorem callm1 {den : List Rp.Arg → Res} {e : Rp.Env} {i : Nat} {p b : Bool} {d d' r : D} {l : Rp.Env} (he : e.get i = .own p d) (h : den [.m d] = .rt r b (.own true d' :: l)) (hr : isLst r = false) : callR true den [.s i] e = .ok r (e.set i (.own p d')) := by
  simp [callR, argsOf, he, lents, h, hr, putBk]
theorem Jug.mono {N M : Int} {d : D} (s : Jug N d) (h : N ≤ M) : Jug M d := by
  obtain ⟨a, b, c, e, h1, h2, h3, h4⟩ := s
  exact ⟨a, b, c, e, h1, h2, h3, by omega⟩
section
variable {s0 s1 s2 s3 s4 s5 s6 s7 s8 s9 : Rp.Slot} {N : Int} {d : D}
theorem ten {n : Nat} (h : n < 10 ^ 40) : n < 10 ^ 45 := Nat.lt_trans h (by decide +kernel)
theorem turn_ok (s : Jug N d) (hN : N < 2 ^ 29) : ∃ d', turnB [s0, s1, s2, .own false d, s4, s5, s6, s7, s8, s9] = .nx [s0, s1, s2, .own false d', s4, s5, s6, s7, s8, s9] ∧ Jug (N + 5) d' := by
  obtain ⟨t, d', b, l, h1, h2, h3⟩ := moment_ok s (by omega)
  have c1 : callR true l_moment_den [.s 3] [s0, s1, s2, .own false d, s4, s5, s6, s7, s8, s9] = .ok (.int t) [s0, s1, s2, .own false d', s4, s5, s6, s7, s8, s9] := callm1 (i := 3) (p := false) rfl h3 rfl
  obtain ⟨b2, e2, h4⟩ := right_ok t (ten h1)
  have c2 := fun e => call1 (fresh := true) (e := e) h4 rfl
  exact ⟨d', by simp [turnB, c1, c2, D.truth], h2⟩
theorem loop6_ok (s : Jug N d) (hN : N < 2 ^ 28) (k4 : s4.isLk = false) :
    ∃ d' t4, loop6 [s0, s1, s2, .own false d, s4, s5, s6, s7, s8, s9] = .nx [s0, s1, s2, .own false d', t4, s5, s6, s7, s8, s9] ∧ Jug (N + 30) d' ∧ t4.isLk = false := by
  obtain ⟨e', h1, d2, t4, rfl, q1, q4⟩ := forL_inv (g := setN 4) (f := turnB) (fun k e => ∃ d' t4, e = [s0, s1, s2, .own false d', t4, s5, s6, s7, s8, s9] ∧ Jug (N + 5 * k) d' ∧ t4.isLk = false)
    (e := [s0, s1, s2, .own false d, s4, s5, s6, s7, s8, s9]) (xs := rngL 0 6) (k := 0) (fun i y e hy ⟨d', t4, he, g1, g4⟩ => by
      subst he
      have hi : i < 6 := by
        obtain ⟨z, _⟩ := List.getElem?_eq_some_iff.mp hy
        simpa [rngL] using z
      obtain ⟨d'', b1, b2⟩ := turn_ok (s0 := s0) (s1 := s1) (s2 := s2) (s4 := .val y) (s5 := s5) (s6 := s6) (s7 := s7) (s8 := s8) (s9 := s9) g1 (by omega)
      refine ⟨[s0, s1, s2, .own false d', .val y, s5, s6, s7, s8, s9], _, by simp [g4], b1, d'', .val y, rfl, ?_, rfl⟩
      have : N + 5 * ((0 + i + 1 : Nat) : Int) = N + 5 * ((0 + i : Nat) : Int) + 5 := by omega
      rw [this]; exact b2) ⟨d, s4, rfl, by simpa using s, k4⟩
  have ll : (rngL 0 6).length = 6 := by simp [rngL]
  rw [ll] at q1
  refine ⟨d2, t4, ?_, q1.mono (by omega), q4⟩
  have rr : rng1I (consA (asV (pureD (.int 6))) nilA) [s0, s1, s2, .own false d, s4, s5, s6, s7, s8, s9] = .ok (rngL 0 6, none) [s0, s1, s2, .own false d, s4, s5, s6, s7, s8, s9] := rng1_at (n := 6) (by simp) (by omega)
  unfold loop6
  rw [u_dFor, rr]
  simp only [u_stm, h1]
/-! ### values that are none -/
theorem o_time : PyData.strOk ("time" : Str) = true := by decide +kernel
theorem o_day : PyData.strOk ("day" : Str) = true := by decide +kernel
theorem o_minute : PyData.strOk ("minute" : Str) = true := by decide +kernel
theorem five_ne : D.neD (.lst [.str "time", .str "time", .str "day", .str "day", .str "day"]) (.lst [.str "time", .str "time", .str "day", .str "day", .str "day"]) = some (.bl false) := by
  have h : Sh 1 (.lst [.str "time", .str "time", .str "day", .str "day", .str "day"]) := .lst (n := 0) fun x hx => by
    simp only [List.mem_cons, List.not_mem_nil, or_false] at hx
    rcases hx with rfl | rfl | rfl | rfl | rfl
    · exact .str o_time
    · exact .str o_time
    · exact .str o_day
    · exact .str o_day
    · exact .str o_day
  rw [ne_of h h (by decide) (by decide), eqq_same h]; rfl
theorem rng4 : rngL 0 4 = [.int 0, .int 1, .int 2, .int 3] := rfl
theorem badA_ok {x : D} {good : Nat} (h : NoI x) (k2 : s2.isLk = false) (k9 : plainS s9 = true) :
    badA [s0, s1, s2, s3, s4, .val (.int good), .val x, s7, s8, s9] = .nx [s0, s1, .own false (.lst [.str "time", .str "time", .str "day", .str "day", .str "day"]), s3, s4, .val (.int good), .val x, s7, s8, s9] := by
  obtain ⟨b0, e0, h0⟩ := told0 (m := .int 0) h
  obtain ⟨b1, e1, h1⟩ := told1 (m := .int 0) h
  obtain ⟨b2, e2, h2⟩ := told2 (m := .int 0) h
  obtain ⟨b3, e3, h3⟩ := told3d (m := .int 0) h
  obtain ⟨b4, e4, h4⟩ := told3d (m := .int (-1)) h
  obtain ⟨b5, e5, h5⟩ := told3m good (.inl h)
  have c0 := fun e => call3 (fresh := true) (e := e) h0 rfl
  have c1 := fun e => call3 (fresh := true) (e := e) h1 rfl
  have c2 := fun e => call3 (fresh := true) (e := e) h2 rfl
  have c3 := fun e => call3 (fresh := true) (e := e) h3 rfl
  have c4 := fun e => call3 (fresh := true) (e := e) h4 rfl
  have c5 := fun e => call3 (fresh := true) (e := e) h5 rfl
  have rr : rng1I (consA (asV (pureD (.int 4))) nilA) [s0, s1, s2, s3, s4, .val (.int good), .val x, s7, s8, s9] = .ok ([.int 0, .int 1, .int 2, .int 3], none) [s0, s1, s2, s3, s4, .val (.int good), .val x, s7, s8, s9] := by
    rw [← rng4]; exact rng1_at (n := 4) (by simp) (by omega)
  have ad : D.add (.lst [.str "time", .str "time", .str "day", .str "day"]) (.lst [.str "day"]) = some (.lst [.str "time", .str "time", .str "day", .str "day", .str "day"]) := by simp [D.add]
  simp [badA, rr, k9, c0, c1, c2, c3, c4, c5, ad, k2, five_ne, ne_str o_minute o_minute]
theorem noI_of {x : D} {t : String} (h1 : x.tyN = some t) (h2 : isTy t ["int"] = some false) : NoI x := .inr (.inr ⟨t, h1, h2⟩)
theorem loopA_ok {good : Nat} (s : Jug N d) (hN : N < 2 ^ 28) (k2 : s2.isLk = false) (k6 : s6.isLk = false) (k9 : plainS s9 = true) :
    ∃ d' t2 t6, loopA [s0, s1, s2, .own false d, s4, .val (.int good), s6, s7, s8, s9] = .nx [s0, s1, t2, .own false d', s4, .val (.int good), t6, s7, s8, s9] ∧ Jug (N + 1) d' ∧ t2.isLk = false ∧ t6.isLk = false := by
  have i39 : D.pow (.int 10) (.int 39) = some (.int (10 ^ 39)) := pw p39
  have n39 : (1 : Int) ≤ 10 ^ 39 ∧ ((10 : Int) ^ 39).natAbs.log2 < 9000 := by decide +kernel
  generalize hX : (10 : Int) ^ 39 = X at *
  obtain ⟨r, d1, a1, a2, s1', c⟩ := pour_call (n := X) (e := [s0, s1, s2, .own false d, s4, .val (.int good), s6, s7, s8, s9]) (i := 3) (p := false) rfl s (by omega) n39.1 n39.2
  have c1 : callR true l_pour_den [.s 3, .v (.int X)] [s0, s1, s2, .own false d, s4, .val (.int good), s6, s7, s8, s9] = .ok (.int r) [s0, s1, s2, .own false d1, s4, .val (.int good), s6, s7, s8, s9] := c
  obtain ⟨e', h1, t2, t6, rfl, q2, q6⟩ := forL_inv (g := setN 6) (f := badA) (fun k e => ∃ t2 t6, e = [s0, s1, t2, .own false d1, s4, .val (.int good), t6, s7, s8, s9] ∧ t2.isLk = false ∧ t6.isLk = false)
    (e := [s0, s1, s2, .own false d1, s4, .val (.int good), s6, s7, s8, s9]) (xs := [.non, .bl true, .bl false, .int (-1), .int (-1440), .str "0", .str "", .tup [.int 0], .lst [.int 0], .dct [] [], .int (-1 - r), .tup [.tup [.int 0]]]) (k := 0) (fun i y e hy ⟨t2, t6, he, g2, g6⟩ => by
      subst he
      have hm := List.mem_of_getElem? hy
      have hb : NoI y := by
        simp only [List.mem_cons, List.not_mem_nil, or_false] at hm
        rcases hm with rfl | rfl | rfl | rfl | rfl | rfl | rfl | rfl | rfl | rfl | rfl | rfl
        · exact noI_of rfl t_ni
        · exact .inr (.inl ⟨_, rfl⟩)
        · exact .inr (.inl ⟨_, rfl⟩)
        · exact .inl ⟨_, by decide, rfl⟩
        · exact .inl ⟨_, by decide, rfl⟩
        · exact noI_of rfl t_si
        · exact noI_of rfl t_si
        · exact noI_of rfl t_ti
        · exact noI_of rfl t_li
        · exact noI_of rfl t_di
        · exact .inl ⟨_, by omega, rfl⟩
        · exact noI_of rfl t_ti
      exact ⟨[s0, s1, t2, .own false d1, s4, .val (.int good), .val y, s7, s8, s9], _, by simp [g6], badA_ok hb g2 k9, _, .val y, rfl, rfl, rfl⟩) ⟨s2, s6, rfl, k2, k6⟩
  refine ⟨d1, t2, t6, ?_, s1', q2, q6⟩
  have it : itA [s0, s1, s2, .own false d, s4, .val (.int good), s6, s7, s8, s9] = .ok ([.non, .bl true, .bl false, .int (-1), .int (-1440), .str "0", .str "", .tup [.int 0], .lst [.int 0], .dct [] [], .int (-1 - r), .tup [.tup [.int 0]]], none) [s0, s1, s2, .own false d1, s4, .val (.int good), s6, s7, s8, s9] := by
    simp [itA, i39, c1]
  unfold loopA
  rw [u_dFor, it]
  simp only [u_stm, h1]
theorem neg1 : NoI (.int (-1)) := .inl ⟨_, by decide, rfl⟩
theorem badB_ok {x : D} {good : Nat} (h : NoM x) :
    badB [s0, s1, s2, s3, s4, .val (.int good), .val x, s7, s8, s9] = .nx [s0, s1, s2, s3, s4, .val (.int good), .val x, s7, s8, s9] := by
  obtain ⟨b4, e4, h4⟩ := told3d (m := x) neg1
  obtain ⟨b5, e5, h5⟩ := told3m good h
  have c4 := fun e => call3 (fresh := true) (e := e) h4 rfl
  have c5 := fun e => call3 (fresh := true) (e := e) h5 rfl
  simp [badB, c4, c5, ne_str o_minute o_minute, ne_str o_day o_day]
theorem loopB_ok {good : Nat} (s : Jug N d) (hN : N < 2 ^ 28) (k6 : s6.isLk = false) :
    ∃ d' t6, loopB [s0, s1, s2, .own false d, s4, .val (.int good), s6, s7, s8, s9] = .nx [s0, s1, s2, .own false d', s4, .val (.int good), t6, s7, s8, s9] ∧ Jug (N + 1) d' ∧ t6.isLk = false := by
  have i39 : D.pow (.int 10) (.int 39) = some (.int (10 ^ 39)) := pw p39
  have i40 : D.pow (.int 10) (.int 40) = some (.int (10 ^ 40)) := pw p40
  have n39 : (1 : Int) ≤ 10 ^ 39 ∧ ((10 : Int) ^ 39).natAbs.log2 < 9000 := by decide +kernel
  have n40 : (1440 : Int) ≤ 10 ^ 40 - 1 := by decide +kernel
  generalize hX : (10 : Int) ^ 39 = X at *
  generalize hY : (10 : Int) ^ 40 = Y at *
  obtain ⟨r, d1, a1, a2, s1', c⟩ := pour_call (n := X) (e := [s0, s1, s2, .own false d, s4, .val (.int good), s6, s7, s8, s9]) (i := 3) (p := false) rfl s (by omega) n39.1 n39.2
  have c1 : callR true l_pour_den [.s 3, .v (.int X)] [s0, s1, s2, .own false d, s4, .val (.int good), s6, s7, s8, s9] = .ok (.int r) [s0, s1, s2, .own false d1, s4, .val (.int good), s6, s7, s8, s9] := c
  obtain ⟨e', h1, t6, rfl, q6⟩ := forL_inv (g := setN 6) (f := badB) (fun k e => ∃ t6, e = [s0, s1, s2, .own false d1, s4, .val (.int good), t6, s7, s8, s9] ∧ t6.isLk = false)
    (e := [s0, s1, s2, .own false d1, s4, .val (.int good), s6, s7, s8, s9]) (xs := [.int 1440, .int 1441, .int (1440 + r), .int (Y - 1)]) (k := 0) (fun i y e hy ⟨t6, he, g6⟩ => by
      subst he
      have hm := List.mem_of_getElem? hy
      have hb : NoM y := by
        simp only [List.mem_cons, List.not_mem_nil, or_false] at hm
        rcases hm with rfl | rfl | rfl | rfl
        · exact .inr ⟨_, by decide, rfl⟩
        · exact .inr ⟨_, by decide, rfl⟩
        · exact .inr ⟨_, by omega, rfl⟩
        · exact .inr ⟨_, n40, rfl⟩
      exact ⟨[s0, s1, s2, .own false d1, s4, .val (.int good), .val y, s7, s8, s9], _, by simp [g6], badB_ok hb, .val y, rfl, rfl⟩) ⟨s6, rfl, k6⟩
  refine ⟨d1, t6, ?_, s1', q6⟩
  have it : itB [s0, s1, s2, .own false d, s4, .val (.int good), s6, s7, s8, s9] = .ok ([.int 1440, .int 1441, .int (1440 + r), .int (Y - 1)], none) [s0, s1, s2, .own false d1, s4, .val (.int good), s6, s7, s8, s9] := by
    simp [itB, i39, i40, c1]
  unfold loopB
  rw [u_dFor, it]
  simp only [u_stm, h1]
theorem seg_ok (s : Jug N d) (hN : N < 2 ^ 27) (k2 : s2.isLk = false) (k5 : s5.isLk = false) (k6 : s6.isLk = false) (k7 : s7.isLk = false) (k8 : s8.isLk = false) (k9 : plainS s9 = true) :
    ∃ d' t2 t5 t6 t7 t8, seg [s0, s1, s2, .own false d, s4, s5, s6, s7, s8, s9] = .nx [s0, s1, t2, .own false d', s4, t5, t6, t7, t8, s9] ∧ t2.isLk = false ∧ t5.isLk = false ∧ t6.isLk = false ∧ t7.isLk = false ∧ t8.isLk = false := by
  obtain ⟨t, d1, b, l, h1, j1, h3⟩ := moment_ok s (by omega)
  have c1 : callR true l_moment_den [.s 3] [s0, s1, s2, .own false d, s4, s5, s6, s7, s8, s9] = .ok (.int t) [s0, s1, s2, .own false d1, s4, s5, s6, s7, s8, s9] := callm1 (i := 3) (p := false) rfl h3 rfl
  have i40 : D.pow (.int 10) (.int 40) = some (.int (10 ^ 40)) := pw p40
  have n40 : (1 : Int) ≤ 10 ^ 40 - 9 ∧ ((10 : Int) ^ 40 - 9).natAbs.log2 < 9000 := by decide +kernel
  generalize hY : (10 : Int) ^ 40 = Y at *
  obtain ⟨r, d2, a1, a2, j2, c⟩ := pour_call (n := Y - 9) (e := [s0, s1, s2, .own false d1, s4, .val (.int t), s6, s7, s8, s9]) (i := 3) (p := false) rfl j1 (by omega) n40.1 n40.2
  have c2 : callR true l_pour_den [.s 3, .v (.int (Y - 9))] [s0, s1, s2, .own false d1, s4, .val (.int t), s6, s7, s8, s9] = .ok (.int r) [s0, s1, s2, .own false d2, s4, .val (.int t), s6, s7, s8, s9] := c
  obtain ⟨q, d3, a3, a4, j3, cc⟩ := pour_call (n := 1440) (e := [s0, s1, s2, .own false d2, s4, .val (.int t), s6, s7, s8, s9]) (i := 3) (p := false) rfl j2 (by omega) (by decide) (by decide +kernel)
  have c3 : callR true l_pour_den [.s 3, .v (.int 1440)] [s0, s1, s2, .own false d2, s4, .val (.int t), s6, s7, s8, s9] = .ok (.int q) [s0, s1, s2, .own false d3, s4, .val (.int t), s6, s7, s8, s9] := cc
  obtain ⟨r, rfl⟩ := Int.eq_ofNat_of_zero_le a1
  obtain ⟨q, rfl⟩ := Int.eq_ofNat_of_zero_le a3
  have c4 := fun e => call2 (fresh := true) (e := e) (timeat r q (by omega)) rfl
  have c5 := fun e => call1 (fresh := true) (e := e) (wkof r) rfl
  have m1 : D.mul (.int 1440) (.int (r : Int)) = some (.int (1440 * (r : Int))) := u_mulL (by decide) (by decide)
  have e1 : (1440 : Int) * (r : Int) + (q : Int) = ((1440 * r + q : Nat) : Int) := by omega
  have m2 : D.mod (.int ((r : Int) - ((r % 7 : Nat) : Int))) (.int 7) = some (.int 0) := by
    rw [u_modI (by decide)]
    have : ((r : Int) - ((r % 7 : Nat) : Int)) % 7 = 0 := by omega
    rw [this]
  obtain ⟨d4, t2, t6, l1, j4, q2, q6⟩ := loopA_ok (s0 := s0) (s1 := s1) (s2 := s2) (s4 := s4) (s6 := s6) (s7 := .val (.int r)) (s8 := .val (.int q)) (s9 := s9) (good := t) j3 (by omega) k2 k6 k9
  obtain ⟨d5, u6, l2, j5, w6⟩ := loopB_ok (s0 := s0) (s1 := s1) (s2 := t2) (s4 := s4) (s6 := t6) (s7 := .val (.int r)) (s8 := .val (.int q)) (s9 := s9) (good := t) j4 (by omega) q6
  refine ⟨d5, t2, .val (.int t), u6, .val (.int r), .val (.int q), ?_, q2, rfl, w6, rfl, rfl⟩
  generalize (r % 7 : Nat) = W at *
  generalize hTA : (1440 * r + q : Nat) = TA at *
  simp [seg, c1, k5, i40, c2, c3, valsO, k7, k8, c4, m1, e1, c5, m2, l1, l2]
theorem cell_ok (ns : List Int) (hz : ns.length ≤ 63) (k : Nat) (hk : k < 64) (k2 : s2.isLk = false) (k3 : s3.isLk = false) (k4 : s4.isLk = false) (k5 : s5.isLk = false) (k6 : s6.isLk = false) (k7 : s7.isLk = false) (k8 : s8.isLk = false) (k9 : plainS s9 = true) :
    ∃ t2 t3 t4 t5 t6 t7 t8, cellB [.val (.scr (ns.map D.int)), .val (.int k), s2, s3, s4, s5, s6, s7, s8, s9] = .nx [.val (.scr (ns.map D.int)), .val (.int k), t2, t3, t4, t5, t6, t7, t8, s9] ∧ t2.isLk = false ∧ t3.isLk = false ∧ t4.isLk = false ∧ t5.isLk = false ∧ t6.isLk = false ∧ t7.isLk = false ∧ t8.isLk = false := by
  obtain ⟨d, e, j1, j2⟩ := jug_ok ns k hk hz
  have c1 : ∀ {e : Rp.Env}, callR true l_jug_den [.v (.scr (ns.map D.int)), .v (.int k)] e = .ok d e := call2 j1 (by simp)
  obtain ⟨a, b, c, rfl, j3⟩ := id j2
  obtain ⟨d1, t4, h1, j4, q4⟩ := loop6_ok (s0 := .val (.scr (ns.map D.int))) (s1 := .val (.int k)) (s2 := s2) (s5 := s5) (s6 := s6) (s7 := s7) (s8 := s8) (s9 := s9) j2 (by decide) k4
  obtain ⟨d2, t2, t5, t6, t7, t8, h2, q2, q5, q6, q7, q8⟩ := seg_ok (s0 := .val (.scr (ns.map D.int))) (s1 := .val (.int k)) (s2 := s2) (s4 := t4) (s5 := s5) (s6 := s6) (s7 := s7) (s8 := s8) (s9 := s9) j4 (by decide) k2 k5 k6 k7 k8 k9
  exact ⟨t2, .own false d2, t4, t5, t6, t7, t8, by simp [cellB, c1, k3, h1, h2], q2, rfl, q4, q5, q6, q7, q8⟩
theorem tail_ok (k2 : s2.isLk = false) : ∃ b e, tail1 [s0, s1, s2, s3, s4, s5, s6, s7, s8, s9] = .rt (.bl true) b (s0 :: e) := by
  obtain ⟨b, e, h⟩ := classes_ok
  have c0 : ∀ e, callR true l_classes_right_den [] e = .ok (.bl true) e := fun e => by simp [callR, argsOf, lents, h, isLst, putBk]
  have c1 := fun e => call1 (fresh := true) (e := e) (dayof 1439) rfl
  have c2 := fun e => call1 (fresh := true) (e := e) (dayof 1440) rfl
  have c3 := fun e => call1 (fresh := true) (e := e) (minof 1439) rfl
  have c4 := fun e => call1 (fresh := true) (e := e) (wkof 0) rfl
  have c5 := fun e => call1 (fresh := true) (e := e) (wkof 13) rfl
  have c6 := fun e => call2 (fresh := true) (e := e) (timeat 3 425 (by decide)) rfl
  simp at c1 c2 c3 c4 c5 c6
  obtain ⟨S, r, o⟩ := rep_lst (ds := [.int 0, .int 1, .int 1439, .int 0, .int 6, .int 4745]) (by
    intro d hd
    simp only [List.mem_cons, List.not_mem_nil, or_false] at hd
    rcases hd with rfl | rfl | rfl | rfl | rfl | rfl
    · exact .inr ⟨0, by decide, rfl⟩
    · exact .inr ⟨1, by decide, rfl⟩
    · exact .inr ⟨1439, by decide, rfl⟩
    · exact .inr ⟨0, by decide, rfl⟩
    · exact .inr ⟨6, by decide, rfl⟩
    · exact .inr ⟨4745, by decide, rfl⟩) (by simp)
  apply Exists.intro
  apply Exists.intro
  simp [tail1, c1, c2, c3, c4, c5, c6, k2, r, eq_str o o, c0, D.truth]
  exact ⟨rfl, rfl⟩
end
theorem law_true (ns : List Int) (h1 : ns.length ≤ 63) (h2 : ∀ z ∈ ns, Builtin.Int.intBits z ≤ 1048576) : ∃ b e, law_den [.v (.scr (ns.map D.int))] = .rt (.bl true) b e := by
  obtain ⟨n, hn, hf⟩ : ∃ n : Nat, n ≤ 10 ∧ ∀ (s1 s2 s3 s4 s5 s6 s7 s8 s9 : Rp.Slot), (consA (asV (callD maxD (consA (asV (pureD (.int 1))) (consA (asV (callD minD (consA (asV (pureD (.int 10))) (consA (asV (callD lenD (consA (borO 0) nilA))) nilA)))) nilA)))) nilA) [.val (.scr (ns.map D.int)), s1, s2, s3, s4, s5, s6, s7, s8, s9] = .ok [.v (.int (n : Int))] [.val (.scr (ns.map D.int)), s1, s2, s3, s4, s5, s6, s7, s8, s9] := by
    refine ⟨max 1 (min 10 ns.length), by omega, ?_⟩
    intro s1 s2 s3 s4 s5 s6 s7 s8 s9
    simp [maxD, minD, lenD]
    omega
  have rr := rng1_at (n := n) (hf .no .no .no .no .no .no .no .no .no) (by omega)
  obtain ⟨e', l1, s1, s2, s3, s4, s5, s6, s7, s8, rfl, q2, q3, q4, q5, q6, q7, q8, q1⟩ := forL_inv (g := setN 1) (f := cellB) (fun k e => ∃ s1 s2 s3 s4 s5 s6 s7 s8, e = [.val (.scr (ns.map D.int)), s1, s2, s3, s4, s5, s6, s7, s8, .no] ∧ s2.isLk = false ∧ s3.isLk = false ∧ s4.isLk = false ∧ s5.isLk = false ∧ s6.isLk = false ∧ s7.isLk = false ∧ s8.isLk = false ∧ s1.isLk = false)
    (e := [.val (.scr (ns.map D.int)), .no, .no, .no, .no, .no, .no, .no, .no, .no]) (xs := rngL 0 n) (k := 0) (fun i y e hy ⟨s1, s2, s3, s4, s5, s6, s7, s8, he, k2, k3, k4, k5, k6, k7, k8, k1⟩ => by
      subst he
      have hi : i < n := by
        obtain ⟨z, _⟩ := List.getElem?_eq_some_iff.mp hy
        simpa [rngL] using z
      have hy' : y = .int (i : Int) := by
        unfold rngL at hy
        rw [List.getElem?_map, List.getElem?_range hi] at hy
        simp at hy
        rw [← hy]
      subst hy'
      obtain ⟨t2, t3, t4, t5, t6, t7, t8, b1, b2⟩ := cell_ok ns h1 i (by omega) (s9 := .no) k2 k3 k4 k5 k6 k7 k8 rfl
      exact ⟨[.val (.scr (ns.map D.int)), .val (.int (i : Int)), s2, s3, s4, s5, s6, s7, s8, .no], _, by simp [k1], b1, .val (.int (i : Int)), t2, t3, t4, t5, t6, t7, t8, rfl, b2.1, b2.2.1, b2.2.2.1, b2.2.2.2.1, b2.2.2.2.2.1, b2.2.2.2.2.2.1, b2.2.2.2.2.2.2, rfl⟩)
    ⟨.no, .no, .no, .no, .no, .no, .no, .no, rfl, rfl, rfl, rfl, rfl, rfl, rfl, rfl, rfl⟩
  have L1 : loop1 [.val (.scr (ns.map D.int)), .no, .no, .no, .no, .no, .no, .no, .no, .no] = .nx [.val (.scr (ns.map D.int)), s1, s2, s3, s4, s5, s6, s7, s8, .no] := by
    unfold loop1
    rw [u_dFor, rr]
    simp only [u_stm, l1]
  obtain ⟨b, e, t⟩ := tail_ok (s0 := .val (.scr (ns.map D.int))) (s1 := s1) (s3 := s3) (s4 := s4) (s5 := s5) (s6 := s6) (s7 := s7) (s8 := s8) (s9 := .no) q2
  refine ⟨b, .val (.scr (ns.map D.int)) :: e, ?_⟩
  show fnDen 10 1 law_b _ = _
  rw [u_fnDen, if_pos (by rfl), law_eq]
  show ((dSeq loop1 tail1) [.val (.scr (ns.map D.int)), .no, .no, .no, .no, .no, .no, .no, .no, .no]).chk _ = _
  rw [u_dSeq, L1, u_thn, t]
  simp [Res.chk, backsOk]
end K01
set_option Elab.async false
set_option linter.all false
set_option maxRecDepth 100000
set_option maxHeartbeats 0
/-! The head and the end, printed by end.py. -/
namespace K01
open PySem PySem.Spec PyProof.Rows L2 Rp
def d_is_integer : He.DefD := ⟨("is_integer", none), "is_integer", "is_integer", defArgs s_is_integer, defBody s_is_integer, defScope s_is_integer, [], []⟩
def d_check_time : He.DefD := ⟨("check_time", none), "check_time", "check_time", defArgs s_check_time, defBody s_check_time, defScope s_check_time, [], []⟩
def d_check_day : He.DefD := ⟨("check_day", none), "check_day", "check_day", defArgs s_check_day, defBody s_check_day, defScope s_check_day, [], []⟩
def d_day_of : He.DefD := ⟨("day_of", none), "day_of", "day_of", defArgs s_day_of, defBody s_day_of, defScope s_day_of, [], []⟩
def d_minute_of : He.DefD := ⟨("minute_of", none), "minute_of", "minute_of", defArgs s_minute_of, defBody s_minute_of, defScope s_minute_of, [], []⟩
def d_weekday_of : He.DefD := ⟨("weekday_of", none), "weekday_of", "weekday_of", defArgs s_weekday_of, defBody s_weekday_of, defScope s_weekday_of, [], []⟩
def d_time_at : He.DefD := ⟨("time_at", none), "time_at", "time_at", defArgs s_time_at, defBody s_time_at, defScope s_time_at, [], []⟩
def d_l_jug : He.DefD := ⟨("_law_jug", none), "_law_jug", "_law_jug", defArgs s_l_jug, defBody s_l_jug, defScope s_l_jug, [], []⟩
def d_l_pour : He.DefD := ⟨("_law_pour", none), "_law_pour", "_law_pour", defArgs s_l_pour, defBody s_l_pour, defScope s_l_pour, [], []⟩
def d_l_moment : He.DefD := ⟨("_law_moment", none), "_law_moment", "_law_moment", defArgs s_l_moment, defBody s_l_moment, defScope s_l_moment, [], []⟩
def d_l_word : He.DefD := ⟨("_law_word", none), "_law_word", "_law_word", defArgs s_l_word, defBody s_l_word, defScope s_l_word, [], []⟩
def d_l_marks : He.DefD := ⟨("_law_marks", none), "_law_marks", "_law_marks", defArgs s_l_marks, defBody s_l_marks, defScope s_l_marks, [], []⟩
def d_l_classes_right : He.DefD := ⟨("_law_classes_right", none), "_law_classes_right", "_law_classes_right", defArgs s_l_classes_right, defBody s_l_classes_right, defScope s_l_classes_right, [], []⟩
def d_l_told : He.DefD := ⟨("_law_told", none), "_law_told", "_law_told", defArgs s_l_told, defBody s_l_told, defScope s_l_told, [], []⟩
def d_l_right : He.DefD := ⟨("_law_right", none), "_law_right", "_law_right", defArgs s_l_right, defBody s_l_right, defScope s_l_right, [], []⟩
def d_law : He.DefD := ⟨("law", none), "law", "law", defArgs s_law, defBody s_law, defScope s_law, [], []⟩
abbrev si_BadJourney : Stmt := (clsBody (top 31)).getD 0 (.Pass ⟨0, 0, 0, 0⟩)
theorem sci_BadJourney : FnScope ["self", "index", "word"] ["self", "index", "word"] (defScope si_BadJourney) := ⟨rfl, rfl, rfl, by decide +kernel, rfl, by decide +kernel, by decide +kernel⟩
def di_BadJourney : He.DefD := ⟨("BadJourney", some "__init__"), "__init__", "BadJourney.__init__", defArgs si_BadJourney, defBody si_BadJourney, defScope si_BadJourney, [], []⟩
abbrev si_TooLate : Stmt := (clsBody (top 32)).getD 0 (.Pass ⟨0, 0, 0, 0⟩)
theorem sci_TooLate : FnScope ["self", "minutes"] ["self", "minutes"] (defScope si_TooLate) := ⟨rfl, rfl, rfl, by decide +kernel, rfl, by decide +kernel, by decide +kernel⟩
def di_TooLate : He.DefD := ⟨("TooLate", some "__init__"), "__init__", "TooLate.__init__", defArgs si_TooLate, defBody si_TooLate, defScope si_TooLate, [], []⟩
def fn : List He.DefD := [d_is_integer, d_check_time, d_check_day, d_day_of, d_minute_of, d_weekday_of, d_time_at, d_l_jug, d_l_pour, d_l_moment, d_l_word, d_l_marks, d_l_classes_right, d_l_told, d_l_right, d_law, di_BadJourney, di_TooLate]
def fa : List He.Fa := [.glo "is_integer", .glo "check_time", .glo "check_day", .glo "day_of", .glo "minute_of", .glo "weekday_of", .glo "time_at", .glo "_law_jug", .glo "_law_pour", .glo "_law_moment", .glo "_law_word", .glo "_law_marks", .glo "_law_classes_right", .glo "_law_told", .glo "_law_right", .glo "law", .glo "BadJourney", .glo "InvalidCalendar", .glo "InvalidCall", .glo "InvalidChange", .glo "InvalidChanges", .glo "InvalidDay", .glo "InvalidIndex", .glo "InvalidJourney", .glo "InvalidLateness", .glo "InvalidList", .glo "InvalidMessages", .glo "InvalidMinute", .glo "InvalidNumber", .glo "InvalidProfile", .glo "InvalidRide", .glo "InvalidSpan", .glo "InvalidStop", .glo "InvalidText", .glo "InvalidTime", .glo "InvalidTrip", .glo "InvalidWaits", .glo "NotANetwork", .glo "NotARun", .glo "NotAStaircase", .glo "NotATimetable", .glo "NotAllowed", .glo "NothingToUndo", .glo "OtherSpan", .glo "OtherStops", .glo "RideError", .glo "TooLate", .glo "WaitingRing", .free "ValueError", .free "abs", .free "bool", .free "enumerate", .free "int", .free "isinstance", .free "len", .free "max", .free "min", .free "range", .free "repr", .int "DAY" 1440, .exc "InvalidCalendar", .exc "InvalidCall", .exc "InvalidChange", .exc "InvalidChanges", .exc "InvalidDay", .exc "InvalidIndex", .exc "InvalidJourney", .exc "InvalidLateness", .exc "InvalidList", .exc "InvalidMessages", .exc "InvalidMinute", .exc "InvalidNumber", .exc "InvalidProfile", .exc "InvalidRide", .exc "InvalidSpan", .exc "InvalidStop", .exc "InvalidText", .exc "InvalidTime", .exc "InvalidTrip", .exc "InvalidWaits", .exc "NotANetwork", .exc "NotARun", .exc "NotAStaircase", .exc "NotATimetable", .exc "NotAllowed", .exc "NothingToUndo", .exc "OtherSpan", .exc "OtherStops", .exc "WaitingRing", .noat "BadJourney" "index", .noat "BadJourney" "word", .noat "TooLate" "minutes", .exm "InvalidDay" "RideError" true, .exm "InvalidMinute" "RideError" true, .exm "InvalidTime" "RideError" true]
def fx : List (PySem.W.Frag → Bool) := [excB "InvalidDay", kitT "InvalidDay" "ValueError" true, excB "InvalidMinute", kitT "InvalidMinute" "ValueError" true, excB "InvalidTime", kitT "InvalidTime" "ValueError" true, kitB "InvalidDay" "BadJourney" false, kitB "InvalidDay" "InvalidCalendar" false, kitB "InvalidDay" "InvalidCall" false, kitB "InvalidDay" "InvalidChange" false, kitB "InvalidDay" "InvalidChanges" false, kitB "InvalidDay" "InvalidDay" true, kitB "InvalidDay" "InvalidIndex" false, kitB "InvalidDay" "InvalidJourney" false, kitB "InvalidDay" "InvalidLateness" false, kitB "InvalidDay" "InvalidList" false, kitB "InvalidDay" "InvalidMessages" false, kitB "InvalidDay" "InvalidMinute" false, kitB "InvalidDay" "InvalidNumber" false, kitB "InvalidDay" "InvalidProfile" false, kitB "InvalidDay" "InvalidRide" false, kitB "InvalidDay" "InvalidSpan" false, kitB "InvalidDay" "InvalidStop" false, kitB "InvalidDay" "InvalidText" false, kitB "InvalidDay" "InvalidTime" false, kitB "InvalidDay" "InvalidTrip" false, kitB "InvalidDay" "InvalidWaits" false, kitB "InvalidDay" "NotANetwork" false, kitB "InvalidDay" "NotARun" false, kitB "InvalidDay" "NotAStaircase" false, kitB "InvalidDay" "NotATimetable" false, kitB "InvalidDay" "NotAllowed" false, kitB "InvalidDay" "NothingToUndo" false, kitB "InvalidDay" "OtherSpan" false, kitB "InvalidDay" "OtherStops" false, kitB "InvalidDay" "TooLate" false, kitB "InvalidDay" "WaitingRing" false, kitB "InvalidMinute" "BadJourney" false, kitB "InvalidMinute" "InvalidCalendar" false, kitB "InvalidMinute" "InvalidCall" false, kitB "InvalidMinute" "InvalidChange" false, kitB "InvalidMinute" "InvalidChanges" false, kitB "InvalidMinute" "InvalidDay" false, kitB "InvalidMinute" "InvalidIndex" false, kitB "InvalidMinute" "InvalidJourney" false, kitB "InvalidMinute" "InvalidLateness" false, kitB "InvalidMinute" "InvalidList" false, kitB "InvalidMinute" "InvalidMessages" false, kitB "InvalidMinute" "InvalidMinute" true, kitB "InvalidMinute" "InvalidNumber" false, kitB "InvalidMinute" "InvalidProfile" false, kitB "InvalidMinute" "InvalidRide" false, kitB "InvalidMinute" "InvalidSpan" false, kitB "InvalidMinute" "InvalidStop" false, kitB "InvalidMinute" "InvalidText" false, kitB "InvalidMinute" "InvalidTime" false, kitB "InvalidMinute" "InvalidTrip" false, kitB "InvalidMinute" "InvalidWaits" false, kitB "InvalidMinute" "NotANetwork" false, kitB "InvalidMinute" "NotARun" false, kitB "InvalidMinute" "NotAStaircase" false, kitB "InvalidMinute" "NotATimetable" false, kitB "InvalidMinute" "NotAllowed" false, kitB "InvalidMinute" "NothingToUndo" false, kitB "InvalidMinute" "OtherSpan" false, kitB "InvalidMinute" "OtherStops" false, kitB "InvalidMinute" "TooLate" false, kitB "InvalidMinute" "WaitingRing" false, kitB "InvalidTime" "BadJourney" false, kitB "InvalidTime" "InvalidCalendar" false, kitB "InvalidTime" "InvalidCall" false, kitB "InvalidTime" "InvalidChange" false, kitB "InvalidTime" "InvalidChanges" false, kitB "InvalidTime" "InvalidDay" false, kitB "InvalidTime" "InvalidIndex" false, kitB "InvalidTime" "InvalidJourney" false, kitB "InvalidTime" "InvalidLateness" false, kitB "InvalidTime" "InvalidList" false, kitB "InvalidTime" "InvalidMessages" false, kitB "InvalidTime" "InvalidMinute" false, kitB "InvalidTime" "InvalidNumber" false, kitB "InvalidTime" "InvalidProfile" false, kitB "InvalidTime" "InvalidRide" false, kitB "InvalidTime" "InvalidSpan" false, kitB "InvalidTime" "InvalidStop" false, kitB "InvalidTime" "InvalidText" false, kitB "InvalidTime" "InvalidTime" true, kitB "InvalidTime" "InvalidTrip" false, kitB "InvalidTime" "InvalidWaits" false, kitB "InvalidTime" "NotANetwork" false, kitB "InvalidTime" "NotARun" false, kitB "InvalidTime" "NotAStaircase" false, kitB "InvalidTime" "NotATimetable" false, kitB "InvalidTime" "NotAllowed" false, kitB "InvalidTime" "NothingToUndo" false, kitB "InvalidTime" "OtherSpan" false, kitB "InvalidTime" "OtherStops" false, kitB "InvalidTime" "TooLate" false, kitB "InvalidTime" "WaitingRing" false, vxB EXL, fxfB FLL, oexB "BadJourney", oexB "TooLate"]
def names : List Str := (["RideError", "InvalidTime", "InvalidDay", "InvalidMinute", "InvalidText", "InvalidCalendar", "InvalidIndex", "InvalidNumber", "NotANetwork", "InvalidStop", "InvalidTrip", "InvalidCall", "NotARun", "InvalidSpan", "InvalidJourney", "InvalidList", "InvalidProfile", "OtherSpan", "OtherStops", "InvalidMessages", "InvalidWaits", "WaitingRing", "InvalidRide", "InvalidLateness", "InvalidChanges", "InvalidChange", "NothingToUndo", "NotATimetable", "NotAStaircase", "NotAllowed"] : List Str) ++ (["BadJourney", "TooLate", "DAY", "is_integer", "check_time", "check_day", "day_of", "minute_of", "weekday_of", "time_at", "_law_jug", "_law_pour", "_law_moment", "_law_word", "_law_marks", "_law_classes_right", "_law_told", "_law_right"] : List Str)
abbrev R : PySem.W.OpenRow := PySem.W.OpenLaw.row PySem.Challenge.rw_rideplans_k01_times_and_days
abbrev hk : PySem.W.Hook := hookX 4 fx fa fn
def ob (s : PySem.W.SharedT) : Bool × He.AlD := obX 4 fx fa fn (HandSHeadRun.getT s)
theorem ob_eq (s : PySem.W.SharedT) : ob s = hk.obs s.abs := obX_eq (HandSHeadRun.getT_eq s)
theorem run (w : World) : HandSHeadRun.RunEq R (PySem.W.view R.prog [51]) hk ob 30000 names w := by
  intro os
  kernel_rfl
theorem wd {K : PySem.W.Frag} {h : Heap} {mg : Str → Option Value} (X : K.In h) (G : h.Ns mainGlobals mg) (cx : fx.all (fun c => c K) = true) (c : He.SaysD fa fn K) : Wd K mg where
  n_ValueError := He.free_ok X G (c.fact 48 (f := .free "ValueError") rfl)
  n_abs := He.free_ok X G (c.fact 49 (f := .free "abs") rfl)
  n_bool := He.free_ok X G (c.fact 50 (f := .free "bool") rfl)
  n_enumerate := He.free_ok X G (c.fact 51 (f := .free "enumerate") rfl)
  n_int := He.free_ok X G (c.fact 52 (f := .free "int") rfl)
  n_isinstance := He.free_ok X G (c.fact 53 (f := .free "isinstance") rfl)
  n_len := He.free_ok X G (c.fact 54 (f := .free "len") rfl)
  n_max := He.free_ok X G (c.fact 55 (f := .free "max") rfl)
  n_min := He.free_ok X G (c.fact 56 (f := .free "min") rfl)
  n_range := He.free_ok X G (c.fact 57 (f := .free "range") rfl)
  n_repr := He.free_ok X G (c.fact 58 (f := .free "repr") rfl)
  i_DAY := He.int_ok X G (c.fact 59 (f := .int "DAY" 1440) rfl)
  e_InvalidCalendar := by
    obtain ⟨a1, a2, a3, a4⟩ := He.exc_ok (c.fact 60 (f := .exc "InvalidCalendar") rfl)
    exact ⟨a1, He.glo_ok X G (c.fact 17 (f := .glo "InvalidCalendar") rfl), a2, a3, a4⟩
  e_InvalidCall := by
    obtain ⟨a1, a2, a3, a4⟩ := He.exc_ok (c.fact 61 (f := .exc "InvalidCall") rfl)
    exact ⟨a1, He.glo_ok X G (c.fact 18 (f := .glo "InvalidCall") rfl), a2, a3, a4⟩
  e_InvalidChange := by
    obtain ⟨a1, a2, a3, a4⟩ := He.exc_ok (c.fact 62 (f := .exc "InvalidChange") rfl)
    exact ⟨a1, He.glo_ok X G (c.fact 19 (f := .glo "InvalidChange") rfl), a2, a3, a4⟩
  e_InvalidChanges := by
    obtain ⟨a1, a2, a3, a4⟩ := He.exc_ok (c.fact 63 (f := .exc "InvalidChanges") rfl)
    exact ⟨a1, He.glo_ok X G (c.fact 20 (f := .glo "InvalidChanges") rfl), a2, a3, a4⟩
  e_InvalidDay := by
    obtain ⟨a1, a2, a3, a4⟩ := He.exc_ok (c.fact 64 (f := .exc "InvalidDay") rfl)
    exact ⟨a1, He.glo_ok X G (c.fact 21 (f := .glo "InvalidDay") rfl), a2, a3, a4⟩
  e_InvalidIndex := by
    obtain ⟨a1, a2, a3, a4⟩ := He.exc_ok (c.fact 65 (f := .exc "InvalidIndex") rfl)
    exact ⟨a1, He.glo_ok X G (c.fact 22 (f := .glo "InvalidIndex") rfl), a2, a3, a4⟩
  e_InvalidJourney := by
    obtain ⟨a1, a2, a3, a4⟩ := He.exc_ok (c.fact 66 (f := .exc "InvalidJourney") rfl)
    exact ⟨a1, He.glo_ok X G (c.fact 23 (f := .glo "InvalidJourney") rfl), a2, a3, a4⟩
  e_InvalidLateness := by
    obtain ⟨a1, a2, a3, a4⟩ := He.exc_ok (c.fact 67 (f := .exc "InvalidLateness") rfl)
    exact ⟨a1, He.glo_ok X G (c.fact 24 (f := .glo "InvalidLateness") rfl), a2, a3, a4⟩
  e_InvalidList := by
    obtain ⟨a1, a2, a3, a4⟩ := He.exc_ok (c.fact 68 (f := .exc "InvalidList") rfl)
    exact ⟨a1, He.glo_ok X G (c.fact 25 (f := .glo "InvalidList") rfl), a2, a3, a4⟩
  e_InvalidMessages := by
    obtain ⟨a1, a2, a3, a4⟩ := He.exc_ok (c.fact 69 (f := .exc "InvalidMessages") rfl)
    exact ⟨a1, He.glo_ok X G (c.fact 26 (f := .glo "InvalidMessages") rfl), a2, a3, a4⟩
  e_InvalidMinute := by
    obtain ⟨a1, a2, a3, a4⟩ := He.exc_ok (c.fact 70 (f := .exc "InvalidMinute") rfl)
    exact ⟨a1, He.glo_ok X G (c.fact 27 (f := .glo "InvalidMinute") rfl), a2, a3, a4⟩
  e_InvalidNumber := by
    obtain ⟨a1, a2, a3, a4⟩ := He.exc_ok (c.fact 71 (f := .exc "InvalidNumber") rfl)
    exact ⟨a1, He.glo_ok X G (c.fact 28 (f := .glo "InvalidNumber") rfl), a2, a3, a4⟩
  e_InvalidProfile := by
    obtain ⟨a1, a2, a3, a4⟩ := He.exc_ok (c.fact 72 (f := .exc "InvalidProfile") rfl)
    exact ⟨a1, He.glo_ok X G (c.fact 29 (f := .glo "InvalidProfile") rfl), a2, a3, a4⟩
  e_InvalidRide := by
    obtain ⟨a1, a2, a3, a4⟩ := He.exc_ok (c.fact 73 (f := .exc "InvalidRide") rfl)
    exact ⟨a1, He.glo_ok X G (c.fact 30 (f := .glo "InvalidRide") rfl), a2, a3, a4⟩
  e_InvalidSpan := by
    obtain ⟨a1, a2, a3, a4⟩ := He.exc_ok (c.fact 74 (f := .exc "InvalidSpan") rfl)
    exact ⟨a1, He.glo_ok X G (c.fact 31 (f := .glo "InvalidSpan") rfl), a2, a3, a4⟩
  e_InvalidStop := by
    obtain ⟨a1, a2, a3, a4⟩ := He.exc_ok (c.fact 75 (f := .exc "InvalidStop") rfl)
    exact ⟨a1, He.glo_ok X G (c.fact 32 (f := .glo "InvalidStop") rfl), a2, a3, a4⟩
  e_InvalidText := by
    obtain ⟨a1, a2, a3, a4⟩ := He.exc_ok (c.fact 76 (f := .exc "InvalidText") rfl)
    exact ⟨a1, He.glo_ok X G (c.fact 33 (f := .glo "InvalidText") rfl), a2, a3, a4⟩
  e_InvalidTime := by
    obtain ⟨a1, a2, a3, a4⟩ := He.exc_ok (c.fact 77 (f := .exc "InvalidTime") rfl)
    exact ⟨a1, He.glo_ok X G (c.fact 34 (f := .glo "InvalidTime") rfl), a2, a3, a4⟩
  e_InvalidTrip := by
    obtain ⟨a1, a2, a3, a4⟩ := He.exc_ok (c.fact 78 (f := .exc "InvalidTrip") rfl)
    exact ⟨a1, He.glo_ok X G (c.fact 35 (f := .glo "InvalidTrip") rfl), a2, a3, a4⟩
  e_InvalidWaits := by
    obtain ⟨a1, a2, a3, a4⟩ := He.exc_ok (c.fact 79 (f := .exc "InvalidWaits") rfl)
    exact ⟨a1, He.glo_ok X G (c.fact 36 (f := .glo "InvalidWaits") rfl), a2, a3, a4⟩
  e_NotANetwork := by
    obtain ⟨a1, a2, a3, a4⟩ := He.exc_ok (c.fact 80 (f := .exc "NotANetwork") rfl)
    exact ⟨a1, He.glo_ok X G (c.fact 37 (f := .glo "NotANetwork") rfl), a2, a3, a4⟩
  e_NotARun := by
    obtain ⟨a1, a2, a3, a4⟩ := He.exc_ok (c.fact 81 (f := .exc "NotARun") rfl)
    exact ⟨a1, He.glo_ok X G (c.fact 38 (f := .glo "NotARun") rfl), a2, a3, a4⟩
  e_NotAStaircase := by
    obtain ⟨a1, a2, a3, a4⟩ := He.exc_ok (c.fact 82 (f := .exc "NotAStaircase") rfl)
    exact ⟨a1, He.glo_ok X G (c.fact 39 (f := .glo "NotAStaircase") rfl), a2, a3, a4⟩
  e_NotATimetable := by
    obtain ⟨a1, a2, a3, a4⟩ := He.exc_ok (c.fact 83 (f := .exc "NotATimetable") rfl)
    exact ⟨a1, He.glo_ok X G (c.fact 40 (f := .glo "NotATimetable") rfl), a2, a3, a4⟩
  e_NotAllowed := by
    obtain ⟨a1, a2, a3, a4⟩ := He.exc_ok (c.fact 84 (f := .exc "NotAllowed") rfl)
    exact ⟨a1, He.glo_ok X G (c.fact 41 (f := .glo "NotAllowed") rfl), a2, a3, a4⟩
  e_NothingToUndo := by
    obtain ⟨a1, a2, a3, a4⟩ := He.exc_ok (c.fact 85 (f := .exc "NothingToUndo") rfl)
    exact ⟨a1, He.glo_ok X G (c.fact 42 (f := .glo "NothingToUndo") rfl), a2, a3, a4⟩
  e_OtherSpan := by
    obtain ⟨a1, a2, a3, a4⟩ := He.exc_ok (c.fact 86 (f := .exc "OtherSpan") rfl)
    exact ⟨a1, He.glo_ok X G (c.fact 43 (f := .glo "OtherSpan") rfl), a2, a3, a4⟩
  e_OtherStops := by
    obtain ⟨a1, a2, a3, a4⟩ := He.exc_ok (c.fact 87 (f := .exc "OtherStops") rfl)
    exact ⟨a1, He.glo_ok X G (c.fact 44 (f := .glo "OtherStops") rfl), a2, a3, a4⟩
  e_WaitingRing := by
    obtain ⟨a1, a2, a3, a4⟩ := He.exc_ok (c.fact 88 (f := .exc "WaitingRing") rfl)
    exact ⟨a1, He.glo_ok X G (c.fact 47 (f := .glo "WaitingRing") rfl), a2, a3, a4⟩
  g_BadJourney := He.glo_ok X G (c.fact 16 (f := .glo "BadJourney") rfl)
  g_InvalidCalendar := He.glo_ok X G (c.fact 17 (f := .glo "InvalidCalendar") rfl)
  g_InvalidCall := He.glo_ok X G (c.fact 18 (f := .glo "InvalidCall") rfl)
  g_InvalidChange := He.glo_ok X G (c.fact 19 (f := .glo "InvalidChange") rfl)
  g_InvalidChanges := He.glo_ok X G (c.fact 20 (f := .glo "InvalidChanges") rfl)
  g_InvalidDay := He.glo_ok X G (c.fact 21 (f := .glo "InvalidDay") rfl)
  g_InvalidIndex := He.glo_ok X G (c.fact 22 (f := .glo "InvalidIndex") rfl)
  g_InvalidJourney := He.glo_ok X G (c.fact 23 (f := .glo "InvalidJourney") rfl)
  g_InvalidLateness := He.glo_ok X G (c.fact 24 (f := .glo "InvalidLateness") rfl)
  g_InvalidList := He.glo_ok X G (c.fact 25 (f := .glo "InvalidList") rfl)
  g_InvalidMessages := He.glo_ok X G (c.fact 26 (f := .glo "InvalidMessages") rfl)
  g_InvalidMinute := He.glo_ok X G (c.fact 27 (f := .glo "InvalidMinute") rfl)
  g_InvalidNumber := He.glo_ok X G (c.fact 28 (f := .glo "InvalidNumber") rfl)
  g_InvalidProfile := He.glo_ok X G (c.fact 29 (f := .glo "InvalidProfile") rfl)
  g_InvalidRide := He.glo_ok X G (c.fact 30 (f := .glo "InvalidRide") rfl)
  g_InvalidSpan := He.glo_ok X G (c.fact 31 (f := .glo "InvalidSpan") rfl)
  g_InvalidStop := He.glo_ok X G (c.fact 32 (f := .glo "InvalidStop") rfl)
  g_InvalidText := He.glo_ok X G (c.fact 33 (f := .glo "InvalidText") rfl)
  g_InvalidTime := He.glo_ok X G (c.fact 34 (f := .glo "InvalidTime") rfl)
  g_InvalidTrip := He.glo_ok X G (c.fact 35 (f := .glo "InvalidTrip") rfl)
  g_InvalidWaits := He.glo_ok X G (c.fact 36 (f := .glo "InvalidWaits") rfl)
  g_NotANetwork := He.glo_ok X G (c.fact 37 (f := .glo "NotANetwork") rfl)
  g_NotARun := He.glo_ok X G (c.fact 38 (f := .glo "NotARun") rfl)
  g_NotAStaircase := He.glo_ok X G (c.fact 39 (f := .glo "NotAStaircase") rfl)
  g_NotATimetable := He.glo_ok X G (c.fact 40 (f := .glo "NotATimetable") rfl)
  g_NotAllowed := He.glo_ok X G (c.fact 41 (f := .glo "NotAllowed") rfl)
  g_NothingToUndo := He.glo_ok X G (c.fact 42 (f := .glo "NothingToUndo") rfl)
  g_OtherSpan := He.glo_ok X G (c.fact 43 (f := .glo "OtherSpan") rfl)
  g_OtherStops := He.glo_ok X G (c.fact 44 (f := .glo "OtherStops") rfl)
  g_RideError := He.glo_ok X G (c.fact 45 (f := .glo "RideError") rfl)
  g_TooLate := He.glo_ok X G (c.fact 46 (f := .glo "TooLate") rfl)
  g_WaitingRing := He.glo_ok X G (c.fact 47 (f := .glo "WaitingRing") rfl)
  x_InvalidDay := excB_ok (fx_ok cx 0 (c := excB "InvalidDay") rfl)
  m_InvalidDay := He.exm_ok (c.fact 92 (f := .exm "InvalidDay" "RideError" true) rfl)
  t_InvalidDay := kitT_ok (fx_ok cx 1 (c := kitT "InvalidDay" "ValueError" true) rfl)
  x_InvalidMinute := excB_ok (fx_ok cx 2 (c := excB "InvalidMinute") rfl)
  m_InvalidMinute := He.exm_ok (c.fact 93 (f := .exm "InvalidMinute" "RideError" true) rfl)
  t_InvalidMinute := kitT_ok (fx_ok cx 3 (c := kitT "InvalidMinute" "ValueError" true) rfl)
  x_InvalidTime := excB_ok (fx_ok cx 4 (c := excB "InvalidTime") rfl)
  m_InvalidTime := He.exm_ok (c.fact 94 (f := .exm "InvalidTime" "RideError" true) rfl)
  t_InvalidTime := kitT_ok (fx_ok cx 5 (c := kitT "InvalidTime" "ValueError" true) rfl)
  k_InvalidDay_BadJourney := kitB_ok (fx_ok cx 6 (c := kitB "InvalidDay" "BadJourney" false) rfl)
  k_InvalidDay_InvalidCalendar := kitB_ok (fx_ok cx 7 (c := kitB "InvalidDay" "InvalidCalendar" false) rfl)
  k_InvalidDay_InvalidCall := kitB_ok (fx_ok cx 8 (c := kitB "InvalidDay" "InvalidCall" false) rfl)
  k_InvalidDay_InvalidChange := kitB_ok (fx_ok cx 9 (c := kitB "InvalidDay" "InvalidChange" false) rfl)
  k_InvalidDay_InvalidChanges := kitB_ok (fx_ok cx 10 (c := kitB "InvalidDay" "InvalidChanges" false) rfl)
  k_InvalidDay_InvalidDay := kitB_ok (fx_ok cx 11 (c := kitB "InvalidDay" "InvalidDay" true) rfl)
  k_InvalidDay_InvalidIndex := kitB_ok (fx_ok cx 12 (c := kitB "InvalidDay" "InvalidIndex" false) rfl)
  k_InvalidDay_InvalidJourney := kitB_ok (fx_ok cx 13 (c := kitB "InvalidDay" "InvalidJourney" false) rfl)
  k_InvalidDay_InvalidLateness := kitB_ok (fx_ok cx 14 (c := kitB "InvalidDay" "InvalidLateness" false) rfl)
  k_InvalidDay_InvalidList := kitB_ok (fx_ok cx 15 (c := kitB "InvalidDay" "InvalidList" false) rfl)
  k_InvalidDay_InvalidMessages := kitB_ok (fx_ok cx 16 (c := kitB "InvalidDay" "InvalidMessages" false) rfl)
  k_InvalidDay_InvalidMinute := kitB_ok (fx_ok cx 17 (c := kitB "InvalidDay" "InvalidMinute" false) rfl)
  k_InvalidDay_InvalidNumber := kitB_ok (fx_ok cx 18 (c := kitB "InvalidDay" "InvalidNumber" false) rfl)
  k_InvalidDay_InvalidProfile := kitB_ok (fx_ok cx 19 (c := kitB "InvalidDay" "InvalidProfile" false) rfl)
  k_InvalidDay_InvalidRide := kitB_ok (fx_ok cx 20 (c := kitB "InvalidDay" "InvalidRide" false) rfl)
  k_InvalidDay_InvalidSpan := kitB_ok (fx_ok cx 21 (c := kitB "InvalidDay" "InvalidSpan" false) rfl)
  k_InvalidDay_InvalidStop := kitB_ok (fx_ok cx 22 (c := kitB "InvalidDay" "InvalidStop" false) rfl)
  k_InvalidDay_InvalidText := kitB_ok (fx_ok cx 23 (c := kitB "InvalidDay" "InvalidText" false) rfl)
  k_InvalidDay_InvalidTime := kitB_ok (fx_ok cx 24 (c := kitB "InvalidDay" "InvalidTime" false) rfl)
  k_InvalidDay_InvalidTrip := kitB_ok (fx_ok cx 25 (c := kitB "InvalidDay" "InvalidTrip" false) rfl)
  k_InvalidDay_InvalidWaits := kitB_ok (fx_ok cx 26 (c := kitB "InvalidDay" "InvalidWaits" false) rfl)
  k_InvalidDay_NotANetwork := kitB_ok (fx_ok cx 27 (c := kitB "InvalidDay" "NotANetwork" false) rfl)
  k_InvalidDay_NotARun := kitB_ok (fx_ok cx 28 (c := kitB "InvalidDay" "NotARun" false) rfl)
  k_InvalidDay_NotAStaircase := kitB_ok (fx_ok cx 29 (c := kitB "InvalidDay" "NotAStaircase" false) rfl)
  k_InvalidDay_NotATimetable := kitB_ok (fx_ok cx 30 (c := kitB "InvalidDay" "NotATimetable" false) rfl)
  k_InvalidDay_NotAllowed := kitB_ok (fx_ok cx 31 (c := kitB "InvalidDay" "NotAllowed" false) rfl)
  k_InvalidDay_NothingToUndo := kitB_ok (fx_ok cx 32 (c := kitB "InvalidDay" "NothingToUndo" false) rfl)
  k_InvalidDay_OtherSpan := kitB_ok (fx_ok cx 33 (c := kitB "InvalidDay" "OtherSpan" false) rfl)
  k_InvalidDay_OtherStops := kitB_ok (fx_ok cx 34 (c := kitB "InvalidDay" "OtherStops" false) rfl)
  k_InvalidDay_TooLate := kitB_ok (fx_ok cx 35 (c := kitB "InvalidDay" "TooLate" false) rfl)
  k_InvalidDay_WaitingRing := kitB_ok (fx_ok cx 36 (c := kitB "InvalidDay" "WaitingRing" false) rfl)
  k_InvalidMinute_BadJourney := kitB_ok (fx_ok cx 37 (c := kitB "InvalidMinute" "BadJourney" false) rfl)
  k_InvalidMinute_InvalidCalendar := kitB_ok (fx_ok cx 38 (c := kitB "InvalidMinute" "InvalidCalendar" false) rfl)
  k_InvalidMinute_InvalidCall := kitB_ok (fx_ok cx 39 (c := kitB "InvalidMinute" "InvalidCall" false) rfl)
  k_InvalidMinute_InvalidChange := kitB_ok (fx_ok cx 40 (c := kitB "InvalidMinute" "InvalidChange" false) rfl)
  k_InvalidMinute_InvalidChanges := kitB_ok (fx_ok cx 41 (c := kitB "InvalidMinute" "InvalidChanges" false) rfl)
  k_InvalidMinute_InvalidDay := kitB_ok (fx_ok cx 42 (c := kitB "InvalidMinute" "InvalidDay" false) rfl)
  k_InvalidMinute_InvalidIndex := kitB_ok (fx_ok cx 43 (c := kitB "InvalidMinute" "InvalidIndex" false) rfl)
  k_InvalidMinute_InvalidJourney := kitB_ok (fx_ok cx 44 (c := kitB "InvalidMinute" "InvalidJourney" false) rfl)
  k_InvalidMinute_InvalidLateness := kitB_ok (fx_ok cx 45 (c := kitB "InvalidMinute" "InvalidLateness" false) rfl)
  k_InvalidMinute_InvalidList := kitB_ok (fx_ok cx 46 (c := kitB "InvalidMinute" "InvalidList" false) rfl)
  k_InvalidMinute_InvalidMessages := kitB_ok (fx_ok cx 47 (c := kitB "InvalidMinute" "InvalidMessages" false) rfl)
  k_InvalidMinute_InvalidMinute := kitB_ok (fx_ok cx 48 (c := kitB "InvalidMinute" "InvalidMinute" true) rfl)
  k_InvalidMinute_InvalidNumber := kitB_ok (fx_ok cx 49 (c := kitB "InvalidMinute" "InvalidNumber" false) rfl)
  k_InvalidMinute_InvalidProfile := kitB_ok (fx_ok cx 50 (c := kitB "InvalidMinute" "InvalidProfile" false) rfl)
  k_InvalidMinute_InvalidRide := kitB_ok (fx_ok cx 51 (c := kitB "InvalidMinute" "InvalidRide" false) rfl)
  k_InvalidMinute_InvalidSpan := kitB_ok (fx_ok cx 52 (c := kitB "InvalidMinute" "InvalidSpan" false) rfl)
  k_InvalidMinute_InvalidStop := kitB_ok (fx_ok cx 53 (c := kitB "InvalidMinute" "InvalidStop" false) rfl)
  k_InvalidMinute_InvalidText := kitB_ok (fx_ok cx 54 (c := kitB "InvalidMinute" "InvalidText" false) rfl)
  k_InvalidMinute_InvalidTime := kitB_ok (fx_ok cx 55 (c := kitB "InvalidMinute" "InvalidTime" false) rfl)
  k_InvalidMinute_InvalidTrip := kitB_ok (fx_ok cx 56 (c := kitB "InvalidMinute" "InvalidTrip" false) rfl)
  k_InvalidMinute_InvalidWaits := kitB_ok (fx_ok cx 57 (c := kitB "InvalidMinute" "InvalidWaits" false) rfl)
  k_InvalidMinute_NotANetwork := kitB_ok (fx_ok cx 58 (c := kitB "InvalidMinute" "NotANetwork" false) rfl)
  k_InvalidMinute_NotARun := kitB_ok (fx_ok cx 59 (c := kitB "InvalidMinute" "NotARun" false) rfl)
  k_InvalidMinute_NotAStaircase := kitB_ok (fx_ok cx 60 (c := kitB "InvalidMinute" "NotAStaircase" false) rfl)
  k_InvalidMinute_NotATimetable := kitB_ok (fx_ok cx 61 (c := kitB "InvalidMinute" "NotATimetable" false) rfl)
  k_InvalidMinute_NotAllowed := kitB_ok (fx_ok cx 62 (c := kitB "InvalidMinute" "NotAllowed" false) rfl)
  k_InvalidMinute_NothingToUndo := kitB_ok (fx_ok cx 63 (c := kitB "InvalidMinute" "NothingToUndo" false) rfl)
  k_InvalidMinute_OtherSpan := kitB_ok (fx_ok cx 64 (c := kitB "InvalidMinute" "OtherSpan" false) rfl)
  k_InvalidMinute_OtherStops := kitB_ok (fx_ok cx 65 (c := kitB "InvalidMinute" "OtherStops" false) rfl)
  k_InvalidMinute_TooLate := kitB_ok (fx_ok cx 66 (c := kitB "InvalidMinute" "TooLate" false) rfl)
  k_InvalidMinute_WaitingRing := kitB_ok (fx_ok cx 67 (c := kitB "InvalidMinute" "WaitingRing" false) rfl)
  k_InvalidTime_BadJourney := kitB_ok (fx_ok cx 68 (c := kitB "InvalidTime" "BadJourney" false) rfl)
  k_InvalidTime_InvalidCalendar := kitB_ok (fx_ok cx 69 (c := kitB "InvalidTime" "InvalidCalendar" false) rfl)
  k_InvalidTime_InvalidCall := kitB_ok (fx_ok cx 70 (c := kitB "InvalidTime" "InvalidCall" false) rfl)
  k_InvalidTime_InvalidChange := kitB_ok (fx_ok cx 71 (c := kitB "InvalidTime" "InvalidChange" false) rfl)
  k_InvalidTime_InvalidChanges := kitB_ok (fx_ok cx 72 (c := kitB "InvalidTime" "InvalidChanges" false) rfl)
  k_InvalidTime_InvalidDay := kitB_ok (fx_ok cx 73 (c := kitB "InvalidTime" "InvalidDay" false) rfl)
  k_InvalidTime_InvalidIndex := kitB_ok (fx_ok cx 74 (c := kitB "InvalidTime" "InvalidIndex" false) rfl)
  k_InvalidTime_InvalidJourney := kitB_ok (fx_ok cx 75 (c := kitB "InvalidTime" "InvalidJourney" false) rfl)
  k_InvalidTime_InvalidLateness := kitB_ok (fx_ok cx 76 (c := kitB "InvalidTime" "InvalidLateness" false) rfl)
  k_InvalidTime_InvalidList := kitB_ok (fx_ok cx 77 (c := kitB "InvalidTime" "InvalidList" false) rfl)
  k_InvalidTime_InvalidMessages := kitB_ok (fx_ok cx 78 (c := kitB "InvalidTime" "InvalidMessages" false) rfl)
  k_InvalidTime_InvalidMinute := kitB_ok (fx_ok cx 79 (c := kitB "InvalidTime" "InvalidMinute" false) rfl)
  k_InvalidTime_InvalidNumber := kitB_ok (fx_ok cx 80 (c := kitB "InvalidTime" "InvalidNumber" false) rfl)
  k_InvalidTime_InvalidProfile := kitB_ok (fx_ok cx 81 (c := kitB "InvalidTime" "InvalidProfile" false) rfl)
  k_InvalidTime_InvalidRide := kitB_ok (fx_ok cx 82 (c := kitB "InvalidTime" "InvalidRide" false) rfl)
  k_InvalidTime_InvalidSpan := kitB_ok (fx_ok cx 83 (c := kitB "InvalidTime" "InvalidSpan" false) rfl)
  k_InvalidTime_InvalidStop := kitB_ok (fx_ok cx 84 (c := kitB "InvalidTime" "InvalidStop" false) rfl)
  k_InvalidTime_InvalidText := kitB_ok (fx_ok cx 85 (c := kitB "InvalidTime" "InvalidText" false) rfl)
  k_InvalidTime_InvalidTime := kitB_ok (fx_ok cx 86 (c := kitB "InvalidTime" "InvalidTime" true) rfl)
  k_InvalidTime_InvalidTrip := kitB_ok (fx_ok cx 87 (c := kitB "InvalidTime" "InvalidTrip" false) rfl)
  k_InvalidTime_InvalidWaits := kitB_ok (fx_ok cx 88 (c := kitB "InvalidTime" "InvalidWaits" false) rfl)
  k_InvalidTime_NotANetwork := kitB_ok (fx_ok cx 89 (c := kitB "InvalidTime" "NotANetwork" false) rfl)
  k_InvalidTime_NotARun := kitB_ok (fx_ok cx 90 (c := kitB "InvalidTime" "NotARun" false) rfl)
  k_InvalidTime_NotAStaircase := kitB_ok (fx_ok cx 91 (c := kitB "InvalidTime" "NotAStaircase" false) rfl)
  k_InvalidTime_NotATimetable := kitB_ok (fx_ok cx 92 (c := kitB "InvalidTime" "NotATimetable" false) rfl)
  k_InvalidTime_NotAllowed := kitB_ok (fx_ok cx 93 (c := kitB "InvalidTime" "NotAllowed" false) rfl)
  k_InvalidTime_NothingToUndo := kitB_ok (fx_ok cx 94 (c := kitB "InvalidTime" "NothingToUndo" false) rfl)
  k_InvalidTime_OtherSpan := kitB_ok (fx_ok cx 95 (c := kitB "InvalidTime" "OtherSpan" false) rfl)
  k_InvalidTime_OtherStops := kitB_ok (fx_ok cx 96 (c := kitB "InvalidTime" "OtherStops" false) rfl)
  k_InvalidTime_TooLate := kitB_ok (fx_ok cx 97 (c := kitB "InvalidTime" "TooLate" false) rfl)
  k_InvalidTime_WaitingRing := kitB_ok (fx_ok cx 98 (c := kitB "InvalidTime" "WaitingRing" false) rfl)
  vx := vxB_ok (fx_ok cx 99 (c := vxB EXL) rfl)
  fx := fxfB_ok (fx_ok cx 100 (c := fxfB FLL) rfl)
theorem facts {P : Program} {w : World} {K : PySem.W.Frag} {h : Heap} {mg : Str → Option Value} {f : Addr} (X : K.In h) (G : h.Ns mainGlobals mg) (hfa : mg ("law" : Str) = some (.ref f)) (cx : fx.all (fun c => c K) = true) (c : He.SaysD fa fn K) :
    ∃ fd : FuncData, (∀ (s : Shared) (v : Value), BindsTo s fd ⟨[v], []⟩ [("_law_script", v)]) ∧ ∀ base : Heap, K.In base → base.Ns mainGlobals mg → base.NoDigits → FnG P w K mg base 5 f fd ["_law_script"] (spD K mg 1 law_den) := by
  have W := wd X G cx c
  obtain ⟨fd_is_integer, F_is_integer⟩ := c.def_ 0 (d := d_is_integer) rfl
  have g_is_integer := He.glo_ok X G (c.fact 0 (f := .glo "is_integer") rfl)
  obtain ⟨fd_check_time, F_check_time⟩ := c.def_ 1 (d := d_check_time) rfl
  have g_check_time := He.glo_ok X G (c.fact 1 (f := .glo "check_time") rfl)
  obtain ⟨fd_check_day, F_check_day⟩ := c.def_ 2 (d := d_check_day) rfl
  have g_check_day := He.glo_ok X G (c.fact 2 (f := .glo "check_day") rfl)
  obtain ⟨fd_day_of, F_day_of⟩ := c.def_ 3 (d := d_day_of) rfl
  have g_day_of := He.glo_ok X G (c.fact 3 (f := .glo "day_of") rfl)
  obtain ⟨fd_minute_of, F_minute_of⟩ := c.def_ 4 (d := d_minute_of) rfl
  have g_minute_of := He.glo_ok X G (c.fact 4 (f := .glo "minute_of") rfl)
  obtain ⟨fd_weekday_of, F_weekday_of⟩ := c.def_ 5 (d := d_weekday_of) rfl
  have g_weekday_of := He.glo_ok X G (c.fact 5 (f := .glo "weekday_of") rfl)
  obtain ⟨fd_time_at, F_time_at⟩ := c.def_ 6 (d := d_time_at) rfl
  have g_time_at := He.glo_ok X G (c.fact 6 (f := .glo "time_at") rfl)
  obtain ⟨fd_l_jug, F_l_jug⟩ := c.def_ 7 (d := d_l_jug) rfl
  have g_l_jug := He.glo_ok X G (c.fact 7 (f := .glo "_law_jug") rfl)
  obtain ⟨fd_l_pour, F_l_pour⟩ := c.def_ 8 (d := d_l_pour) rfl
  have g_l_pour := He.glo_ok X G (c.fact 8 (f := .glo "_law_pour") rfl)
  obtain ⟨fd_l_moment, F_l_moment⟩ := c.def_ 9 (d := d_l_moment) rfl
  have g_l_moment := He.glo_ok X G (c.fact 9 (f := .glo "_law_moment") rfl)
  obtain ⟨fd_l_word, F_l_word⟩ := c.def_ 10 (d := d_l_word) rfl
  have g_l_word := He.glo_ok X G (c.fact 10 (f := .glo "_law_word") rfl)
  obtain ⟨fd_l_marks, F_l_marks⟩ := c.def_ 11 (d := d_l_marks) rfl
  have g_l_marks := He.glo_ok X G (c.fact 11 (f := .glo "_law_marks") rfl)
  obtain ⟨fd_l_classes_right, F_l_classes_right⟩ := c.def_ 12 (d := d_l_classes_right) rfl
  have g_l_classes_right := He.glo_ok X G (c.fact 12 (f := .glo "_law_classes_right") rfl)
  obtain ⟨fd_l_told, F_l_told⟩ := c.def_ 13 (d := d_l_told) rfl
  have g_l_told := He.glo_ok X G (c.fact 13 (f := .glo "_law_told") rfl)
  obtain ⟨fd_l_right, F_l_right⟩ := c.def_ 14 (d := d_l_right) rfl
  have g_l_right := He.glo_ok X G (c.fact 14 (f := .glo "_law_right") rfl)
  obtain ⟨fd_law, F_law⟩ := c.def_ 15 (d := d_law) rfl
  have g_law := He.glo_ok X G (c.fact 15 (f := .glo "law") rfl)
  obtain ⟨fdi_BadJourney, Fi_BadJourney⟩ := c.def_ 16 (d := di_BadJourney) rfl
  have gi_BadJourney := He.glo_ok X G (c.fact 16 (f := .glo "BadJourney") rfl)
  have oi_BadJourney := oexB_ok (fx_ok cx 101 (c := oexB "BadJourney") rfl)
  have ni_BadJourney : ∀ base : Heap, FnOk P w K mg base (L2N.CX P w) 1 (He.ma K (He.ga K "BadJourney") "__init__") fdi_BadJourney ["self", "index", "word"] (spI (He.ga K "BadJourney") ["index", "word"]) := fun base => init2 Fi_BadJourney sci_BadJourney rfl oi_BadJourney.1 (He.noat_ok (c.fact 89 (f := .noat "BadJourney" "index") rfl)) (He.noat_ok (c.fact 90 (f := .noat "BadJourney" "word") rfl)) (by exact Or.inl rfl) (by exact Or.inl rfl) (by exact Or.inl rfl) rfl rfl rfl rfl rfl rfl
  obtain ⟨fdi_TooLate, Fi_TooLate⟩ := c.def_ 17 (d := di_TooLate) rfl
  have gi_TooLate := He.glo_ok X G (c.fact 46 (f := .glo "TooLate") rfl)
  have oi_TooLate := oexB_ok (fx_ok cx 102 (c := oexB "TooLate") rfl)
  have ni_TooLate : ∀ base : Heap, FnOk P w K mg base (L2N.CX P w) 1 (He.ma K (He.ga K "TooLate") "__init__") fdi_TooLate ["self", "minutes"] (spI (He.ga K "TooLate") ["minutes"]) := fun base => init1 Fi_TooLate sci_TooLate rfl oi_TooLate.1 (He.noat_ok (c.fact 91 (f := .noat "TooLate" "minutes") rfl)) (by exact Or.inl rfl) (by exact Or.inl rfl) rfl rfl rfl rfl
  have e := hfa.symm.trans g_law
  cases e
  have b := FunD.bindsA (ps := ["_law_script"]) F_law fun _ _ _ _ _ _ us hl => match us, hl with | [_], _ => rfl
  refine ⟨fd_law, fun s v => b s [v] rfl, fun base _ _ hD => ?_⟩
  have n_BadJourney : OwnI P w K mg base "BadJourney" ["index", "word"] 1 := ⟨oi_BadJourney.1, gi_BadJourney, ⟨_, _, _, oi_BadJourney.2.1, oi_BadJourney.2.2, ni_BadJourney base, Fi_BadJourney.bindsN (fun _ _ _ _ _ _ us hl => match us, hl with | [_, _, _], _ => rfl)⟩⟩
  have q_BadJourney : OwnK P w K mg base "BadJourney" ["index", "word"] ["word", "index"] [1, 0] 1 := ⟨oi_BadJourney.1, gi_BadJourney, ⟨_, _, _, oi_BadJourney.2.1, oi_BadJourney.2.2, ni_BadJourney base, bindsInit Fi_BadJourney (fun _ _ _ _ _ _ _ ws hl => match ws, hl with | [_, _], _ => rfl)⟩⟩
  have n_TooLate : OwnI P w K mg base "TooLate" ["minutes"] 1 := ⟨oi_TooLate.1, gi_TooLate, ⟨_, _, _, oi_TooLate.2.1, oi_TooLate.2.2, ni_TooLate base, Fi_TooLate.bindsN (fun _ _ _ _ _ _ us hl => match us, hl with | [_, _], _ => rfl)⟩⟩
  have q_TooLate : OwnK P w K mg base "TooLate" ["minutes"] ["minutes"] [0] 1 := ⟨oi_TooLate.1, gi_TooLate, ⟨_, _, _, oi_TooLate.2.1, oi_TooLate.2.2, ni_TooLate base, bindsInit Fi_TooLate (fun _ _ _ _ _ _ _ ws hl => match ws, hl with | [_], _ => rfl)⟩⟩
  have c_is_integer := c_is_integer (P := P) (w := w) (base := base) W hD F_is_integer g_is_integer
  have c_check_time := c_check_time (P := P) (w := w) (base := base) W hD F_check_time g_check_time c_is_integer
  have c_check_day := c_check_day (P := P) (w := w) (base := base) W hD F_check_day g_check_day c_is_integer
  have c_day_of := c_day_of (P := P) (w := w) (base := base) W hD F_day_of g_day_of c_check_time
  have k_day_of := k_day_of (P := P) (w := w) (base := base) W hD F_day_of g_day_of c_check_time
  have c_minute_of := c_minute_of (P := P) (w := w) (base := base) W hD F_minute_of g_minute_of c_check_time
  have k_minute_of := k_minute_of (P := P) (w := w) (base := base) W hD F_minute_of g_minute_of c_check_time
  have c_weekday_of := c_weekday_of (P := P) (w := w) (base := base) W hD F_weekday_of g_weekday_of c_check_day
  have k_weekday_of := k_weekday_of (P := P) (w := w) (base := base) W hD F_weekday_of g_weekday_of c_check_day
  have c_time_at := c_time_at (P := P) (w := w) (base := base) W hD F_time_at g_time_at c_check_day c_is_integer
  have k_time_at_1_0 := k_time_at_1_0 (P := P) (w := w) (base := base) W hD F_time_at g_time_at c_check_day c_is_integer
  have c_l_jug := c_l_jug (P := P) (w := w) (base := base) W hD F_l_jug g_l_jug
  have c_l_pour := c_l_pour (P := P) (w := w) (base := base) W hD F_l_pour g_l_pour
  have c_l_moment := c_l_moment (P := P) (w := w) (base := base) W hD F_l_moment g_l_moment c_l_pour
  have p_l_word_InvalidTime := p_l_word_InvalidTime (P := P) (w := w) (base := base) W F_l_word g_l_word
  have p_l_word_InvalidDay := p_l_word_InvalidDay (P := P) (w := w) (base := base) W F_l_word g_l_word
  have p_l_word_InvalidMinute := p_l_word_InvalidMinute (P := P) (w := w) (base := base) W F_l_word g_l_word
  have c_l_marks := c_l_marks (P := P) (w := w) (base := base) W hD F_l_marks g_l_marks
  have c_l_classes_right := c_l_classes_right (P := P) (w := w) (base := base) W hD F_l_classes_right g_l_classes_right n_BadJourney n_TooLate q_BadJourney q_TooLate c_l_marks
  have c_l_told := c_l_told (P := P) (w := w) (base := base) W hD F_l_told g_l_told c_day_of c_minute_of c_weekday_of c_time_at p_l_word_InvalidTime p_l_word_InvalidDay p_l_word_InvalidMinute
  have c_l_right := c_l_right (P := P) (w := w) (base := base) W hD F_l_right g_l_right c_day_of c_minute_of c_time_at c_weekday_of k_day_of k_minute_of k_weekday_of k_time_at_1_0
  exact o_law W hD F_law c_l_jug c_l_right c_l_moment c_l_pour c_time_at c_weekday_of c_l_told c_day_of c_minute_of c_l_classes_right
end K01
open PySem PySem.W PySem.Calls PyProof.Rows
theorem PySem.Challenge.cw_rideplans_k01_times_and_days_holds : PySem.Challenge.rw_rideplans_k01_times_and_days.Holds := by
  w_on; o_law
  refine HandSHeadRun.head_any (r := OpenLaw.row PySem.Challenge.rw_rideplans_k01_times_and_days) (q := view (OpenLaw.row PySem.Challenge.rw_rideplans_k01_times_and_days).prog [51]) (H := K01.hk) (ob := K01.ob) (M := 30000) (loose := K01.names) (d := HandSHeadRun.topDef (OpenLaw.row PySem.Challenge.rw_rideplans_k01_times_and_days).prog 51) (kwd := []) K01.ob_eq
    (by kernel_rfl) (fun s => by kernel_rfl) K01.run (by kernel_rfl) (by kernel_rfl) (by kernel_rfl) (by rfl) (by first | assumption | decide +kernel) (by decide +kernel) ⟨rfl, rfl, rfl, rfl, rfl, by decide +kernel⟩ ?hw ?hc
  case hw => w_witness2
  case hc =>
    refine Rp.walk_ofG (l := PySem.Challenge.rw_rideplans_k01_times_and_days) (n := 63) (k := 5) (x := "_law_script") rfl (by decide) (by kernel_rfl) ⟨rfl, by decide, by decide⟩ ?F
    intro w mg fa h Y G hmg0
    obtain ⟨K, KX, cx, c⟩ := Y
    have hmg : mg ("law" : PySem.Str) = some (.ref fa) := by
      have e : (HandSHeadRun.topDef (OpenLaw.row PySem.Challenge.rw_rideplans_k01_times_and_days).prog 51).name = ("law" : PySem.Str) := by kernel_rfl
      rw [← e]
      exact hmg0
    obtain ⟨fd, hb, hF⟩ := K01.facts (P := (PySem.Challenge.rw_rideplans_k01_times_and_days).prog) (w := w) KX G hmg cx c
    exact ⟨K, fd, K01.law_den, KX, hb, K01.law_true, hF⟩
