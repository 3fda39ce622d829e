import PyProof.Rows.All
import Wide.All
import OpenK.AllK
import Wide.FinOn
import HandS.ForMost
import HandS.Exc
import HandS.TryOnly
import HandS.ExcOwn
import HandS.WordsExc
import HandS.EndBits
import HandS.IsInst
import HandS.SortInts
import KE.SortData
import HandS.Wide
import HandS.Deep
import HandS.Style
import HandS.TupAny
import HandS.Dict
import OpenK.KMake
import HandS.Conv
import HandS.Set
import HandS.Strs
import HandS.SetFor
import HandS.TupSets
import HandS.TupLen
import HandS.ExcIs
import PyProof.Rows.IntBool
import KE.IntBitsLaws
import KE.BitLaws
import KE.DatumOrd
import PySem.Challenge.RW_aislelist_k12_whole_numbers
set_option linter.all false
set_option Elab.async false
set_option maxRecDepth 100000
set_option maxHeartbeats 4000000
/-! PLA: a layer of plain data over HandS. What a name holds is told as a tree of data; lists that a def has made and
changes are its own (Sl.ow), all other data is shared and stands still. -/
namespace PL
open PySem L2

/-! ### data -/
inductive D where
  | non | bl (b : Bool) | int (i : Int) | str (x : Str) | tup (xs : List D) | lst (xs : List D)
  | dct (ks : List (List Key)) (vs : List D) | ob (c : Nat) (fs : List D)
  /-- what is changed: cell n of the store (PX) -/
  | ptr (n : Nat)
  /-- a list of ints that is handed in from outside -/
  | scr (ns : List Int)

/-- own classes: their addresses, their fields' names; the addresses of exception classes -/
structure Tb where
  ct : Nat → Addr
  fl : Nat → List Str
  ec : Nat → Addr
  /-- code tables may grow -/
  tm : Bool := false
  /-- where the cells of the store lie -/
  ph : Nat → Option Addr := fun _ => none

/-- a list of the written part -/
def Kn (K : PySem.W.Frag) (a : Addr) (xs : List V) : Prop :=
  ∃ (o : Obj) (its : Array Value) (n : Nat), K.lookup a = some o ∧ o.cls = .type "list" ∧ o.dict = none ∧ o.data = .seq its n ∧ its.size ≤ sizeLine ∧ Vals xs its.toList

mutual
/-- the value v holds the data d; its lists lie in W -/
inductive Sh (K : PySem.W.Frag) (T : Tb) (H : Hp) (W : Addr → Prop) : D → V → Prop
  | non : Sh K T H W .non .non
  | bl (b : Bool) : Sh K T H W (.bl b) (.bl b)
  | int (i : Int) : Sh K T H W (.int i) (.int i)
  | str (x : Str) : Sh K T H W (.str x) (.str x)
  | tup {a : Addr} {vs : List V} {ds : List D} : H a = some (.tup vs) → ShL K T H W ds vs → Sh K T H W (.tup ds) (.ref a)
  | lst {a : Addr} {vs : List V} {ds : List D} : H a = some (.lst vs) → W a → ShL K T H W ds vs → Sh K T H W (.lst ds) (.ref a)
  | scr {a : Addr} {ns : List Int} : (Rd H a (.lst (ns.map V.int)) ∧ W a) ∨ Kn K a (ns.map V.int) → Sh K T H W (.scr ns) (.ref a)
  | dct {a : Addr} {ks : List (List Key)} {vs : List V} {ds : List D} : H a = some (.dT (ks.zip vs)) → W a → ks.length = vs.length → ShL K T H W ds vs → Sh K T H W (.dct ks ds) (.ref a)
  | ob {a dx : Addr} {c : Nat} {vs : List V} {ds : List D} : H a = some (.ins (T.ct c) dx ((T.fl c).zip vs)) → W a → (T.fl c).length = vs.length → ShL K T H W ds vs → Sh K T H W (.ob c ds) (.ref a)
  | ptr {n : Nat} {a : Addr} : T.ph n = some a → Sh K T H W (.ptr n) (.ref a)
inductive ShL (K : PySem.W.Frag) (T : Tb) (H : Hp) (W : Addr → Prop) : List D → List V → Prop
  | nil : ShL K T H W [] []
  | cons {d : D} {ds : List D} {v : V} {vs : List V} : Sh K T H W d v → ShL K T H W ds vs → ShL K T H W (d :: ds) (v :: vs)
end

/-- what lies in W, and every tuple, stands as it is -/
structure Kp (W : Addr → Prop) (H H' : Hp) : Prop where
  own : ∀ a o, W a → H a = some o → (∀ ps, o ≠ .tbl ps) → H' a = some o
  tup : ∀ a vs, H a = some (.tup vs) → H' a = some (.tup vs)
theorem Kp.of {W : Addr → Prop} {H H' : Hp} (s : Same H H') : Kp W H H' := ⟨fun a o _ h _ => s a o h, fun a _ h => s a _ h⟩
theorem Kp.rd {W : Addr → Prop} {H H' : Hp} (k : Kp W H H') {a : Addr} {u : HO} (w : W a) (r : Rd H a u) (hu : ∀ ps, u ≠ .tbl ps := by exact fun _ => HO.noConfusion) : Rd H' a u := by
  rcases r with r | ⟨o, r⟩
  · exact .inl (k.own a _ w r hu)
  · exact .inr ⟨o, k.own a _ w r fun _ => HO.noConfusion⟩

section
variable {K : PySem.W.Frag} {T : Tb} {H H' : Hp} {W W' : Addr → Prop}
mutual
theorem Sh.monoA (k : Kp W H H') (w : ∀ a, W a → H a ≠ none → W' a) : ∀ {d : D} {v : V}, Sh K T H W d v → Sh K T H' W' d v
  | _, _, .non => .non
  | _, _, .bl b => .bl b
  | _, _, .int i => .int i
  | _, _, .str x => .str x
  | _, _, .tup h r => .tup (k.tup _ _ h) (ShL.monoA k w r)
  | _, _, .lst h q r => .lst (k.own _ _ q h fun _ => HO.noConfusion) (w _ q (by rw [h]; exact fun z => nomatch z)) (ShL.monoA k w r)
  | _, _, .scr h => .scr (h.elim (fun q => .inl ⟨k.rd q.2 q.1, w _ q.2 (by rcases q.1 with z | ⟨_, z⟩ <;> (rw [z]; exact fun z => nomatch z))⟩) .inr)
  | _, _, .dct h q e r => .dct (k.own _ _ q h fun _ => HO.noConfusion) (w _ q (by rw [h]; exact fun z => nomatch z)) e (ShL.monoA k w r)
  | _, _, .ob h q e r => .ob (k.own _ _ q h fun _ => HO.noConfusion) (w _ q (by rw [h]; exact fun z => nomatch z)) e (ShL.monoA k w r)
  | _, _, .ptr h => .ptr h
theorem ShL.monoA (k : Kp W H H') (w : ∀ a, W a → H a ≠ none → W' a) : ∀ {ds : List D} {vs : List V}, ShL K T H W ds vs → ShL K T H' W' ds vs
  | _, _, .nil => .nil
  | _, _, .cons h r => .cons (Sh.monoA k w h) (ShL.monoA k w r)
end
theorem Sh.mono (k : Kp W H H') (w : ∀ a, W a → W' a) {d : D} {v : V} (h : Sh K T H W d v) : Sh K T H' W' d v := Sh.monoA k (fun a q _ => w a q) h
theorem ShL.mono (k : Kp W H H') (w : ∀ a, W a → W' a) {ds : List D} {vs : List V} (h : ShL K T H W ds vs) : ShL K T H' W' ds vs := ShL.monoA k (fun a q _ => w a q) h
theorem ShL.length : ∀ {ds : List D} {vs : List V}, ShL K T H W ds vs → ds.length = vs.length
  | _, _, .nil => rfl
  | _, _, .cons _ r => by rw [List.length_cons, List.length_cons, ShL.length r]
theorem ShL.get : ∀ {ds : List D} {vs : List V} {i : Nat} {d : D}, ShL K T H W ds vs → ds[i]? = some d → ∃ v, vs[i]? = some v ∧ Sh K T H W d v
  | _, _, _, _, .nil, e => by simp at e
  | _, _, 0, _, .cons r _, e => by simp at e; subst e; exact ⟨_, rfl, r⟩
  | _, _, i + 1, d, .cons _ t, e => by
    obtain ⟨v, h1, h2⟩ := ShL.get (i := i) (d := d) t (by simpa using e)
    exact ⟨v, by simpa using h1, h2⟩
theorem ShL.set {d : D} {v : V} (r : Sh K T H W d v) : ∀ {ds : List D} {vs : List V} (i : Nat), ShL K T H W ds vs → ShL K T H W (ds.set i d) (vs.set i v)
  | _, _, _, .nil => .nil
  | _, _, 0, .cons _ t => .cons r t
  | _, _, i + 1, .cons q t => .cons q (ShL.set r i t)
theorem ShL.append : ∀ {ds es : List D} {vs ws : List V}, ShL K T H W ds vs → ShL K T H W es ws → ShL K T H W (ds ++ es) (vs ++ ws)
  | _, _, _, _, .nil, s => s
  | _, _, _, _, .cons r t, s => .cons r (ShL.append t s)
theorem ShL.take : ∀ {ds : List D} {vs : List V} (n : Nat), ShL K T H W ds vs → ShL K T H W (ds.take n) (vs.take n)
  | _, _, 0, _ => .nil
  | _, _, _ + 1, .nil => .nil
  | _, _, n + 1, .cons r t => .cons r (ShL.take n t)
theorem ShL.drop : ∀ {ds : List D} {vs : List V} (n : Nat), ShL K T H W ds vs → ShL K T H W (ds.drop n) (vs.drop n)
  | _, _, 0, r => r
  | _, _, _ + 1, .nil => .nil
  | _, _, n + 1, .cons _ t => ShL.drop n t
theorem ShL.snoc {ds : List D} {vs : List V} {d : D} {v : V} (r : ShL K T H W ds vs) (h : Sh K T H W d v) : ShL K T H W (ds ++ [d]) (vs ++ [v]) := r.append (.cons h .nil)
theorem ShL.rep {ds : List D} {vs : List V} (r : ShL K T H W ds vs) : ∀ k : Nat, ShL K T H W (List.replicate k ds).flatten (List.replicate k vs).flatten
  | 0 => .nil
  | k + 1 => by
    rw [List.replicate_succ, List.flatten_cons, List.replicate_succ, List.flatten_cons]
    exact r.append (ShL.rep r k)
/-- the values of ints -/
theorem ShL.ints : ∀ {ns : List Int} {vs : List V}, ShL K T H W (ns.map D.int) vs → vs = ns.map V.int
  | [], _, h => by cases h; rfl
  | n :: ns, _, h => by
    cases h with
    | cons h r => cases h; rw [ShL.ints r]; rfl
theorem ShL.of_ints : ∀ (ns : List Int), ShL K T H W (ns.map D.int) (ns.map V.int)
  | [] => .nil
  | n :: ns => .cons (.int n) (ShL.of_ints ns)
theorem ShL.bls : ∀ {ns : List Bool} {vs : List V}, ShL K T H W (ns.map D.bl) vs → vs = ns.map V.bl
  | [], _, h => by cases h; rfl
  | n :: ns, _, h => by
    cases h with
    | cons h r => cases h; rw [ShL.bls r]; rfl
theorem seqL {a : Addr} {vs : List V} (h : (Rd H a (.lst vs) ∧ W a) ∨ Kn K a vs) : SqL K H a vs := by
  rcases h with h | h
  · exact .inl h.1
  · exact .inr h
theorem seqT {a : Addr} {vs : List V} (h : H a = some (.tup vs)) : SqT K H a vs := .inl (.inl h)
end

/-! ### data without lists (and objects): its footprint is empty -/
mutual
def D.flat : D → Bool
  | .non | .bl _ | .int _ | .str _ | .ptr _ => true
  | .tup xs => D.flatL xs
  | .lst _ | .dct _ _ | .ob _ _ | .scr _ => false
def D.flatL : List D → Bool
  | [] => true
  | x :: xs => x.flat && D.flatL xs
end
section
variable {K : PySem.W.Frag} {T : Tb} {H : Hp} {W W' : Addr → Prop}
mutual
theorem Sh.free : ∀ {d : D} {v : V}, Sh K T H W d v → d.flat = true → Sh K T H W' d v
  | _, _, .non, _ => .non
  | _, _, .bl b, _ => .bl b
  | _, _, .int i, _ => .int i
  | _, _, .str x, _ => .str x
  | _, _, .tup h r, e => .tup h (ShL.free r (by simpa [D.flat] using e))
  | _, _, .lst _ _ _, e => by simp [D.flat] at e
  | _, _, .scr _, e => by simp [D.flat] at e
  | _, _, .dct _ _ _ _, e => by simp [D.flat] at e
  | _, _, .ob _ _ _ _, e => by simp [D.flat] at e
  | _, _, .ptr h, _ => .ptr h
theorem ShL.free : ∀ {ds : List D} {vs : List V}, ShL K T H W ds vs → D.flatL ds = true → ShL K T H W' ds vs
  | _, _, .nil, _ => .nil
  | _, _, .cons h r, e => by
    rw [D.flatL, Bool.and_eq_true] at e
    exact .cons (Sh.free h e.1) (ShL.free r e.2)
end
end

/-! ### answers -/
inductive R (α : Type) where
  | ok (a : α) | ex (c : Nat) | st
def R.bind {α β : Type} (m : R α) (f : α → R β) : R β := match m with
  | .ok a => f a
  | .ex c => .ex c
  | .st => .st
instance : Monad R where
  pure := R.ok
  bind := R.bind
@[simp] theorem R.bind_ok {α β : Type} (a : α) (f : α → R β) : ((R.ok a : R α) >>= f) = f a := rfl
@[simp] theorem R.bind_ex {α β : Type} (c : Nat) (f : α → R β) : ((R.ex c : R α) >>= f) = .ex c := rfl
@[simp] theorem R.bind_st {α β : Type} (f : α → R β) : ((R.st : R α) >>= f) = .st := rfl
@[simp] theorem R.pure_ok {α : Type} (a : α) : (pure a : R α) = .ok a := rfl
def run {α : Type} (m : R α) (ok : α → Prop) (ex : Nat → Prop) : Prop := match m with
  | .ok a => ok a
  | .ex c => ex c
  | .st => False
theorem run_bind {α β : Type} {m : R α} {f : α → R β} {ok : β → Prop} {ex : Nat → Prop} (h : run (m >>= f) ok ex) : run m (fun a => run (f a) ok ex) ex := by
  cases m with
  | ok a => exact h
  | ex c => exact h
  | st => exact h
theorem run_mono {α : Type} {m : R α} {ok ok' : α → Prop} {ex ex' : Nat → Prop} (h : run m ok ex) (h1 : ∀ a, ok a → ok' a) (h2 : ∀ c, ex c → ex' c) : run m ok' ex' := by
  cases m with
  | ok a => exact h1 a h
  | ex c => exact h2 c h
  | st => exact h
/-- from an option -/
def R.of {α : Type} : Option α → R α
  | some a => .ok a
  | none => .st
@[simp] theorem R.of_some {α : Type} (a : α) : R.of (some a) = .ok a := rfl
@[simp] theorem R.of_none {α : Type} : R.of (none : Option α) = .st := rfl
theorem run_of {α : Type} {o : Option α} {ok : α → Prop} {ex : Nat → Prop} (h : run (R.of o) ok ex) : ∃ a, o = some a ∧ ok a := by
  cases o with
  | some a => exact ⟨a, rfl, h⟩
  | none => exact h.elim
/-- a condition -/
def R.when (c : Bool) {α : Type} (m : R α) : R α := if c = true then m else .st
theorem run_when {α : Type} {c : Bool} {m : R α} {ok : α → Prop} {ex : Nat → Prop} (h : run (R.when c m) ok ex) : c = true ∧ run m ok ex := by
  unfold R.when at h
  by_cases e : c = true
  · rw [if_pos e] at h; exact ⟨e, h⟩
  · rw [if_neg e] at h; exact h.elim
@[simp] theorem R.when_true {α : Type} (m : R α) : R.when true m = m := rfl

/-! ### what a def has made and changes: lists (and objects) whose items may be such, too -/
inductive O where
  | d (d : D) | l (os : List O) | ob (c : Nat) (os : List O)
mutual
/-- the value v is o; the lists (and objects) that are its own: F -/
inductive Ow (T : Tb) (H : Hp) (P : D → V → Prop) : O → V → List Addr → Prop
  | d {d : D} {v : V} : P d v → Ow T H P (.d d) v []
  | l {a : Addr} {vs : List V} {os : List O} {F : List Addr} : H a = some (.lst vs) → OwL T H P os vs F → a ∉ F → Ow T H P (.l os) (.ref a) (a :: F)
  | ob {a dx : Addr} {c : Nat} {vs : List V} {os : List O} {F : List Addr} : H a = some (.ins (T.ct c) dx ((T.fl c).zip vs)) → (T.fl c).length = vs.length → OwL T H P os vs F → a ∉ F → Ow T H P (.ob c os) (.ref a) (a :: F)
inductive OwL (T : Tb) (H : Hp) (P : D → V → Prop) : List O → List V → List Addr → Prop
  | nil : OwL T H P [] [] []
  | cons {o : O} {os : List O} {v : V} {vs : List V} {F G : List Addr} : Ow T H P o v F → OwL T H P os vs G → (∀ a ∈ F, a ∉ G) → OwL T H P (o :: os) (v :: vs) (F ++ G)
end
section
variable {T : Tb} {H H' : Hp} {P P' : D → V → Prop}
mutual
theorem Ow.mono (h : ∀ d v, P d v → P' d v) : ∀ {o : O} {v : V} {F : List Addr}, Ow T H P o v F → (∀ a ∈ F, H' a = H a) → Ow T H' P' o v F
  | _, _, _, .d p, _ => .d (h _ _ p)
  | _, _, _, .l e r n, k => .l (by rw [k _ List.mem_cons_self]; exact e) (OwL.mono h r fun a m => k a (List.mem_cons_of_mem _ m)) n
  | _, _, _, .ob e z r n, k => .ob (by rw [k _ List.mem_cons_self]; exact e) z (OwL.mono h r fun a m => k a (List.mem_cons_of_mem _ m)) n
theorem OwL.mono (h : ∀ d v, P d v → P' d v) : ∀ {os : List O} {vs : List V} {F : List Addr}, OwL T H P os vs F → (∀ a ∈ F, H' a = H a) → OwL T H' P' os vs F
  | _, _, _, .nil, _ => .nil
  | _, _, _, .cons p r n, k => .cons (Ow.mono h p fun a m => k a (List.mem_append_left _ m)) (OwL.mono h r fun a m => k a (List.mem_append_right _ m)) n
end
mutual
theorem Ow.uniq : ∀ {o : O} {v : V} {F G : List Addr}, Ow T H P o v F → Ow T H P' o v G → F = G
  | _, _, _, _, .d _, .d _ => rfl
  | _, _, _, _, .l e r _, .l e' r' _ => by
    rw [e] at e'
    cases e'
    rw [OwL.uniq r r']
  | _, _, _, _, .ob e z r _, .ob e' z' r' _ => by
    rw [e] at e'
    injection e' with e'
    injection e' with _ _ e3
    have e2 := congrArg (List.map Prod.snd) e3
    rw [List.map_snd_zip (by omega), List.map_snd_zip (by omega)] at e2
    subst e2
    rw [OwL.uniq r r']
theorem OwL.uniq : ∀ {os : List O} {vs : List V} {F G : List Addr}, OwL T H P os vs F → OwL T H P' os vs G → F = G
  | _, _, _, _, .nil, .nil => rfl
  | _, _, _, _, .cons p r _, .cons p' r' _ => by rw [Ow.uniq p p', OwL.uniq r r']
end
mutual
theorem Ow.there : ∀ {o : O} {v : V} {F : List Addr}, Ow T H P o v F → ∀ a ∈ F, H a ≠ none
  | _, _, _, .d _, a, m => by simp at m
  | _, _, _, .l e r _, a, m => by
    rcases List.mem_cons.mp m with rfl | m
    · rw [e]; exact fun z => nomatch z
    · exact OwL.there r a m
  | _, _, _, .ob e _ r _, a, m => by
    rcases List.mem_cons.mp m with rfl | m
    · rw [e]; exact fun z => nomatch z
    · exact OwL.there r a m
theorem OwL.there : ∀ {os : List O} {vs : List V} {F : List Addr}, OwL T H P os vs F → ∀ a ∈ F, H a ≠ none
  | _, _, _, .nil, a, m => by simp at m
  | _, _, _, .cons p r _, a, m => by
    rcases List.mem_append.mp m with m | m
    · exact Ow.there p a m
    · exact OwL.there r a m
end
theorem OwL.length : ∀ {os : List O} {vs : List V} {F : List Addr}, OwL T H P os vs F → os.length = vs.length
  | _, _, _, .nil => rfl
  | _, _, _, .cons _ r _ => by rw [List.length_cons, List.length_cons, OwL.length r]
theorem Ow.same (s : Same H H') (h : ∀ d v, P d v → P' d v) {o : O} {v : V} {F : List Addr} (r : Ow T H P o v F) : Ow T H' P' o v F := r.mono h fun a m => by
  cases e : H a with
  | none => exact absurd e (r.there a m)
  | some x => exact s _ _ e
end

mutual
def O.toD : O → D
  | .d x => x
  | .l os => .lst (O.toDs os)
  | .ob c os => .ob c (O.toDs os)
def O.toDs : List O → List D
  | [] => []
  | o :: os => o.toD :: O.toDs os
end
section
variable {K : PySem.W.Frag} {T : Tb} {H : Hp} {W W' : Addr → Prop}
mutual
theorem Ow.sh (l : ∀ a, W a → W' a) : ∀ {o : O} {v : V} {F : List Addr}, Ow T H (fun d v => Sh K T H W d v) o v F → (∀ a ∈ F, W' a) → Sh K T H W' o.toD v
  | _, _, _, .d p, _ => p.mono ⟨fun _ _ _ h _ => h, fun _ _ h => h⟩ l
  | _, _, _, .l e r _, k => .lst e (k _ List.mem_cons_self) (OwL.sh l r fun a m => k a (List.mem_cons_of_mem _ m))
  | _, _, _, .ob e z r _, k => .ob e (k _ List.mem_cons_self) z (OwL.sh l r fun a m => k a (List.mem_cons_of_mem _ m))
theorem OwL.sh (l : ∀ a, W a → W' a) : ∀ {os : List O} {vs : List V} {F : List Addr}, OwL T H (fun d v => Sh K T H W d v) os vs F → (∀ a ∈ F, W' a) → ShL K T H W' (O.toDs os) vs
  | _, _, _, .nil, _ => .nil
  | _, _, _, .cons p r _, k => .cons (Ow.sh l p fun a m => k a (List.mem_append_left _ m)) (OwL.sh l r fun a m => k a (List.mem_append_right _ m))
end
end

/-! ### what stands at the names -/
inductive Sl where
  | no | sh (d : D) | ow (ds : List D) | od (ks : List (List Key)) (ds : List D)
  /-- shared data whose lists are new since the def began -/
  | nw (d : D)
  /-- lists of lists of one's own -/
  | ot (o : O)
abbrev Ev := List Sl
/-- a def's own context: the heap at its entry, what its arguments' lists are, what is wanted of an exception -/
structure Cc where
  T : Tb
  H0 : Hp
  S0 : Addr → Prop
  Ex : Nat → Hp → Prop
def SlOk (K : PySem.W.Frag) (C : Cc) (S : Addr → Prop) (H : Hp) (x : Option V) : Sl → Prop
  | .no => True
  | .sh d => ∃ v, x = some v ∧ Sh K C.T H S d v
  | .ow ds => ∃ p vs, x = some (.ref p) ∧ H p = some (.lst vs) ∧ C.H0 p = none ∧ ¬ S p ∧ ShL K C.T H S ds vs
  | .od ks ds => ∃ p vs, x = some (.ref p) ∧ H p = some (.dT (ks.zip vs)) ∧ ks.length = vs.length ∧ C.H0 p = none ∧ ¬ S p ∧ ShL K C.T H S ds vs
  | .nw d => ∃ v, x = some v ∧ Sh K C.T H (fun a => S a ∧ C.H0 a = none) d v
  | .ot o => ∃ v F, x = some v ∧ Ow C.T H (fun d v => Sh K C.T H S d v) o v F ∧ ∀ a ∈ F, C.H0 a = none ∧ ¬ S a
/-- the addresses of what is one's own -/
def Ft (T : Tb) (H : Hp) (x : Option V) : Sl → Addr → Prop
  | .ow _, p => x = some (.ref p)
  | .od _ _, p => x = some (.ref p)
  | .ot o, p => ∃ v F, x = some v ∧ Ow T H (fun _ _ => True) o v F ∧ p ∈ F
  | _, _ => False
theorem ft_ow {T : Tb} {H : Hp} {p q : Addr} {ds : List D} (f : Ft T H (some (.ref p)) (.ow ds) q) : q = p := by
  have f : some (V.ref p) = some (V.ref q) := f
  cases f
  rfl
theorem SlOk.foot {K : PySem.W.Frag} {C : Cc} {S : Addr → Prop} {H : Hp} {x : Option V} {s : Sl} {p : Addr} (h : SlOk K C S H x s) (f : Ft C.T H x s p) : H p ≠ none ∧ ¬ S p ∧ C.H0 p = none := by
  cases s with
  | no => exact f.elim
  | sh d => exact f.elim
  | nw d => exact f.elim
  | ow ds =>
    obtain ⟨q, vs, e1, h1, h2, h3, r⟩ := h
    have f : x = some (.ref p) := f
    rw [e1] at f
    cases f
    exact ⟨by rw [h1]; exact (fun z => nomatch z), h3, h2⟩
  | od ks ds =>
    obtain ⟨q, vs, e1, h1, hl, h2, h3, r⟩ := h
    have f : x = some (.ref p) := f
    rw [e1] at f
    cases f
    exact ⟨by rw [h1]; exact (fun z => nomatch z), h3, h2⟩
  | ot o =>
    obtain ⟨v, F, e1, r, k⟩ := h
    obtain ⟨v', F', e2, r', m⟩ := f
    rw [e1] at e2
    cases e2
    rw [r'.uniq r] at m
    exact ⟨r.there _ m, (k _ m).2, (k _ m).1⟩
theorem Ft.back {K : PySem.W.Frag} {C : Cc} {S : Addr → Prop} {H H' : Hp} {x : Option V} {s : Sl} {p : Addr} (h : SlOk K C S H x s) (k : ∀ q, Ft C.T H x s q → H' q = H q) (f : Ft C.T H' x s p) : Ft C.T H x s p := by
  cases s with
  | no => exact f
  | sh d => exact f
  | nw d => exact f
  | ow ds => exact f
  | od ks ds => exact f
  | ot o =>
    obtain ⟨v, F, e1, r, _⟩ := h
    obtain ⟨v', F', e2, r', m⟩ := f
    rw [e1] at e2
    cases e2
    have r2 := r.mono (P' := fun _ _ => True) (H' := H') (fun _ _ _ => trivial) fun a m => k a ⟨v, F, e1, r.mono (fun _ _ _ => trivial) (fun _ _ => rfl), m⟩
    rw [r'.uniq r2] at m
    exact ⟨v, F, e1, r.mono (fun _ _ _ => trivial) (fun _ _ => rfl), m⟩
theorem Ft.same {K : PySem.W.Frag} {C : Cc} {S : Addr → Prop} {H H' : Hp} {x : Option V} {s : Sl} {p : Addr} (h : SlOk K C S H x s) (e : Same H H') (f : Ft C.T H' x s p) : Ft C.T H x s p := Ft.back h (fun q g => by
  cases c : H q with
  | none => exact absurd c (h.foot g).1
  | some o => exact e _ _ c) f
structure Sta (K : PySem.W.Frag) (C : Cc) (ρ : Ev) (S : Addr → Prop) (σ : St) (H : Hp) : Prop where
  same : Same C.H0 H
  sub : ∀ a, S a → C.S0 a ∨ C.H0 a = none
  sup : ∀ a, C.S0 a → S a
  bnd : ∀ a, S a → H a ≠ none
  len : ρ.length = σ.length
  sl : ∀ (i : Nat) s, ρ[i]? = some s → ∃ x, σ[i]? = some x ∧ SlOk K C S H x s
  sep : ∀ (i j : Nat) s t x y p, i ≠ j → ρ[i]? = some s → ρ[j]? = some t → σ[i]? = some x → σ[j]? = some y → Ft C.T H x s p → Ft C.T H y t p → False
/-- what lay in S, and what is new -/
def Fw (S : Addr → Prop) (H H' : Hp) : Addr → Prop := fun a => S a ∨ (H a = none ∧ H' a ≠ none)
/-- the footprint that is told: m: shared; else one's own lists, too -/
def Wf (m : Bool) (Z : Hp) (S : Addr → Prop) (H H' : Hp) : Addr → Prop := fun a => Fw S H H' a ∨ (m = false ∧ Z a = none)
theorem Fw.left {S : Addr → Prop} {H H' : Hp} {a : Addr} (h : S a) : Fw S H H' a := .inl h
theorem Fw.trans {S : Addr → Prop} {H H1 H2 : Hp} (s : Same H H1) (s2 : Same H1 H2) {a : Addr} (h : Fw (Fw S H H1) H1 H2 a) : Fw S H H2 a := by
  rcases h with (h | ⟨h1, h2⟩) | ⟨h1, h2⟩
  · exact .inl h
  · refine .inr ⟨h1, fun z => ?_⟩
    exact h2 (s2.free z)
  · exact .inr ⟨s.free h1, h2⟩
theorem Fw.more {S : Addr → Prop} {H H1 H2 : Hp} (s2 : Same H1 H2) {a : Addr} (h : Fw S H H1 a) : Fw S H H2 a := by
  rcases h with h | ⟨h1, h2⟩
  · exact .inl h
  · exact .inr ⟨h1, fun z => h2 (s2.free z)⟩
theorem Wf.trans {m : Bool} {Z : Hp} {S : Addr → Prop} {H H1 H2 : Hp} (s : Same H H1) (s2 : Same H1 H2) {a : Addr} (h : Wf m Z (Fw S H H1) H1 H2 a) : Wf m Z S H H2 a := h.imp (fun h => Fw.trans s s2 h) id
theorem Wf.more {m : Bool} {Z : Hp} {S : Addr → Prop} {H H1 H2 : Hp} (s2 : Same H1 H2) {a : Addr} (h : Wf m Z S H H1 a) : Wf m Z S H H2 a := h.imp (fun h => Fw.more s2 h) id
theorem Wf.sh {Z : Hp} {S : Addr → Prop} {H H1 : Hp} {a : Addr} (h : Wf true Z S H H1 a) : Fw S H H1 a := h.elim id fun z => nomatch z.1
theorem Wf.of {m : Bool} {Z : Hp} {S : Addr → Prop} {H H1 : Hp} {a : Addr} (h : Fw S H H1 a) : Wf m Z S H H1 a := .inl h
section
variable {K : PySem.W.Frag} {C : Cc} {ρ : Ev} {S : Addr → Prop} {σ : St} {H H' : Hp}
theorem SlOk.grow {x : Option V} {s : Sl} (h : SlOk K C S H x s) (e : Same H H') : SlOk K C (Fw S H H') H' x s := by
  cases s with
  | no => trivial
  | sh d =>
    obtain ⟨v, e1, r⟩ := h
    exact ⟨v, e1, r.mono (Kp.of e) fun a w => .inl w⟩
  | ow ds =>
    obtain ⟨p, vs, e1, h1, h2, h3, r⟩ := h
    refine ⟨p, vs, e1, e _ _ h1, h2, ?_, r.mono (Kp.of e) fun a w => .inl w⟩
    rintro (z | ⟨z, _⟩)
    · exact h3 z
    · rw [h1] at z; cases z
  | od ks ds =>
    obtain ⟨p, vs, e1, h1, hl, h2, h3, r⟩ := h
    refine ⟨p, vs, e1, e _ _ h1, hl, h2, ?_, r.mono (Kp.of e) fun a w => .inl w⟩
    rintro (z | ⟨z, _⟩)
    · exact h3 z
    · rw [h1] at z; cases z
  | nw d =>
    obtain ⟨v, e1, r⟩ := h
    exact ⟨v, e1, r.mono (Kp.of e) fun a w => ⟨.inl w.1, w.2⟩⟩
  | ot o =>
    obtain ⟨v, F, e1, r, k⟩ := h
    refine ⟨v, F, e1, r.same e fun d v z => z.mono (Kp.of e) fun a w => .inl w, fun a m => ⟨(k a m).1, ?_⟩⟩
    rintro (z | ⟨z, _⟩)
    · exact (k a m).2 z
    · exact r.there a m z
theorem Sta.sepS (I : Sta K C ρ S σ H) (e : Same H H') : ∀ (i j : Nat) s t x y p, i ≠ j → ρ[i]? = some s → ρ[j]? = some t → σ[i]? = some x → σ[j]? = some y → Ft C.T H' x s p → Ft C.T H' y t p → False := by
  intro i j s t x y p hij hs ht hx hy f g
  obtain ⟨x', e1, q1⟩ := I.sl i s hs
  obtain ⟨y', e2, q2⟩ := I.sl j t ht
  rw [hx] at e1
  rw [hy] at e2
  cases e1
  cases e2
  exact I.sep i j s t x y p hij hs ht hx hy (Ft.same q1 e f) (Ft.same q2 e g)
theorem Sta.grow (I : Sta K C ρ S σ H) (e : Same H H') : Sta K C ρ (Fw S H H') σ H' := by
  refine ⟨I.same.trans e, fun a h => ?_, fun a h => .inl (I.sup a h), fun a h => ?_, I.len, fun i s hs => ?_, I.sepS e⟩
  · rcases h with h | ⟨h, _⟩
    · exact I.sub a h
    · exact .inr (I.same.free h)
  · rcases h with h | ⟨_, h⟩
    · intro z; exact I.bnd a h (e.free z)
    · exact h
  · obtain ⟨x, e1, q⟩ := I.sl i s hs
    exact ⟨x, e1, q.grow e⟩
end

/-! ### judgements -/
section
variable (K : PySem.W.Frag) (C : Cc)
def EXc (H : Hp) : Nat → Prop := fun c => ∀ H', Same H H' → C.Ex c H'
/-- a value -/
def tD (m : Bool) (f : Ev → R D) : TE := fun σ H Q => ∃ ρ S, Sta K C ρ S σ H ∧ run (f ρ) (fun d => ∀ v H', Same H H' → Sh K C.T H' (Wf m C.H0 S H H') d v → Q v H') (EXc C H)
/-- a new list, one's own -/
def tF (f : Ev → R (List D)) : TE := fun σ H Q => ∃ ρ S, Sta K C ρ S σ H ∧ run (f ρ) (fun ds => ∀ p vs H', Same H H' → H p = none → H' p = some (.lst vs) → ShL K C.T H' (fun a => Fw S H H' a ∧ a ≠ p) ds vs → Q (.ref p) H') (EXc C H)
/-- arguments -/
def tDA (m : Bool) (f : Ev → R (List D)) : TA := fun σ H Q => ∃ ρ S, Sta K C ρ S σ H ∧ run (f ρ) (fun ds => ∀ vs H', Same H H' → ShL K C.T H' (Wf m C.H0 S H H') ds vs → Q vs H') (EXc C H)
/-- a test -/
def tDT (f : Ev → R Bool) : TT := fun σ H Q => ∃ ρ S, Sta K C ρ S σ H ∧ run (f ρ) (fun b => ∀ H', Same H H' → Q b H') (EXc C H)
end
theorem EXc.mono {C : Cc} {H H' : Hp} (e : Same H H') {c : Nat} (h : EXc C H c) : EXc C H' c := fun H2 e2 => h H2 (e.trans e2)
structure DE (X : Cx) (C : Cc) (m : Bool) (e : Expr) (f : Ev → R D) : Prop where
  pe : PE X e (tD X.K C m f)
structure FE (X : Cx) (C : Cc) (e : Expr) (f : Ev → R (List D)) : Prop where
  pe : PE X e (tF X.K C f)
structure DA (X : Cx) (C : Cc) (m : Bool) (es : List Expr) (f : Ev → R (List D)) : Prop where
  pa : PA X es (tDA X.K C m f)
structure DT (X : Cx) (C : Cc) (e : Expr) (f : Ev → R Bool) : Prop where
  pt : PT X e (tDT X.K C f)
theorem PE.imp {X : Cx} {e : Expr} {t t' : TE} (h : PE X e t) (k : ∀ σ H Q, t' σ H Q → t σ H Q) : PE X e t' := ⟨fun pins s σ H Q I q => h.run pins s σ H Q I (k σ H Q q)⟩
theorem PT.imp {X : Cx} {e : Expr} {t t' : TT} (h : PT X e t) (k : ∀ σ H Q, t' σ H Q → t σ H Q) : PT X e t' := ⟨fun pins s σ H Q I q => h.run pins s σ H Q I (k σ H Q q)⟩
theorem PW.imp {X : Cx} {e : Expr} {t t' : TT} (h : PW X e t) (k : ∀ σ H Q, t' σ H Q → t σ H Q) : PW X e t' := ⟨fun wh pins s σ H Q I q => h.run wh pins s σ H Q I (k σ H Q q)⟩
theorem PA.imp {X : Cx} {es : List Expr} {t t' : TA} (h : PA X es t) (k : ∀ σ H Q, t' σ H Q → t σ H Q) : PA X es t' := ⟨fun pos pins s σ H Q I q => h.run pos pins s σ H Q I (k σ H Q q)⟩
theorem PS.imp {X : Cx} {e : Stmt} {t t' : TS} (h : PS X e t) (k : ∀ D σ H, t' D σ H → t D σ H) : PS X e t' := ⟨fun pins s σ H Q I q => h.run pins s σ H Q I (k Q σ H q)⟩
theorem PSs.imp {X : Cx} {e : List Stmt} {t t' : TS} (h : PSs X e t) (k : ∀ D σ H, t' D σ H → t D σ H) : PSs X e t' := ⟨fun pins s σ H Q I q => h.run pins s σ H Q I (k Q σ H q)⟩

section
variable {K : PySem.W.Frag} {C : Cc} {ρ : Ev} {S : Addr → Prop} {σ : St} {H : Hp} {m m' : Bool} {f g : Ev → R D}
/-- one value, then what is done with it -/
theorem tD_one {α : Type} {k : D → R α} {ok : α → Prop} {Q : V → Hp → Prop} (st : Sta K C ρ S σ H) (h : run (f ρ >>= k) ok (EXc C H))
    (hq : ∀ a v H1, Same H H1 → Sh K C.T H1 (Wf m C.H0 S H H1) a v → run (k a) ok (EXc C H) → Q v H1) : tD K C m f σ H Q := by
  refine ⟨ρ, S, st, run_mono (run_bind h) (fun a q v H1 e r => hq a v H1 e r q) fun c z => z⟩
/-- two values, then what is done with them -/
theorem tD_two {α : Type} {k : D → D → R α} {ok : α → Prop} {Q : V → V → Hp → Prop} (st : Sta K C ρ S σ H) (h : run (f ρ >>= fun a => g ρ >>= fun b => k a b) ok (EXc C H))
    (hq : ∀ a b v u H2, Same H H2 → Sh K C.T H2 (Wf m C.H0 S H H2) a v → Sh K C.T H2 (Wf m' C.H0 S H H2) b u → run (k a b) ok (EXc C H) → Q v u H2) : tD K C m f σ H fun x H1 => tD K C m' g σ H1 fun y H2 => Q x y H2 := by
  refine tD_one st h fun a v H1 e1 r1 q1 => ?_
  refine ⟨ρ, Fw S H H1, st.grow e1, run_mono (run_bind q1) (fun b q u H2 e2 r2 => ?_) fun c z => EXc.mono e1 z⟩
  exact hq a b v u H2 (e1.trans e2) (r1.mono (Kp.of e2) fun a w => Wf.more e2 w) (r2.mono (Kp.of (Same.refl _)) fun a w => Wf.trans e1 e2 w) q
theorem tDA_one {α : Type} {fs : Ev → R (List D)} {k : List D → R α} {ok : α → Prop} {Q : List V → Hp → Prop} (st : Sta K C ρ S σ H) (h : run (fs ρ >>= k) ok (EXc C H))
    (hq : ∀ a vs H1, Same H H1 → ShL K C.T H1 (Wf m C.H0 S H H1) a vs → run (k a) ok (EXc C H) → Q vs H1) : tDA K C m fs σ H Q := by
  refine ⟨ρ, S, st, run_mono (run_bind h) (fun a q v H1 e r => hq a v H1 e r q) fun c z => z⟩
theorem tDT_one {α : Type} {ft : Ev → R Bool} {k : Bool → R α} {ok : α → Prop} {Q : Bool → Hp → Prop} (st : Sta K C ρ S σ H) (h : run (ft ρ >>= k) ok (EXc C H))
    (hq : ∀ a H1, Same H H1 → run (k a) ok (EXc C H) → Q a H1) : tDT K C ft σ H Q := by
  refine ⟨ρ, S, st, run_mono (run_bind h) (fun a q H1 e => hq a H1 e q) fun c z => z⟩
end
/-- a shared value may be peeked at -/
theorem DE.peek {X : Cx} {C : Cc} {e : Expr} {f : Ev → R D} (h : DE X C true e f) : DE X C false e f := ⟨PE.imp h.pe fun σ H Q ⟨ρ, S, st, q⟩ =>
  ⟨ρ, S, st, run_mono q (fun d q v H' e r => q v H' e (r.mono (Kp.of (Same.refl _)) fun a w => .inl w.sh)) fun _ z => z⟩⟩
end PL
/-! PLB: expressions. -/
namespace PL
open PySem L2 PyProof.Rows

/-- a condition that nobody reckons by itself (the kernel would count to its bound) -/
theorem shut_ex (p : Prop) [Decidable p] : ∃ b : Bool, b = decide p := ⟨_, rfl⟩
noncomputable def shut (p : Prop) [Decidable p] : Bool := Classical.choose (shut_ex p)
theorem shut_eq (p : Prop) [Decidable p] : shut p = decide p := Classical.choose_spec (shut_ex p)
theorem shut_of {p : Prop} [Decidable p] (h : p) : shut p = true := by rw [shut_eq]; exact decide_eq_true h
theorem of_shut {p : Prop} [Decidable p] (h : shut p = true) : p := by rw [shut_eq] at h; exact of_decide_eq_true h
noncomputable section
def lineOk (n : Nat) : Bool := shut (n ≤ 16777216)
theorem lineOk_le {n : Nat} (h : lineOk n = true) : n ≤ sizeLine := by
  rw [sizeLine_eq]; exact of_shut h
theorem lineOk_of {n : Nat} (h : n ≤ 16777216) : lineOk n = true := shut_of h

/-! ### values -/
@[simp] def dVar (i : Nat) : Ev → R D := fun ρ => match ρ[i]? with
  | some (.sh d) => .ok d
  | some (.nw d) => .ok d
  | _ => .st
@[simp] def dPk (i : Nat) : Ev → R D := fun ρ => match ρ[i]? with
  | some (.sh d) => .ok d
  | some (.ow ds) => .ok (.lst ds)
  | some (.od ks ds) => .ok (.dct ks ds)
  | some (.nw d) => .ok d
  | some (.ot o) => .ok o.toD
  | _ => .st
@[simp] def dC (d : D) : Ev → R D := fun _ => .ok d
@[simp] def d1 (h : D → R D) (f : Ev → R D) : Ev → R D := fun ρ => f ρ >>= h
@[simp] def d2 (h : D → D → R D) (f g : Ev → R D) : Ev → R D := fun ρ => f ρ >>= fun x => g ρ >>= fun y => h x y
@[simp] def l2 (h : D → D → R (List D)) (f g : Ev → R D) : Ev → R (List D) := fun ρ => f ρ >>= fun x => g ρ >>= fun y => h x y
@[simp] def l1 (h : D → R (List D)) (f : Ev → R D) : Ev → R (List D) := fun ρ => f ρ >>= h
@[simp] def b2 (h : D → D → R Bool) (f g : Ev → R D) : Ev → R Bool := fun ρ => f ρ >>= fun x => g ρ >>= fun y => h x y
@[simp] def bV (f : Ev → R Bool) : Ev → R D := fun ρ => f ρ >>= fun b => .ok (.bl b)
@[simp] def lD (f : Ev → R (List D)) : Ev → R D := fun ρ => f ρ >>= fun ds => .ok (.lst ds)

@[simp] def vAdd (a b : D) : R D := match a, b with
  | .int i, .int j => .ok (.int (i + j))
  | .str x, .str y => R.when (lineOk (x.length + y.length)) (.ok (.str (x ++ y)))
  | .lst xs, .lst ys => R.when (lineOk (xs.length + ys.length)) (.ok (.lst (xs ++ ys)))
  | .tup xs, .tup ys => R.when (!xs.isEmpty && lineOk (xs.length + ys.length)) (.ok (.tup (xs ++ ys)))
  | _, _ => .st
@[simp] def vCat (a b : D) : R (List D) := match a, b with
  | .lst xs, .lst ys => R.when (lineOk (xs.length + ys.length)) (.ok (xs ++ ys))
  | _, _ => .st
@[simp] def vSub (a b : D) : R D := match a, b with
  | .int i, .int j => .ok (.int (i - j))
  | _, _ => .st
def mulOk (i j : Int) : Bool := shut (i.natAbs.log2 + j.natAbs.log2 < 134217000)
def divOk (j : Int) : Bool := shut (0 < j ∧ j < 1073741824)
def powOk (i j : Int) : Bool := shut (0 ≤ j ∧ j ≤ 1000000 ∧ i.natAbs < 2 ^ 64)
theorem divOk_of {j : Int} (c : divOk j = true) : 0 < j ∧ j < 1073741824 := of_shut c
theorem powOk_of {i j : Int} (c : powOk i j = true) : 0 ≤ j ∧ j ≤ 1000000 ∧ i.natAbs < 2 ^ 64 := of_shut c
@[simp] def vMul (a b : D) : R D := match a, b with
  | .int i, .int j => R.when (mulOk i j) (.ok (.int (i * j)))
  | _, _ => .st
def repOk (n : Nat) (k : Int) : Bool := shut (-(2 ^ 63) ≤ k ∧ k < 2 ^ 63 ∧ n * k.toNat ≤ 16777216)
@[simp] def vRep (a b : D) : R (List D) := match a, b with
  | .lst xs, .int k => R.when (repOk xs.length k) (.ok (List.replicate k.toNat xs).flatten)
  | _, _ => .st
@[simp] def vDiv (a b : D) : R D := match a, b with
  | .int i, .int j => R.when (divOk j) (.ok (.int (i / j)))
  | _, _ => .st
@[simp] def vMod (a b : D) : R D := match a, b with
  | .int i, .int j => R.when (decide (0 < j)) (.ok (.int (i % j)))
  | _, _ => .st
@[simp] def vPow (a b : D) : R D := match a, b with
  | .int i, .int j => R.when (powOk i j) (.ok (.int (i ^ j.toNat)))
  | _, _ => .st
@[simp] def vShl (a b : D) : R D := match a, b with
  | .int i, .int j => R.when (powOk i j) (.ok (.int (i * 2 ^ j.toNat)))
  | _, _ => .st
@[simp] def vShr (a b : D) : R D := match a, b with
  | .int i, .int j => R.when (decide (0 ≤ j)) (.ok (.int (i / 2 ^ j.toNat)))
  | _, _ => .st
@[simp] def vAnd (a b : D) : R D := match a, b with
  | .int i, .int j => .ok (.int (Builtin.bitAnd i j))
  | _, _ => .st
@[simp] def vOr (a b : D) : R D := match a, b with
  | .int i, .int j => .ok (.int (Builtin.bitOr i j))
  | _, _ => .st
@[simp] def vNeg (a : D) : R D := match a with
  | .int i => .ok (.int (-i))
  | _ => .st
@[simp] def vIdx (a b : D) : R D := match a, b with
  | .lst xs, .int i => R.of (atI xs i)
  | .tup xs, .int i => R.of (atI xs i)
  | .scr ns, .int i => R.of ((atI ns i).map D.int)
  | .str z, .int i => R.when (lineOk z.length) (R.of ((atI z.cps.toList i).map fun c => D.str ⟨#[c]⟩))
  | _, _ => .st

section
variable {X : Cx} {C : Cc} {m m' : Bool} {a b : Expr} {f g : Ev → R D} {pos : Pos}
theorem de_var {i : Nat} {e : Expr} (h : PE X e (tVar i)) : DE X C true e (dVar i) := ⟨PE.imp h fun σ H Q ⟨ρ, S, st, q⟩ => by
  unfold dVar at q
  cases e : ρ[i]? with
  | none => rw [e] at q; exact q.elim
  | some s =>
    rw [e] at q
    cases s with
    | sh d =>
      obtain ⟨x, e1, v, rfl, r⟩ := st.sl i _ e
      exact ⟨v, e1, q v H (Same.refl _) (r.mono (Kp.of (Same.refl _)) fun a w => .inl (.inl w))⟩
    | nw d =>
      obtain ⟨x, e1, v, rfl, r⟩ := st.sl i _ e
      exact ⟨v, e1, q v H (Same.refl _) (r.mono (Kp.of (Same.refl _)) fun a w => .inl (.inl w.1))⟩
    | no => exact q.elim
    | ow _ => exact q.elim
    | od _ _ => exact q.elim
    | ot _ => exact q.elim⟩
theorem de_pk {i : Nat} {e : Expr} (h : PE X e (tVar i)) : DE X C false e (dPk i) := ⟨PE.imp h fun σ H Q ⟨ρ, S, st, q⟩ => by
  unfold dPk at q
  cases e : ρ[i]? with
  | none => rw [e] at q; exact q.elim
  | some s =>
    rw [e] at q
    cases s with
    | sh d =>
      obtain ⟨x, e1, v, rfl, r⟩ := st.sl i _ e
      exact ⟨v, e1, q v H (Same.refl _) (r.mono (Kp.of (Same.refl _)) fun a w => .inl (.inl w))⟩
    | no => exact q.elim
    | ow ds =>
      obtain ⟨x, e1, p, vs, rfl, h1, h2, h3, r⟩ := st.sl i _ e
      exact ⟨.ref p, e1, q _ H (Same.refl _) (.lst h1 (.inr ⟨rfl, h2⟩) (r.mono (Kp.of (Same.refl _)) fun a w => .inl (.inl w)))⟩
    | od ks ds =>
      obtain ⟨x, e1, p, vs, rfl, h1, hl, h2, h3, r⟩ := st.sl i _ e
      exact ⟨.ref p, e1, q _ H (Same.refl _) (.dct h1 (.inr ⟨rfl, h2⟩) hl (r.mono (Kp.of (Same.refl _)) fun a w => .inl (.inl w)))⟩
    | nw d =>
      obtain ⟨x, e1, v, rfl, r⟩ := st.sl i _ e
      exact ⟨v, e1, q v H (Same.refl _) (r.mono (Kp.of (Same.refl _)) fun a w => .inl (.inl w.1))⟩
    | ot o =>
      obtain ⟨x, e1, v, F, rfl, r, k⟩ := st.sl i _ e
      exact ⟨v, e1, q v H (Same.refl _) (r.sh (fun a w => .inl (.inl w)) fun a m => .inr ⟨rfl, (k a m).1⟩)⟩⟩
theorem de_c {d : D} {v : V} {e : Expr} (h : PE X e (tC v)) (hs : ∀ H W, Sh X.K C.T H W d v) : DE X C m e (dC d) := ⟨PE.imp h fun _ H _ ⟨_, _, _, q⟩ => q v H (Same.refl _) (hs _ _)⟩
theorem de_int {i : Int} {j : Nat} : DE X C m (.Constant (.int i) j pos) (dC (.int i)) := de_c pe_int fun _ _ => .int i
theorem de_bl {i : Bool} {j : Nat} : DE X C m (.Constant (.bool i) j pos) (dC (.bl i)) := de_c pe_bl fun _ _ => .bl i
theorem de_non {j : Nat} : DE X C m (.Constant .none j pos) (dC .non) := de_c pe_non fun _ _ => .non
theorem de_str {x : Str} {j : Nat} : DE X C m (.Constant (.str x) j pos) (dC (.str x)) := de_c pe_str fun _ _ => .str x
theorem de_gint {x : Str} {i : Int} {t : Tok} (hg : Gl X x) (hm : X.mg x = some (.int i t)) (hd : (x == ("__debug__" : Str)) = false := by decide) : DE X C m (.Name x pos) (dC (.int i)) := de_c (pe_glob (v := .int i) hg hm ⟨t, rfl⟩ hd) fun _ _ => .int i
theorem de_gstr {x : Str} {i : Str} {t : Tok} (hg : Gl X x) (hm : X.mg x = some (.str i t)) (hd : (x == ("__debug__" : Str)) = false := by decide) : DE X C m (.Name x pos) (dC (.str i)) := de_c (pe_glob (v := .str i) hg hm ⟨t, rfl⟩ hd) fun _ _ => .str i

theorem de_op {op : Operator} {r : R2} {h : D → D → R D} (ho : OpR X (binaryOp op) r)
    (hr : ∀ (S : Addr → Prop) (H H2 : Hp) (x y : D) (v u : V) (Q : VK), Same H H2 → Sh X.K C.T H2 (Wf m C.H0 S H H2) x v → Sh X.K C.T H2 (Wf m' C.H0 S H H2) y u →
      run (h x y) (fun d => ∀ w H', Same H H' → Sh X.K C.T H' (Wf m C.H0 S H H') d w → Q w H') (EXc C H) → r v u H2 Q)
    (ha : DE X C m a f) (hb : DE X C m' b g) : DE X C m (.BinOp a op b pos) (d2 h f g) :=
  ⟨PE.imp (pe_op ho ha.pe hb.pe) fun σ H Q ⟨ρ, S, st, q⟩ => tD_two (k := h) st q fun x y v u H2 e r1 r2 q2 => hr S H H2 x y v u Q e r1 r2 q2⟩
/-- of two ints an int -/
theorem int2 {K : PySem.W.Frag} {T : Tb} {H2 : Hp} {W W' : Addr → Prop} {x y : D} {v u : V} {i j : Int} (r1 : Sh K T H2 W x v) (r2 : Sh K T H2 W' y u) (e1 : x = .int i) (e2 : y = .int j) : v = .int i ∧ u = .int j := by
  subst e1 e2
  cases r1
  cases r2
  exact ⟨rfl, rfl⟩
theorem de_sub (ha : DE X C m a f) (hb : DE X C m' b g) : DE X C m (.BinOp a .Sub b pos) (d2 vSub f g) := de_op op_sub (fun S H H2 x y v u Q e r1 r2 q => by
  unfold vSub at q
  split at q
  · obtain ⟨rfl, rfl⟩ := int2 r1 r2 rfl rfl
    exact ⟨_, _, rfl, rfl, q _ H2 e (.int _)⟩
  · exact q.elim) ha hb
theorem op_mulX : OpR X (binaryOp .Mult) (rI (fun i j => mulOk i j = true) fun i j => .int (i * j)) := opI fun i j _ _ _ _ _ hc q => mul_int q (by
  have b : ∀ x : Int, Builtin.Int.intBits x ≤ x.natAbs.log2 + 1 := fun x => by
    unfold Builtin.Int.intBits
    split <;> omega
  have h1 := b i
  have h2 := b j
  have h3 : i.natAbs.log2 + j.natAbs.log2 < 134217000 := of_shut hc
  have e : bitsLine = 134217728 := by decide
  unfold IntMulOk
  intro z
  rw [Bool.and_eq_true] at z
  have z2 := z.2
  unfold Builtin.Int.intTooBig at z2
  have z3 := of_decide_eq_true z2
  rw [e] at z3
  omega)
theorem de_mul (ha : DE X C m a f) (hb : DE X C m' b g) : DE X C m (.BinOp a .Mult b pos) (d2 vMul f g) := de_op op_mulX (fun S H H2 x y v u Q e r1 r2 q => by
  unfold vMul at q
  split at q
  · obtain ⟨c, q⟩ := run_when q
    obtain ⟨rfl, rfl⟩ := int2 r1 r2 rfl rfl
    exact ⟨_, _, rfl, rfl, c, q _ H2 e (.int _)⟩
  · exact q.elim) ha hb
theorem de_div (ha : DE X C m a f) (hb : DE X C m' b g) : DE X C m (.BinOp a .FloorDiv b pos) (d2 vDiv f g) := de_op op_fdiv (fun S H H2 x y v u Q e r1 r2 q => by
  unfold vDiv at q
  split at q
  · obtain ⟨c, q⟩ := run_when q
    obtain ⟨rfl, rfl⟩ := int2 r1 r2 rfl rfl
    exact ⟨_, _, rfl, rfl, divOk_of c, q _ H2 e (.int _)⟩
  · exact q.elim) ha hb
theorem de_mod (ha : DE X C m a f) (hb : DE X C m' b g) : DE X C m (.BinOp a .Mod b pos) (d2 vMod f g) := de_op op_mod (fun S H H2 x y v u Q e r1 r2 q => by
  unfold vMod at q
  split at q
  · obtain ⟨c, q⟩ := run_when q
    obtain ⟨rfl, rfl⟩ := int2 r1 r2 rfl rfl
    exact ⟨_, _, rfl, rfl, of_decide_eq_true c, q _ H2 e (.int _)⟩
  · exact q.elim) ha hb
theorem cpow {i j : Int} (c : powOk i j = true) : CPow i j := powOk_of c
theorem de_pow (ha : DE X C m a f) (hb : DE X C m' b g) : DE X C m (.BinOp a .Pow b pos) (d2 vPow f g) := de_op op_pow (fun S H H2 x y v u Q e r1 r2 q => by
  unfold vPow at q
  split at q
  · obtain ⟨c, q⟩ := run_when q
    obtain ⟨rfl, rfl⟩ := int2 r1 r2 rfl rfl
    exact ⟨_, _, rfl, rfl, cpow c, q _ H2 e (.int _)⟩
  · exact q.elim) ha hb
theorem de_shl (ha : DE X C m a f) (hb : DE X C m' b g) : DE X C m (.BinOp a .LShift b pos) (d2 vShl f g) := de_op op_shl (fun S H H2 x y v u Q e r1 r2 q => by
  unfold vShl at q
  split at q
  · obtain ⟨c, q⟩ := run_when q
    obtain ⟨rfl, rfl⟩ := int2 r1 r2 rfl rfl
    exact ⟨_, _, rfl, rfl, cpow c, q _ H2 e (.int _)⟩
  · exact q.elim) ha hb
theorem de_shr (ha : DE X C m a f) (hb : DE X C m' b g) : DE X C m (.BinOp a .RShift b pos) (d2 vShr f g) := de_op op_shr (fun S H H2 x y v u Q e r1 r2 q => by
  unfold vShr at q
  split at q
  · obtain ⟨c, q⟩ := run_when q
    obtain ⟨rfl, rfl⟩ := int2 r1 r2 rfl rfl
    exact ⟨_, _, rfl, rfl, of_decide_eq_true c, q _ H2 e (.int _)⟩
  · exact q.elim) ha hb
theorem de_and (ha : DE X C m a f) (hb : DE X C m' b g) : DE X C m (.BinOp a .BitAnd b pos) (d2 vAnd f g) := de_op op_and (fun S H H2 x y v u Q e r1 r2 q => by
  unfold vAnd at q
  split at q
  · obtain ⟨rfl, rfl⟩ := int2 r1 r2 rfl rfl
    exact ⟨_, _, rfl, rfl, q _ H2 e (.int _)⟩
  · exact q.elim) ha hb
theorem de_or (ha : DE X C m a f) (hb : DE X C m' b g) : DE X C m (.BinOp a .BitOr b pos) (d2 vOr f g) := de_op op_or (fun S H H2 x y v u Q e r1 r2 q => by
  unfold vOr at q
  split at q
  · obtain ⟨rfl, rfl⟩ := int2 r1 r2 rfl rfl
    exact ⟨_, _, rfl, rfl, q _ H2 e (.int _)⟩
  · exact q.elim) ha hb
theorem de_neg (ha : DE X C m a f) : DE X C m (.UnaryOp .USub a pos) (d1 vNeg f) :=
  ⟨PE.imp (pe_un un_neg ha.pe) fun σ H Q ⟨ρ, S, st, q⟩ => tD_one (k := vNeg) st q fun x v H2 e r1 q2 => by
    unfold vNeg at q2
    split at q2
    · cases r1
      exact ⟨_, rfl, q2 _ H2 e (.int _)⟩
    · exact q2.elim⟩

/-- a new tracked object -/
theorem same_upd {H : Hp} {p : Addr} {o : HO} (h : H p = none) : Same H (upd H p o) := fun b u e => by rw [upd_ne (ne_of_none e h)]; exact e
theorem Fw.new {S : Addr → Prop} {H H2 : Hp} {p : Addr} {o : HO} (e : Same H H2) (h : H2 p = none) : Fw S H (upd H2 p o) p := .inr ⟨e.free h, by rw [upd_same]; exact fun z => nomatch z⟩
theorem Wf.new {m : Bool} {S : Addr → Prop} {H H2 : Hp} {p : Addr} {o : HO} (e : Same H H2) (h : H2 p = none) : Wf m C.H0 S H (upd H2 p o) p := .inl (Fw.new e h)
/-- a list just laid, from data -/
theorem sh_new {K : PySem.W.Frag} {T : Tb} {S : Addr → Prop} {H H2 : Hp} {p : Addr} {vs : List V} {ds : List D} (e : Same H H2) (h : H2 p = none) (r : ShL K T H2 (Wf m C.H0 S H H2) ds vs) : Sh K T (upd H2 p (.lst vs)) (Wf m C.H0 S H (upd H2 p (.lst vs))) (.lst ds) (.ref p) :=
  .lst upd_same (Wf.new e h) (r.mono (Kp.of (same_upd h)) fun _ w => Wf.more (same_upd h) w)
theorem sh_newT {K : PySem.W.Frag} {T : Tb} {S : Addr → Prop} {H H2 : Hp} {p : Addr} {vs : List V} {ds : List D} (e : Same H H2) (h : H2 p = none) (r : ShL K T H2 (Wf m C.H0 S H H2) ds vs) : Sh K T (upd H2 p (.tup vs)) (Wf m C.H0 S H (upd H2 p (.tup vs))) (.tup ds) (.ref p) :=
  .tup upd_same (r.mono (Kp.of (same_upd h)) fun _ w => Wf.more (same_upd h) w)
theorem shl_new {K : PySem.W.Frag} {T : Tb} {S : Addr → Prop} {H H2 : Hp} {p : Addr} {vs : List V} {ds : List D} (e : Same H H2) (hb : ∀ a, S a → H a ≠ none) (h : H2 p = none) (r : ShL K T H2 (Wf true C.H0 S H H2) ds vs) :
    ShL K T (upd H2 p (.lst vs)) (fun a => Fw S H (upd H2 p (.lst vs)) a ∧ a ≠ p) ds vs :=
  r.mono (Kp.of (same_upd h)) fun a w => ⟨Fw.more (same_upd h) w.sh, fun z => by
    subst z
    rcases w.sh with z | ⟨_, z⟩
    · exact hb _ z (e.free h)
    · exact z h⟩

theorem de_add (ha : DE X C m a f) (hb : DE X C m b g) : DE X C m (.BinOp a .Add b pos) (d2 vAdd f g) := de_op (((op_add.or op_add_str).or op_cat).or op_catT) (fun S H H2 x y v u Q e r1 r2 q => by
  unfold vAdd at q
  split at q
  · obtain ⟨rfl, rfl⟩ := int2 r1 r2 rfl rfl
    exact .inl (.inl (.inl ⟨_, _, rfl, rfl, q _ H2 e (.int _)⟩))
  · obtain ⟨c, q⟩ := run_when q
    cases r1
    cases r2
    exact .inl (.inl (.inr ⟨_, _, rfl, rfl, lineOk_le c, q _ H2 e (.str _)⟩))
  · obtain ⟨c, q⟩ := run_when q
    cases r1 with
    | lst h1 w1 s1 =>
      cases r2 with
      | lst h2 w2 s2 =>
        refine .inl (.inr ⟨_, _, _, _, rfl, rfl, h1, h2, ?_, fun p hp => ?_⟩)
        · rw [← s1.length, ← s2.length]; exact lineOk_le c
        · exact q _ _ (e.trans (same_upd hp)) (sh_new e hp (s1.append s2))
  · obtain ⟨c, q⟩ := run_when q
    rw [Bool.and_eq_true] at c
    cases r1 with
    | tup h1 s1 =>
      cases r2 with
      | tup h2 s2 =>
        refine .inr ⟨_, _, _, _, rfl, rfl, seqT h1, seqT h2, ?_, ?_, fun e2 => ?_, fun _ p hp => ?_⟩
        · intro z
          subst z
          have := s1.length
          rw [List.length_nil, List.length_eq_zero_iff] at this
          rw [this] at c
          exact absurd c.1 (by decide)
        · rw [← s1.length, ← s2.length]; exact lineOk_le c.2
        · subst e2
          have := s2.length
          rw [List.length_nil, List.length_eq_zero_iff] at this
          subst this
          rw [List.append_nil] at q
          exact q _ _ e (.tup h1 s1)
        · exact q _ _ (e.trans (same_upd hp)) (sh_newT e hp (s1.append s2))
  · exact q.elim) ha hb

/-! ### new lists -/
theorem fe_of {e : Expr} {t : TE} {fs : Ev → R (List D)} (h : PE X e t) (k : ∀ σ H Q, tF X.K C fs σ H Q → t σ H Q) : FE X C e fs := ⟨PE.imp h k⟩
theorem FE.de {e : Expr} {fs : Ev → R (List D)} (h : FE X C e fs) : DE X C m e (lD fs) := ⟨PE.imp h.pe fun σ H Q ⟨ρ, S, st, q⟩ =>
  ⟨ρ, S, st, run_mono (run_bind q) (fun ds q p vs H' e hn hp r => q _ H' e (.lst hp (.inl (.inr ⟨hn, by rw [hp]; exact fun z => nomatch z⟩)) (r.mono (Kp.of (Same.refl _)) fun a w => .inl w.1))) fun _ z => z⟩⟩
theorem fe_cat (ha : DE X C true a f) (hb : DE X C true b g) : FE X C (.BinOp a .Add b pos) (l2 vCat f g) := ⟨PE.imp (pe_op op_cat ha.pe hb.pe) fun σ H Q ⟨ρ, S, st, q⟩ => tD_two (k := vCat) st q fun x y v u H2 e r1 r2 q => by
  unfold vCat at q
  split at q
  · obtain ⟨c, q⟩ := run_when q
    cases r1 with
    | lst h1 w1 s1 =>
      cases r2 with
      | lst h2 w2 s2 =>
        refine ⟨_, _, _, _, rfl, rfl, h1, h2, ?_, fun p hp => ?_⟩
        · rw [← s1.length, ← s2.length]; exact lineOk_le c
        · exact q _ _ _ (e.trans (same_upd hp)) (e.free hp) upd_same (shl_new e st.bnd hp (s1.append s2))
  · exact q.elim⟩
theorem fe_rep (ha : DE X C true a f) (hb : DE X C m b g) : FE X C (.BinOp a .Mult b pos) (l2 vRep f g) := ⟨PE.imp (pe_op op_rep ha.pe hb.pe) fun σ H Q ⟨ρ, S, st, q⟩ => tD_two (k := vRep) st q fun x y v u H2 e r1 r2 q => by
  unfold vRep at q
  split at q
  · obtain ⟨c, q⟩ := run_when q
    obtain ⟨c1, c2, c3⟩ := of_shut c
    cases r1 with
    | lst h1 w1 s1 =>
      cases r2 with
      | int k =>
        refine ⟨_, _, _, rfl, rfl, h1, c1, c2, ?_, fun p hp => ?_⟩
        · rw [← s1.length, sizeLine_eq]; exact c3
        · exact q _ _ _ (e.trans (same_upd hp)) (e.free hp) upd_same (shl_new e st.bnd hp (s1.rep _))
  · exact q.elim⟩

/-! ### arguments, displays -/
@[simp] def aNil : Ev → R (List D) := fun _ => .ok []
@[simp] def aCons (f : Ev → R D) (fs : Ev → R (List D)) : Ev → R (List D) := fun ρ => f ρ >>= fun d => fs ρ >>= fun ds => .ok (d :: ds)
variable {e : Expr} {es : List Expr} {fs : Ev → R (List D)}
theorem da_nil : DA X C m [] aNil := ⟨PA.imp pa_nil fun _ H _ ⟨_, _, _, q⟩ => q [] H (Same.refl _) .nil⟩
theorem da_cons (h : DE X C m e f) (hs : DA X C m es fs) (hst : starEach (e :: es) X.env = (false, eval e X.env) :: starEach es X.env := by rfl) : DA X C m (e :: es) (aCons f fs) :=
  ⟨PA.imp (pa_cons h.pe hs.pa hst) fun σ H Q ⟨ρ, S, st, q⟩ => tD_one (k := fun d => fs ρ >>= fun ds => .ok (d :: ds)) st q fun d v H1 e1 r1 q1 => by
    refine tDA_one (k := fun ds => R.ok (d :: ds)) (ok := fun ds => ∀ vs H', Same H H' → ShL X.K C.T H' (Wf m C.H0 S H H') ds vs → Q vs H') (st.grow e1) (run_mono q1 (fun _ z => z) fun c z => EXc.mono e1 z) fun ds vs H2 e2 r2 q2 => ?_
    exact q2 _ _ (e1.trans e2) (.cons (r1.mono (Kp.of e2) fun a w => Wf.more e2 w) (r2.mono (Kp.of (Same.refl _)) fun a w => Wf.trans e1 e2 w))⟩
@[simp] def lTup (fs : Ev → R (List D)) : Ev → R D := fun ρ => fs ρ >>= fun ds => R.when (lineOk ds.length) (.ok (.tup ds))
@[simp] def lLst (fs : Ev → R (List D)) : Ev → R (List D) := fun ρ => fs ρ >>= fun ds => R.when (lineOk ds.length) (.ok ds)
theorem de_tup {k : Nat} (h : DA X C m es fs) : DE X C m (.Tuple es k pos) (lTup fs) := ⟨PE.imp (pe_tup h.pa) fun σ H Q ⟨ρ, S, st, q⟩ => tDA_one (k := fun ds => R.when (lineOk ds.length) (.ok (D.tup ds))) st q fun ds vs H1 e r q => by
  obtain ⟨c, q⟩ := run_when q
  exact ⟨by rw [← r.length]; exact lineOk_le c, fun p hp => q _ _ (e.trans (same_upd hp)) (sh_newT e hp r)⟩⟩
theorem fe_lst (h : DA X C true es fs) : FE X C (.List es pos) (lLst fs) := ⟨PE.imp (pe_lst h.pa) fun σ H Q ⟨ρ, S, st, q⟩ => tDA_one (k := fun ds => R.when (lineOk ds.length) (.ok ds)) st q fun ds vs H1 e r q => by
  obtain ⟨c, q⟩ := run_when q
  exact ⟨by rw [← r.length]; exact lineOk_le c, fun p hp => q _ _ _ (e.trans (same_upd hp)) (e.free hp) upd_same (shl_new e st.bnd hp r)⟩⟩
@[simp] def lLP (fs : Ev → R (List D)) : Ev → R D := fun ρ => fs ρ >>= fun ds => R.when (lineOk ds.length) (.ok (.lst ds))
theorem de_lstP (h : DA X C m es fs) : DE X C m (.List es pos) (lLP fs) := ⟨PE.imp (pe_lst h.pa) fun σ H Q ⟨ρ, S, st, q⟩ => tDA_one (k := fun ds => R.when (lineOk ds.length) (.ok (D.lst ds))) st q fun ds vs H1 e r q => by
  obtain ⟨c, q⟩ := run_when q
  exact ⟨by rw [← r.length]; exact lineOk_le c, fun p hp => q _ _ (e.trans (same_upd hp)) (sh_new e hp r)⟩⟩

/-! ### an item -/
theorem shAt {K : PySem.W.Frag} {T : Tb} {H : Hp} {W : Addr → Prop} {ds : List D} {vs : List V} {i : Int} {d : D} (r : ShL K T H W ds vs) (h : atI ds i = some d) : ∃ v, atI vs i = some v ∧ Sh K T H W d v := by
  unfold atI at h ⊢
  rw [← r.length]
  cases e : ixN ds.length i with
  | none => rw [e] at h; cases h
  | some j =>
    rw [e] at h
    exact r.get h
theorem at_ints {ns : List Int} {i : Int} {n : Int} (h : atI ns i = some n) : atI (ns.map V.int) i = some (.int n) := by
  unfold atI at h ⊢
  rw [List.length_map]
  cases e : ixN ns.length i with
  | none => rw [e] at h; cases h
  | some j =>
    rw [e] at h
    have h' : ns[j]? = some n := h
    show (ns.map V.int)[j]? = _
    rw [List.getElem?_map, h']
    rfl
theorem de_idx (ha : DE X C m a f) (hb : DE X C m' b g) (hs : PlainIx b) : DE X C m (.Subscript a b pos) (d2 vIdx f g) := ⟨PE.imp (pe_ix ix_seq ha.pe hb.pe hs) fun σ H Q ⟨ρ, S, st, q⟩ => tD_two (k := vIdx) st q fun x y v u H2 e r1 r2 q => by
  unfold vIdx at q
  split at q
  · obtain ⟨d, ed, q⟩ := run_of q
    cases r2
    cases r1 with
    | lst h1 w1 s1 =>
      obtain ⟨w, ew, rw'⟩ := shAt s1 ed
      exact .inl ⟨_, _, _, w, rfl, rfl, SqL.of h1, ew, q _ _ e rw'⟩
  · obtain ⟨d, ed, q⟩ := run_of q
    cases r2
    cases r1 with
    | tup h1 s1 =>
      obtain ⟨w, ew, rw'⟩ := shAt s1 ed
      exact .inr (.inl ⟨_, _, _, w, rfl, rfl, SqT.of h1, ew, q _ _ e rw'⟩)
  · obtain ⟨d, ed, q⟩ := run_of q
    rw [Option.map_eq_some_iff] at ed
    obtain ⟨n, en, rfl⟩ := ed
    cases r2
    cases r1 with
    | scr h1 =>
      refine .inl ⟨_, _, _, .int n, rfl, rfl, seqL h1, at_ints en, q _ _ e (.int _)⟩
  · obtain ⟨c, q⟩ := run_when q
    obtain ⟨d, ed, q⟩ := run_of q
    rw [Option.map_eq_some_iff] at ed
    obtain ⟨n, en, rfl⟩ := ed
    cases r2
    cases r1
    exact .inr (.inr ⟨_, _, n, rfl, rfl, lineOk_le c, en, q _ _ e (.str _)⟩)
  · exact q.elim⟩
/-- an item of a list of one's own -/
@[simp] def dIxO (i : Nat) (g : Ev → R D) : Ev → R D := fun ρ => match ρ[i]? with
  | some (.ow ds) => g ρ >>= fun y => vIdx (.lst ds) y
  | _ => .st
theorem de_idxO {i : Nat} (ha : PE X a (tVar i)) (hb : DE X C m' b g) (hs : PlainIx b) : DE X C true (.Subscript a b pos) (dIxO i g) := ⟨PE.imp (pe_ix ix_list ha hb.pe hs) fun σ H Q ⟨ρ, S, st, q⟩ => by
  unfold dIxO at q
  cases es : ρ[i]? with
  | none => rw [es] at q; exact q.elim
  | some s =>
    rw [es] at q
    cases s with
    | ow ds =>
      obtain ⟨x, e1, p, vs, rfl, h1, h2, h3, r⟩ := st.sl i _ es
      refine ⟨.ref p, e1, ?_⟩
      refine tD_one (k := fun y => vIdx (.lst ds) y) st q fun y u H2 e r2 q2 => ?_
      cases y with
      | int j =>
        obtain ⟨d, ed, q⟩ := run_of q2
        cases r2
        obtain ⟨w, ew, rw'⟩ := shAt r ed
        exact ⟨_, _, _, w, rfl, rfl, SqL.of (e _ _ h1), ew, q _ _ e (rw'.mono (Kp.of e) fun a w => .inl (.inl w))⟩
      | _ => exact q2.elim
    | no => exact q.elim
    | sh _ => exact q.elim
    | od _ _ => exact q.elim
    | nw _ => exact q.elim
    | ot _ => exact q.elim⟩
end
end
end PL
/-! PLC: comparisons, tests, slices, built-in calls. -/
namespace PL
open PySem L2 PyProof.Rows
noncomputable section

/-! ### data by the library's words -/
mutual
def D.toPy : D → Option PyData
  | .non => some .none
  | .bl b => some (.bool b)
  | .int i => some (.int i)
  | .str x => some (.str x)
  | .tup xs => (D.toPyL xs).map .tuple
  | .lst xs => (D.toPyL xs).map .list
  | .scr ns => some (.list (ns.map .int))
  | .dct _ _ => none
  | .ob _ _ => none
  | .ptr _ => none
def D.toPyL : List D → Option (List PyData)
  | [] => some []
  | x :: xs => match x.toPy, D.toPyL xs with
    | some p, some ps => some (p :: ps)
    | _, _ => none
end
theorem toPyL_cons {x : D} {xs : List D} {r : List PyData} (h : D.toPyL (x :: xs) = some r) : ∃ p ps, r = p :: ps ∧ x.toPy = some p ∧ D.toPyL xs = some ps := by
  rw [D.toPyL] at h
  cases e1 : x.toPy with
  | none => rw [e1] at h; cases h
  | some p =>
    cases e2 : D.toPyL xs with
    | none => rw [e1, e2] at h; cases h
    | some ps =>
      rw [e1, e2] at h
      cases h
      exact ⟨p, ps, rfl, rfl, rfl⟩
section
variable {K : PySem.W.Frag} {T : Tb} {H : Hp} {W : Addr → Prop}
theorem dp_ints : ∀ ns : List Int, DpAll K H (ns.map V.int) (ns.map PyData.int)
  | [] => .nil
  | n :: ns => .cons (.int n) (dp_ints ns)
mutual
theorem Sh.dp : ∀ {d : D} {v : V} {p : PyData}, Sh K T H W d v → d.toPy = some p → Dp K H v p
  | _, _, _, .non, e => by rw [D.toPy] at e; cases e; exact .non
  | _, _, _, .bl b, e => by rw [D.toPy] at e; cases e; exact .bl b
  | _, _, _, .int i, e => by rw [D.toPy] at e; cases e; exact .int i
  | _, _, _, .str x, e => by rw [D.toPy] at e; cases e; exact .str x
  | _, _, _, .tup h r, e => by
    rw [D.toPy, Option.map_eq_some_iff] at e
    obtain ⟨ps, e1, rfl⟩ := e
    exact .tup (seqT h) (ShL.dp r e1)
  | _, _, _, .lst h w r, e => by
    rw [D.toPy, Option.map_eq_some_iff] at e
    obtain ⟨ps, e1, rfl⟩ := e
    exact .lst (SqL.of h) (ShL.dp r e1)
  | _, _, _, .scr h, e => by
    rw [D.toPy] at e
    cases e
    exact .lst (seqL h) (dp_ints _)
  | _, _, _, .dct _ _ _ _, e => by rw [D.toPy] at e; cases e
  | _, _, _, .ob _ _ _ _, e => by rw [D.toPy] at e; cases e
  | _, _, _, .ptr _, e => by rw [D.toPy] at e; cases e
theorem ShL.dp : ∀ {ds : List D} {vs : List V} {ps : List PyData}, ShL K T H W ds vs → D.toPyL ds = some ps → DpAll K H vs ps
  | _, _, _, .nil, e => by rw [D.toPyL] at e; cases e; exact .nil
  | _, _, _, .cons h r, e => by
    obtain ⟨p, ps, rfl, e1, e2⟩ := toPyL_cons e
    exact .cons (Sh.dp h e1) (ShL.dp r e2)
end
end

/-! ### comparisons, by values -/
def CmpD (X : Cx) (C : Cc) (op : CmpOp) (c : D → D → Option Bool) : Prop :=
  ∃ r : R2, OpR X (compareOp op) r ∧ ∀ {T : Tb} (H2 : Hp) (W W' : Addr → Prop) (x y : D) (v u : V) (Q : VK) (b : Bool), Sh X.K T H2 W x v → Sh X.K T H2 W' y u → c x y = some b → Q (.bl b) H2 → r v u H2 Q
@[simp] def cI (p : Int → Int → Bool) (x y : D) : Option Bool := match x, y with
  | .int i, .int j => some (p i j)
  | _, _ => none
abbrev cLt := cI fun i j => decide (i < j)
abbrev cLe := cI fun i j => decide (i ≤ j)
abbrev cGt := cI fun i j => decide (j < i)
abbrev cGe := cI fun i j => decide (j ≤ i)
def cEq (x y : D) : Option Bool := match x.toPy, y.toPy with
  | some p, some q => if (SeqAt.shaped p && SeqAt.shaped q) = true then some (PyData.eqv p q) else none
  | _, _ => none
@[simp] def cNe (x y : D) : Option Bool := (cEq x y).map (!·)
@[simp] def cIsN (x y : D) : Option Bool := match x, y with
  | .non, .non => some true
  | _, .non => some false
  | _, _ => none
@[simp] def cNotN (x y : D) : Option Bool := (cIsN x y).map (!·)
@[simp] def cIsB (x y : D) : Option Bool := match x, y with
  | .bl a, .bl b => some (decide (a = b))
  | _, _ => none
@[simp] def cNotB (x y : D) : Option Bool := (cIsB x y).map (!·)
def D.atom : D → Option V
  | .non => some .non
  | .bl b => some (.bl b)
  | .int i => some (.int i)
  | .str x => some (.str x)
  | _ => none
def atoms : List D → Option (List V)
  | [] => some []
  | x :: xs => match x.atom, atoms xs with
    | some v, some vs => some (v :: vs)
    | _, _ => none
def cIn (x y : D) : Option Bool := match y with
  | .lst ys => match x.toPy, D.toPyL ys with
    | some p, some ps => if (SeqAt.shaped p && SeqAt.shaped (.list ps)) = true then some (ps.any fun z => PyData.eqv z p) else none
    | _, _ => none
  | .tup ys => match x.atom, atoms ys with
    | some v, some vs => some (inV v vs)
    | _, _ => none
  | .str b => match x with
    | .str a => some (!(Builtin.Str.occurrences b a 0 b.length 1).isEmpty)
    | _ => none
  | _ => none
@[simp] def cNotIn (x y : D) : Option Bool := (cIn x y).map (!·)
section
variable {X : Cx} {C : Cc}
theorem cmp_i {op : CmpOp} {p : Int → Int → Bool} (ho : OpR X (compareOp op) (rI0 fun i j => .bl (p i j))) : CmpD X C op (cI p) := ⟨_, ho, fun H2 W W' x y v u Q b r1 r2 e q => by
  unfold cI at e
  split at e
  · cases e
    cases r1
    cases r2
    exact ⟨_, _, rfl, rfl, q⟩
  · cases e⟩
theorem cmp_lt : CmpD X C .Lt cLt := cmp_i op_lt
theorem cmp_le : CmpD X C .LtE cLe := cmp_i op_le
theorem cmp_gt : CmpD X C .Gt cGt := cmp_i op_gt
theorem cmp_ge : CmpD X C .GtE cGe := cmp_i op_ge
theorem cEq_some {x y : D} {b : Bool} (e : cEq x y = some b) : ∃ p q, x.toPy = some p ∧ y.toPy = some q ∧ SeqAt.shaped p = true ∧ SeqAt.shaped q = true ∧ b = PyData.eqv p q := by
  unfold cEq at e
  cases e1 : x.toPy with
  | none => rw [e1] at e; cases e
  | some p =>
    cases e2 : y.toPy with
    | none => rw [e1, e2] at e; cases e
    | some q =>
      rw [e1, e2] at e
      dsimp only at e
      split at e
      · rename_i hc
        rw [Bool.and_eq_true] at hc
        cases e
        exact ⟨p, q, rfl, rfl, hc.1, hc.2, rfl⟩
      · cases e
theorem cmp_eq {k : Nat} (hr : Room k X.A) : CmpD X C .Eq cEq := ⟨_, op_eqD hr.units, fun H2 W W' x y v u Q b r1 r2 e q => by
  obtain ⟨p, p', e1, e2, s1, s2, rfl⟩ := cEq_some e
  exact ⟨p, p', r1.dp e1, r2.dp e2, s1, s2, q⟩⟩
theorem cmp_ne {k : Nat} (hr : Room k X.A) : CmpD X C .NotEq cNe := ⟨_, op_neD hr.units, fun H2 W W' x y v u Q b r1 r2 e q => by
  unfold cNe at e
  rw [Option.map_eq_some_iff] at e
  obtain ⟨b', e, rfl⟩ := e
  obtain ⟨p, p', e1, e2, s1, s2, rfl⟩ := cEq_some e
  exact ⟨p, p', r1.dp e1, r2.dp e2, s1, s2, q⟩⟩
theorem isN_v {K : PySem.W.Frag} {T : Tb} {H : Hp} {W W' : Addr → Prop} {x y : D} {v u : V} {b : Bool} (r1 : Sh K T H W x v) (r2 : Sh K T H W' y u) (e : cIsN x y = some b) : u = .non ∧ b = decide (v = .non) := by
  unfold cIsN at e
  split at e
  · cases e; cases r1; cases r2; exact ⟨rfl, rfl⟩
  · rename_i h
    cases e
    cases r2
    refine ⟨rfl, ?_⟩
    cases r1 <;> first | exact (h rfl).elim | rfl
  · cases e
theorem cmp_isN : CmpD X C .Is cIsN := ⟨_, op_isN, fun H2 W W' x y v u Q b r1 r2 e q => by
  obtain ⟨rfl, rfl⟩ := isN_v r1 r2 e
  exact ⟨rfl, q⟩⟩
theorem cmp_notN : CmpD X C .IsNot cNotN := ⟨_, op_notN, fun H2 W W' x y v u Q b r1 r2 e q => by
  unfold cNotN at e
  rw [Option.map_eq_some_iff] at e
  obtain ⟨b', e, rfl⟩ := e
  obtain ⟨rfl, rfl⟩ := isN_v r1 r2 e
  exact ⟨rfl, q⟩⟩
theorem cmp_isB : CmpD X C .Is cIsB := ⟨_, op_isBl, fun H2 W W' x y v u Q b r1 r2 e q => by
  unfold cIsB at e
  split at e
  · cases e; cases r1; cases r2; exact ⟨_, _, rfl, rfl, q⟩
  · cases e⟩
theorem cmp_notB : CmpD X C .IsNot cNotB := ⟨_, op_notBl, fun H2 W W' x y v u Q b r1 r2 e q => by
  unfold cNotB at e
  rw [Option.map_eq_some_iff] at e
  obtain ⟨b', e, rfl⟩ := e
  unfold cIsB at e
  split at e
  · cases e; cases r1; cases r2; exact ⟨_, _, rfl, rfl, q⟩
  · cases e⟩
theorem Sh.atom {K : PySem.W.Frag} {T : Tb} {H : Hp} {W : Addr → Prop} {d : D} {v w : V} (r : Sh K T H W d v) (e : d.atom = some w) : v = w ∧ flatV w = true := by
  cases r <;> first | (cases e; exact ⟨rfl, rfl⟩) | cases e
theorem ShL.atoms {K : PySem.W.Frag} {T : Tb} {H : Hp} {W : Addr → Prop} : ∀ {ds : List D} {vs ws : List V}, ShL K T H W ds vs → atoms ds = some ws → vs = ws ∧ ws.all flatV = true
  | _, _, _, .nil, e => by cases e; exact ⟨rfl, rfl⟩
  | _, _, _, .cons (d := d) (ds := ds) h r, e => by
    unfold PL.atoms at e
    cases e1 : d.atom with
    | none => rw [e1] at e; cases e
    | some v =>
      cases e2 : PL.atoms ds with
      | none => rw [e1, e2] at e; cases e
      | some vs =>
        rw [e1, e2] at e
        cases e
        obtain ⟨rfl, f1⟩ := h.atom e1
        obtain ⟨rfl, f2⟩ := ShL.atoms r e2
        exact ⟨rfl, by rw [List.all_cons, f1, f2]; rfl⟩
theorem cIn_some {x y : D} {b : Bool} (e : cIn x y = some b) :
    (∃ ys p ps, y = .lst ys ∧ x.toPy = some p ∧ D.toPyL ys = some ps ∧ SeqAt.shaped p = true ∧ SeqAt.shaped (.list ps) = true ∧ b = ps.any fun z => PyData.eqv z p) ∨
    (∃ ys v vs, y = .tup ys ∧ x.atom = some v ∧ atoms ys = some vs ∧ b = inV v vs) ∨ ∃ a c, y = .str c ∧ x = .str a ∧ b = !(Builtin.Str.occurrences c a 0 c.length 1).isEmpty := by
  unfold cIn at e
  split at e
  · rename_i ys
    cases e1 : x.toPy with
    | none => rw [e1] at e; cases e
    | some p =>
      cases e2 : D.toPyL ys with
      | none => rw [e1, e2] at e; cases e
      | some ps =>
        rw [e1, e2] at e
        dsimp only at e
        split at e
        · rename_i hc
          rw [Bool.and_eq_true] at hc
          cases e
          exact .inl ⟨ys, p, ps, rfl, rfl, e2, hc.1, hc.2, rfl⟩
        · cases e
  · rename_i ys
    cases e1 : x.atom with
    | none => rw [e1] at e; cases e
    | some v =>
      cases e2 : atoms ys with
      | none => rw [e1, e2] at e; cases e
      | some vs =>
        rw [e1, e2] at e
        cases e
        exact .inr (.inl ⟨ys, v, vs, rfl, rfl, e2, rfl⟩)
  · split at e
    · cases e
      exact .inr (.inr ⟨_, _, rfl, rfl, rfl⟩)
    · cases e
  · cases e
theorem Room.u65 {k : Nat} {A : Around} (hr : Room k A) : A.units + 65 < cLine := by have := hr.un; omega
theorem cmp_in {k : Nat} (hr : Room k X.A) : CmpD X C .In cIn := ⟨_, ((op_inD (Room.u65 hr)).or op_in_seq).or op_in_str, fun H2 W W' x y v u Q b r1 r2 e q => by
  rcases cIn_some e with ⟨ys, p, ps, rfl, e1, e2, s1, s2, rfl⟩ | ⟨ys, w, ws, rfl, e1, e2, rfl⟩ | ⟨a, c, rfl, rfl, rfl⟩
  · exact .inl (.inl ⟨p, ps, r1.dp e1, r2.dp (by rw [D.toPy, e2]; rfl), s1, s2, q⟩)
  · cases r2 with
    | tup h r =>
      obtain ⟨rfl, f1⟩ := r1.atom e1
      obtain ⟨rfl, f2⟩ := r.atoms e2
      exact .inl (.inr ⟨_, _, rfl, .inr (seqT h), f1, f2, q⟩)
  · cases r1
    cases r2
    exact .inr ⟨_, _, rfl, rfl, q⟩⟩
theorem cmp_notIn {k : Nat} (hr : Room k X.A) : CmpD X C .NotIn cNotIn := ⟨_, ((op_notInD (Room.u65 hr)).or op_notIn_seq).or op_notIn_str, fun H2 W W' x y v u Q b r1 r2 e q => by
  unfold cNotIn at e
  rw [Option.map_eq_some_iff] at e
  obtain ⟨b', e, rfl⟩ := e
  rcases cIn_some e with ⟨ys, p, ps, rfl, e1, e2, s1, s2, rfl⟩ | ⟨ys, w, ws, rfl, e1, e2, rfl⟩ | ⟨a, c, rfl, rfl, rfl⟩
  · exact .inl (.inl ⟨p, ps, r1.dp e1, r2.dp (by rw [D.toPy, e2]; rfl), s1, s2, q⟩)
  · cases r2 with
    | tup h r =>
      obtain ⟨rfl, f1⟩ := r1.atom e1
      obtain ⟨rfl, f2⟩ := r.atoms e2
      exact .inl (.inr ⟨_, _, rfl, .inr (seqT h), f1, f2, q⟩)
  · cases r1
    cases r2
    exact .inr ⟨_, _, rfl, rfl, q⟩⟩

variable {m m' m'' : Bool} {a b : Expr} {f g : Ev → R D} {pos : Pos}
@[simp] def bC (c : D → D → Option Bool) (f g : Ev → R D) : Ev → R Bool := fun ρ => f ρ >>= fun x => g ρ >>= fun y => R.of (c x y)
theorem dt_cmp {op : CmpOp} {c : D → D → Option Bool} (hc : CmpD X C op c) (ha : DE X C m a f) (hb : DE X C m' b g) (hm : behindInMarks op b = false) : DT X C (.Compare a [op] [b] pos) (bC c f g) := by
  obtain ⟨r, ho, hr⟩ := hc
  refine ⟨PT.imp (pt_cmpR ho ha.pe hb.pe hm) fun σ H Q ⟨ρ, S, st, q⟩ => tD_two (k := fun x y => R.of (c x y)) st q fun x y v u H2 e r1 r2 q2 => ?_⟩
  obtain ⟨k, ek, q⟩ := run_of q2
  exact hr H2 _ _ x y v u _ k r1 r2 ek ⟨k, rfl, q H2 e⟩
theorem de_cmp {op : CmpOp} {c : D → D → Option Bool} (hc : CmpD X C op c) (ha : DE X C m a f) (hb : DE X C m' b g) (hm : behindInMarks op b = false) : DE X C m'' (.Compare a [op] [b] pos) (bV (bC c f g)) := by
  obtain ⟨r, ho, hr⟩ := hc
  refine ⟨PE.imp (pe_cmpR ho ha.pe hb.pe hm) fun σ H Q ⟨ρ, S, st, q⟩ => ?_⟩
  have q' : run (f ρ >>= fun x => g ρ >>= fun y => R.of (c x y) >>= fun b => R.ok (D.bl b)) (fun d => ∀ v H', Same H H' → Sh X.K C.T H' (Wf m'' C.H0 S H H') d v → Q v H') (EXc C H) := by
    unfold bV bC at q
    cases h1 : f ρ with
    | st => rw [h1] at q; exact q
    | ex n => rw [h1] at q; exact q
    | ok x =>
      rw [h1] at q
      simp only [R.bind_ok] at q ⊢
      cases h2 : g ρ with
      | st => rw [h2] at q; exact q
      | ex n => rw [h2] at q; exact q
      | ok y =>
        rw [h2] at q
        exact q
  refine tD_two (k := fun x y => R.of (c x y) >>= fun b => R.ok (D.bl b)) st q' fun x y v u H2 e r1 r2 q2 => ?_
  obtain ⟨k, ek, q⟩ := run_of (run_bind q2)
  exact hr H2 _ _ x y v u _ k r1 r2 ek (q _ H2 e (.bl _))
/-- a < b < c -/
@[simp] def bCh (c c' : D → D → Option Bool) (f g h : Ev → R D) : Ev → R Bool := fun ρ => f ρ >>= fun x => g ρ >>= fun y => R.of (c x y) >>= fun k => if k = true then h ρ >>= fun z => R.of (c' y z) else .ok false
theorem chain_red {c c' : D → D → Option Bool} {h : Ev → R D} {r r' : R2} {H : Hp} {σ : L2.St} {ρ : Ev} {S : Addr → Prop} {Q : VK}
    (hr : ∀ (H2 : Hp) (W W' : Addr → Prop) (x y : D) (v u : V) (Q : VK) (b : Bool), Sh X.K C.T H2 W x v → Sh X.K C.T H2 W' y u → c x y = some b → Q (.bl b) H2 → r v u H2 Q)
    (hr' : ∀ (H2 : Hp) (W W' : Addr → Prop) (x y : D) (v u : V) (Q : VK) (b : Bool), Sh X.K C.T H2 W x v → Sh X.K C.T H2 W' y u → c' x y = some b → Q (.bl b) H2 → r' v u H2 Q)
    (st : Sta X.K C ρ S σ H) (q : run (bCh c c' f g h ρ) (fun b => ∀ H', Same H H' → Q (.bl b) H') (EXc C H)) : tChain r r' (tD X.K C m f) (tD X.K C m' g) (tD X.K C m'' h) σ H Q := by
  refine tD_two (k := fun x y => R.of (c x y) >>= fun k => if k = true then h ρ >>= fun z => R.of (c' y z) else .ok false) st q fun x y v u H2 e r1 r2 q2 => ?_
  obtain ⟨k, ek, q3⟩ := run_of (run_bind q2)
  refine hr H2 _ _ x y v u _ k r1 r2 ek ⟨k, rfl, ?_⟩
  cases k with
  | false =>
    rw [if_neg Bool.false_ne_true] at q3 ⊢
    exact q3 H2 e
  | true =>
    rw [if_pos rfl] at q3 ⊢
    refine tD_one (k := fun z => R.of (c' y z)) (ok := fun b => ∀ H', Same H H' → Q (.bl b) H') (st.grow e) (run_mono q3 (fun _ z => z) fun c z => EXc.mono e z) fun z w H4 e4 r3 q4 => ?_
    obtain ⟨k, ek, q⟩ := run_of q4
    exact hr' H4 _ _ y z u w _ k (r2.mono (Kp.of e4) fun a w => w) r3 ek (q H4 (e.trans e4))
theorem run_bV {fb : Ev → R Bool} {ρ : Ev} {ok : D → Prop} {ex : Nat → Prop} (h : run (bV fb ρ) ok ex) : run (fb ρ) (fun b => ok (.bl b)) ex := by
  unfold bV at h
  exact run_bind h
variable {c3 : Expr} {h : Ev → R D}
theorem dt_chain {op op' : CmpOp} {c c' : D → D → Option Bool} (hc : CmpD X C op c) (hc' : CmpD X C op' c') (ha : DE X C m a f) (hb : DE X C m' b g) (h3 : DE X C m'' c3 h)
    (hm : lastMarks [op, op'] [b, c3] = false := by with_unfolding_all rfl) : DT X C (.Compare a [op, op'] [b, c3] pos) (bCh c c' f g h) := by
  obtain ⟨r, ho, hr⟩ := hc
  obtain ⟨r', ho', hr'⟩ := hc'
  exact ⟨PT.imp (pt_chain ho ho' ha.pe hb.pe h3.pe hm) fun σ H Q ⟨ρ, S, st, q⟩ => chain_red (Q := fun x H' => ∃ k, x = .bl k ∧ Q k H') hr hr' st (run_mono q (fun b z H' e => ⟨b, rfl, z H' e⟩) fun _ z => z)⟩
theorem de_chain {m0 : Bool} {op op' : CmpOp} {c c' : D → D → Option Bool} (hc : CmpD X C op c) (hc' : CmpD X C op' c') (ha : DE X C m a f) (hb : DE X C m' b g) (h3 : DE X C m'' c3 h)
    (hm : lastMarks [op, op'] [b, c3] = false := by with_unfolding_all rfl) : DE X C m0 (.Compare a [op, op'] [b, c3] pos) (bV (bCh c c' f g h)) := by
  obtain ⟨r, ho, hr⟩ := hc
  obtain ⟨r', ho', hr'⟩ := hc'
  exact ⟨PE.imp (pe_chain ho ho' ha.pe hb.pe h3.pe hm) fun σ H Q ⟨ρ, S, st, q⟩ => chain_red hr hr' st (run_mono (run_bV q) (fun b z H' e => z _ H' e (.bl b)) fun _ z => z)⟩

/-! ### tests -/
@[simp] def toB (d : D) : R Bool := match d with
  | .bl b => .ok b
  | _ => .st
@[simp] def bD (f : Ev → R D) : Ev → R Bool := fun ρ => f ρ >>= toB
theorem dt_val {e : Expr} (h : DE X C m e f) (he : ∀ whole, isTrue e X.env whole = (do let v ← whole; standAt e.pos; holding [v] (truthy v)) := by intro _; rfl) : DT X C e (bD f) := ⟨PT.imp (pt_val h.pe he) fun σ H Q ⟨ρ, S, st, q⟩ =>
  tD_one (k := toB) st q fun x v H1 e1 r q2 => by
    cases x with
    | bl b =>
      cases r
      exact ⟨b, rfl, q2 H1 e1⟩
    | _ => exact q2.elim⟩
@[simp] def bNot (f : Ev → R Bool) : Ev → R Bool := fun ρ => f ρ >>= fun b => .ok (!b)
variable {ft gt ht : Ev → R Bool} {rest : List Expr}
theorem dt_not (h : DT X C a ft) : DT X C (.UnaryOp .Not a pos) (bNot ft) := ⟨PT.imp (pt_not h.pt) fun σ H Q ⟨ρ, S, st, q⟩ => tDT_one (k := fun b => R.ok (!b)) st q fun b H1 e q2 => q2 H1 e⟩
structure DW (X : Cx) (C : Cc) (e : Expr) (f : Ev → R Bool) : Prop where
  pw : PW X e (tDT X.K C f)
theorem DW.dt {e : Expr} (h : DW X C e ft) : DT X C e ft := ⟨h.pw.pt⟩
theorem dw_and1 (h : DT X C a ft) : DW X C (.BoolOp .And [a] pos) ft := ⟨pw_and1 h.pt⟩
theorem dw_or1 (h : DT X C a ft) : DW X C (.BoolOp .Or [a] pos) ft := ⟨pw_or1 h.pt⟩
@[simp] def bAnd (f g : Ev → R Bool) : Ev → R Bool := fun ρ => f ρ >>= fun b => if b = true then g ρ else .ok false
@[simp] def bOr (f g : Ev → R Bool) : Ev → R Bool := fun ρ => f ρ >>= fun b => if b = true then .ok true else g ρ
theorem dw_and (h : DT X C a ft) (hr : DW X C (.BoolOp .And (b :: rest) pos) gt) : DW X C (.BoolOp .And (a :: b :: rest) pos) (bAnd ft gt) := ⟨PW.imp (pw_and h.pt hr.pw) fun σ H Q ⟨ρ, S, st, q⟩ =>
  tDT_one (k := fun b => if b = true then gt ρ else .ok false) st q fun c H1 e q2 => by
    cases c with
    | true =>
      rw [if_pos rfl] at q2 ⊢
      exact ⟨ρ, _, st.grow e, run_mono q2 (fun b z H' e' => z H' (e.trans e')) fun c z => EXc.mono e z⟩
    | false =>
      rw [if_neg Bool.false_ne_true] at q2 ⊢
      exact q2 H1 e⟩
theorem dw_or (h : DT X C a ft) (hr : DW X C (.BoolOp .Or (b :: rest) pos) gt) : DW X C (.BoolOp .Or (a :: b :: rest) pos) (bOr ft gt) := ⟨PW.imp (pw_or h.pt hr.pw) fun σ H Q ⟨ρ, S, st, q⟩ =>
  tDT_one (k := fun b => if b = true then .ok true else gt ρ) st q fun c H1 e q2 => by
    cases c with
    | false =>
      rw [if_neg Bool.false_ne_true] at q2 ⊢
      exact ⟨ρ, _, st.grow e, run_mono q2 (fun b z H' e' => z H' (e.trans e')) fun c z => EXc.mono e z⟩
    | true =>
      rw [if_pos rfl] at q2 ⊢
      exact q2 H1 e⟩
/-- as values: all but the last True or False -/
@[simp] def dAnd (f g : Ev → R D) : Ev → R D := fun ρ => f ρ >>= fun d => toB d >>= fun b => if b = true then g ρ else .ok (.bl false)
@[simp] def dOr (f g : Ev → R D) : Ev → R D := fun ρ => f ρ >>= fun d => toB d >>= fun b => if b = true then .ok (.bl true) else g ρ
@[simp] def dNot (f : Ev → R D) : Ev → R D := fun ρ => f ρ >>= fun d => toB d >>= fun b => .ok (.bl (!b))
theorem de_one {op : BoolOp} (h : DE X C m a f) : DE X C m (.BoolOp op [a] pos) f := ⟨pe_one h.pe⟩
theorem toB_run {α : Type} {x : D} {v : V} {k : Bool → R α} {ok : α → Prop} {ex : Nat → Prop} {K : PySem.W.Frag} {T : Tb} {H : Hp} {W : Addr → Prop} (r : Sh K T H W x v) (q : run (toB x >>= k) ok ex) : ∃ c, v = .bl c ∧ run (k c) ok ex := by
  cases x with
  | bl c => cases r; exact ⟨c, rfl, q⟩
  | _ => exact q.elim
theorem de_and2 (h : DE X C m a f) (hr : DE X C m' (.BoolOp .And (b :: rest) pos) g) : DE X C m' (.BoolOp .And (a :: b :: rest) pos) (dAnd f g) := ⟨PE.imp (pe_and h.pe hr.pe) fun σ H Q ⟨ρ, S, st, q⟩ =>
  tD_one (k := fun d => toB d >>= fun b => if b = true then g ρ else R.ok (D.bl false)) st q fun x v H1 e r q2 => by
    obtain ⟨c, ev, q2⟩ := toB_run r q2
    refine ⟨c, ev, ?_⟩
    cases c with
    | true =>
      rw [if_pos rfl] at q2 ⊢
      exact ⟨ρ, _, st.grow e, run_mono q2 (fun b z v H' e' r' => z v H' (e.trans e') (r'.mono (Kp.of (Same.refl _)) fun a w => Wf.trans e e' w)) fun c z => EXc.mono e z⟩
    | false =>
      rw [if_neg Bool.false_ne_true] at q2 ⊢
      exact q2 _ H1 e (.bl _)⟩
theorem de_or2 (h : DE X C m a f) (hr : DE X C m' (.BoolOp .Or (b :: rest) pos) g) : DE X C m' (.BoolOp .Or (a :: b :: rest) pos) (dOr f g) := ⟨PE.imp (pe_or h.pe hr.pe) fun σ H Q ⟨ρ, S, st, q⟩ =>
  tD_one (k := fun d => toB d >>= fun b => if b = true then R.ok (D.bl true) else g ρ) st q fun x v H1 e r q2 => by
    obtain ⟨c, ev, q2⟩ := toB_run r q2
    refine ⟨c, ev, ?_⟩
    cases c with
    | false =>
      rw [if_neg Bool.false_ne_true] at q2 ⊢
      exact ⟨ρ, _, st.grow e, run_mono q2 (fun b z v H' e' r' => z v H' (e.trans e') (r'.mono (Kp.of (Same.refl _)) fun a w => Wf.trans e e' w)) fun c z => EXc.mono e z⟩
    | true =>
      rw [if_pos rfl] at q2 ⊢
      exact q2 _ H1 e (.bl _)⟩
theorem de_not (h : DE X C m a f) : DE X C m' (.UnaryOp .Not a pos) (dNot f) := ⟨PE.imp (pe_not h.pe) fun σ H Q ⟨ρ, S, st, q⟩ =>
  tD_one (k := fun d => toB d >>= fun b => R.ok (D.bl (!b))) st q fun x v H1 e r q2 => by
    obtain ⟨c, ev, q2⟩ := toB_run r q2
    exact ⟨c, ev, q2 _ H1 e (.bl _)⟩⟩
/-- a if t else b -/
@[simp] def dIf (t : Ev → R Bool) (f g : Ev → R D) : Ev → R D := fun ρ => t ρ >>= fun b => if b = true then f ρ else g ρ
theorem de_if {c : Expr} (hc : DT X C c ft) (ha : DE X C m a f) (hb : DE X C m b g) : DE X C m (.IfExp c a b pos) (dIf ft f g) := ⟨PE.imp (pe_ifExp hc.pt ha.pe hb.pe) fun σ H Q ⟨ρ, S, st, q⟩ =>
  tDT_one (k := fun b => if b = true then f ρ else g ρ) st q fun c H1 e q2 => by
    cases c with
    | true =>
      rw [if_pos rfl] at q2 ⊢
      exact ⟨ρ, _, st.grow e, run_mono q2 (fun b z v H' e' r' => z v H' (e.trans e') (r'.mono (Kp.of (Same.refl _)) fun a w => Wf.trans e e' w)) fun c z => EXc.mono e z⟩
    | false =>
      rw [if_neg Bool.false_ne_true] at q2 ⊢
      exact ⟨ρ, _, st.grow e, run_mono q2 (fun b z v H' e' r' => z v H' (e.trans e') (r'.mono (Kp.of (Same.refl _)) fun a w => Wf.trans e e' w)) fun c z => EXc.mono e z⟩⟩
end
end
end PL
/-! PLD: slices, built-in calls. -/
namespace PL
open PySem L2 PyProof.Rows
noncomputable section

/-! ### slices -/
def cutL {α : Type} (xs : List α) (lo hi : Option Int) : List α := (xs.drop (HT.sIx xs.length 0 lo)).take (HT.sIx xs.length xs.length hi - HT.sIx xs.length 0 lo)
theorem ShL.cut {K : PySem.W.Frag} {T : Tb} {H : Hp} {W : Addr → Prop} {ds : List D} {vs : List V} (r : ShL K T H W ds vs) (lo hi : Option Int) : ShL K T H W (cutL ds lo hi) (cutV vs lo hi) := by
  unfold cutL cutV
  rw [r.length]
  exact (r.drop _).take _
theorem cut_map {α β : Type} (f : α → β) (xs : List α) (lo hi : Option Int) : cutL (xs.map f) lo hi = (cutL xs lo hi).map f := by
  unfold cutL
  rw [List.length_map, List.map_take, List.map_drop]
theorem cut_whole {α : Type} {xs : List α} {lo hi : Option Int} (h : HT.sIx xs.length 0 lo = 0 ∧ HT.sIx xs.length xs.length hi = xs.length) : cutL xs lo hi = xs := by
  unfold cutL
  rw [h.1, h.2]
  simp
@[simp] def vSl (lo hi : Option Int) (x : D) : R D := match x with
  | .lst xs => .ok (.lst (cutL xs lo hi))
  | .scr ns => .ok (.lst ((cutL ns lo hi).map .int))
  | .tup xs => .ok (.tup (cutL xs lo hi))
  | _ => .st
@[simp] def vSlL (lo hi : Option Int) (x : D) : R (List D) := match x with
  | .lst xs => .ok (cutL xs lo hi)
  | .scr ns => .ok ((cutL ns lo hi).map .int)
  | _ => .st
def tPo (K : PySem.W.Frag) (C : Cc) (f : Ev → R (Option Int)) : TO := fun σ H Q => ∃ ρ S, Sta K C ρ S σ H ∧ run (f ρ) (fun o => ∀ H', Same H H' → Q o H') (EXc C H)
structure DPo (X : Cx) (C : Cc) (e : Option Expr) (f : Ev → R (Option Int)) : Prop where
  po : PO X e (tPo X.K C f)
theorem PO.imp {X : Cx} {e : Option Expr} {t t' : TO} (h : PO X e t) (k : ∀ σ H Q, t' σ H Q → t σ H Q) : PO X e t' := ⟨fun pins s σ H Q I q => h.run pins s σ H Q I (k σ H Q q)⟩
@[simp] def toI (d : D) : R Int := match d with
  | .int i => .ok i
  | _ => .st
@[simp] def oNo : Ev → R (Option Int) := fun _ => .ok none
@[simp] def oSo (f : Ev → R D) : Ev → R (Option Int) := fun ρ => f ρ >>= fun d => toI d >>= fun i => .ok (some i)
section
variable {X : Cx} {C : Cc} {m m' : Bool} {a b : Expr} {f g : Ev → R D} {pos p2 : Pos} {lo hi : Option Expr} {fl fh : Ev → R (Option Int)}
theorem do_no : DPo X C none oNo := ⟨PO.imp po_none fun σ H Q ⟨_, _, _, q⟩ => q H (Same.refl _)⟩
theorem do_so (h : DE X C m a f) : DPo X C (some a) (oSo f) := ⟨PO.imp (po_some h.pe) fun σ H Q ⟨ρ, S, st, q⟩ => tD_one (k := fun d => toI d >>= fun i => .ok (some i)) st q fun x v H1 e r q2 => by
  cases x with
  | int i =>
    cases r
    exact ⟨i, rfl, q2 H1 e⟩
  | _ => exact q2.elim⟩
theorem sl_run {α : Type} {k : D → Option Int → Option Int → R α} {ok : α → Prop} {Q : V → Option Int → Option Int → Hp → Prop} {ρ : Ev} {S : Addr → Prop} {σ : L2.St} {H : Hp} (st : Sta X.K C ρ S σ H)
    (h : run (f ρ >>= fun x => fl ρ >>= fun l => fh ρ >>= fun u => k x l u) ok (EXc C H))
    (hq : ∀ x l u v H2, Same H H2 → Sh X.K C.T H2 (Wf m C.H0 S H H2) x v → run (k x l u) ok (EXc C H) → Q v l u H2) :
    tD X.K C m f σ H fun v H1 => tPo X.K C fl σ H1 fun l H2 => tPo X.K C fh σ H2 fun u H3 => Q v l u H3 := by
  refine tD_one st h fun x v H1 e1 r1 q1 => ?_
  refine ⟨ρ, _, st.grow e1, run_mono (run_bind q1) (fun l q2 H2 e2 => ?_) fun c z => EXc.mono e1 z⟩
  refine ⟨ρ, _, (st.grow e1).grow e2, run_mono (run_bind q2) (fun u q3 H3 e3 => ?_) fun c z => EXc.mono (e1.trans e2) z⟩
  exact hq x l u v H3 ((e1.trans e2).trans e3) (r1.mono (Kp.of (e2.trans e3)) fun a w => Wf.more (e2.trans e3) w) q3
@[simp] def dSl (f : Ev → R D) (fl fh : Ev → R (Option Int)) : Ev → R D := fun ρ => f ρ >>= fun x => fl ρ >>= fun l => fh ρ >>= fun u => vSl l u x
@[simp] def lSl (f : Ev → R D) (fl fh : Ev → R (Option Int)) : Ev → R (List D) := fun ρ => f ρ >>= fun x => fl ρ >>= fun l => fh ρ >>= fun u => vSlL l u x
theorem de_sl (h : DE X C m a f) (hl : DPo X C lo fl) (hh : DPo X C hi fh) : DE X C m (.Subscript a (.Slice lo hi none p2) pos) (dSl f fl fh) := ⟨PE.imp (pe_slice (sl_list.or sl_tupA) h.pe hl.po hh.po) fun σ H Q ⟨ρ, S, st, q⟩ =>
  sl_run (k := fun x l u => vSl l u x) st q fun x l u v H2 e r q2 => by
    unfold vSl at q2
    split at q2
    · cases r with
      | lst h1 w1 s1 => exact .inl ⟨_, _, rfl, SqL.of h1, fun p hp => q2 _ _ (e.trans (same_upd hp)) (sh_new e hp (s1.cut l u))⟩
    · cases r with
      | scr h1 =>
        refine .inl ⟨_, _, rfl, seqL h1, fun p hp => q2 _ _ (e.trans (same_upd hp)) (sh_new e hp ?_)⟩
        rw [← cut_map]
        exact (ShL.of_ints _).cut l u
    · cases r with
      | tup h1 s1 =>
        refine .inr ⟨_, _, rfl, seqT h1, fun hw => ?_, fun hn p hp => q2 _ _ (e.trans (same_upd hp)) (sh_newT e hp (s1.cut l u))⟩
        rw [← s1.length] at hw
        rw [cut_whole hw] at q2
        exact q2 _ _ e (.tup h1 s1)
    · exact q2.elim⟩
theorem fe_sl (h : DE X C true a f) (hl : DPo X C lo fl) (hh : DPo X C hi fh) : FE X C (.Subscript a (.Slice lo hi none p2) pos) (lSl f fl fh) := ⟨PE.imp (pe_slice sl_list h.pe hl.po hh.po) fun σ H Q ⟨ρ, S, st, q⟩ =>
  sl_run (k := fun x l u => vSlL l u x) st q fun x l u v H2 e r q2 => by
    unfold vSlL at q2
    split at q2
    · cases r with
      | lst h1 w1 s1 => exact ⟨_, _, rfl, SqL.of h1, fun p hp => q2 _ _ _ (e.trans (same_upd hp)) (e.free hp) upd_same (shl_new e st.bnd hp (s1.cut l u))⟩
    · cases r with
      | scr h1 =>
        refine ⟨_, _, rfl, seqL h1, fun p hp => q2 _ _ _ (e.trans (same_upd hp)) (e.free hp) upd_same (shl_new (C := C) e st.bnd hp ?_)⟩
        rw [← cut_map]
        exact (ShL.of_ints _).cut l u
    · exact q2.elim⟩
/-- xs[::-1] -/
@[simp] def vRev (x : D) : R (List D) := match x with
  | .lst xs => .ok xs.reverse
  | _ => .st
theorem ShL.rev {K : PySem.W.Frag} {T : Tb} {H : Hp} {W : Addr → Prop} : ∀ {ds : List D} {vs : List V}, ShL K T H W ds vs → ShL K T H W ds.reverse vs.reverse
  | _, _, .nil => .nil
  | _, _, .cons h r => by
    rw [List.reverse_cons, List.reverse_cons]
    exact (ShL.rev r).snoc h
theorem fe_rev {k : Nat} {p1 p3 p4 : Pos} (h : DE X C true a f) : FE X C (.Subscript a (.Slice none none (some (.UnaryOp .USub (.Constant (.int 1) k p1) p3)) p4) pos) (l1 vRev f) := ⟨PE.imp (pe_revL h.pe) fun σ H Q ⟨ρ, S, st, q⟩ =>
  tD_one (k := vRev) st q fun x v H2 e r q2 => by
    unfold vRev at q2
    split at q2
    · cases r with
      | lst h1 w1 s1 => exact ⟨_, _, rfl, SqL.of h1, fun p hp => q2 _ _ _ (e.trans (same_upd hp)) (e.free hp) upd_same (shl_new e st.bnd hp s1.rev)⟩
    · exact q2.elim⟩

/-! ### built-in calls, by values -/
variable {e : Expr} {es : List Expr} {fs : Ev → R (List D)} {x : Str} {p : Pos}
@[simp] def dB (h : List D → R D) (fs : Ev → R (List D)) : Ev → R D := fun ρ => fs ρ >>= h
/-- a built-in's rule on data -/
def BiD (X : Cx) (C : Cc) (m mo : Bool) (fn : Value) (h : List D → R D) : Prop :=
  ∃ r : List V → Hp → VK → Prop, CallR X fn r ∧ ∀ {T : Tb} {Z : Hp} {Ex : Nat → Prop} (S : Addr → Prop) (H H2 : Hp) (ds : List D) (vs : List V) (Q : VK), (∀ a, S a → H a ≠ none) → Same H H2 → ShL X.K T H2 (Wf m Z S H H2) ds vs →
    run (h ds) (fun d => ∀ w H', Same H H' → Sh X.K T H' (Wf mo Z S H H') d w → Q w H') Ex → r vs H2 Q
theorem de_bi {id : String} {mo : Bool} {h : List D → R D} (hb : BiD X C m mo (.builtin id) h) (hg : Gl X x) (hm : X.mg x = none) (hv : bootBuiltins x = some (.builtin id)) (ha : DA X C m (e :: es) fs) (hn : x ≠ "__name__" := by decide) (hdb : (x == ("__debug__" : Str)) = false := by decide)
    (he : starEach (e :: es) X.env = (false, eval e X.env) :: starEach es X.env := by rfl) (hpl : (backTo pos (starEach es X.env)).any (·.1) = false := by rfl) : DE X C mo (.Call (.Name x p) (e :: es) [] pos) (dB h fs) := by
  obtain ⟨r, hc, hr⟩ := hb
  exact ⟨PE.imp (pe_callB hc hg hm hv ha.pa hn hdb he hpl) fun σ H Q ⟨ρ, S, st, q⟩ => tDA_one (k := h) st q fun ds vs H2 e2 r2 q2 => hr S H H2 ds vs Q st.bnd e2 r2 q2⟩
theorem de_biT {T : String} {mo : Bool} {h : List D → R D} (hb : BiD X C m mo (.type T) h) (hg : Gl X x) (hm : X.mg x = none) (hv : bootBuiltins x = some (.type T)) (ha : DA X C m (e :: es) fs) (hn : x ≠ "__name__" := by decide) (hdb : (x == ("__debug__" : Str)) = false := by decide)
    (he : starEach (e :: es) X.env = (false, eval e X.env) :: starEach es X.env := by rfl) (hpl : (backTo pos (starEach es X.env)).any (·.1) = false := by rfl) : DE X C mo (.Call (.Name x p) (e :: es) [] pos) (dB h fs) := by
  obtain ⟨r, hc, hr⟩ := hb
  exact ⟨PE.imp (pe_callTy hc hg hm hv ha.pa hn hdb he hpl) fun σ H Q ⟨ρ, S, st, q⟩ => tDA_one (k := h) st q fun ds vs H2 e2 r2 q2 => hr S H H2 ds vs Q st.bnd e2 r2 q2⟩
/-- .. that lays a new list -/
def BiF (X : Cx) (C : Cc) (fn : Value) (h : List D → R (List D)) : Prop :=
  ∃ r : List V → Hp → VK → Prop, CallR X fn r ∧ ∀ (S : Addr → Prop) (H H2 : Hp) (ds : List D) (vs : List V) (Q : VK), (∀ a, S a → H a ≠ none) → Same H H2 → ShL X.K C.T H2 (Wf true C.H0 S H H2) ds vs →
    run (h ds) (fun ds => ∀ p vs H', Same H H' → H p = none → H' p = some (.lst vs) → ShL X.K C.T H' (fun a => Fw S H H' a ∧ a ≠ p) ds vs → Q (.ref p) H') (EXc C H) → r vs H2 Q
@[simp] def lB (h : List D → R (List D)) (fs : Ev → R (List D)) : Ev → R (List D) := fun ρ => fs ρ >>= h
theorem fe_bi {id : String} {h : List D → R (List D)} (hb : BiF X C (.builtin id) h) (hg : Gl X x) (hm : X.mg x = none) (hv : bootBuiltins x = some (.builtin id)) (ha : DA X C true (e :: es) fs) (hn : x ≠ "__name__" := by decide) (hdb : (x == ("__debug__" : Str)) = false := by decide)
    (he : starEach (e :: es) X.env = (false, eval e X.env) :: starEach es X.env := by rfl) (hpl : (backTo pos (starEach es X.env)).any (·.1) = false := by rfl) : FE X C (.Call (.Name x p) (e :: es) [] pos) (lB h fs) := by
  obtain ⟨r, hc, hr⟩ := hb
  exact ⟨PE.imp (pe_callB hc hg hm hv ha.pa hn hdb he hpl) fun σ H Q ⟨ρ, S, st, q⟩ => tDA_one (k := h) st q fun ds vs H2 e2 r2 q2 => hr S H H2 ds vs Q st.bnd e2 r2 q2⟩
theorem fe_biT {T : String} {h : List D → R (List D)} (hb : BiF X C (.type T) h) (hg : Gl X x) (hm : X.mg x = none) (hv : bootBuiltins x = some (.type T)) (ha : DA X C true (e :: es) fs) (hn : x ≠ "__name__" := by decide) (hdb : (x == ("__debug__" : Str)) = false := by decide)
    (he : starEach (e :: es) X.env = (false, eval e X.env) :: starEach es X.env := by rfl) (hpl : (backTo pos (starEach es X.env)).any (·.1) = false := by rfl) : FE X C (.Call (.Name x p) (e :: es) [] pos) (lB h fs) := by
  obtain ⟨r, hc, hr⟩ := hb
  exact ⟨PE.imp (pe_callTy hc hg hm hv ha.pa hn hdb he hpl) fun σ H Q ⟨ρ, S, st, q⟩ => tDA_one (k := h) st q fun ds vs H2 e2 r2 q2 => hr S H H2 ds vs Q st.bnd e2 r2 q2⟩
theorem ShL.one {K : PySem.W.Frag} {T : Tb} {H : Hp} {W : Addr → Prop} {d : D} {vs : List V} (r : ShL K T H W [d] vs) : ∃ v, vs = [v] ∧ Sh K T H W d v := by
  cases r with
  | cons h r => cases r; exact ⟨_, rfl, h⟩
theorem ShL.two {K : PySem.W.Frag} {T : Tb} {H : Hp} {W : Addr → Prop} {d d' : D} {vs : List V} (r : ShL K T H W [d, d'] vs) : ∃ v u, vs = [v, u] ∧ Sh K T H W d v ∧ Sh K T H W d' u := by
  cases r with
  | cons h r =>
    obtain ⟨u, rfl, h'⟩ := r.one
    exact ⟨_, _, rfl, h, h'⟩
/-- all are whole numbers, truths -/
def intsD : List D → Option (List Int)
  | [] => some []
  | .int i :: r => (intsD r).map (i :: ·)
  | _ :: _ => none
def boolsD : List D → Option (List Bool)
  | [] => some []
  | .bl i :: r => (boolsD r).map (i :: ·)
  | _ :: _ => none
theorem ints_eq : ∀ {ds : List D} {ns : List Int}, intsD ds = some ns → ds = ns.map D.int
  | [], _, h => by cases h; rfl
  | d :: r, _, h => by
    cases d with
    | int i =>
      rw [intsD, Option.map_eq_some_iff] at h
      obtain ⟨ms, h1, rfl⟩ := h
      rw [ints_eq h1]
      rfl
    | _ => cases h
theorem ints_map : ∀ ns : List Int, intsD (ns.map D.int) = some ns
  | [] => rfl
  | n :: ns => by rw [List.map_cons, intsD, ints_map ns]; rfl
theorem bools_eq : ∀ {ds : List D} {ns : List Bool}, boolsD ds = some ns → ds = ns.map D.bl
  | [], _, h => by cases h; rfl
  | d :: r, _, h => by
    cases d with
    | bl i =>
      rw [boolsD, Option.map_eq_some_iff] at h
      obtain ⟨ms, h1, rfl⟩ := h
      rw [bools_eq h1]
      rfl
    | _ => cases h
theorem bools_map : ∀ ns : List Bool, boolsD (ns.map D.bl) = some ns
  | [] => rfl
  | n :: ns => by rw [List.map_cons, boolsD, bools_map ns]; rfl
@[simp] def iLen (ds : List D) : R D := match ds with
  | [.lst xs] => .ok (.int xs.length)
  | [.tup xs] => .ok (.int xs.length)
  | [.scr ns] => .ok (.int ns.length)
  | [.str z] => R.when (lineOk z.length) (.ok (.int z.length))
  | _ => .st
theorem bi_len {mo : Bool} : BiD X C m mo (.builtin "len") iLen := ⟨_, call_len, fun S H H2 ds vs Q hb e r q => by
  unfold iLen at q
  split at q
  · obtain ⟨v, rfl, r1⟩ := r.one
    cases r1 with
    | lst h1 w1 s1 => exact ⟨_, _, rfl, .inl ⟨_, SqL.of h1, s1.length⟩, q _ H2 e (.int _)⟩
  · obtain ⟨v, rfl, r1⟩ := r.one
    cases r1 with
    | tup h1 s1 => exact ⟨_, _, rfl, .inr ⟨_, SqT.of h1, s1.length⟩, q _ H2 e (.int _)⟩
  · obtain ⟨v, rfl, r1⟩ := r.one
    cases r1 with
    | scr h1 => exact ⟨_, _, rfl, .inl ⟨_, seqL h1, by rw [List.length_map]⟩, q _ H2 e (.int _)⟩
  · obtain ⟨c, q⟩ := run_when q
    obtain ⟨v, rfl, r1⟩ := r.one
    cases r1
    exact ⟨_, _, rfl, ⟨lineOk_le c, rfl⟩, q _ H2 e (.int _)⟩
  · exact q.elim⟩
@[simp] def iAbs (ds : List D) : R D := match ds with
  | [.int i] => .ok (.int (if i < 0 then -i else i))
  | _ => .st
theorem bi_abs {mo : Bool} : BiD X C m mo (.builtin "abs") iAbs := ⟨_, call_abs, fun S H H2 ds vs Q hb e r q => by
  unfold iAbs at q
  split at q
  · obtain ⟨v, rfl, r1⟩ := r.one
    cases r1
    exact ⟨_, rfl, q _ H2 e (.int _)⟩
  · exact q.elim⟩
@[simp] def iMax2 (ds : List D) : R D := match ds with
  | [.int i, .int j] => .ok (.int (if j > i then j else i))
  | _ => .st
theorem bi_max2 {mo : Bool} (hc : X.calm = true := by rfl) : BiD X C m mo (.builtin "max") iMax2 := ⟨_, call_max2 hc, fun S H H2 ds vs Q hb e r q => by
  unfold iMax2 at q
  split at q
  · obtain ⟨v, u, rfl, r1, r2⟩ := r.two
    cases r1
    cases r2
    exact ⟨_, _, rfl, q _ H2 e (.int _)⟩
  · exact q.elim⟩
@[simp] def iMin2 (ds : List D) : R D := match ds with
  | [.int i, .int j] => .ok (.int (if j < i then j else i))
  | _ => .st
theorem bi_min2 {mo : Bool} (hc : X.calm = true := by rfl) : BiD X C m mo (.builtin "min") iMin2 := ⟨_, call_min2 hc, fun S H H2 ds vs Q hb e r q => by
  unfold iMin2 at q
  split at q
  · obtain ⟨v, u, rfl, r1, r2⟩ := r.two
    cases r1
    cases r2
    exact ⟨_, _, rfl, q _ H2 e (.int _)⟩
  · exact q.elim⟩
/-- a list of intsD, told by its items -/
theorem sh_ints {K : PySem.W.Frag} {T : Tb} {H : Hp} {W : Addr → Prop} {xs : List D} {ns : List Int} {v : V} (r : Sh K T H W (.lst xs) v) (h : intsD xs = some ns) : ∃ a, v = .ref a ∧ SqL K H a (ns.map V.int) := by
  have e := ints_eq h
  subst e
  cases r with
  | lst h1 w1 s1 =>
    have e := s1.ints
    subst e
    exact ⟨_, rfl, SqL.of h1⟩
theorem sh_bools {K : PySem.W.Frag} {T : Tb} {H : Hp} {W : Addr → Prop} {xs : List D} {ns : List Bool} {v : V} (r : Sh K T H W (.lst xs) v) (h : boolsD xs = some ns) : ∃ a, v = .ref a ∧ SqL K H a (ns.map V.bl) := by
  have e := bools_eq h
  subst e
  cases r with
  | lst h1 w1 s1 =>
    have e := s1.bls
    subst e
    exact ⟨_, rfl, SqL.of h1⟩
@[simp] def iSum (ds : List D) : R D := match ds with
  | [.lst xs] => R.of (intsD xs) >>= fun ns => .ok (.int ns.sum)
  | _ => .st
theorem bi_sum {mo : Bool} (hc : X.calm = true := by rfl) : BiD X C m mo (.builtin "sum") iSum := ⟨_, cr_sum hc, fun S H H2 ds vs Q hb e r q => by
  unfold iSum at q
  split at q
  · obtain ⟨ns, en, q⟩ := run_of (run_bind q)
    obtain ⟨v, rfl, r1⟩ := r.one
    obtain ⟨a, rfl, h⟩ := sh_ints r1 en
    exact ⟨_, _, rfl, h, q _ H2 e (.int _)⟩
  · exact q.elim⟩
/-- the greatest of a list -/
def maxL : List Int → Option Int
  | [] => none
  | n :: ns => some (ns.foldl max n)
theorem foldl_max (ns : List Int) : ∀ n, n ≤ ns.foldl max n ∧ (∀ y ∈ ns, y ≤ ns.foldl max n) ∧ (ns.foldl max n = n ∨ ns.foldl max n ∈ ns) := by
  induction ns with
  | nil => exact fun n => ⟨Int.le_refl _, fun y hy => (by simp at hy), .inl rfl⟩
  | cons a ns ih =>
    intro n
    obtain ⟨h1, h2, h3⟩ := ih (max n a)
    rw [List.foldl_cons]
    refine ⟨by omega, fun y hy => ?_, ?_⟩
    · rcases List.mem_cons.mp hy with rfl | hy
      · omega
      · exact h2 y hy
    · rcases h3 with h3 | h3
      · rw [h3]
        by_cases hc : a ≤ n
        · left; omega
        · right
          have : max n a = a := by omega
          rw [this]
          exact List.mem_cons_self
      · right
        exact List.mem_cons_of_mem _ h3
theorem maxL_of {ns : List Int} {z k : Int} (h : maxL ns = some z) (h1 : k ∈ ns) (h2 : ∀ y ∈ ns, y ≤ k) : k = z := by
  cases ns with
  | nil => cases h
  | cons n ns =>
    unfold maxL at h
    cases h
    obtain ⟨a1, a2, a3⟩ := foldl_max ns n
    have u1 : k ≤ ns.foldl max n := by
      rcases List.mem_cons.mp h1 with rfl | hk
      · exact a1
      · exact a2 k hk
    have u2 : ns.foldl max n ≤ k := by
      rcases a3 with z | z
      · rw [z]; exact h2 n List.mem_cons_self
      · exact h2 _ (List.mem_cons_of_mem _ z)
    omega
@[simp] def iMax (ds : List D) : R D := match ds with
  | [.lst xs] => R.of (intsD xs) >>= fun ns => R.of (maxL ns) >>= fun k => .ok (.int k)
  | _ => .st
theorem bi_max {mo : Bool} (hc : X.calm = true := by rfl) : BiD X C m mo (.builtin "max") iMax := ⟨_, cr_max hc, fun S H H2 ds vs Q hb e r q => by
  unfold iMax at q
  split at q
  · obtain ⟨ns, en, q⟩ := run_of (run_bind q)
    obtain ⟨k, ek, q⟩ := run_of (run_bind q)
    obtain ⟨v, rfl, r1⟩ := r.one
    obtain ⟨a, rfl, h⟩ := sh_ints r1 en
    refine ⟨_, _, rfl, h, ?_, fun z h1 h2 => ?_⟩
    · cases ns with
      | nil => cases ek
      | cons _ _ => exact Nat.succ_pos _
    · rw [maxL_of ek h1 h2]
      exact q _ H2 e (.int _)
  · exact q.elim⟩
@[simp] def iAll (ds : List D) : R D := match ds with
  | [.lst xs] => R.of (boolsD xs) >>= fun ns => .ok (.bl (ns.all id))
  | _ => .st
theorem bi_all {mo : Bool} (hc : X.calm = true := by rfl) : BiD X C m mo (.builtin "all") iAll := ⟨_, cr_all hc, fun S H H2 ds vs Q hb e r q => by
  unfold iAll at q
  split at q
  · obtain ⟨ns, en, q⟩ := run_of (run_bind q)
    obtain ⟨v, rfl, r1⟩ := r.one
    obtain ⟨a, rfl, h⟩ := sh_bools r1 en
    exact ⟨_, _, rfl, h, q _ H2 e (.bl _)⟩
  · exact q.elim⟩
@[simp] def iAny (ds : List D) : R D := match ds with
  | [.lst xs] => R.of (boolsD xs) >>= fun ns => .ok (.bl (ns.any id))
  | _ => .st
theorem bi_any {mo : Bool} (hc : X.calm = true := by rfl) : BiD X C m mo (.builtin "any") iAny := ⟨_, cr_any hc, fun S H H2 ds vs Q hb e r q => by
  unfold iAny at q
  split at q
  · obtain ⟨ns, en, q⟩ := run_of (run_bind q)
    obtain ⟨v, rfl, r1⟩ := r.one
    obtain ⟨a, rfl, h⟩ := sh_bools r1 en
    exact ⟨_, _, rfl, h, q _ H2 e (.bl _)⟩
  · exact q.elim⟩
/-- list(xs) -/
@[simp] def iList (ds : List D) : R (List D) := match ds with
  | [.lst xs] => .ok xs
  | [.tup xs] => .ok xs
  | _ => .st
theorem bi_list : BiF X C (.type "list") iList := ⟨_, call_list_of, fun S H H2 ds vs Q hb e r q => by
  unfold iList at q
  split at q
  · obtain ⟨v, rfl, r1⟩ := r.one
    cases r1 with
    | lst h1 w1 s1 => exact ⟨_, _, rfl, .inl (SqL.of h1), fun p hp => q _ _ _ (e.trans (same_upd hp)) (e.free hp) upd_same (shl_new e hb hp s1)⟩
  · obtain ⟨v, rfl, r1⟩ := r.one
    cases r1 with
    | tup h1 s1 => exact ⟨_, _, rfl, .inr (SqT.of h1), fun p hp => q _ _ _ (e.trans (same_upd hp)) (e.free hp) upd_same (shl_new e hb hp s1)⟩
  · exact q.elim⟩
/-- sorted(intsD) -/
def isort (ns : List Int) : List Int := ns.mergeSort fun a b => decide (a ≤ b)
theorem isort_perm (ns : List Int) : (isort ns).Perm ns := List.mergeSort_perm _ _
theorem isort_sorted (ns : List Int) : (isort ns).Pairwise (· ≤ ·) := by
  have := List.pairwise_mergeSort (le := fun a b : Int => decide (a ≤ b)) (fun a b c h1 h2 => by simp at h1 h2 ⊢; omega) (fun a b => by simp; omega) ns
  exact this.imp fun h => by simpa using h
theorem sorted_one : ∀ {xs ys : List Int}, xs.Perm ys → xs.Pairwise (· ≤ ·) → ys.Pairwise (· ≤ ·) → xs = ys := fun p h1 h2 =>
  p.eq_of_pairwise (fun a b _ _ h h' => by omega) h1 h2
@[simp] def iSortI (ds : List D) : R (List D) := match ds with
  | [.lst xs] => R.of (intsD xs) >>= fun ns => .ok ((isort ns).map .int)
  | _ => .st
theorem bi_sortI : BiF X C (.builtin "sorted") iSortI := ⟨_, cr_sortedI, fun S H H2 ds vs Q hb e r q => by
  unfold iSortI at q
  split at q
  · obtain ⟨ns, en, q⟩ := run_of (run_bind q)
    obtain ⟨v, rfl, r1⟩ := r.one
    obtain ⟨a, rfl, h⟩ := sh_ints r1 en
    refine ⟨_, _, rfl, h, fun ns' p hp1 hp2 hp => ?_⟩
    rw [sorted_one (hp1.trans (isort_perm ns).symm) hp2 (isort_sorted ns)]
    exact q _ _ _ (e.trans (same_upd hp)) (e.free hp) upd_same (shl_new (C := C) e hb hp (ShL.of_ints _))
  · exact q.elim⟩
/-- isinstance(x, T), T a built-in type -/
@[simp] def tyN : D → Option String
  | .non => some "NoneType"
  | .bl _ => some "bool"
  | .int _ => some "int"
  | .str _ => some "str"
  | .tup _ => some "tuple"
  | .lst _ => some "list"
  | .dct _ _ => some "dict"
  | .scr _ => some "list"
  | .ob _ _ => none
  | .ptr _ => none
theorem sh_ty {K : PySem.W.Frag} {T : Tb} {H : Hp} {W : Addr → Prop} {d : D} {v : V} {n : String} (r : Sh K T H W d v) (h : tyN d = some n) : TyX K H v (.type n) := by
  cases r with
  | non => cases h; exact .base .non
  | bl b => cases h; exact .base (.bl b)
  | int i => cases h; exact .base (.int i)
  | str x => cases h; exact .base (.str x)
  | tup h1 r => cases h; exact .base (.tup h1)
  | lst h1 w r => cases h; exact .base (.lst h1)
  | dct h1 w l r => cases h; exact .base (.dT h1)
  | ob _ _ _ _ => cases h
  | ptr _ => cases h
  | scr h1 =>
    cases h
    rcases h1 with ⟨h1 | ⟨o, h1⟩, _⟩ | ⟨o, its, k, h1, h2, _⟩
    · exact .base (.lst h1)
    · exact .base (.frz h1)
    · exact .kList h1 h2
@[simp] def vIsi (T : String) (d : D) : R D := R.of (tyN d) >>= fun n => R.of (kitB n T) >>= fun b => .ok (.bl b)
theorem de_isi {T : String} {q1 : Pos} {y : Str} (hg : Gl X "isinstance") (hm : X.mg "isinstance" = none) (ha : DE X C m a f) (hb : PE X (.Name y q1) (tC (.ty T)))
    (he : starEach [a, .Name y q1] X.env = (false, eval a X.env) :: starEach [.Name y q1] X.env := by rfl) (hpl : (backTo pos (starEach [.Name y q1] X.env)).any (·.1) = false := by rfl)
    (hs : starEach [.Name y q1] X.env = (false, eval (.Name y q1) X.env) :: starEach [] X.env := by rfl) : DE X C m' (.Call (.Name "isinstance" p) [a, .Name y q1] [] pos) (d1 (vIsi T) f) :=
  ⟨PE.imp (pe_callB call_isi hg hm (by decide +kernel) (pa_cons ha.pe (pa_cons hb pa_nil hs) he) (by decide) (by decide) he hpl) fun σ H Q ⟨ρ, S, st, q⟩ => tD_one (k := vIsi T) st q fun d v H1 e r q2 => by
    obtain ⟨n, en, q3⟩ := run_of (run_bind q2)
    obtain ⟨b, eb, q4⟩ := run_of (run_bind q3)
    exact ⟨v, .ty T, .type n, .type T, b, rfl, .ty T, sh_ty r en, kit_ty eb, q4 _ H1 e (.bl b)⟩⟩
end
end
end PL
/-! PLE: statements, defs. -/
namespace PL
open PySem L2 PyProof.Rows
noncomputable section

section
variable {K : PySem.W.Frag} {C : Cc} {ρ : Ev} {S S' : Addr → Prop} {σ : L2.St} {H H' : Hp}
theorem SlOk.grow' {x : Option V} {s : Sl} (h : SlOk K C S H x s) (e : Same H H') (l : ∀ a, S a → S' a) (u : ∀ a, S' a → Fw S H H' a) : SlOk K C S' H' x s := by
  have k : ∀ {p : Addr}, H p ≠ none → ¬ S p → ¬ S' p := fun {p} h1 h3 z => by
    rcases u _ z with z | ⟨z, _⟩
    · exact h3 z
    · exact h1 z
  have kk : ∀ {p : Addr} {o : HO}, H p = some o → H p ≠ none := fun h z => by rw [h] at z; cases z
  cases s with
  | no => trivial
  | sh d =>
    obtain ⟨v, e1, r⟩ := h
    exact ⟨v, e1, r.mono (Kp.of e) l⟩
  | nw d =>
    obtain ⟨v, e1, r⟩ := h
    exact ⟨v, e1, r.mono (Kp.of e) fun a w => ⟨l a w.1, w.2⟩⟩
  | ow ds =>
    obtain ⟨p, vs, e1, h1, h2, h3, r⟩ := h
    exact ⟨p, vs, e1, e _ _ h1, h2, k (kk h1) h3, r.mono (Kp.of e) l⟩
  | od ks ds =>
    obtain ⟨p, vs, e1, h1, hl, h2, h3, r⟩ := h
    exact ⟨p, vs, e1, e _ _ h1, hl, h2, k (kk h1) h3, r.mono (Kp.of e) l⟩
  | ot o =>
    obtain ⟨v, F, e1, r, q⟩ := h
    exact ⟨v, F, e1, r.same e fun d v z => z.mono (Kp.of e) l, fun a m => ⟨(q a m).1, k (r.there a m) (q a m).2⟩⟩
theorem Sta.grow' (I : Sta K C ρ S σ H) (e : Same H H') (l : ∀ a, S a → S' a) (u : ∀ a, S' a → Fw S H H' a) : Sta K C ρ S' σ H' := by
  refine ⟨I.same.trans e, fun a h => ?_, fun a h => l a (I.sup a h), fun a h => ?_, I.len, fun i s hs => ?_, I.sepS e⟩
  · rcases u a h with h | ⟨h, _⟩
    · exact I.sub a h
    · exact .inr (I.same.free h)
  · rcases u a h with h | ⟨_, h⟩
    · intro z; exact I.bnd a h (e.free z)
    · exact h
  · obtain ⟨x, e1, q⟩ := I.sl i s hs
    exact ⟨x, e1, q.grow' e l u⟩
/-- an owned slot's addresses stand in the heap -/
theorem Sta.ownAt (I : Sta K C ρ S σ H) {j : Nat} {t : Sl} {p : Addr} {y : Option V} (h1 : ρ[j]? = some t) (h3 : σ[j]? = some y) (f : Ft C.T H y t p) : H p ≠ none ∧ ¬ S p ∧ C.H0 p = none := by
  obtain ⟨x, e, q⟩ := I.sl j t h1
  rw [h3] at e
  cases e
  exact q.foot f
/-- a name's slot is set -/
theorem Sta.put {i : Nat} {s : Sl} {v : V} (I : Sta K C ρ S σ H) (h : SlOk K C S H (some v) s) (hs : ∀ p, Ft C.T H (some v) s p → ∀ (j : Nat) t y, ρ[j]? = some t → j ≠ i → σ[j]? = some y → ¬ Ft C.T H y t p) :
    Sta K C (ρ.set i s) S (σ.set i (some v)) H := by
  have at_ : ∀ {j : Nat} {t : Sl} {x : Option V}, (ρ.set i s)[j]? = some t → (σ.set i (some v))[j]? = some x → (j = i ∧ t = s ∧ x = some v) ∨ (j ≠ i ∧ ρ[j]? = some t ∧ σ[j]? = some x) := by
    intro j t x ht hx
    by_cases hji : j = i
    · subst hji
      have hl : j < ρ.length := by
        have := (List.getElem?_eq_some_iff.mp ht).1
        rwa [List.length_set] at this
      rw [List.getElem?_set_self hl] at ht
      rw [List.getElem?_set_self (by rw [← I.len]; exact hl)] at hx
      cases ht
      cases hx
      exact .inl ⟨rfl, rfl, rfl⟩
    · rw [List.getElem?_set_ne (Ne.symm hji)] at ht hx
      exact .inr ⟨hji, ht, hx⟩
  refine ⟨I.same, I.sub, I.sup, I.bnd, by rw [List.length_set, List.length_set]; exact I.len, fun j t ht => ?_, fun j k t u x y p hjk ht hu hj hk f g => ?_⟩
  · by_cases hji : j = i
    · subst hji
      have hl : j < ρ.length := by
        have := (List.getElem?_eq_some_iff.mp ht).1
        rwa [List.length_set] at this
      rw [List.getElem?_set_self hl] at ht
      cases ht
      exact ⟨some v, by rw [List.getElem?_set_self (by rw [← I.len]; exact hl)], h⟩
    · rw [List.getElem?_set_ne (Ne.symm hji)] at ht
      obtain ⟨x, e, q⟩ := I.sl j t ht
      exact ⟨x, by rw [List.getElem?_set_ne (Ne.symm hji)]; exact e, q⟩
  · rcases at_ ht hj with ⟨rfl, rfl, rfl⟩ | ⟨hji, ht, hj⟩
    · rcases at_ hu hk with ⟨rfl, rfl, rfl⟩ | ⟨hki, hu, hk⟩
      · exact hjk rfl
      · exact hs p f k u y hu hki hk g
    · rcases at_ hu hk with ⟨e1, e2, e3⟩ | ⟨hki, hu, hk⟩
      · rw [e2, e3] at g
        exact hs p g j t x ht hji hj f
      · exact I.sep j k t u x y p hjk ht hu hj hk f g
theorem Sta.putSh {i : Nat} {d : D} {v : V} (I : Sta K C ρ S σ H) (h : Sh K C.T H S d v) : Sta K C (ρ.set i (.sh d)) S (σ.set i (some v)) H := I.put ⟨v, rfl, h⟩ fun _ z => z.elim
end

/-! ### flows -/
inductive Fl where
  | nx (ρ : Ev) | rt (d : D) | bk (ρ : Ev) | ct (ρ : Ev)
structure Nxt (K : PySem.W.Frag) (C : Cc) (ρ' : Ev) (S : Addr → Prop) (H : Hp) (σ' : L2.St) (H' : Hp) : Prop where
  ex : ∃ S', Sta K C ρ' S' σ' H' ∧ (∀ a, S a → S' a) ∧ Kp S H H'
/-- a new list or instance, one's own -/
inductive RetF (K : PySem.W.Frag) (T : Tb) (S0 : Addr → Prop) (H0 H' : Hp) : D → V → Prop where
  | lst {p : Addr} {vs : List V} {ds : List D} : H0 p = none → H' p = some (.lst vs) → ShL K T H' (fun a => Fw S0 H0 H' a ∧ a ≠ p) ds vs → RetF K T S0 H0 H' (.lst ds) (.ref p)
  | ob {p dx : Addr} {c : Nat} {vs : List V} {ds : List D} : H0 p = none → H' p = some (.ins (T.ct c) dx ((T.fl c).zip vs)) → (T.fl c).length = vs.length → ShL K T H' (fun a => Fw S0 H0 H' a ∧ a ≠ p) ds vs → RetF K T S0 H0 H' (.ob c ds) (.ref p)
def RetOk (K : PySem.W.Frag) (T : Tb) (S0 : Addr → Prop) (H0 : Hp) (fr : Bool) (d : D) (v : V) (H' : Hp) : Prop :=
  if fr = true then RetF K T S0 H0 H' d v else Sh K T H' (Fw S0 H0 H') d v
def FlOk (K : PySem.W.Frag) (C : Cc) (fr : Bool) (S : Addr → Prop) (H : Hp) (D : Ends) : Fl → Prop
  | .nx ρ' => ∀ σ' H', Nxt K C ρ' S H σ' H' → D.nx σ' H'
  | .bk ρ' => ∀ σ' H', Nxt K C ρ' S H σ' H' → D.bk σ' H'
  | .ct ρ' => ∀ σ' H', Nxt K C ρ' S H σ' H' → D.ct σ' H'
  | .rt d => ∀ v H', Same C.H0 H' → RetOk K C.T C.S0 C.H0 fr d v H' → D.rt v H'
def EXs (C : Cc) : Nat → Prop := fun c => ∀ H', Same C.H0 H' → C.Ex c H'
def tSt (K : PySem.W.Frag) (C : Cc) (fr : Bool) (f : Ev → R Fl) : TS := fun D σ H => ∃ ρ S, Sta K C ρ S σ H ∧ run (f ρ) (FlOk K C fr S H D) (EXs C)
structure DS (X : Cx) (C : Cc) (fr : Bool) (s : Stmt) (f : Ev → R Fl) : Prop where
  ps : PS X s (tSt X.K C fr f)
structure DB (X : Cx) (C : Cc) (fr : Bool) (s : List Stmt) (f : Ev → R Fl) : Prop where
  pss : PSs X s (tSt X.K C fr f)
theorem Kp.refl {W : Addr → Prop} {H : Hp} : Kp W H H := ⟨fun _ _ _ h _ => h, fun _ _ h => h⟩
theorem Kp.trans {W W' : Addr → Prop} {H H1 H2 : Hp} (a : Kp W H H1) (b : Kp W' H1 H2) (l : ∀ x, W x → W' x) : Kp W H H2 := ⟨fun x o w h n => b.own x o (l x w) (a.own x o w h n) n, fun x vs h => b.tup x vs (a.tup x vs h)⟩
theorem Nxt.trans {K : PySem.W.Frag} {C : Cc} {ρ' : Ev} {S S1 : Addr → Prop} {H H1 : Hp} {σ' : L2.St} {H' : Hp} (l : ∀ a, S a → S1 a) (k : Kp S H H1) (n : Nxt K C ρ' S1 H1 σ' H') : Nxt K C ρ' S H σ' H' := by
  obtain ⟨S', st, l', k'⟩ := n
  exact ⟨S', st, fun a h => l' a (l a h), k.trans k' l⟩
theorem EXs.exc {C : Cc} {H : Hp} {c : Nat} (s : Same C.H0 H) (h : EXs C c) : EXc C H c := fun H' e => h H' (s.trans e)
theorem FlOk.trans {K : PySem.W.Frag} {C : Cc} {fr : Bool} {S S1 : Addr → Prop} {H H1 : Hp} {D : Ends} {fl : Fl} (l : ∀ a, S a → S1 a) (k : Kp S H H1) (h : FlOk K C fr S H D fl) : FlOk K C fr S1 H1 D fl := by
  cases fl with
  | nx ρ => exact fun σ' H' n => h σ' H' (n.trans l k)
  | bk ρ => exact fun σ' H' n => h σ' H' (n.trans l k)
  | ct ρ => exact fun σ' H' n => h σ' H' (n.trans l k)
  | rt d => exact h
/-- one statement behind another -/
@[simp] def thenF (g : Ev → R Fl) : Fl → R Fl
  | .nx ρ => g ρ
  | fl => .ok fl
@[simp] def dSeq (f g : Ev → R Fl) : Ev → R Fl := fun ρ => f ρ >>= thenF g
@[simp] def dPass : Ev → R Fl := fun ρ => .ok (.nx ρ)
section
variable {X : Cx} {C : Cc} {fr : Bool} {s : Stmt} {ss : List Stmt} {f g : Ev → R Fl} {pos : Pos}
theorem db_nil : DB X C fr [] dPass := ⟨PSs.imp pss_nil fun D σ H ⟨ρ, S, st, q⟩ => q σ H ⟨S, st, fun _ h => h, .refl⟩⟩
theorem db_one (h : DS X C fr s f) : DB X C fr [s] f := ⟨pss_one h.ps⟩
theorem db_cons (h : DS X C fr s f) (hs : DB X C fr ss g) : DB X C fr (s :: ss) (dSeq f g) := ⟨PSs.imp (pss_cons h.ps hs.pss) fun D σ H ⟨ρ, S, st, q⟩ => by
  refine ⟨ρ, S, st, run_mono (run_bind q) (fun fl q1 => ?_) fun _ z => z⟩
  cases fl with
  | nx ρ1 =>
    intro σ1 H1 n
    obtain ⟨S1, st1, l1, k1⟩ := n
    exact ⟨ρ1, S1, st1, run_mono q1 (fun fl z => z.trans l1 k1) fun _ z => z⟩
  | bk ρ1 => exact q1
  | ct ρ1 => exact q1
  | rt d => exact q1⟩
theorem ds_pass : DS X C fr (.Pass pos) dPass := ⟨PS.imp ps_pass fun D σ H ⟨ρ, S, st, q⟩ => q σ H ⟨S, st, fun _ h => h, .refl⟩⟩
@[simp] def dBreak : Ev → R Fl := fun ρ => .ok (.bk ρ)
@[simp] def dCont : Ev → R Fl := fun ρ => .ok (.ct ρ)
theorem ds_break : DS X C fr (.Break pos) dBreak := ⟨PS.imp ps_break fun D σ H ⟨ρ, S, st, q⟩ => q σ H ⟨S, st, fun _ h => h, .refl⟩⟩
theorem ds_cont : DS X C fr (.Continue pos) dCont := ⟨PS.imp ps_continue fun D σ H ⟨ρ, S, st, q⟩ => q σ H ⟨S, st, fun _ h => h, .refl⟩⟩
/-- never come to -/
@[simp] def dNever : Ev → R Fl := fun _ => .st
theorem ds_never : DS X C fr s dNever := ⟨PS.imp ps_never fun D σ H ⟨ρ, S, st, q⟩ => q⟩
/-- if -/
@[simp] def dIfS (t : Ev → R Bool) (f g : Ev → R Fl) : Ev → R Fl := fun ρ => t ρ >>= fun b => if b = true then f ρ else g ρ
variable {a b : Expr} {sa sb : List Stmt} {ft : Ev → R Bool} {m : Bool} {fe ge : Ev → R D}
theorem EXs.run {α : Type} {K : PySem.W.Frag} {ρ : Ev} {S : Addr → Prop} {σ : L2.St} {H : Hp} {r : R α} {ok : α → Prop} (st : Sta K C ρ S σ H) (h : run r ok (EXs C)) : run r ok (EXc C H) := run_mono h (fun _ z => z) fun c z => EXs.exc st.same z
theorem ds_if (ht : DT X C a ft) (hf : DB X C fr sa f) (hg : DB X C fr sb g) : DS X C fr (.If a sa sb pos) (dIfS ft f g) := ⟨PS.imp (ps_if ht.pt hf.pss hg.pss) fun D σ H ⟨ρ, S, st, q⟩ => by
  refine ⟨ρ, S, st, run_mono (run_bind q) (fun b q1 H1 e => ?_) fun c z => EXs.exc st.same z⟩
  cases b with
  | true => rw [if_pos rfl] at q1 ⊢; exact ⟨ρ, _, st.grow e, run_mono q1 (fun fl z => z.trans (fun a h => .inl h) (Kp.of e)) fun _ z => z⟩
  | false => rw [if_neg Bool.false_ne_true] at q1 ⊢; exact ⟨ρ, _, st.grow e, run_mono q1 (fun fl z => z.trans (fun a h => .inl h) (Kp.of e)) fun _ z => z⟩⟩
/-- an expression whose value is dropped -/
@[simp] def dDrop (f : Ev → R D) : Ev → R Fl := fun ρ => f ρ >>= fun _ => .ok (.nx ρ)
theorem ds_expr (h : DE X C m a fe) (hs : swapsWith a none pos.line X.env = pure false := by rfl) : DS X C fr (.Expr a pos) (dDrop fe) := ⟨PS.imp (ps_expr h.pe hs) fun D σ H ⟨ρ, S, st, q⟩ =>
  ⟨ρ, S, st, run_mono (run_bind q) (fun d q1 v H1 e _ => q1 σ H1 ⟨_, st.grow e, fun _ h => .inl h, Kp.of e⟩) fun c z => EXs.exc st.same z⟩⟩

/-! ### what a name is given -/
def tSE (K : PySem.W.Frag) (C : Cc) (h : Ev → R Sl) : TE := fun σ H Q => ∃ ρ S, Sta K C ρ S σ H ∧ run (h ρ) (fun s => ∀ v H' S', Same H H' → (∀ a, S a → S' a) → (∀ a, S' a → Fw S H H' a) → SlOk K C S' H' (some v) s → (∀ p, Ft C.T H' (some v) s p → H p = none) → Q v H') (EXc C H)
structure SE (X : Cx) (C : Cc) (e : Expr) (h : Ev → R Sl) : Prop where
  pe : PE X e (tSE X.K C h)
@[simp] def sSh (f : Ev → R D) : Ev → R Sl := fun ρ => f ρ >>= fun d => .ok (.sh d)
@[simp] def sOw (f : Ev → R (List D)) : Ev → R Sl := fun ρ => f ρ >>= fun ds => .ok (.ow ds)
theorem DE.se (h : DE X C true a fe) : SE X C a (sSh fe) := ⟨PE.imp h.pe fun σ H Q ⟨ρ, S, st, q⟩ =>
  ⟨ρ, S, st, run_mono (run_bind q) (fun d q1 v H1 e r => q1 v H1 (Fw S H H1) e (fun _ z => .inl z) (fun _ z => z) ⟨v, rfl, r.mono Kp.refl fun a w => w.sh⟩ fun _ z => z.elim) fun _ z => z⟩⟩
theorem FE.se {fe : Ev → R (List D)} (h : FE X C a fe) : SE X C a (sOw fe) := ⟨PE.imp h.pe fun σ H Q ⟨ρ, S, st, q⟩ =>
  ⟨ρ, S, st, run_mono (run_bind q) (fun d q1 p vs H1 e hn hp r => q1 (.ref p) H1 (fun a => Fw S H H1 a ∧ a ≠ p) e (fun x z => ⟨.inl z, fun y => by subst y; exact st.bnd _ z hn⟩) (fun _ z => z.1)
    ⟨p, vs, rfl, hp, st.same.free hn, fun z => z.2 rfl, r⟩ fun p' ep => by
      have ep : some (V.ref p) = some (V.ref p') := ep
      cases ep
      exact hn) fun _ z => z⟩⟩
@[simp] def dSet (i : Nat) (h : Ev → R Sl) : Ev → R Fl := fun ρ => h ρ >>= fun s => .ok (.nx (ρ.set i s))
/-- a name is set: what is asked of its slot -/
theorem Sta.given {K : PySem.W.Frag} {ρ : Ev} {S S' : Addr → Prop} {σ : L2.St} {H H' : Hp} {v : V} {s : Sl} {i : Nat} (st : Sta K C ρ S σ H) (e : Same H H') (l : ∀ a, S a → S' a) (u : ∀ a, S' a → Fw S H H' a) (ok : SlOk K C S' H' (some v) s) (fr : ∀ p, Ft C.T H' (some v) s p → H p = none) :
    Sta K C (ρ.set i s) S' (σ.set i (some v)) H' :=
  (st.grow' e l u).put ok fun p f j t y hj hji hy g => by
    obtain ⟨x', e1, q⟩ := st.sl j t hj
    rw [hy] at e1
    cases e1
    exact (st.ownAt hj hy (Ft.same q e g)).1 (fr p f)
theorem ds_set {i : Nat} {x : Str} {h : Ev → R Sl} {pos' : Pos} (hN : X.N.Nodup) (hi : X.N[i]? = some x) (hx : Loc X.env.scope x) (he : SE X C a h) (hs : swapsWith a (some (.Name x pos')) pos.line X.env = pure false := by rfl)
    (hf : X.fn x = true ∨ X.env.scope.names.lookup x = some .local := by first | exact .inl rfl | exact .inr rfl | assumption) : DS X C fr (.Assign [.Name x pos'] a pos) (dSet i h) := ⟨PS.imp (ps_set hN hi hx he.pe hs hf) fun D σ H ⟨ρ, S, st, q⟩ =>
  ⟨ρ, S, st, run_mono (run_bind q) (fun s q1 v H1 S1 e l u ok fr => q1 _ H1 ⟨S1, st.given e l u ok fr, l, Kp.of e⟩) fun c z => EXs.exc st.same z⟩⟩
/-- a, b = e1, e2 -/
@[simp] def dPar (i j : Nat) (h k : Ev → R Sl) : Ev → R Fl := fun ρ => h ρ >>= fun s => k ρ >>= fun t => .ok (.nx ((ρ.set i s).set j t))
def tSE2 (K : PySem.W.Frag) (C : Cc) (h k : Ev → R Sl) : TA := tCons (tSE K C h) (tCons (tSE K C k) tNil)
theorem par_red {K : PySem.W.Frag} {h k : Ev → R Sl} {i j : Nat} {ρ : Ev} {S : Addr → Prop} {σ : L2.St} {H : Hp} {D : Ends} {Q : V → V → Hp → Prop} (hij : i ≠ j) (st : Sta K C ρ S σ H) (q : run (dPar i j h k ρ) (FlOk K C fr S H D) (EXs C))
    (hq : ∀ v w S2 H2 ρ', Sta K C ρ' S2 ((σ.set i (some v)).set j (some w)) H2 → Sta K C ρ S2 σ H2 → (∀ a, S a → S2 a) → Same H H2 → (∀ σ' H', Nxt K C ρ' S H σ' H' → D.nx σ' H') → Q v w H2) : tSE K C h σ H fun v H1 => tSE K C k σ H1 fun w H2 => Q v w H2 := by
  refine ⟨ρ, S, st, run_mono (run_bind q) (fun s q1 v H1 S1 e1 l1 u1 ok1 fr1 => ?_) fun c z => EXs.exc st.same z⟩
  have st1 := st.grow' e1 l1 u1
  refine ⟨ρ, S1, st1, run_mono (run_bind q1) (fun t q2 w H2 S2 e2 l2 u2 ok2 fr2 => ?_) fun c z => EXs.exc st1.same z⟩
  have st2 := st1.grow' e2 l2 u2
  have q3 : ∀ σ' H', Nxt K C ((ρ.set i s).set j t) S H σ' H' → D.nx σ' H' := q2
  refine hq v w S2 H2 ((ρ.set i s).set j t) ?_ st2 (fun a z => l2 a (l1 a z)) (e1.trans e2) q3
  have sp := (st.given (i := i) e1 l1 u1 ok1 fr1)
  exact sp.given e2 l2 u2 ok2 fr2
theorem ds_par {i j : Nat} {x y : Str} {h k : Ev → R Sl} {px py pt : Pos} {kt k2 : Nat} {pt2 : Pos} (hc : X.calm = true) (hN : X.N.Nodup) (hi : X.N[i]? = some x) (hj : X.N[j]? = some y) (hij : i ≠ j)
    (hx : X.env.scope.names.lookup x = some .local) (hy : X.env.scope.names.lookup y = some .local) (ha : SE X C a h) (hb : SE X C b k)
    (hw : swappedStores [.Tuple [.Name x px, .Name y py] kt pt] (.Tuple [a, b] k2 pt2) X.env = pure (some [x, y]))
    (hs : swapsWithSole [.Tuple [.Name x px, .Name y py] kt pt] (.Tuple [a, b] k2 pt2) pos.line X.env = pure false := by rfl)
    (h1 : starEach [a, b] X.env = (false, eval a X.env) :: starEach [b] X.env := by rfl) (h2 : starEach [b] X.env = (false, eval b X.env) :: starEach [] X.env := by rfl) :
    DS X C fr (.Assign [.Tuple [.Name x px, .Name y py] kt pt] (.Tuple [a, b] k2 pt2) pos) (dPar i j h k) := ⟨PS.imp (ps_par hc hN hi hj hij hx hy (pa_cons ha.pe (pa_cons hb.pe pa_nil h2) h1) hw hs) fun D σ H ⟨ρ, S, st, q⟩ => by
  exact par_red (Q := fun v w H2 => ∃ v' w', [v, w] = [v', w'] ∧ D.nx ((σ.set i (some v')).set j (some w')) H2) hij st q fun v w S2 H2 ρ' sp _ l e z => ⟨v, w, rfl, z _ H2 ⟨S2, sp, l, Kp.of e⟩⟩⟩
/-- the same by a real pair -/
theorem ds_parT {i j : Nat} {x y : Str} {h k : Ev → R Sl} {px py pt : Pos} {kt k2 : Nat} {pt2 : Pos} (hc : X.calm = true) (hN : X.N.Nodup) (hi : X.N[i]? = some x) (hj : X.N[j]? = some y) (hij : i ≠ j)
    (hx : Loc X.env.scope x) (hy : Loc X.env.scope y) (ha : SE X C a h) (hb : SE X C b k)
    (hw : swappedStores [.Tuple [.Name x px, .Name y py] kt pt] (.Tuple [a, b] k2 pt2) X.env = pure none)
    (hs : swapsWithSole [.Tuple [.Name x px, .Name y py] kt pt] (.Tuple [a, b] k2 pt2) pos.line X.env = pure false := by rfl)
    (h1 : starEach [a, b] X.env = (false, eval a X.env) :: starEach [b] X.env := by rfl) (h2 : starEach [b] X.env = (false, eval b X.env) :: starEach [] X.env := by rfl)
    (hf1 : X.fn x = true ∨ X.env.scope.names.lookup x = some .local := by first | exact .inl rfl | exact .inr rfl | assumption) (hf2 : X.fn y = true ∨ X.env.scope.names.lookup y = some .local := by first | exact .inl rfl | exact .inr rfl | assumption) :
    DS X C fr (.Assign [.Tuple [.Name x px, .Name y py] kt pt] (.Tuple [a, b] k2 pt2) pos) (dPar i j h k) := ⟨PS.imp (ps_asg (pe_tup (pa_cons ha.pe (pa_cons hb.pe pa_nil h2) h1)) (pg_tup hc (pgs_cons (pg_name hN hi hx hf1) (pgs_cons (pg_name hN hj hy hf2) pgs_nil))) hs hw) fun D σ H ⟨ρ, S, st, q⟩ => by
  refine par_red (Q := fun v w H2 => ([v, w] : List V).length ≤ sizeLine ∧ ∀ p, H2 p = none → gTup X.K 2 (gCons (gName i) (gCons (gName j) gNil)) (.ref p) σ (upd H2 p (.tup [v, w])) D.nx) hij st q fun v w S2 H2 ρ' sp _ l e z => ⟨by show 2 ≤ sizeLine; decide, fun p hp => ?_⟩
  refine ⟨p, [v, w], rfl, seqT upd_same, rfl, v, [w], rfl, w, [], rfl, rfl, z _ _ ⟨S2, ?_, l, Kp.of (e.trans (same_upd hp))⟩⟩
  exact sp.grow' (same_upd hp) (fun _ z => z) fun _ z => .inl z⟩

/-! ### return -/
theorem Sta.foot {K : PySem.W.Frag} {ρ : Ev} {S : Addr → Prop} {σ : L2.St} {H H' : Hp} (st : Sta K C ρ S σ H) (e : Same H H') {a : Addr} (h : Fw S H H' a) : Fw C.S0 C.H0 H' a := by
  rcases h with h | ⟨h1, h2⟩
  · rcases st.sub a h with z | z
    · exact .inl z
    · exact .inr ⟨z, fun y => st.bnd a h (e.free y)⟩
  · exact .inr ⟨st.same.free h1, h2⟩
@[simp] def dRet (f : Ev → R D) : Ev → R Fl := fun ρ => f ρ >>= fun d => .ok (.rt d)
@[simp] def dRetF (f : Ev → R (List D)) : Ev → R Fl := fun ρ => f ρ >>= fun d => .ok (.rt (.lst d))
theorem ds_ret (h : DE X C m a fe) : DS X C false (.Return (some a) pos) (dRet fe) := ⟨PS.imp (ps_ret h.pe) fun D σ H ⟨ρ, S, st, q⟩ =>
  ⟨ρ, S, st, run_mono (run_bind q) (fun d q1 v H1 e r => q1 v H1 (st.same.trans e) (r.monoA Kp.refl fun a w n => w.elim (fun w => st.foot e w) fun w => .inr ⟨w.2, n⟩)) fun c z => EXs.exc st.same z⟩⟩
theorem ds_retF {fe : Ev → R (List D)} (h : FE X C a fe) : DS X C true (.Return (some a) pos) (dRetF fe) := ⟨PS.imp (ps_ret h.pe) fun D σ H ⟨ρ, S, st, q⟩ =>
  ⟨ρ, S, st, run_mono (run_bind q) (fun d q1 p vs H1 e hn hp r => q1 (.ref p) H1 (st.same.trans e) (.lst (st.same.free hn) hp (r.mono Kp.refl fun a w => ⟨st.foot e w.1, w.2⟩))) fun c z => EXs.exc st.same z⟩⟩
theorem ds_retN : DS X C false (.Return none pos) (dRet (dC .non)) := ⟨PS.imp ps_retN fun D σ H ⟨ρ, S, st, q⟩ => q .non H st.same .non⟩
/-- return of a list of one's own -/
@[simp] def dRetO (i : Nat) : Ev → R Fl := fun ρ => match ρ[i]? with
  | some (.ow ds) => .ok (.rt (.lst ds))
  | _ => .st
theorem ds_retO {i : Nat} (h : PE X a (tVar i)) : DS X C true (.Return (some a) pos) (dRetO i) := ⟨PS.imp (ps_ret h) fun D σ H ⟨ρ, S, st, q⟩ => by
  unfold dRetO at q
  cases es : ρ[i]? with
  | none => rw [es] at q; exact q.elim
  | some s =>
    rw [es] at q
    cases s with
    | ow ds =>
      obtain ⟨x, e1, p, vs, rfl, h1, h2, h3, r⟩ := st.sl i _ es
      refine ⟨.ref p, e1, q (.ref p) H st.same (.lst h2 h1 (r.mono Kp.refl fun a w => ⟨st.foot (Same.refl _) (.inl w), fun z => ?_⟩))⟩
      subst z
      exact h3 w
    | no => exact q.elim
    | sh _ => exact q.elim
    | od _ _ => exact q.elim
    | nw _ => exact q.elim
    | ot _ => exact q.elim⟩

/-! ### changes of a list of one's own -/
/-- a slot whose own things stay -/
theorem SlOk.move {K : PySem.W.Frag} {S S2 : Addr → Prop} {H H2 : Hp} {x : Option V} {t : Sl} (h : SlOk K C S H x t) (kp : Kp S H H2) (l : ∀ a, S a → S2 a) (kf : ∀ a, Ft C.T H x t a → H2 a = H a) (n : ∀ a, Ft C.T H x t a → ¬ S2 a) : SlOk K C S2 H2 x t := by
  cases t with
  | no => trivial
  | sh d =>
    obtain ⟨v, ev, rv⟩ := h
    exact ⟨v, ev, rv.mono kp l⟩
  | nw d =>
    obtain ⟨v, ev, rv⟩ := h
    exact ⟨v, ev, rv.mono ⟨fun a o w => kp.own a o w.1, kp.tup⟩ fun a w => ⟨l a w.1, w.2⟩⟩
  | ow es =>
    obtain ⟨p, ws, ev, g1, g2, g3, rv⟩ := h
    have f : Ft C.T H x (.ow es) p := ev
    exact ⟨p, ws, ev, by rw [kf p f]; exact g1, g2, n p f, rv.mono kp l⟩
  | od ks es =>
    obtain ⟨p, ws, ev, g1, gl, g2, g3, rv⟩ := h
    have f : Ft C.T H x (.od ks es) p := ev
    exact ⟨p, ws, ev, by rw [kf p f]; exact g1, gl, g2, n p f, rv.mono kp l⟩
  | ot o =>
    obtain ⟨v, F, ev, r, q⟩ := h
    have f : ∀ a ∈ F, Ft C.T H x (.ot o) a := fun a m => ⟨v, F, ev, r.mono (fun _ _ _ => trivial) fun _ _ => rfl, m⟩
    exact ⟨v, F, ev, r.mono (fun d v z => z.mono kp l) fun a m => kf a (f a m), fun a m => ⟨(q a m).1, n a (f a m)⟩⟩
theorem Ow.notup {T : Tb} {H : Hp} {P : D → V → Prop} : (∀ {o : O} {v : V} {F : List Addr}, Ow T H P o v F → ∀ a ∈ F, ∀ vs, H a ≠ some (.tup vs)) ∧ (∀ {os : List O} {vs : List V} {F : List Addr}, OwL T H P os vs F → ∀ a ∈ F, ∀ us, H a ≠ some (.tup us)) := by
  have go : ∀ n : Nat, (∀ {o : O} {v : V} {F : List Addr}, sizeOf o ≤ n → Ow T H P o v F → ∀ a ∈ F, ∀ vs, H a ≠ some (.tup vs)) ∧ (∀ {os : List O} {vs : List V} {F : List Addr}, sizeOf os ≤ n → OwL T H P os vs F → ∀ a ∈ F, ∀ us, H a ≠ some (.tup us)) := by
    intro n
    induction n with
    | zero =>
      refine ⟨fun {o v F} hz => ?_, fun {os vs F} hz => ?_⟩
      · cases o <;> simp at hz
      · cases os <;> simp at hz
    | succ n ih =>
      refine ⟨fun {o v F} hz r a m us => ?_, fun {os vs F} hz r a m us => ?_⟩
      · cases r with
        | d _ => simp at m
        | l e r _ =>
          rcases List.mem_cons.mp m with rfl | m
          · rw [e]; exact fun z => nomatch z
          · exact ih.2 (by simp at hz; omega) r a m us
        | ob e _ r _ =>
          rcases List.mem_cons.mp m with rfl | m
          · rw [e]; exact fun z => nomatch z
          · exact ih.2 (by simp at hz; omega) r a m us
      · cases r with
        | nil => simp at m
        | cons p r _ =>
          rcases List.mem_append.mp m with m | m
          · exact ih.1 (by simp at hz; omega) p a m us
          · exact ih.2 (by simp at hz; omega) r a m us
  exact ⟨fun {o v F} r => (go _).1 (Nat.le_refl _) r, fun {os vs F} r => (go _).2 (Nat.le_refl _) r⟩
theorem SlOk.notup {K : PySem.W.Frag} {S : Addr → Prop} {H : Hp} {x : Option V} {t : Sl} {a : Addr} (h : SlOk K C S H x t) (f : Ft C.T H x t a) (vs : List V) : H a ≠ some (.tup vs) := by
  cases t with
  | no => exact f.elim
  | sh d => exact f.elim
  | nw d => exact f.elim
  | ow es =>
    obtain ⟨p, ws, ev, g1, g2, g3, rv⟩ := h
    have f : x = some (.ref a) := f
    rw [ev] at f
    cases f
    rw [g1]; exact fun z => nomatch z
  | od ks es =>
    obtain ⟨p, ws, ev, g1, gl, g2, g3, rv⟩ := h
    have f : x = some (.ref a) := f
    rw [ev] at f
    cases f
    rw [g1]; exact fun z => nomatch z
  | ot o =>
    obtain ⟨v, F, ev, r, m⟩ := f
    exact Ow.notup.1 r a m vs
/-- what is one slot's own is changed: what stands behind it -/
theorem Sta.mut {K : PySem.W.Frag} {ρ : Ev} {S S2 : Addr → Prop} {σ : L2.St} {H H2 : Hp} {i : Nat} {s s' : Sl} {x : Option V} (st : Sta K C ρ S σ H) (h0 : ρ[i]? = some s) (hx : σ[i]? = some x) (k : ∀ a o, H a = some o → ¬ Ft C.T H x s a → H2 a = some o)
    (l : ∀ a, S a → S2 a) (u : ∀ a, S2 a → S a ∨ H a = none) (b : ∀ a, S2 a → H2 a ≠ none) (ok : SlOk K C S2 H2 x s') (sub : ∀ p, Ft C.T H2 x s' p → Ft C.T H x s p ∨ H p = none) : Sta K C (ρ.set i s') S2 σ H2 ∧ Kp S H H2 := by
  obtain ⟨x0, e0, q0⟩ := st.sl i s h0
  rw [hx] at e0
  cases e0
  have kp : Kp S H H2 := ⟨fun a o w h _ => k a o h fun f => (q0.foot f).2.1 w, fun a vs h => k a _ h fun f => q0.notup f vs h⟩
  have kf : ∀ {j : Nat} {t : Sl} {y : Option V}, j ≠ i → ρ[j]? = some t → σ[j]? = some y → SlOk K C S H y t → ∀ a, Ft C.T H y t a → H2 a = H a := by
    intro j t y hji ht hy q a f
    cases e : H a with
    | none => exact absurd e (q.foot f).1
    | some o => exact k a o e fun g => st.sep j i t s y x a hji ht h0 hy hx f g
  refine ⟨⟨fun a o h => k a o (st.same a o h) fun f => (by rw [(q0.foot f).2.2] at h; cases h), fun a h => ?_, fun a h => l a (st.sup a h), b, ?_, fun j t ht => ?_, fun j k' t t' y z p hjk ht hu hj hk f g => ?_⟩, kp⟩
  · rcases u a h with h | h
    · exact st.sub a h
    · exact .inr (st.same.free h)
  · rw [List.length_set]; exact st.len
  · by_cases hji : j = i
    · subst hji
      rw [List.getElem?_set_self (List.getElem?_eq_some_iff.mp h0).1] at ht
      cases ht
      exact ⟨_, hx, ok⟩
    · rw [List.getElem?_set_ne (Ne.symm hji)] at ht
      obtain ⟨y, ey, oky⟩ := st.sl j t ht
      refine ⟨y, ey, oky.move kp l (kf hji ht ey oky) fun a f hs => ?_⟩
      rcases u a hs with hs | hs
      · exact (oky.foot f).2.1 hs
      · exact (oky.foot f).1 hs
  · -- two slots share nothing
    have one : ∀ {j k' : Nat} {t t' : Sl} {y z : Option V}, j = i → j ≠ k' → (ρ.set i s')[j]? = some t → (ρ.set i s')[k']? = some t' → σ[j]? = some y → σ[k']? = some z → Ft C.T H2 y t p → Ft C.T H2 z t' p → False := by
      intro j k' t t' y z hji hjk ht hu hj hk f g
      subst hji
      rw [List.getElem?_set_self (List.getElem?_eq_some_iff.mp h0).1] at ht
      cases ht
      rw [List.getElem?_set_ne hjk] at hu
      rw [hx] at hj
      cases hj
      obtain ⟨z0, ez, okz⟩ := st.sl k' t' hu
      rw [hk] at ez
      cases ez
      have g' := Ft.back okz (kf (Ne.symm hjk) hu hk okz) g
      rcases sub p f with f | f
      · exact st.sep j k' s t' x z p hjk h0 hu hx hk f g'
      · exact (okz.foot g').1 f
    by_cases hji : j = i
    · exact one hji hjk ht hu hj hk f g
    · by_cases hki : k' = i
      · exact one hki (Ne.symm hjk) hu ht hk hj g f
      · rw [List.getElem?_set_ne (Ne.symm hji)] at ht
        rw [List.getElem?_set_ne (Ne.symm hki)] at hu
        obtain ⟨y0, ey, oky⟩ := st.sl j t ht
        obtain ⟨z0, ez, okz⟩ := st.sl k' t' hu
        rw [hj] at ey
        rw [hk] at ez
        cases ey
        cases ez
        exact st.sep j k' t t' y z p hjk ht hu hj hk (Ft.back oky (kf hji ht hj oky) f) (Ft.back okz (kf hki hu hk okz) g)
/-- an owned list is changed: what stands behind it -/
theorem Sta.chg1 {K : PySem.W.Frag} {ρ : Ev} {S1 : Addr → Prop} {σ : L2.St} {H H1 : Hp} {i : Nat} {ds ds' : List D} {p : Addr} {vs vs' : List V} (st1 : Sta K C ρ S1 σ H1) (e : Same H H1)
    (h0 : ρ[i]? = some (.ow ds)) (hσ : σ[i]? = some (some (.ref p))) (hp : H p = some (.lst vs)) (h2 : C.H0 p = none) (hS : ¬ S1 p) (r : ShL K C.T H1 S1 ds' vs') : Sta K C (ρ.set i (.ow ds')) S1 σ (upd H1 p (.lst vs')) ∧ Kp S1 H1 (upd H1 p (.lst vs')) := by
  have kp : Kp S1 H1 (upd H1 p (.lst vs')) := ⟨fun a o w h _ => by
    rw [upd_ne (fun z => by subst z; exact hS w)]; exact h, fun a ws h => by
    rw [upd_ne (fun z => by subst z; rw [e _ _ hp] at h; cases h)]; exact h⟩
  obtain ⟨st2, kp2⟩ := st1.mut (S2 := S1) (H2 := upd H1 p (.lst vs')) (s' := .ow ds') h0 hσ (fun a o h n => by
    rw [upd_ne (fun z => by subst z; exact n rfl)]; exact h) (fun a h => h) (fun a h => .inl h) (fun a h => by
    unfold upd
    split
    · exact fun z => nomatch z
    · exact st1.bnd a h) ⟨p, vs', rfl, upd_same, h2, hS, r.mono kp fun _ w => w⟩ (fun q f => .inl f)
  exact ⟨st2, kp⟩
theorem Sta.chg {K : PySem.W.Frag} {ρ : Ev} {S S1 : Addr → Prop} {σ : L2.St} {H H1 : Hp} {i : Nat} {ds ds' : List D} {p : Addr} {vs vs' : List V} (_st : Sta K C ρ S σ H) (st1 : Sta K C ρ S1 σ H1) (l : ∀ a, S a → S1 a) (e : Same H H1)
    (h0 : ρ[i]? = some (.ow ds)) (hσ : σ[i]? = some (some (.ref p))) (hp : H p = some (.lst vs)) (h2 : C.H0 p = none) (hS : ¬ S1 p) (r : ShL K C.T H1 S1 ds' vs') : Nxt K C (ρ.set i (.ow ds')) S H σ (upd H1 p (.lst vs')) := by
  obtain ⟨st2, kp⟩ := st1.chg1 e h0 hσ hp h2 hS r
  exact ⟨S1, st2, l, (Kp.of e).trans kp l⟩
def ltLine (n : Nat) : Bool := shut (n < 16777216)
@[simp] def dApp (i : Nat) (f : Ev → R D) : Ev → R Fl := fun ρ => match ρ[i]? with
  | some (.ow ds) => f ρ >>= fun d => R.when (ltLine ds.length) (.ok (.nx (ρ.set i (.ow (ds ++ [d])))))
  | _ => .st
theorem ow_run {α : Type} {ρ : Ev} {i : Nat} {k : List D → R α} {ok : α → Prop} {ex : Nat → Prop} (q : run (match ρ[i]? with | some (.ow ds) => k ds | _ => R.st) ok ex) : ∃ ds, ρ[i]? = some (.ow ds) ∧ run (k ds) ok ex := by
  cases es : ρ[i]? with
  | none => rw [es] at q; exact q.elim
  | some s =>
    rw [es] at q
    cases s with
    | ow ds => exact ⟨ds, rfl, q⟩
    | no => exact q.elim
    | sh _ => exact q.elim
    | od _ _ => exact q.elim
    | nw _ => exact q.elim
    | ot _ => exact q.elim
theorem Fw.own {S : Addr → Prop} {H H1 : Hp} {p : Addr} {o : HO} (h : H p = some o) (n : ¬ S p) : ¬ Fw S H H1 p := by
  rintro (z | ⟨z, _⟩)
  · exact n z
  · rw [h] at z; cases z
theorem lt_line {n : Nat} (h : ltLine n = true) : n < sizeLine := by rw [sizeLine_eq]; exact of_shut h
theorem ds_app {i : Nat} {o : Expr} {p1 p2 : Pos} (hm : ∀ t : TE, PE X a t → PE X (.Call (.Attribute o "append" p1) [a] [] p2) (tBM X.K "list" rAppend (tVar i) (tCons t tNil))) (h : DE X C true a fe) (hs : swapsWith (.Call (.Attribute o "append" p1) [a] [] p2) none pos.line X.env = pure false := by rfl) :
    DS X C fr (.Expr (.Call (.Attribute o "append" p1) [a] [] p2) pos) (dApp i fe) := ⟨PS.imp (ps_expr (hm _ h.pe) hs) fun D σ H ⟨ρ, S, st, q⟩ => by
  unfold dApp at q
  obtain ⟨ds, es, q⟩ := ow_run q
  obtain ⟨x, e1, p, vs, rfl, h1, h2, h3, r⟩ := st.sl i _ es
  refine ⟨.ref p, e1, .inl ⟨rfl, _, SqL.of h1⟩, ?_⟩
  refine tD_one (k := fun d => R.when (ltLine ds.length) (R.ok (Fl.nx (ρ.set i (.ow (ds ++ [d])))))) st (EXs.run st q) fun d v H1 e rd q2 => ?_
  obtain ⟨c, q2⟩ := run_when q2
  refine ⟨p, vs, v, rfl, rfl, e _ _ h1, ?_, ?_⟩
  · rw [← r.length]; exact lt_line c
  · exact q2 σ _ (st.chg (st.grow e) (fun _ z => .inl z) e es e1 h1 h2 (Fw.own h1 h3) ((r.mono (Kp.of e) fun _ w => .inl w).snoc (rd.mono Kp.refl fun _ w => w.sh)))⟩
/-- x[i] = e, x a list of one's own -/
@[simp] def dSetI (k : Nat) (fi fe : Ev → R D) : Ev → R Fl := fun ρ => fe ρ >>= fun d => match ρ[k]? with
  | some (.ow ds) => fi ρ >>= fun j => toI j >>= fun j => R.of (ixN ds.length j) >>= fun n => .ok (.nx (ρ.set k (.ow (ds.set n d))))
  | _ => .st
theorem ds_setI {i : Nat} {o : Expr} {p1 : Pos} (ho : PE X o (tVar i)) (hi : DE X C m b ge) (h : DE X C true a fe)
    (ha : ∀ v, assign (.Subscript o b p1) X.env v = (do
      let ov ← holding [v] (eval o X.env)
      let iv ← holding [v, ov] (eval b X.env)
      standAt p1
      holding [v, ov, iv] (setItem ov iv v)
      release [v, ov, iv] []) := by intro _; rfl) (hs : swapsWithSole [.Subscript o b p1] a pos.line X.env = pure false := by rfl) (hw : swappedStores [.Subscript o b p1] a X.env = pure none := by rfl)
    (h1 : (assignEach [.Subscript o b p1] X.env).map (·.2) = [assign (.Subscript o b p1) X.env] := by rfl) : DS X C fr (.Assign [.Subscript o b p1] a pos) (dSetI i ge fe) := ⟨PS.imp (ps_asg h.pe (pg_sub ho hi.pe set_list ha) hs hw h1) fun D σ H ⟨ρ, S, st, q⟩ => by
  refine tD_one (k := fun d => match ρ[i]? with
    | some (.ow ds) => ge ρ >>= fun j => toI j >>= fun j => R.of (ixN ds.length j) >>= fun n => R.ok (Fl.nx (ρ.set i (.ow (ds.set n d))))
    | _ => .st) st (EXs.run st q) fun d v H1 e rd q2 => ?_
  obtain ⟨ds, es, q2⟩ := ow_run q2
  obtain ⟨x, e1, p, vs, rfl, g1, g2, g3, r⟩ := st.sl i _ es
  refine ⟨.ref p, e1, ?_⟩
  refine tD_one (k := fun j => toI j >>= fun j => R.of (ixN ds.length j) >>= fun n => R.ok (Fl.nx (ρ.set i (.ow (ds.set n d))))) (st.grow e) (run_mono q2 (fun _ z => z) fun c z => EXc.mono e z) fun j u H2 e2 rj q3 => ?_
  cases j with
  | int j =>
    cases rj
    obtain ⟨n, en, q4⟩ := run_of (run_bind q3)
    refine ⟨p, vs, j, n, rfl, rfl, e2 _ _ (e _ _ g1), by rw [← r.length]; exact en, ?_⟩
    have r2 : ShL X.K C.T H2 (Fw S H H2) ds vs := r.mono (Kp.of (e.trans e2)) fun _ w => .inl w
    exact q4 σ _ (st.chg (st.grow (e.trans e2)) (fun _ z => .inl z) (e.trans e2) es e1 g1 g2 (Fw.own g1 g3) (r2.set (rd.mono (Kp.of e2) fun _ w => Fw.more e2 w.sh) n))
  | _ => exact q3.elim⟩

/-! ### targets -/
def tDg (K : PySem.W.Frag) (C : Cc) (is : List Nat) (g : D → Ev → Option Ev) : TG := fun v σ H Q => ∃ ρ S d ρ', Sta K C ρ S σ H ∧ Sh K C.T H S d v ∧ g d ρ = some ρ' ∧ ∀ σ', Sta K C ρ' S σ' H → (∀ ws : List Nat, (∀ i ∈ is, i ∈ ws) → wipe σ' ws = wipe σ ws) → Q σ' H
structure DG (X : Cx) (C : Cc) (is : List Nat) (tg : Expr) (g : D → Ev → Option Ev) : Prop where
  pg : PG X tg (tDg X.K C is g)
theorem wipe_get {σ : L2.St} {i : Nat} : ∀ {vs : List Nat}, i ∉ vs → (wipe σ vs)[i]? = σ[i]?
  | [], _ => rfl
  | v :: vs, h => by
    rw [List.mem_cons, not_or] at h
    show ((wipe σ vs).set v none)[i]? = _
    rw [List.getElem?_set_ne (fun e => h.1 e.symm), wipe_get h.2]
theorem wipe_in {σ : L2.St} {i : Nat} : ∀ {vs : List Nat}, i ∈ vs → i < σ.length → (wipe σ vs)[i]? = some none
  | v :: vs, h, hl => by
    show ((wipe σ vs).set v none)[i]? = _
    by_cases e : v = i
    · subst e
      rw [List.getElem?_set_self (by rw [wipe_length]; exact hl)]
    · rw [List.getElem?_set_ne e]
      rcases List.mem_cons.mp h with z | z
      · exact (e z.symm).elim
      · exact wipe_in z hl
theorem wipe_ext {σ τ : L2.St} {vs : List Nat} (hl : σ.length = τ.length) (h : ∀ i, i ∉ vs → σ[i]? = τ[i]?) : wipe σ vs = wipe τ vs := by
  apply List.ext_getElem?
  intro i
  by_cases hi : i ∈ vs
  · by_cases hl' : i < σ.length
    · rw [wipe_in hi hl', wipe_in hi (hl ▸ hl')]
    · rw [List.getElem?_eq_none (by rw [wipe_length]; omega), List.getElem?_eq_none (by rw [wipe_length]; omega)]
  · rw [wipe_get hi, wipe_get hi, h i hi]
theorem wipe_set {σ : L2.St} {i : Nat} {x : Option V} {vs : List Nat} (h : i ∈ vs) : wipe (σ.set i x) vs = wipe σ vs :=
  wipe_ext (List.length_set ..) fun j hj => List.getElem?_set_ne fun e => hj (by subst e; exact h)
theorem wipe_wipe {σ : L2.St} {vs : List Nat} : wipe (wipe σ vs) vs = wipe σ vs := wipe_ext (wipe_length ..) fun _ hj => wipe_get hj
theorem PG.imp {X : Cx} {e : Expr} {t t' : TG} (h : PG X e t) (k : ∀ v σ H Q, t' v σ H Q → t v σ H Q) : PG X e t' := ⟨fun pins s σ H v u Q I r q => h.run pins s σ H v u Q I r (k v σ H Q q)⟩
@[simp] def gNm (i : Nat) : D → Ev → Option Ev := fun d ρ => some (ρ.set i (.sh d))
theorem dg_name {i : Nat} {x : Str} (hN : X.N.Nodup) (hi : X.N[i]? = some x) (hx : Loc X.env.scope x) (hf : X.fn x = true ∨ X.env.scope.names.lookup x = some .local := by first | exact .inl rfl | exact .inr rfl | assumption) : DG X C [i] (.Name x pos) (gNm i) :=
  ⟨PG.imp (pg_name hN hi hx hf) fun v σ H Q ⟨ρ, S, d, ρ', st, r, e, q⟩ => by
    cases e
    exact q _ (st.putSh r) fun ws h => wipe_set (h i (by simp))⟩
/-- two names -/
@[simp] def gTwo (i j : Nat) : D → Ev → Option Ev := fun d ρ => match d with
  | .tup [x, y] => some ((ρ.set i (.sh x)).set j (.sh y))
  | _ => none
theorem dg_two {i j k : Nat} {x y : Str} {p1 p2 : Pos} (hc : X.calm = true) (hN : X.N.Nodup) (hi : X.N[i]? = some x) (hj : X.N[j]? = some y) (hx : Loc X.env.scope x) (hy : Loc X.env.scope y)
    (hf1 : X.fn x = true ∨ X.env.scope.names.lookup x = some .local := by first | exact .inl rfl | exact .inr rfl | assumption) (hf2 : X.fn y = true ∨ X.env.scope.names.lookup y = some .local := by first | exact .inl rfl | exact .inr rfl | assumption) :
    DG X C [i, j] (.Tuple [.Name x p1, .Name y p2] k pos) (gTwo i j) := ⟨PG.imp (pg_tup hc (pgs_cons (pg_name hN hi hx hf1) (pgs_cons (pg_name hN hj hy hf2) pgs_nil))) fun v σ H Q ⟨ρ, S, d, ρ', st, r, e, q⟩ => by
  unfold gTwo at e
  split at e
  · cases e
    cases r with
    | tup h r =>
      cases r with
      | cons h1 r =>
        obtain ⟨u, rfl, h2⟩ := r.one
        exact ⟨_, _, rfl, seqT h, rfl, _, _, rfl, _, _, rfl, rfl, q _ ((st.putSh h1).putSh h2) fun ws h => by rw [wipe_set (h j (by simp)), wipe_set (h i (by simp))]⟩
  · cases e⟩

/-! ### loops -/
theorem fuel_ex : ∃ n : Nat, n = 1000000 := ⟨_, rfl⟩
def fuel : Nat := Classical.choose fuel_ex
theorem fuel_eq : fuel = 1000000 := Classical.choose_spec fuel_ex
def wh (c : Ev → R Bool) (b : Ev → R Fl) : Nat → Ev → R Fl
  | 0, _ => .st
  | n + 1, ρ => c ρ >>= fun k => if k = true then b ρ >>= fun fl => match fl with
      | .nx ρ' => wh c b n ρ'
      | .ct ρ' => wh c b n ρ'
      | .bk ρ' => .ok (.nx ρ')
      | .rt d => .ok (.rt d)
    else .ok (.nx ρ)
theorem ds_while {n : Nat} (hp : PassesOwn (model X.prog X.w) X.A X.env X.xe) (ht : DT X C a ft) (hf : DB X C fr sa f) : DS X C fr (.While a sa [] pos) (wh ft f n) := ⟨PS.imp (ps_while hp ht.pt hf.pss) fun D σ H ⟨ρ, S, st, q⟩ => by
  refine ⟨fun m σ1 H1 => ∃ ρ1 S1, Sta X.K C ρ1 S1 σ1 H1 ∧ run (wh ft f m ρ1) (FlOk X.K C fr S1 H1 D) (EXs C), ⟨n, ρ, S, st, q⟩, fun m σ1 H1 ⟨ρ1, S1, st1, q1⟩ => ?_⟩
  cases m with
  | zero => exact q1.elim
  | succ m =>
    refine ⟨ρ1, S1, st1, run_mono (run_bind q1) (fun k q2 H2 e => ?_) fun c z => EXs.exc st1.same z⟩
    have st2 := st1.grow e
    have kp : Kp S1 H1 H2 := Kp.of e
    cases k with
    | false =>
      rw [if_neg Bool.false_ne_true] at q2
      exact iteF (q2 σ1 H2 ⟨_, st2, fun _ z => .inl z, kp⟩)
    | true =>
      rw [if_pos rfl] at q2
      refine iteT ⟨fun σ' H' => ∃ ρ' S', Sta X.K C ρ' S' σ' H' ∧ run (wh ft f m ρ') (FlOk X.K C fr S' H' D) (EXs C), fun σ' H' z => ⟨m, Nat.lt_succ_self m, z⟩, ?_⟩
      refine ⟨ρ1, _, st2, run_mono (run_bind q2) (fun fl q3 => ?_) fun _ z => z⟩
      cases fl with
      | nx ρ' =>
        intro σ' H' ⟨S', st', l', k'⟩
        exact ⟨ρ', S', st', run_mono q3 (fun fl z => z.trans (fun a h => l' a (.inl h)) (kp.trans k' fun _ z => .inl z)) fun _ z => z⟩
      | ct ρ' =>
        intro σ' H' ⟨S', st', l', k'⟩
        exact ⟨ρ', S', st', run_mono q3 (fun fl z => z.trans (fun a h => l' a (.inl h)) (kp.trans k' fun _ z => .inl z)) fun _ z => z⟩
      | bk ρ' => exact fun σ' H' n => q3 σ' H' (n.trans (fun _ z => .inl z) kp)
      | rt d => exact q3⟩

/-- what a walk yields: the data xs, one after another -/
def ItOk (K : PySem.W.Frag) (T : Tb) (S : Addr → Prop) (J : It) (H1 : Hp) (xs : List D) : Prop :=
  ∀ H', Kp S H1 H' → (∀ (i : Nat) x, xs[i]? = some x → J.go i H' ∧ ∀ v H2, J.yld i H' v H2 → Same H' H2 ∧ Sh K T H2 (Fw S H' H2) x v) ∧ ∀ i, xs.length ≤ i → J.stop i H'
def DI (X : Cx) (C : Cc) (tg iter : Expr) (f : Ev → R (List D)) : Prop :=
  ∃ wi, PI X tg iter wi ∧ ∀ (σ : L2.St) (H : Hp) (Q : It → Hp → Prop) (ρ : Ev) (S : Addr → Prop), Sta X.K C ρ S σ H → run (f ρ) (fun xs => ∀ J H1, Same H H1 → ItOk X.K C.T (Fw S H H1) J H1 xs → Q J H1) (EXc C H) → wi σ H Q
/-- .. while nothing is changed -/
def ItS (K : PySem.W.Frag) (T : Tb) (S : Addr → Prop) (J : It) (H1 : Hp) (xs : List D) : Prop :=
  ∀ H', Same H1 H' → (∀ (i : Nat) x, xs[i]? = some x → J.go i H' ∧ ∀ v H2, J.yld i H' v H2 → Same H' H2 ∧ Sh K T H2 (Fw S H' H2) x v) ∧ ∀ i, xs.length ≤ i → J.stop i H'
def DIc (X : Cx) (C : Cc) (tg iter : Expr) (f : Ev → R (List D)) : Prop :=
  ∃ wi, PI X tg iter wi ∧ ∀ (σ : L2.St) (H : Hp) (Q : It → Hp → Prop) (ρ : Ev) (S : Addr → Prop), Sta X.K C ρ S σ H → run (f ρ) (fun xs => ∀ J H1, Same H H1 → ItS X.K C.T (Fw S H H1) J H1 xs → Q J H1) (EXc C H) → wi σ H Q
theorem DI.c {X : Cx} {C : Cc} {tg iter : Expr} {f : Ev → R (List D)} (h : DI X C tg iter f) : DIc X C tg iter f := by
  obtain ⟨wi, h1, h2⟩ := h
  exact ⟨wi, h1, fun σ H Q ρ S st q => h2 σ H Q ρ S st (run_mono q (fun xs z J H1 e ok => z J H1 e fun H' s => ok H' (Kp.of s)) fun _ z => z)⟩
def fo (g : D → Ev → Option Ev) (b : Ev → R Fl) : List D → Ev → R Fl
  | [], ρ => .ok (.nx ρ)
  | x :: xs, ρ => R.of (g x ρ) >>= fun ρ1 => b ρ1 >>= fun fl => match fl with
      | .nx ρ' => fo g b xs ρ'
      | .ct ρ' => fo g b xs ρ'
      | .bk ρ' => .ok (.nx ρ')
      | .rt d => .ok (.rt d)
@[simp] def dFor (it : Ev → R (List D)) (g : D → Ev → Option Ev) (b : Ev → R Fl) : Ev → R Fl := fun ρ => it ρ >>= fun xs => fo g b xs ρ
theorem ds_for {tg iter : Expr} {fi : Ev → R (List D)} {g : D → Ev → Option Ev} {is : List Nat} (hp : PassesOwn (model X.prog X.w) X.A X.env X.xe) (hc : X.calm = true) (hi : DI X C tg iter fi) (hg : DG X C is tg g) (hf : DB X C fr sa f)
    (hs : ∀ x, foldedSetIterable iter X.env x = pure x := by intro _; rfl) : DS X C fr (.For tg iter sa [] pos) (dFor fi g f) := by
  obtain ⟨wi, hpi, hwi⟩ := hi
  refine ⟨PS.imp (ps_for hp hc hpi hg.pg hf.pss hs) fun D σ H ⟨ρ, S, st, q⟩ => ?_⟩
  refine hwi σ H _ ρ S st (run_mono (run_bind q) (fun xs q1 J H1 e ok => ?_) fun c z => EXs.exc st.same z)
  -- at turn i the rest of xs is ahead
  refine ⟨fun i m σ1 H2 => m = xs.length - i ∧ i ≤ xs.length ∧ ∃ ρ1 S1, Sta X.K C ρ1 S1 σ1 H2 ∧ (∀ a, Fw S H H1 a → S1 a) ∧ Kp (Fw S H H1) H1 H2 ∧ run (fo g f (xs.drop i) ρ1) (FlOk X.K C fr S1 H2 D) (EXs C),
    ⟨xs.length, by simp, Nat.zero_le _, ρ, _, st.grow e, fun _ z => z, .refl, run_mono q1 (fun fl z => z.trans (fun _ z => .inl z) (Kp.of e)) fun _ z => z⟩, ?_⟩
  rintro i m σ1 H2 ⟨rfl, hi, ρ1, S1, st1, l1, k1, q2⟩
  obtain ⟨okg, oks⟩ := ok H2 k1
  by_cases hlt : i < xs.length
  · have hx : xs[i]? = some xs[i] := List.getElem?_eq_getElem hlt
    rw [List.drop_eq_getElem_cons hlt] at q2
    obtain ⟨go, yl⟩ := okg i _ hx
    refine .inr ⟨go, fun σ' H' => i + 1 ≤ xs.length ∧ ∃ ρ1 S1, Sta X.K C ρ1 S1 σ' H' ∧ (∀ a, Fw S H H1 a → S1 a) ∧ Kp (Fw S H H1) H1 H' ∧ run (fo g f (xs.drop (i + 1)) ρ1) (FlOk X.K C fr S1 H' D) (EXs C), fun σ' H' z => ⟨xs.length - (i + 1), by omega, rfl, z.1, z.2⟩, fun v H3 hy => ?_⟩
    obtain ⟨e3, rv⟩ := yl v H3 hy
    have st3 := st1.grow e3
    unfold fo at q2
    obtain ⟨ρ2, e2, q2⟩ := run_of (run_bind q2)
    refine ⟨ρ1, _, _, ρ2, st3, rv.mono Kp.refl fun a w => w.elim (fun z => .inl (l1 _ z)) .inr, e2, ?_⟩
    have kp3 : Kp S1 H2 H3 := Kp.of e3
    · intro σ4 st4 _
      refine ⟨ρ2, _, st4, run_mono (run_bind q2) (fun fl q5 => ?_) fun _ z => z⟩
      cases fl with
      | nx ρ' =>
        intro σ' H' ⟨S', st', l', k'⟩
        exact ⟨hlt, ρ', S', st', fun a w => l' a (.inl (l1 a w)), (k1.trans kp3 l1).trans k' fun _ z => .inl (l1 _ z), run_mono q5 (fun fl z => z.trans (fun a h => l' a (.inl h)) (kp3.trans k' fun _ z => .inl z)) fun _ z => z⟩
      | ct ρ' =>
        intro σ' H' ⟨S', st', l', k'⟩
        exact ⟨hlt, ρ', S', st', fun a w => l' a (.inl (l1 a w)), (k1.trans kp3 l1).trans k' fun _ z => .inl (l1 _ z), run_mono q5 (fun fl z => z.trans (fun a h => l' a (.inl h)) (kp3.trans k' fun _ z => .inl z)) fun _ z => z⟩
      | bk ρ' => exact fun σ' H' n => q5 σ' H' (n.trans (fun _ z => .inl z) kp3)
      | rt d => exact q5
  · have ei : i = xs.length := by omega
    subst ei
    rw [List.drop_length] at q2
    exact .inl ⟨oks _ (Nat.le_refl _), q2 σ1 H2 ⟨S1, st1, fun _ z => z, .refl⟩⟩
end
end
end PL
/-! PLF: what is walked, comprehensions, defs, calls. -/
namespace PL
open PySem L2 PyProof.Rows
noncomputable section

/-! ### what is walked -/
@[simp] def vIt (x : D) : R (List D) := match x with
  | .lst xs => .ok xs
  | .tup xs => .ok xs
  | .scr ns => .ok (ns.map .int)
  | _ => .st
def rangeD (lo c : Int) (n : Nat) : List D := (List.range n).map fun k => D.int (lo + (k : Nat) * c)
def inRg (i : Int) : Bool := shut (-(2 ^ 62) ≤ i ∧ i < 2 ^ 62)
@[simp] def vRg1 (ds : List D) : R (List D) := match ds with
  | [.int j] => R.when (inRg j) (.ok (rangeD 0 1 j.toNat))
  | _ => .st
@[simp] def vRg2 (ds : List D) : R (List D) := match ds with
  | [.int i, .int j] => R.when (inRg i && inRg j) (.ok (rangeD i 1 (j - i).toNat))
  | _ => .st
@[simp] def vRg3 (ds : List D) : R (List D) := match ds with
  | [.int i, .int j, .int c] => R.when (decide (c = -1) && inRg i && inRg j) (.ok (rangeD i (-1) (i - j).toNat))
  | _ => .st
def enumD : Nat → List D → List D
  | _, [] => []
  | k, d :: ds => .tup [.int k, d] :: enumD (k + 1) ds
theorem enum_get : ∀ (ds : List D) (k i : Nat), (enumD k ds)[i]? = ds[i]?.map fun d => D.tup [.int ((k + i : Nat) : Int), d]
  | [], _, _ => rfl
  | d :: ds, k, 0 => rfl
  | d :: ds, k, i + 1 => by
    show (enumD (k + 1) ds)[i]? = _
    rw [enum_get ds (k + 1) i]
    have e : k + 1 + i = k + (i + 1) := by omega
    rw [e]
    rfl
theorem enum_len : ∀ (ds : List D) (k : Nat), (enumD k ds).length = ds.length
  | [], _ => rfl
  | d :: ds, k => by rw [enumD, List.length_cons, List.length_cons, enum_len ds]
def zipD (xs ys : List D) : List D := List.zipWith (fun x y => D.tup [x, y]) xs ys
@[simp] def vEn (ds : List D) : R (List D) := match ds with
  | [.lst xs] => .ok (enumD 0 xs)
  | [.scr ns] => .ok (enumD 0 (ns.map .int))
  | _ => .st
@[simp] def vZip (ds : List D) : R (List D) := match ds with
  | [.lst xs, .lst ys] => .ok (zipD xs ys)
  | _ => .st
section
variable {X : Cx} {C : Cc} {m : Bool} {a : Expr} {es : List Expr} {f : Ev → R D} {fs : Ev → R (List D)} {pos p : Pos} {tg : Expr}
/-- a list that stands in W reads the same later -/
theorem it_list {K : PySem.W.Frag} {T : Tb} {S : Addr → Prop} {H1 : Hp} {ad : Addr} {ds : List D} {vs : List V} (hq : ∀ H', Kp S H1 H' → SqL K H' ad vs) (inj : ∀ H', Kp S H1 H' → ShL K T H' S ds vs) : ItOk K T S (Itl K ad) H1 ds := fun H' k => by
  refine ⟨fun i x hx => ?_, fun i hi => ⟨vs, hq H' k, by rw [← (inj H' k).length]; exact hi⟩⟩
  obtain ⟨v, hv, r⟩ := (inj H' k).get hx
  refine ⟨⟨vs, v, hq H' k, hv⟩, fun u H2 hy => ?_⟩
  obtain ⟨rfl, hy⟩ := hy
  have e := hy _ (hq H2 k)
  rw [hv] at e
  cases e
  exact ⟨Same.refl _, r.mono Kp.refl fun _ w => .inl w⟩
theorem it_tup {K : PySem.W.Frag} {T : Tb} {S : Addr → Prop} {H1 : Hp} {ad : Addr} {ds : List D} {vs : List V} (hq : ∀ H', Kp S H1 H' → SqT K H' ad vs) (inj : ∀ H', Kp S H1 H' → ShL K T H' S ds vs) : ItOk K T S (Itt K ad) H1 ds := fun H' k => by
  refine ⟨fun i x hx => ?_, fun i hi => ⟨vs, hq H' k, by rw [← (inj H' k).length]; exact hi⟩⟩
  obtain ⟨v, hv, r⟩ := (inj H' k).get hx
  refine ⟨⟨vs, v, hq H' k, hv⟩, fun u H2 hy => ?_⟩
  obtain ⟨rfl, hy⟩ := hy
  have e := hy _ (hq H2 k)
  rw [hv] at e
  cases e
  exact ⟨Same.refl _, r.mono Kp.refl fun _ w => .inl w⟩
theorem it_sh {K : PySem.W.Frag} {T : Tb} {S : Addr → Prop} {H1 : Hp} {d : D} {v : V} {ds : List D} (r : Sh K T H1 S d v) (h : vIt d = .ok ds) : ∃ ad vs, v = .ref ad ∧
    ((SqL K H1 ad vs ∧ ∀ H', Kp S H1 H' → SqL K H' ad vs ∧ ShL K T H' S ds vs) ∨ (SqT K H1 ad vs ∧ ∀ H', Kp S H1 H' → SqT K H' ad vs ∧ ShL K T H' S ds vs)) := by
  unfold vIt at h
  split at h
  · cases h
    cases r with
    | lst h1 w r => exact ⟨_, _, rfl, .inl ⟨SqL.of h1, fun H' k => ⟨SqL.of (k.own _ _ w h1 fun _ => HO.noConfusion), r.mono k fun _ z => z⟩⟩⟩
  · cases h
    cases r with
    | tup h1 r => exact ⟨_, _, rfl, .inr ⟨seqT h1, fun H' k => ⟨seqT (k.tup _ _ h1), r.mono k fun _ z => z⟩⟩⟩
  · cases h
    cases r with
    | scr h1 =>
      refine ⟨_, _, rfl, .inl ⟨seqL h1, fun H' k => ⟨?_, ShL.of_ints _⟩⟩⟩
      rcases h1 with ⟨h1, w⟩ | h1
      · exact .inl (k.rd w h1)
      · exact .inr h1
  · cases h
/-- a list or a tuple is walked -/
def iSeq (K : PySem.W.Frag) (tl : TE) : TI := fun σ H R => tl σ H fun x H1 => ∃ ad, x = .ref ad ∧ (((∃ xs, SqL K H1 ad xs) ∧ R (Itl K ad) H1) ∨ ((∃ xs, SqT K H1 ad xs) ∧ R (Itt K ad) H1))
theorem pi_seq {l : Expr} {tl : TE} (hl : PE X l tl) : PI X tg l (iSeq X.K tl) := by
  refine ⟨fun pins s σ H R I h => thn (hl.run pins s σ H _ I h) fun v s1 ⟨x, H1, I1, r1, ad, ex, q⟩ => ?_⟩
  subst ex
  cases r1
  have fp : ∀ b ∈ [s1.heap.objs.size], FpOk X pins H1 b := fun b hb => by
    rw [List.mem_singleton.mp hb]
    exact I1.fpOk (Nat.le_refl _) (I1.hok.fresh (Nat.le_refl _))
  have old : ∀ {ob : Obj} b o, s1.heap.get? b = some o → (s1.heap.push ob).get? b = some o := fun b o e => Heap.get?_push_of_some _ e
  rcases q with ⟨⟨xs, hq⟩, q⟩ | ⟨⟨xs, hq⟩, q⟩
  · obtain ⟨its, _, pl, _⟩ := I1.list hq
    exact wpAny_pyIter_list pl.isList ⟨s1.heap.objs.size, [s1.heap.objs.size], _, _, H1, rfl, I1.kept (t' := s1.toks) old, turn_list ad _, ⟨_, Heap.get?_push_size _ rfl, rfl, rfl⟩, fp, q⟩
  · obtain ⟨its, _, pl, _⟩ := I1.tuple hq
    exact wpAny_pyIter_tuple (show s1.heap.IsTuple ad its.toArray from pl) ⟨s1.heap.objs.size, [s1.heap.objs.size], _, _, H1, rfl, I1.kept (t' := s1.toks) old, turn_tuple ad _, ⟨_, Heap.get?_push_size _ rfl, rfl, rfl⟩, fp, q⟩
theorem vIt_ex {d : D} {c : Nat} : vIt d ≠ .ex c := fun h => by
  unfold vIt at h
  split at h <;> cases h
theorem di_seq (h : DE X C true a f) : DI X C tg a (l1 vIt f) := ⟨_, pi_seq h.pe, fun σ H Q ρ S st q => tD_one (k := vIt) st q fun d v H1 e r q2 => by
  cases ed : vIt d with
  | st => rw [ed] at q2; exact q2.elim
  | ex c => exact absurd ed vIt_ex
  | ok ds =>
    rw [ed] at q2
    obtain ⟨ad, vs, rfl, hq⟩ := it_sh (r.mono Kp.refl fun a w => w.sh : Sh X.K C.T H1 (Fw S H H1) d v) ed
    refine ⟨ad, rfl, ?_⟩
    rcases hq with ⟨hq, hk⟩ | ⟨hq, hk⟩
    · exact .inl ⟨⟨vs, hq⟩, q2 _ H1 e (it_list (fun H' k => (hk H' k).1) fun H' k => (hk H' k).2)⟩
    · exact .inr ⟨⟨vs, hq⟩, q2 _ H1 e (it_tup (fun H' k => (hk H' k).1) fun H' k => (hk H' k).2)⟩⟩
/-- a list of one's own, in a comprehension -/
@[simp] def lOw (i : Nat) : Ev → R (List D) := fun ρ => match ρ[i]? with
  | some (.ow ds) => .ok ds
  | _ => .st
theorem dic_ow {i : Nat} (h : PE X a (tVar i)) : DIc X C tg a (lOw i) := ⟨_, pi_seq h, fun σ H Q ρ S st q => by
  unfold lOw at q
  split at q
  · rename_i ds es
    obtain ⟨x, e1, p, vs, rfl, h1, h2, h3, r⟩ := st.sl i _ es
    refine ⟨.ref p, e1, p, rfl, .inl ⟨⟨vs, SqL.of h1⟩, q _ H (Same.refl _) fun H' k => ?_⟩⟩
    have h1' : SqL X.K H' p vs := SqL.of (k _ _ h1)
    have r' : ShL X.K C.T H' (Fw S H H) ds vs := r.mono (Kp.of k) fun _ w => .inl w
    refine ⟨fun j x hx => ?_, fun j hj => ⟨vs, h1', by rw [← r'.length]; exact hj⟩⟩
    obtain ⟨v, hv, rx⟩ := r'.get hx
    refine ⟨⟨vs, v, h1', hv⟩, fun u H2 hy => ?_⟩
    obtain ⟨rfl, hy⟩ := hy
    have e := hy _ h1'
    rw [hv] at e
    cases e
    exact ⟨Same.refl _, rx.mono Kp.refl fun _ w => .inl w⟩
  · exact q.elim⟩
/-- .. that is known to be a list -/
theorem it_shL {K : PySem.W.Frag} {T : Tb} {S : Addr → Prop} {H1 : Hp} {d : D} {v : V} {ds : List D} (r : Sh K T H1 S d v) (h : d = .lst ds ∨ ∃ ns, d = .scr ns ∧ ds = ns.map .int) : ∃ ad vs, v = .ref ad ∧ SqL K H1 ad vs ∧ ∀ H', Kp S H1 H' → SqL K H' ad vs ∧ ShL K T H' S ds vs := by
  rcases h with rfl | ⟨ns, rfl, rfl⟩
  · cases r with
    | lst h1 w r => exact ⟨_, _, rfl, SqL.of h1, fun H' k => ⟨SqL.of (k.own _ _ w h1 fun _ => HO.noConfusion), r.mono k fun _ z => z⟩⟩
  · cases r with
    | scr h1 =>
      refine ⟨_, _, rfl, seqL h1, fun H' k => ⟨?_, ShL.of_ints _⟩⟩
      rcases h1 with ⟨h1, w⟩ | h1
      · exact .inl (k.rd w h1)
      · exact .inr h1
theorem range_get {lo c : Int} {n i : Nat} : (rangeD lo c n)[i]? = if i < n then some (D.int (lo + (i : Nat) * c)) else none := by
  unfold rangeD
  rw [List.getElem?_map]
  by_cases h : i < n
  · rw [if_pos h, List.getElem?_range h]; rfl
  · rw [if_neg h, List.getElem?_eq_none (by simpa using h)]; rfl
theorem range_len {lo c : Int} {n : Nat} : (rangeD lo c n).length = n := by unfold rangeD; simp
theorem it_range {K : PySem.W.Frag} {T : Tb} {S : Addr → Prop} {H1 : Hp} {lo : Int} {n : Nat} : ItOk K T S (Itr lo n) H1 (rangeD lo 1 n) := fun H' k => by
  refine ⟨fun i x hx => ?_, fun i hi => by rw [range_len] at hi; exact hi⟩
  rw [range_get] at hx
  by_cases h : i < n
  · rw [if_pos h] at hx
    cases hx
    refine ⟨h, fun v H2 hy => ?_⟩
    obtain ⟨rfl, rfl⟩ := hy
    rw [Int.mul_one]
    exact ⟨Same.refl _, .int _⟩
  · rw [if_neg h] at hx; cases hx
theorem it_rangeC {K : PySem.W.Frag} {T : Tb} {S : Addr → Prop} {H1 : Hp} {lo c : Int} {n : Nat} : ItOk K T S (Itc lo c n) H1 (rangeD lo c n) := fun H' k => by
  refine ⟨fun i x hx => ?_, fun i hi => by rw [range_len] at hi; exact hi⟩
  rw [range_get] at hx
  by_cases h : i < n
  · rw [if_pos h] at hx
    cases hx
    refine ⟨h, fun v H2 hy => ?_⟩
    obtain ⟨rfl, rfl⟩ := hy
    exact ⟨Same.refl _, .int _⟩
  · rw [if_neg h] at hx; cases hx
theorem inRg_of {i : Int} (h : inRg i = true) : -(2 ^ 62) ≤ i ∧ i < 2 ^ 62 := of_shut h
variable {e1 e2 e3 : Expr}
theorem ShL.three {K : PySem.W.Frag} {T : Tb} {H : Hp} {W : Addr → Prop} {d d' d'' : D} {vs : List V} (r : ShL K T H W [d, d', d''] vs) : ∃ v u w, vs = [v, u, w] ∧ Sh K T H W d v ∧ Sh K T H W d' u ∧ Sh K T H W d'' w := by
  cases r with
  | cons h r =>
    obtain ⟨u, w, rfl, h', h''⟩ := r.two
    exact ⟨_, _, _, rfl, h, h', h''⟩
theorem di_range1 (hg : Gl X "range") (hm : X.mg "range" = none) (ha : DA X C m [e1] fs) (hs : starEach [e1] X.env = [(false, eval e1 X.env)] := by rfl) : DI X C tg (.Call (.Name "range" p) [e1] [] pos) (lB vRg1 fs) :=
  ⟨_, pi_range1 hg hm ha.pa hs, fun σ H Q ρ S st q => tDA_one (k := vRg1) st q fun ds vs H1 e r q2 => by
    unfold vRg1 at q2
    split at q2
    · obtain ⟨c, q2⟩ := run_when q2
      obtain ⟨v, rfl, r1⟩ := r.one
      cases r1
      exact ⟨_, rfl, (inRg_of c).1, (inRg_of c).2, q2 _ H1 e it_range⟩
    · exact q2.elim⟩
theorem di_range2 (hg : Gl X "range") (hm : X.mg "range" = none) (ha : DA X C m [e1, e2] fs) (hs : starEach [e1, e2] X.env = [(false, eval e1 X.env), (false, eval e2 X.env)] := by rfl) (hs2 : starEach [e2] X.env = [(false, eval e2 X.env)] := by rfl) :
    DI X C tg (.Call (.Name "range" p) [e1, e2] [] pos) (lB vRg2 fs) :=
  ⟨_, pi_range2 hg hm ha.pa hs hs2, fun σ H Q ρ S st q => tDA_one (k := vRg2) st q fun ds vs H1 e r q2 => by
    unfold vRg2 at q2
    split at q2
    · obtain ⟨c, q2⟩ := run_when q2
      rw [Bool.and_eq_true] at c
      obtain ⟨v, u, rfl, r1, r2⟩ := r.two
      cases r1
      cases r2
      exact ⟨_, _, rfl, ⟨(inRg_of c.1).1, (inRg_of c.1).2, (inRg_of c.2).1, (inRg_of c.2).2⟩, q2 _ H1 e it_range⟩
    · exact q2.elim⟩
theorem di_range3 (hg : Gl X "range") (hm : X.mg "range" = none) (ha : DA X C m [e1, e2, e3] fs) (hs : starEach [e1, e2, e3] X.env = (false, eval e1 X.env) :: starEach [e2, e3] X.env := by rfl)
    (hpl : (backTo pos (starEach [e2, e3] X.env)).any (·.1) = false := by rfl) : DI X C tg (.Call (.Name "range" p) [e1, e2, e3] [] pos) (lB vRg3 fs) :=
  ⟨_, pi_range3 hg hm ha.pa hs hpl, fun σ H Q ρ S st q => tDA_one (k := vRg3) st q fun ds vs H1 e r q2 => by
    unfold vRg3 at q2
    split at q2
    · obtain ⟨c, q3⟩ := run_when q2
      rw [Bool.and_eq_true, Bool.and_eq_true] at c
      obtain ⟨⟨c1, c2⟩, c3⟩ := c
      have c1 := of_decide_eq_true c1
      subst c1
      obtain ⟨v, u, w, rfl, r1, r2, r3⟩ := r.three
      cases r1
      cases r2
      cases r3
      exact ⟨_, _, _, _, rfl, RgC.neg (inRg_of c2).1 (inRg_of c2).2 (inRg_of c3).1 (inRg_of c3).2, q3 _ H1 e it_rangeC⟩
    · exact q2.elim⟩
variable {elts : List Expr} {kk : Nat} {tpos : Pos}
theorem di_enum (hg : Gl X "enumerate") (hm : X.mg "enumerate" = none) (ha : DA X C true [e1] fs) (hs : starEach [e1] X.env = [(false, eval e1 X.env)] := by rfl) : DI X C (.Tuple elts kk tpos) (.Call (.Name "enumerate" p) [e1] [] pos) (lB vEn fs) :=
  ⟨_, pi_enum hg hm ha.pa hs, fun σ H Q ρ S st q => tDA_one (k := vEn) st q fun ds vs H1 e r q2 => by
    have go : ∀ (ad : Addr) (us : List V) (xs : List D), (∀ H', Kp (Fw S H H1) H1 H' → SqL X.K H' ad us ∧ ShL X.K C.T H' (Fw S H H1) xs us) → ItOk X.K C.T (Fw S H H1) (Ite X.K ad) H1 (enumD 0 xs) := by
      intro ad us xs hk H' k
      obtain ⟨hq, rs⟩ := hk H' k
      refine ⟨fun i x hx => ?_, fun i hi => ⟨us, hq, by rw [enum_len] at hi; rw [← rs.length]; exact hi⟩⟩
      rw [enum_get, Option.map_eq_some_iff] at hx
      obtain ⟨d, hd, rfl⟩ := hx
      obtain ⟨v, hv, rv⟩ := rs.get hd
      refine ⟨⟨us, v, hq, hv⟩, fun w H2 hy => ?_⟩
      obtain ⟨Tt, y, rfl, hT, rfl, hy⟩ := hy
      have e := hy _ hq
      rw [hv] at e
      cases e
      refine ⟨same_upd hT, .tup upd_same (.cons ?_ (.cons (rv.mono (Kp.of (same_upd hT)) fun _ w => .inl w) .nil))⟩
      rw [Nat.zero_add]
      exact .int _
    unfold vEn at q2
    split at q2
    · obtain ⟨v, rfl, r1⟩ := r.one
      obtain ⟨ad, us, rfl, hq, hk⟩ := it_shL (r1.mono Kp.refl fun a w => w.sh : Sh X.K C.T H1 (Fw S H H1) _ v) (.inl rfl)
      exact ⟨_, _, rfl, hq, q2 _ H1 e (go ad us _ hk)⟩
    · obtain ⟨v, rfl, r1⟩ := r.one
      obtain ⟨ad, us, rfl, hq, hk⟩ := it_shL (r1.mono Kp.refl fun a w => w.sh : Sh X.K C.T H1 (Fw S H H1) _ v) (.inr ⟨_, rfl, rfl⟩)
      exact ⟨_, _, rfl, hq, q2 _ H1 e (go ad us _ hk)⟩
    · exact q2.elim⟩
theorem di_zip (hg : Gl X "zip") (hm : X.mg "zip" = none) (ha : DA X C true [e1, e2] fs) (hs : starEach [e1, e2] X.env = (false, eval e1 X.env) :: starEach [e2] X.env := by rfl) (hpl : (backTo pos (starEach [e2] X.env)).any (·.1) = false := by rfl) :
    DI X C (.Tuple elts kk tpos) (.Call (.Name "zip" p) [e1, e2] [] pos) (lB vZip fs) :=
  ⟨_, pi_zip hg hm ha.pa hs hpl, fun σ H Q ρ S st q => tDA_one (k := vZip) st q fun ds vs H1 e r q2 => by
    unfold vZip at q2
    split at q2
    · obtain ⟨v, u, rfl, r1, r2⟩ := r.two
      obtain ⟨ad, us, rfl, hq, hk⟩ := it_shL (r1.mono Kp.refl fun a w => w.sh : Sh X.K C.T H1 (Fw S H H1) _ v) (.inl rfl)
      obtain ⟨ad2, us2, rfl, hq2, hk2⟩ := it_shL (r2.mono Kp.refl fun a w => w.sh : Sh X.K C.T H1 (Fw S H H1) _ u) (.inl rfl)
      refine ⟨ad, ad2, us, us2, rfl, hq, hq2, q2 _ H1 e fun H' k => ?_⟩
      obtain ⟨q1, rs1⟩ := hk H' k
      obtain ⟨q2', rs2⟩ := hk2 H' k
      refine ⟨fun i x hx => ?_, fun i hi => ⟨us, us2, q1, q2', ?_⟩⟩
      · unfold zipD at hx
        rw [List.getElem?_zipWith] at hx
        split at hx
        · rename_i a b ha hb
          cases hx
          obtain ⟨v, hv, rv⟩ := rs1.get ha
          obtain ⟨u, hu, ru⟩ := rs2.get hb
          refine ⟨⟨us, us2, v, u, q1, q2', hv, hu⟩, fun w H2 hy => ?_⟩
          obtain ⟨Tt, y, z, rfl, hT, rfl, hy1, hy2⟩ := hy
          have e1 := hy1 _ q1
          rw [hv] at e1
          cases e1
          have e2 := hy2 _ q2'
          rw [hu] at e2
          cases e2
          exact ⟨same_upd hT, .tup upd_same (.cons (rv.mono (Kp.of (same_upd hT)) fun _ w => .inl w) (.cons (ru.mono (Kp.of (same_upd hT)) fun _ w => .inl w) .nil))⟩
        · cases hx
      · unfold zipD at hi
        rw [List.length_zipWith] at hi
        rw [← rs1.length, ← rs2.length]
        omega
    · exact q2.elim⟩
end
end
end PL
/-! PLG: comprehensions, defs, calls. -/
namespace PL
open PySem L2 PyProof.Rows
noncomputable section

/-! ### comprehensions -/
@[simp] def wipeE (ρ : Ev) : List Nat → Ev
  | [] => ρ
  | v :: vs => (wipeE ρ vs).set v .no
section
variable {K : PySem.W.Frag} {C : Cc} {ρ : Ev} {S : Addr → Prop} {σ : L2.St} {H : Hp}
theorem Sta.drop {i : Nat} (I : Sta K C ρ S σ H) : Sta K C (ρ.set i .no) S (σ.set i none) H := by
  refine ⟨I.same, I.sub, I.sup, I.bnd, by rw [List.length_set, List.length_set]; exact I.len, fun j t ht => ?_, fun j k t u x y p hjk ht hu hj hk f g => ?_⟩
  · by_cases hji : j = i
    · subst hji
      have hl : j < ρ.length := by
        have := (List.getElem?_eq_some_iff.mp ht).1
        rwa [List.length_set] at this
      rw [List.getElem?_set_self hl] at ht
      cases ht
      exact ⟨none, by rw [List.getElem?_set_self (by rw [← I.len]; exact hl)], trivial⟩
    · rw [List.getElem?_set_ne (Ne.symm hji)] at ht
      obtain ⟨x, e, q⟩ := I.sl j t ht
      exact ⟨x, by rw [List.getElem?_set_ne (Ne.symm hji)]; exact e, q⟩
  · have one : ∀ {j : Nat} {t : Sl} {x : Option V}, (ρ.set i .no)[j]? = some t → Ft C.T H x t p → j ≠ i := by
      intro j t x ht f hji
      subst hji
      have hl : j < ρ.length := by
        have := (List.getElem?_eq_some_iff.mp ht).1
        rwa [List.length_set] at this
      rw [List.getElem?_set_self hl] at ht
      cases ht
      exact f.elim
    have hji := one ht f
    have hki := one hu g
    rw [List.getElem?_set_ne (Ne.symm hji)] at ht hj
    rw [List.getElem?_set_ne (Ne.symm hki)] at hu hk
    exact I.sep j k t u x y p hjk ht hu hj hk f g
theorem Sta.wipe (I : Sta K C ρ S σ H) : ∀ vs : List Nat, Sta K C (wipeE ρ vs) S (L2.wipe σ vs) H
  | [] => I
  | v :: vs => (Sta.wipe I vs).drop
/-- an object that no name holds is changed -/
theorem Sta.aside {D : Addr} {o : HO} (I : Sta K C ρ S σ H) (h0 : C.H0 D = none) (hS : ¬ S D) (htu : ∀ vs, H D ≠ some (.tup vs)) (hn : ∀ (j : Nat) t y, ρ[j]? = some t → σ[j]? = some y → ¬ Ft C.T H y t D) : Sta K C ρ S σ (upd H D o) ∧ Kp S H (upd H D o) := by
  have kp : Kp S H (upd H D o) := ⟨fun a u w h _ => by
    rw [upd_ne (fun z => by subst z; exact hS w)]; exact h, fun a ws h => by
    rw [upd_ne (fun z => by subst z; exact htu _ h)]; exact h⟩
  have kf : ∀ {j : Nat} {t : Sl} {y : Option V}, ρ[j]? = some t → σ[j]? = some y → ∀ a, Ft C.T H y t a → upd H D o a = H a := fun ht hy a f => upd_ne fun z => by
    subst z
    exact hn _ _ _ ht hy f
  refine ⟨⟨fun a u h => ?_, I.sub, I.sup, fun a h => ?_, I.len, fun j t ht => ?_, fun j k t u x y p hjk ht hu hj hk f g => ?_⟩, kp⟩
  · rw [upd_ne (fun z => by subst z; rw [h0] at h; cases h)]
    exact I.same a u h
  · unfold upd
    split
    · exact fun z => nomatch z
    · exact I.bnd a h
  · obtain ⟨x, ex, ok⟩ := I.sl j t ht
    exact ⟨x, ex, ok.move kp (fun _ w => w) (kf ht ex) fun a f => (ok.foot f).2.1⟩
  · obtain ⟨x0, ex, okx⟩ := I.sl j t ht
    obtain ⟨y0, ey, oky⟩ := I.sl k u hu
    rw [hj] at ex
    rw [hk] at ey
    cases ex
    cases ey
    exact I.sep j k t u x y p hjk ht hu hj hk (Ft.back okx (kf ht hj) f) (Ft.back oky (kf hu hk) g)
end
structure DTs (X : Cx) (C : Cc) (ifs : List Expr) (f : Ev → R Bool) : Prop where
  pt : PTs X ifs (tDT X.K C f)
@[simp] def bYes : Ev → R Bool := fun _ => .ok true
theorem PTs.imp {X : Cx} {e : List Expr} {t t' : TT} (h : PTs X e t) (k : ∀ σ H Q, t' σ H Q → t σ H Q) : PTs X e t' := ⟨fun pins s σ H Q I q => h.run pins s σ H Q I (k σ H Q q)⟩
theorem dts_nil {X : Cx} {C : Cc} : DTs X C [] bYes := ⟨PTs.imp pts_nil fun σ H Q ⟨_, _, _, q⟩ => q H (Same.refl _)⟩
theorem dts_one {X : Cx} {C : Cc} {c : Expr} {f : Ev → R Bool} (h : DT X C c f) : DTs X C [c] f := ⟨pts_one h.pt⟩
def lcG (g : D → Ev → Option Ev) (t : Ev → R Bool) (e : Ev → R D) (ρw : Ev) : List D → R (List D)
  | [] => .ok []
  | x :: xs => R.of (g x ρw) >>= fun ρ1 => t ρ1 >>= fun b => if b = true then e ρ1 >>= fun d => lcG g t e ρw xs >>= fun r => .ok (d :: r) else lcG g t e ρw xs
@[simp] def lLC (it : Ev → R (List D)) (vs : List Nat) (g : D → Ev → Option Ev) (t : Ev → R Bool) (e : Ev → R D) : Ev → R (List D) := fun ρ => it ρ >>= fun xs => R.when (lineOk xs.length) (lcG g t e (wipeE ρ vs) xs)
theorem run_snoc {ds : List D} {x : D} {m : R (List D)} {ok : List D → Prop} {ex : Nat → Prop} (h : run (m >>= fun r => R.ok (x :: r)) (fun r => ok (ds ++ r)) ex) : run m (fun r => ok ((ds ++ [x]) ++ r)) ex := by
  refine run_mono (run_bind h) (fun r z => ?_) fun _ z => z
  rw [List.append_assoc]
  exact z
theorem lc_red {K : PySem.W.Frag} {C : Cc} {it : Ev → R (List D)} {vs is : List Nat} {g : D → Ev → Option Ev} {t : Ev → R Bool} {e : Ev → R D} {wi : TI} {σ : L2.St} {H : Hp} {Q : VK} {ρ : Ev} {S : Addr → Prop} (his : ∀ i ∈ is, i ∈ vs)
    (hwi : ∀ (σ : L2.St) (H : Hp) (Q : It → Hp → Prop) (ρ : Ev) (S : Addr → Prop), Sta K C ρ S σ H → run (it ρ) (fun xs => ∀ J H1, Same H H1 → ItS K C.T (Fw S H H1) J H1 xs → Q J H1) (EXc C H) → wi σ H Q)
    (st : Sta K C ρ S σ H) (q : run (lLC it vs g t e ρ) (fun ds => ∀ p vs H', Same H H' → H p = none → H' p = some (.lst vs) → ShL K C.T H' (fun a => Fw S H H' a ∧ a ≠ p) ds vs → Q (.ref p) H') (EXc C H)) :
    tLc wi (tDg K C is g) (tDT K C t) (tD K C true e) vs σ H Q := by
  refine hwi σ H _ ρ S st (run_mono (run_bind q) (fun xs q1 J H1 e1 ok => ?_) fun _ z => z)
  obtain ⟨hline, q1⟩ := run_when q1
  intro L hL
  have st1 := (st.grow e1).wipe vs
  have L0 : C.H0 L = none := st1.same.free hL
  have nown : ∀ (j : Nat) t y, (wipeE ρ vs)[j]? = some t → (L2.wipe σ vs)[j]? = some y → ¬ Ft C.T H1 y t L := fun j t y hj hy f => (st1.ownAt hj hy f).1 hL
  refine ⟨fun i m H2 => m = xs.length - i ∧ i ≤ xs.length ∧ ∃ S2 ds ws, Sta K C (wipeE ρ vs) S2 (L2.wipe σ vs) H2 ∧ (∀ a, Fw S H H1 a → S2 a) ∧ (∀ a, S2 a → (S a ∨ H a = none) ∧ a ≠ L) ∧ Kp (Fw S H H1) H1 H2 ∧ Same H1 H2 ∧ H2 L = some (.lst ws) ∧ ds.length ≤ i ∧ ShL K C.T H2 S2 ds ws ∧
      run (lcG g t e (wipeE ρ vs) (xs.drop i)) (fun r => ∀ p vs H', Same H H' → H p = none → H' p = some (.lst vs) → ShL K C.T H' (fun a => Fw S H H' a ∧ a ≠ p) (ds ++ r) vs → Q (.ref p) H') (EXc C H), ⟨xs.length, by simp, Nat.zero_le _, ?_⟩, ?_⟩
  · have e2 : Same H1 (upd H1 L (.lst [])) := same_upd hL
    refine ⟨Fw S H H1, [], [], st1.grow' e2 (fun _ z => z) (fun _ z => .inl z), fun _ z => z, fun a z => ⟨?_, fun y => ?_⟩, Kp.of e2, e2, upd_same, Nat.le_refl _, .nil, q1⟩
    · rcases z with z | ⟨z, _⟩
      · exact .inl z
      · exact .inr z
    · subst y
      exact st1.bnd _ z hL
  · rintro i m H2 ⟨rfl, hi, S2, ds, ws, st2, l2, u2, k2, s2, hw, hd, r2, q2⟩
    obtain ⟨okg, oks⟩ := ok H2 s2
    by_cases hlt : i < xs.length
    · have hx : xs[i]? = some xs[i] := List.getElem?_eq_getElem hlt
      rw [List.drop_eq_getElem_cons hlt] at q2
      obtain ⟨go, yl⟩ := okg i _ hx
      refine .inr ⟨go, fun H' => i + 1 ≤ xs.length ∧ ∃ S2 ds ws, Sta K C (wipeE ρ vs) S2 (L2.wipe σ vs) H' ∧ (∀ a, Fw S H H1 a → S2 a) ∧ (∀ a, S2 a → (S a ∨ H a = none) ∧ a ≠ L) ∧ Kp (Fw S H H1) H1 H' ∧ Same H1 H' ∧ H' L = some (.lst ws) ∧ ds.length ≤ i + 1 ∧ ShL K C.T H' S2 ds ws ∧
        run (lcG g t e (wipeE ρ vs) (xs.drop (i + 1))) (fun r => ∀ p vs H', Same H H' → H p = none → H' p = some (.lst vs) → ShL K C.T H' (fun a => Fw S H H' a ∧ a ≠ p) (ds ++ r) vs → Q (.ref p) H') (EXc C H), fun H' z => ⟨xs.length - (i + 1), by omega, rfl, z.1, z.2⟩, fun v H3 hy => ?_⟩
      obtain ⟨e3, rv⟩ := yl v H3 hy
      have st3 := st2.grow e3
      unfold lcG at q2
      obtain ⟨ρ1, eg, q3⟩ := run_of (run_bind q2)
      -- whatever stands above S2 in time
      have up : ∀ {H4 : Hp}, Same H2 H4 → ∀ a, Fw S2 H2 H4 a → (S a ∨ H a = none) ∧ a ≠ L := fun {H4} e4 a z => by
        rcases z with z | ⟨z1, z2⟩
        · exact u2 a z
        · exact ⟨.inr (e1.free (s2.free z1)), fun y => by subst y; rw [hw] at z1; cases z1⟩
      refine ⟨wipeE ρ vs, _, _, ρ1, st3, rv.mono Kp.refl fun a w => w.elim (fun z => .inl (l2 _ z)) .inr, eg, fun σ4 st4 hσ => ⟨by rw [hσ vs his, wipe_wipe], ?_⟩⟩
      refine ⟨ρ1, _, st4, run_mono (run_bind q3) (fun b q5 H5 e5 => ?_) fun c z => EXc.mono ((e1.trans s2).trans e3) z⟩
      have e25 : Same H2 H5 := e3.trans e5
      cases b with
      | false =>
        rw [if_neg Bool.false_ne_true] at q5
        refine iteF ⟨hlt, Fw S2 H2 H5, ds, ws, st2.grow e25, fun a z => .inl (l2 a z), up e25, k2.trans (Kp.of (W := S2) e25) l2, s2.trans e25, e25 _ _ hw, by omega, r2.mono (Kp.of e25) fun a w => .inl w, q5⟩
      | true =>
        rw [if_pos rfl] at q5
        refine iteT ⟨ρ1, _, st4.grow e5, run_mono (run_bind q5) (fun d q6 y H6 e6 ry => ?_) fun c z => EXc.mono (((e1.trans s2).trans e3).trans e5) z⟩
        have e26 : Same H2 H6 := e25.trans e6
        refine ⟨ws, e26 _ _ hw, ?_, hlt, ?_⟩
        · have := lineOk_le hline
          rw [← r2.length]
          omega
        have hnL : ¬ Fw S2 H2 H6 L := fun z => (up e26 L z).2 rfl
        obtain ⟨st7, k7⟩ := (st2.grow e26).aside (D := L) (o := .lst (ws ++ [y])) L0 hnL (fun vs z => by rw [e26 _ _ hw] at z; cases z) (fun j t y hj hy f => by
          obtain ⟨x0, ex, okx⟩ := st1.sl j t hj
          rw [hy] at ex
          cases ex
          exact nown j t y hj hy (Ft.same okx (s2.trans e26) f))
        refine ⟨Fw S2 H2 H6, ds ++ [d], ws ++ [y], st7, fun a z => .inl (l2 a z), up e26, (k2.trans (Kp.of (W := S2) e26) l2).trans k7 fun a z => .inl (l2 a z), fun b o h => ?_, upd_same, by rw [List.length_append, List.length_singleton]; omega, ?_, run_snoc (ok := fun ds => ∀ p vs H', Same H H' → H p = none → H' p = some (.lst vs) → ShL K C.T H' (fun a => Fw S H H' a ∧ a ≠ p) ds vs → Q (.ref p) H') q6⟩
        · rw [upd_ne (fun z => by subst z; rw [hL] at h; cases h)]
          exact e26 _ _ (s2 _ _ h)
        · have ry' : Sh K C.T H6 (Fw S2 H2 H6) d y := ry.mono Kp.refl fun a w => by
            rcases w.sh with ((z | ⟨z1, z2⟩) | ⟨z1, z2⟩) | ⟨z1, z2⟩
            · exact .inl z
            · exact .inr ⟨z1, fun z => z2 ((e5.trans e6).free z)⟩
            · exact .inr ⟨e3.free z1, fun z => z2 (e6.free z)⟩
            · exact .inr ⟨e25.free z1, z2⟩
          exact ((r2.mono (Kp.of e26) fun a w => .inl w).snoc ry').mono k7 fun _ w => w
    · have ei : i = xs.length := by omega
      subst ei
      rw [List.drop_length] at q2
      refine .inl ⟨oks _ (Nat.le_refl _), ?_⟩
      have q3 : ∀ p vs H', Same H H' → H p = none → H' p = some (.lst vs) → ShL K C.T H' (fun a => Fw S H H' a ∧ a ≠ p) (ds ++ []) vs → Q (.ref p) H' := q2
      rw [List.append_nil] at q3
      refine q3 L ws H2 (e1.trans s2) (e1.free hL) hw (r2.mono Kp.refl fun a w => ⟨?_, (u2 a w).2⟩)
      rcases (u2 a w).1 with z | z
      · exact .inl z
      · exact .inr ⟨z, st2.bnd a w⟩
section
variable {X : Cx} {C : Cc} {elt tg iter : Expr} {ifs : List Expr} {scope : Scope} {own : List (Str × Nat)} {pos spos : Pos} {is : List Nat} {it : Ev → R (List D)} {g : D → Ev → Option Ev} {t : Ev → R Bool} {e : Ev → R D} {fr : Bool}
theorem fe_lc (hc : X.calm = true) (hN : X.N.Nodup) (hi : DIc X C tg iter it) (ok : BlkOk X.N X.env.scope scope own) (his : ∀ i ∈ is, i ∈ own.map (·.2))
    (hg : ∀ (s : Shared) (H : Hp) (B : Addr) (cl : List (Str × Addr)) (fp : List Addr), DG (X.blk s H scope (compEnvC scope cl B X.env) fp) C is tg g) (ht : ∀ (s : Shared) (H : Hp) (B : Addr) (cl : List (Str × Addr)) (fp : List Addr), DTs (X.blk s H scope (compEnvC scope cl B X.env) fp) C ifs t)
    (he : ∀ (s : Shared) (H : Hp) (B : Addr) (cl : List (Str × Addr)) (fp : List Addr), DE (X.blk s H scope (compEnvC scope cl B X.env) fp) C true elt e) (hs : ∀ x, foldedSetIterable iter X.env x = pure x := by intro _; rfl) :
    FE X C (.ListComp elt [⟨tg, iter, ifs, 0⟩] scope pos) (lLC it (own.map (·.2)) g t e) := by
  obtain ⟨wi, hpi, hwi⟩ := hi
  exact ⟨PE.imp (pe_lc hc hN hpi ok (fun s H B cl fp => (hg s H B cl fp).pg) (fun s H B cl fp => (ht s H B cl fp).pt) (fun s H B cl fp => (he s H B cl fp).pe) hs) fun σ H Q ⟨ρ, S, st, q⟩ => lc_red his hwi st q⟩
/-- y = [..] on one line -/
theorem ds_setLc {i : Nat} {y : Str} {py : Pos} {md : Bool} (hc : X.calm = true) (hN : X.N.Nodup) (hy : X.N[i]? = some y) (hyl : X.env.scope.names.lookup y = some .local)
    (hsw : swapsWith (.ListComp elt [⟨tg, iter, ifs, 0⟩] scope pos) (some (.Name y py)) spos.line X.env = pure true) (hi : DIc X C tg iter it) (ok : BlkOk X.N X.env.scope scope own) (his : ∀ i ∈ is, i ∈ own.map (·.2))
    (hg : ∀ (s : Shared) (H : Hp) (B : Addr) (cl : List (Str × Addr)) (fp : List Addr), DG (X.blk s H scope (compEnvC scope cl B X.env) fp) C is tg g) (ht : ∀ (s : Shared) (H : Hp) (B : Addr) (cl : List (Str × Addr)) (fp : List Addr), DTs (X.blk s H scope (compEnvC scope cl B X.env) fp) C ifs t)
    (he : ∀ (s : Shared) (H : Hp) (B : Addr) (cl : List (Str × Addr)) (fp : List Addr), DE (X.blk s H scope (compEnvC scope cl B X.env) fp) C true elt e) (hs : ∀ x, foldedSetIterable iter X.env x = pure x := by intro _; rfl) :
    DS X C fr (.Assign [.Name y py] (.ListComp elt [⟨tg, iter, ifs, 0⟩] scope pos) spos) (dSet i (if md = true then sOw (lLC it (own.map (·.2)) g t e) else sSh (lD (lLC it (own.map (·.2)) g t e)))) := by
  obtain ⟨wi, hpi, hwi⟩ := hi
  refine ⟨PS.imp (ps_setLc (i := i) (te := tD X.K C true e) (tt := tDT X.K C t) (g := tDg X.K C is g) hc hN hy hyl hsw hpi ok (fun s H B cl fp => (hg s H B cl fp).pg) (fun s H B cl fp => (ht s H B cl fp).pt) (fun s H B cl fp => (he s H B cl fp).pe) hs) fun D σ H ⟨ρ, S, st, q⟩ => ?_⟩
  refine lc_red (Q := fun x H1 => D.nx (σ.set i (some x)) H1) his hwi st ?_
  cases md with
  | true =>
    refine run_mono (run_bind (run_bind q)) (fun ds q1 p vs H1 e hn hp r => ?_) fun c z => EXs.exc st.same z
    refine q1 _ H1 ⟨fun a => Fw S H H1 a ∧ a ≠ p, st.given e (fun x z => ⟨.inl z, fun y => by subst y; exact st.bnd _ z hn⟩) (fun _ z => z.1) ⟨p, vs, rfl, hp, st.same.free hn, fun z => z.2 rfl, r⟩ fun q ep => (by rw [ft_ow ep]; exact hn), fun x z => ⟨.inl z, fun y => by subst y; exact st.bnd _ z hn⟩, Kp.of e⟩
  | false =>
    refine run_mono (run_bind (run_bind (run_bind q))) (fun ds q1 p vs H1 e hn hp r => ?_) fun c z => EXs.exc st.same z
    have ok : SlOk X.K C (Fw S H H1) H1 (some (.ref p)) (.sh (.lst ds)) := ⟨.ref p, rfl, .lst hp (.inr ⟨hn, by rw [hp]; exact fun z => nomatch z⟩) (r.mono Kp.refl fun _ w => w.1)⟩
    have nf : ∀ {H2 : Hp} q, Ft C.T H2 (some (V.ref p)) (Sl.sh (.lst ds)) q → H q = none := fun q z => z.elim
    exact q1 _ H1 ⟨Fw S H H1, st.given e (fun x z => .inl z) (fun _ z => z) ok nf, fun x z => .inl z, Kp.of e⟩
end
end
end PL
/-! PLH: defs and calls. -/
namespace PL
open PySem L2 PyProof.Rows
noncomputable section

/-- the promise of a def: what it answers by data -/
def spD (K : PySem.W.Frag) (T : Tb) (n : Nat) (fr : Bool) (g : List D → R D) : Sp := fun vs H Q E => ∃ ds W, (∀ a, W a → H a ≠ none) ∧ ds.length = n ∧ ShL K T H W ds vs ∧
  run (g ds) (fun d => ∀ v H', Same H H' → RetOk K T W H fr d v H' → Q v H') (fun c => ∀ H', Same H H' → E (.ref (T.ec c)) none H')
theorem spD_len {K : PySem.W.Frag} {T : Tb} {n : Nat} {fr : Bool} {g : List D → R D} {vs : List V} {H : Hp} {Q : VK} {E : XK} (h : spD K T n fr g vs H Q E) : vs.length = n := by
  obtain ⟨ds, W, _, hl, r, _⟩ := h
  rw [← r.length]; exact hl
/-- what a def's body answers -/
@[simp] def outF (fr : Bool) : Fl → R D
  | .rt d => .ok d
  | .nx _ => if fr = true then .st else .ok .non
  | _ => .st
@[simp] def ev0 (N : Nat) (ds : List D) : Ev := ds.map Sl.sh ++ List.replicate (N - ds.length) Sl.no
@[simp] def dFn (N : Nat) (fr : Bool) (body : Ev → R Fl) (ds : List D) : R D := body (ev0 N ds) >>= outF fr
theorem sta_start {K : PySem.W.Frag} {C : Cc} {N : List Str} {ds : List D} {vs : List V} (hW : ∀ a, C.S0 a → C.H0 a ≠ none) (r : ShL K C.T C.H0 C.S0 ds vs) (hN : ds.length ≤ N.length) : Sta K C (ev0 N.length ds) C.S0 (L2.start N vs) C.H0 := by
  have hl := r.length
  refine ⟨Same.refl _, fun a h => .inl h, fun a h => h, hW, ?_, fun i s hs => ?_, fun i j s t x y p hij hs ht _ _ f g => ?_⟩
  · unfold ev0 L2.start
    rw [List.length_append, List.length_append, List.length_map, List.length_map, List.length_replicate, List.length_replicate, hl]
  · unfold ev0 at hs
    unfold L2.start
    by_cases hi : i < ds.length
    · rw [List.getElem?_append_left (by simpa using hi), List.getElem?_map] at hs
      cases hd : ds[i]? with
      | none => rw [hd] at hs; cases hs
      | some d =>
        rw [hd] at hs
        cases hs
        obtain ⟨v, hv, rv⟩ := r.get hd
        refine ⟨some v, ?_, v, rfl, rv⟩
        rw [List.getElem?_append_left (by rw [List.length_map, ← hl]; exact hi), List.getElem?_map, hv]
        rfl
    · rw [List.getElem?_append_right (by simpa using hi), List.length_map, List.getElem?_replicate] at hs
      split at hs
      · rename_i hlt
        cases hs
        refine ⟨none, ?_, trivial⟩
        rw [List.getElem?_append_right (by rw [List.length_map, ← hl]; omega), List.length_map, List.getElem?_replicate, ← hl, if_pos hlt]
      · cases hs
  · exfalso
    unfold ev0 at hs
    by_cases hi : i < ds.length
    · rw [List.getElem?_append_left (by simpa using hi), List.getElem?_map] at hs
      cases hd : ds[i]? with
      | none => rw [hd] at hs; cases hs
      | some d => rw [hd] at hs; cases hs; exact f.elim
    · rw [List.getElem?_append_right (by simpa using hi), List.length_map, List.getElem?_replicate] at hs
      split at hs
      · cases hs; exact f.elim
      · cases hs
theorem body_red {K : PySem.W.Frag} {T : Tb} {N : List Str} {n : Nat} {fr : Bool} {body : Ev → R Fl} {vs : List V} {H : Hp} {Q : VK} {E : XK} (hn : n ≤ N.length) (h : spD K T n fr (dFn N.length fr body) vs H Q E) :
    ∃ S0, tSt K ⟨T, H, S0, fun c H' => E (.ref (T.ec c)) none H'⟩ fr body { nx := fun _ H' => Q .non H', rt := Q } (L2.start N vs) H := by
  obtain ⟨ds, W, hW, hl, r, q⟩ := h
  refine ⟨W, ev0 N.length ds, W, sta_start (C := ⟨T, H, W, fun c H' => E (.ref (T.ec c)) none H'⟩) hW r (by omega), ?_⟩
  unfold dFn at q
  refine run_mono (run_bind q) (fun fl q1 => ?_) fun _ z => z
  cases fl with
  | rt d => exact q1
  | nx ρ =>
    intro σ' H' ⟨S', st', _, _⟩
    unfold outF at q1
    cases fr with
    | true => exact q1.elim
    | false => exact q1 .non H' st'.same .non
  | bk ρ => exact q1.elim
  | ct ρ => exact q1.elim
section
variable {P : Program} {w : World} {K : PySem.W.Frag} {mg : Str → Option Value} {base : Heap}
/-- THE RULE for a def that raises nothing -/
theorem fn_ok {x qual : Str} {st : Stmt} {f : Addr} {fd : FuncData} {N ps : List Str} {k : Nat} {T : Tb} {fr : Bool} {body : Ev → R Fl} (F : Fun K x qual st f fd) (S : FnScope N ps (defScope st))
    (hb : ∀ (cdv : Value) (A : Around) (outer : List Env) (s : Shared) (H : Hp) (E : XK) (S0 : Addr → Prop), Room k (A.deeper (envOfC qual (defScope st) s.heap.objs.size f cdv)) →
      DB (cxOf CX0 P w K mg base N qual (defScope st) f cdv A outer s H E).nox ⟨T, H, S0, fun c H' => E (.ref (T.ec c)) none H'⟩ fr (defBody st) body) : FnOk P w K mg base CX0 (k + 1) f fd ps (spD K T ps.length fr (dFn N.length fr body)) := by
  have hpl : ps.length ≤ N.length := by have := congrArg List.length S.pre; rw [List.length_take] at this; omega
  refine F.ok S (fun vs H Q E h => spD_len h) (fun cdv A outer s H vs Q E hr h => ?_)
  obtain ⟨S0, q⟩ := body_red hpl h
  exact ⟨_, (hb cdv A outer s H E S0 hr).pss, q⟩
end
/-- a def of the text, as callers see it -/
structure FD (P : Program) (w : World) (K : PySem.W.Frag) (mg : Str → Option Value) (base : Heap) (T : Tb) (x : Str) (k n : Nat) (fr : Bool) (g : List D → R D) : Prop where
  ex : ∃ (f : Addr) (fd : FuncData) (ps : List Str) (CX : CXT), FnOk P w K mg base CX k f fd ps (spD K T n fr g) ∧ mg x = some (.ref f) ∧ PySem.W.keepIn K (.ref f) = true ∧ Binds K fd ps [] ∧ ∀ X : Cx, X.prog = P → X.w = w → Passes CX X E0
theorem FD.of0 {P : Program} {w : World} {K : PySem.W.Frag} {mg : Str → Option Value} {base : Heap} {T : Tb} {x : Str} {k n : Nat} {fr : Bool} {g : List D → R D} {f : Addr} {fd : FuncData} {ps : List Str} (F : FnOk P w K mg base CX0 k f fd ps (spD K T n fr g))
    (hm : mg x = some (.ref f)) (hk : PySem.W.keepIn K (.ref f) = true) (b : Binds K fd ps []) : FD P w K mg base T x k n fr g := ⟨f, fd, ps, CX0, F, hm, hk, b, fun X _ _ => pass0⟩
theorem FD.mono {P : Program} {w : World} {K : PySem.W.Frag} {mg : Str → Option Value} {base : Heap} {T : Tb} {x : Str} {k k' n : Nat} {fr : Bool} {g : List D → R D} (F : FD P w K mg base T x k n fr g) (h : k ≤ k') : FD P w K mg base T x k' n fr g := by
  obtain ⟨f, fd, ps, CX, F, r⟩ := F
  exact ⟨f, fd, ps, CX, F.mono h, r⟩

/-! ### calls -/
def noex {α : Type} : R α → R α
  | .ok a => .ok a
  | _ => .st
@[simp] theorem noex_ok {α : Type} (a : α) : noex (R.ok a) = .ok a := rfl
theorem run_noex {α : Type} {m : R α} {ok : α → Prop} {ex : Nat → Prop} (h : run (noex m) ok ex) : ∃ a, m = .ok a ∧ ok a := by
  cases m with
  | ok a => exact ⟨a, rfl, h⟩
  | ex c => exact h.elim
  | st => exact h.elim
@[simp] def dCall (n : Nat) (g : List D → R D) (fs : Ev → R (List D)) : Ev → R D := fun ρ => fs ρ >>= fun ds => if ds.length = n then noex (g ds) else .st
@[simp] def unL : D → R (List D)
  | .lst xs => .ok xs
  | _ => .st
@[simp] def lCall (n : Nat) (g : List D → R D) (fs : Ev → R (List D)) : Ev → R (List D) := fun ρ => fs ρ >>= fun ds => if ds.length = n then noex (g ds) >>= unL else .st
section
variable {X : Cx} {C : Cc} {x : Str} {k n : Nat} {g : List D → R D} {e : Expr} {es : List Expr} {fs : Ev → R (List D)} {p pos : Pos} {m : Bool}
theorem sh_alloc {K : PySem.W.Frag} {T : Tb} {H : Hp} {W : Addr → Prop} {ds : List D} {vs : List V} (r : ShL K T H W ds vs) : ShL K T H (fun a => W a ∧ H a ≠ none) ds vs := r.monoA Kp.refl fun _ w h => ⟨w, h⟩
theorem run_if {α : Type} {c : Prop} [Decidable c] {m : R α} {ok : α → Prop} {ex : Nat → Prop} (h : run (if c then m else .st) ok ex) : c ∧ run m ok ex := by
  by_cases e : c
  · rw [if_pos e] at h; exact ⟨e, h⟩
  · rw [if_neg e] at h; exact h.elim
/-- what lies in the arguments or is new behind the call -/
theorem foot_call {m : Bool} {Z : Hp} {S : Addr → Prop} {H H1 H' : Hp} (e1 : Same H H1) (e2 : Same H1 H') {a : Addr} (h : Fw (fun a => Wf m Z S H H1 a ∧ H1 a ≠ none) H1 H' a) : Wf m Z S H H' a := by
  rcases h with ⟨h, _⟩ | ⟨h1, h2⟩
  · exact Wf.more e2 h
  · exact .inl (.inr ⟨e1.free h1, h2⟩)
theorem de_call (F : FD X.prog X.w X.K X.mg X.base C.T x k n false g) (hr : Room k X.A) (hg : Gl X x) (ha : DA X C m (e :: es) fs) (hdb : (x == ("__debug__" : Str)) = false := by decide)
    (he : starEach (e :: es) X.env = (false, eval e X.env) :: starEach es X.env := by rfl) (hpl : (backTo pos (starEach es X.env)).any (·.1) = false := by rfl) : DE X C m (.Call (.Name x p) (e :: es) [] pos) (dCall n g fs) := by
  obtain ⟨f, fd, ps, CX, F, hm, hk, hb, hx⟩ := F
  refine ⟨PE.imp (pe_call F hr hg hm hk hb .nil (hx X rfl rfl) ha.pa hdb he hpl) fun σ H Q ⟨ρ, S, st, q⟩ => tDA_one (k := fun ds => if ds.length = n then noex (g ds) else .st) st q fun ds vs H1 e1 r q2 => ?_⟩
  obtain ⟨hn, q2⟩ := run_if q2
  obtain ⟨d, ed, q3⟩ := run_noex q2
  rw [List.append_nil]
  refine ⟨ds, fun a => Wf m C.H0 S H H1 a ∧ H1 a ≠ none, fun a h => h.2, hn, sh_alloc r, ?_⟩
  rw [ed]
  intro v H' e2 rv
  have rv : Sh X.K C.T H' (Fw (fun a => Wf m C.H0 S H H1 a ∧ H1 a ≠ none) H1 H') d v := rv
  refine q3 v H' (e1.trans e2) (rv.mono Kp.refl fun a w => foot_call e1 e2 w)
theorem fe_call (F : FD X.prog X.w X.K X.mg X.base C.T x k n true g) (hr : Room k X.A) (hg : Gl X x) (ha : DA X C true (e :: es) fs) (hdb : (x == ("__debug__" : Str)) = false := by decide)
    (he : starEach (e :: es) X.env = (false, eval e X.env) :: starEach es X.env := by rfl) (hpl : (backTo pos (starEach es X.env)).any (·.1) = false := by rfl) : FE X C (.Call (.Name x p) (e :: es) [] pos) (lCall n g fs) := by
  obtain ⟨f, fd, ps, CX, F, hm, hk, hb, hx⟩ := F
  refine ⟨PE.imp (pe_call F hr hg hm hk hb .nil (hx X rfl rfl) ha.pa hdb he hpl) fun σ H Q ⟨ρ, S, st, q⟩ => tDA_one (k := fun ds => if ds.length = n then noex (g ds) >>= unL else .st) st q fun ds vs H1 e1 r q2 => ?_⟩
  obtain ⟨hn, q2⟩ := run_if q2
  obtain ⟨d, ed, q3⟩ := run_noex (run_bind q2)
  rw [List.append_nil]
  refine ⟨ds, fun a => Wf true C.H0 S H H1 a ∧ H1 a ≠ none, fun a h => h.2, hn, sh_alloc r, ?_⟩
  rw [ed]
  intro v H' e2 rv
  have rv : RetF X.K C.T (fun a => Wf true C.H0 S H H1 a ∧ H1 a ≠ none) H1 H' d v := rv
  cases rv with
  | ob _ _ _ _ => exact q3.elim
  | lst hp hp' rx =>
    exact q3 _ _ H' (e1.trans e2) (e1.free hp) hp' (rx.mono Kp.refl fun a w => ⟨(foot_call e1 e2 w.1).sh, w.2⟩)
/-- the arguments only looked at: what comes back holds no list of theirs -/
@[simp] def lFlat (f : Ev → R (List D)) : Ev → R (List D) := fun ρ => f ρ >>= fun ds => R.when (D.flatL ds) (.ok ds)
theorem fe_callP (F : FD X.prog X.w X.K X.mg X.base C.T x k n true g) (hr : Room k X.A) (hg : Gl X x) (ha : DA X C false (e :: es) fs) (hdb : (x == ("__debug__" : Str)) = false := by decide)
    (he : starEach (e :: es) X.env = (false, eval e X.env) :: starEach es X.env := by rfl) (hpl : (backTo pos (starEach es X.env)).any (·.1) = false := by rfl) : FE X C (.Call (.Name x p) (e :: es) [] pos) (lFlat (lCall n g fs)) := by
  obtain ⟨f, fd, ps, CX, F, hm, hk, hb, hx⟩ := F
  refine ⟨PE.imp (pe_call F hr hg hm hk hb .nil (hx X rfl rfl) ha.pa hdb he hpl) fun σ H Q ⟨ρ, S, st, q⟩ => ?_⟩
  have q := run_bind q
  refine tDA_one (k := fun ds => if ds.length = n then noex (g ds) >>= unL else .st) st q fun ds vs H1 e1 r q2 => ?_
  obtain ⟨hn, q2⟩ := run_if q2
  obtain ⟨d, ed, q3⟩ := run_noex (run_bind q2)
  rw [List.append_nil]
  refine ⟨ds, fun a => Wf false C.H0 S H H1 a ∧ H1 a ≠ none, fun a h => h.2, hn, sh_alloc r, ?_⟩
  rw [ed]
  intro v H' e2 rv
  have rv : RetF X.K C.T (fun a => Wf false C.H0 S H H1 a ∧ H1 a ≠ none) H1 H' d v := rv
  cases rv with
  | ob _ _ _ _ => exact q3.elim
  | lst hp hp' rx =>
    obtain ⟨c, q4⟩ := run_when (show run (R.when (D.flatL _) (R.ok _)) _ _ from q3)
    exact q4 _ _ H' (e1.trans e2) (e1.free hp) hp' (rx.free c)
/-- a value without lists may be kept -/
@[simp] def dFlat (f : Ev → R D) : Ev → R D := fun ρ => f ρ >>= fun d => R.when d.flat (.ok d)
theorem DE.keep {f : Ev → R D} (h : DE X C false e f) : DE X C true e (dFlat f) := ⟨PE.imp h.pe fun σ H Q ⟨ρ, S, st, q⟩ =>
  ⟨ρ, S, st, run_mono (run_bind q) (fun d q v H' e r => by
    obtain ⟨c, q2⟩ := run_when q
    exact q2 v H' e (r.free c)) fun _ z => z⟩⟩
end

/-! ### the end -/
theorem spD_end {K : PySem.W.Frag} {T : Tb} {g : List D → R D} {H : Hp} {a : Addr} {ns : List Int} (hq : SqL K H a (ns.map V.int)) (h : g [.scr ns] = .ok (.bl true)) : spD K T 1 false g [.ref a] H (fun v _ => v = .bl true) fun _ _ _ => False := by
  refine ⟨[.scr ns], fun b => H b ≠ none, fun b h => h, rfl, .cons (.scr ?_) .nil, ?_⟩
  · rcases hq with hq | hq
    · refine .inl ⟨hq, ?_⟩
      rcases hq with z | ⟨o, z⟩ <;> (rw [z]; exact fun z => nomatch z)
    · exact .inr hq
  · rw [h]
    intro v H' e rv
    have rv : Sh K T H' (Fw (fun b => H b ≠ none) H H') (.bl true) v := rv
    cases rv
    rfl
end
end PL
/-! PLI: more statements and calls. -/
namespace PL
open PySem L2 PyProof.Rows
noncomputable section
section
variable {X : Cx} {C : Cc} {fr m : Bool} {a : Expr} {f : Ev → R D} {pos : Pos}
/-- targets = a value -/
@[simp] def dUnp (f : Ev → R D) (g : D → Ev → Option Ev) : Ev → R Fl := fun ρ => f ρ >>= fun d => R.of (g d ρ) >>= fun ρ' => .ok (.nx ρ')
theorem ds_unp {tg : Expr} {is : List Nat} {g : D → Ev → Option Ev} (h : DE X C true a f) (hg : DG X C is tg g) (hs : swapsWithSole [tg] a pos.line X.env = pure false := by rfl) (hw : swappedStores [tg] a X.env = pure none := by rfl)
    (h1 : (assignEach [tg] X.env).map (·.2) = [assign tg X.env] := by rfl) : DS X C fr (.Assign [tg] a pos) (dUnp f g) := ⟨PS.imp (ps_asg h.pe hg.pg hs hw h1) fun D σ H ⟨ρ, S, st, q⟩ =>
  tD_one (k := fun d => R.of (g d ρ) >>= fun ρ' => R.ok (Fl.nx ρ')) st (EXs.run st q) fun d v H1 e r q2 => by
    obtain ⟨ρ', eg, q3⟩ := run_of (run_bind q2)
    exact ⟨ρ, _, d, ρ', st.grow e, r.mono Kp.refl fun _ w => w.sh, eg, fun σ' st' _ => q3 σ' H1 ⟨_, st', fun _ z => .inl z, Kp.of e⟩⟩⟩
end
end
end PL
/-! PLJ: data that is new since the def began. -/
namespace PL
open PySem L2 PyProof.Rows
noncomputable section
/-- from a new list of plain things -/
@[simp] def sNw (f : Ev → R (List D)) : Ev → R Sl := fun ρ => f ρ >>= fun ds => R.when (D.flatL ds) (.ok (.nw (.lst ds)))
/-- a tuple of a plain thing and of what is new -/
@[simp] def sNwT (f : Ev → R D) (i : Nat) : Ev → R Sl := fun ρ => match ρ[i]? with
  | some (.nw y) => f ρ >>= fun x => R.when x.flat (.ok (.nw (.tup [x, y])))
  | _ => .st
/-- return of an item of it -/
@[simp] def dRetN (i k : Nat) : Ev → R Fl := fun ρ => match ρ[i]? with
  | some (.nw (.tup ds)) => match ds[k]? with
    | some (.lst xs) => R.when (D.flatL xs) (.ok (.rt (.lst xs)))
    | _ => .st
  | _ => .st
section
variable {X : Cx} {C : Cc} {fr m : Bool} {a b : Expr} {f : Ev → R D} {pos : Pos}
theorem FE.seN {fe : Ev → R (List D)} (h : FE X C a fe) : SE X C a (sNw fe) := ⟨PE.imp h.pe fun σ H Q ⟨ρ, S, st, q⟩ =>
  ⟨ρ, S, st, run_mono (run_bind q) (fun d q1 p vs H1 e hn hp r => by
    obtain ⟨c, q2⟩ := run_when q1
    refine q2 (.ref p) H1 (Fw S H H1) e (fun _ z => .inl z) (fun _ z => z) ⟨.ref p, rfl, .lst hp ⟨.inr ⟨hn, by rw [hp]; exact fun z => nomatch z⟩, st.same.free hn⟩ (ShL.free r c)⟩ fun _ z => z.elim) fun _ z => z⟩⟩
theorem se_tupN {i k : Nat} (hp : ∀ ta tb : TE, PE X a ta → PE X b tb → PA X [a, b] (tCons ta (tCons tb tNil))) (ha : DE X C true a f) (hb : PE X b (tVar i)) : SE X C (.Tuple [a, b] k pos) (sNwT f i) := ⟨PE.imp (pe_tup (hp _ _ ha.pe hb)) fun σ H Q ⟨ρ, S, st, q⟩ => by
  unfold sNwT at q
  cases es : ρ[i]? with
  | none => rw [es] at q; exact q.elim
  | some s =>
    rw [es] at q
    cases s with
    | nw y =>
      obtain ⟨x0, e1, u, rfl, r⟩ := st.sl i _ es
      refine tD_one (k := fun x => R.when x.flat (R.ok (Sl.nw (.tup [x, y])))) st q fun x v H1 e rx q2 => ?_
      obtain ⟨c, q3⟩ := run_when q2
      refine ⟨u, e1, by rw [sizeLine_eq]; show 2 ≤ 16777216; decide, fun p hp => ?_⟩
      have e2 : Same H1 (upd H1 p (.tup [v, u])) := same_upd hp
      have g := st.grow (e.trans e2)
      refine q3 (.ref p) _ (Fw S H _) (e.trans e2) (fun _ z => .inl z) (fun _ z => z) ⟨.ref p, rfl, .tup upd_same (.cons (Sh.free (rx.mono (Kp.of e2) fun _ w => w) c) (.cons (r.mono (Kp.of (e.trans e2)) fun a w => ⟨.inl w.1, w.2⟩) .nil))⟩ fun _ z => z.elim
    | no => exact q.elim
    | sh _ => exact q.elim
    | ow _ => exact q.elim
    | od _ _ => exact q.elim
    | ot _ => exact q.elim⟩
theorem ds_retNw {i k : Nat} {kk : Nat} {p1 p2 : Pos} (h : PE X a (tVar i)) (hs : PlainIx (.Constant (.int (k : Nat)) kk p1)) : DS X C true (.Return (some (.Subscript a (.Constant (.int (k : Nat)) kk p1) p2)) pos) (dRetN i k) := ⟨PS.imp (ps_ret (pe_ix ix_tup h pe_int hs)) fun D σ H ⟨ρ, S, st, q⟩ => by
  unfold dRetN at q
  split at q
  · rename_i ds es
    split at q
    · rename_i xs ed
      obtain ⟨c, q2⟩ := run_when q
      obtain ⟨x0, e1, u, rfl, r⟩ := st.sl i _ es
      cases r with
      | tup ht hr =>
        obtain ⟨v, ev, rv⟩ := hr.get ed
        refine ⟨_, e1, _, _, _, v, rfl, rfl, SqT.of ht, ?_, ?_⟩
        · show atI _ ((k : Nat) : Int) = some v
          unfold atI ixN
          have hk := (List.getElem?_eq_some_iff.mp ev).1
          rw [if_pos (by omega), if_pos (by omega)]
          simpa using ev
        · cases rv with
          | lst hl hw hi => exact q2 _ H st.same (.lst hw.2 hl (ShL.free hi c))
    · exact q.elim
  · exact q.elim⟩
/-- x[i], y = a, b -/
@[simp] def dParS (k j : Nat) (fi fa fb : Ev → R D) : Ev → R Fl := fun ρ => fa ρ >>= fun d => fb ρ >>= fun d2 => match ρ[k]? with
  | some (.ow ds) => fi ρ >>= fun y => toI y >>= fun y => R.of (ixN ds.length y) >>= fun n => .ok (.nx ((ρ.set k (.ow (ds.set n d))).set j (.sh d2)))
  | _ => .st
theorem ds_parS {k j : Nat} {y : Str} {o c : Expr} {fi fa fb : Ev → R D} {p1 py pt : Pos} {kt k2 : Nat} {pt2 : Pos} (hc : X.calm = true) (hN : X.N.Nodup) (hj : X.N[j]? = some y) (hy : Loc X.env.scope y) (hkj : k ≠ j)
    (ho : PE X o (tVar k)) (hi : DE X C m c fi) (ha : DE X C true a fa) (hb : DE X C true b fb)
    (hw : swappedStores [.Tuple [.Subscript o c p1, .Name y py] kt pt] (.Tuple [a, b] k2 pt2) X.env = pure none)
    (hs : swapsWithSole [.Tuple [.Subscript o c p1, .Name y py] kt pt] (.Tuple [a, b] k2 pt2) pos.line X.env = pure false := by rfl)
    (h1 : starEach [a, b] X.env = (false, eval a X.env) :: starEach [b] X.env := by rfl) (h2 : starEach [b] X.env = (false, eval b X.env) :: starEach [] X.env := by rfl)
    (hx : ∀ v, assign (.Subscript o c p1) X.env v = (do
      let ov ← holding [v] (eval o X.env)
      let iv ← holding [v, ov] (eval c X.env)
      standAt p1
      holding [v, ov, iv] (setItem ov iv v)
      release [v, ov, iv] []) := by intro _; rfl)
    (h3 : (assignEach [.Subscript o c p1, .Name y py] X.env).length = 2 := by rfl) (h4 : (assignEach [.Subscript o c p1, .Name y py] X.env).findIdx? (·.1) = none := by rfl)
    (h5 : (assignEach [.Subscript o c p1, .Name y py] X.env).map (·.2) = assign (.Subscript o c p1) X.env :: (assignEach [.Name y py] X.env).map (·.2) := by rfl)
    (h6 : (assignEach [.Name y py] X.env).map (·.2) = assign (.Name y py) X.env :: (assignEach [] X.env).map (·.2) := by rfl)
    (h7 : (assignEach [.Tuple [.Subscript o c p1, .Name y py] kt pt] X.env).map (·.2) = [assign (.Tuple [.Subscript o c p1, .Name y py] kt pt) X.env] := by rfl)
    (hf : X.fn y = true ∨ X.env.scope.names.lookup y = some .local := by first | exact .inl rfl | exact .inr rfl | assumption) :
    DS X C fr (.Assign [.Tuple [.Subscript o c p1, .Name y py] kt pt] (.Tuple [a, b] k2 pt2) pos) (dParS k j fi fa fb) :=
  ⟨PS.imp (ps_asg (pe_tup (pa_cons ha.pe (pa_cons hb.pe pa_nil h2) h1)) (pg_tup hc (pgs_cons (pg_sub ho hi.pe set_list hx) (pgs_cons (pg_name hN hj hy hf) pgs_nil h6) h5) h3 h4) hs hw h7) fun D σ H ⟨ρ, S, st, q⟩ => by
  refine tD_two (m := true) (m' := true) (k := fun d d2 => match ρ[k]? with
    | some (.ow ds) => fi ρ >>= fun y => toI y >>= fun y => R.of (ixN ds.length y) >>= fun n => R.ok (Fl.nx ((ρ.set k (.ow (ds.set n d))).set j (.sh d2)))
    | _ => .st) st (EXs.run st q) fun d d2 v u H2 e rd rd2 q2 => ?_
  obtain ⟨ds, es, q3⟩ := ow_run q2
  refine ⟨by rw [sizeLine_eq]; show 2 ≤ 16777216; decide, fun p hp => ?_⟩
  have e2 : Same H2 (upd H2 p (.tup [v, u])) := same_upd hp
  have st3 := st.grow (e.trans e2)
  obtain ⟨x, e1, l, vs, rfl, g1, g2, g3, r⟩ := st.sl k _ es
  refine ⟨p, [v, u], rfl, seqT upd_same, rfl, v, [u], rfl, .ref l, e1, ?_⟩
  refine tD_one (k := fun y => toI y >>= fun y => R.of (ixN ds.length y) >>= fun n => R.ok (Fl.nx ((ρ.set k (.ow (ds.set n d))).set j (.sh d2)))) st3 (run_mono q3 (fun _ z => z) fun c z => EXc.mono (e.trans e2) z) fun jv w H4 e4 rj q4 => ?_
  cases jv with
  | int jj =>
    cases rj
    obtain ⟨n, en, q5⟩ := run_of (run_bind q4)
    have e04 : Same H H4 := (e.trans e2).trans e4
    have e24 : Same H2 H4 := e2.trans e4
    refine ⟨l, vs, jj, n, rfl, rfl, e04 _ _ g1, by rw [← r.length]; exact en, u, [], rfl, rfl, ?_⟩
    have r2 : ShL X.K C.T H4 (Fw S H H4) ds vs := r.mono (Kp.of e04) fun _ w => .inl w
    have st4 := st.grow e04
    obtain ⟨s1, k1⟩ := st4.chg1 (vs' := vs.set n v) (ds' := ds.set n d) e04 es e1 g1 g2 (Fw.own g1 g3) (r2.set (rd.mono (Kp.of e24) fun _ w => Fw.more e24 w.sh) n)
    exact q5 _ _ ⟨_, s1.putSh ((rd2.mono (Kp.of e24) fun _ w => Fw.more e24 w.sh).mono k1 fun _ w => w), fun _ w => .inl w, (Kp.of e04).trans k1 fun _ w => .inl w⟩
  | _ => exact q4.elim⟩
end
end
end PL
/-! PLK: a list of lists of one's own. -/
namespace PL
open PySem L2 PyProof.Rows
noncomputable section
def O.lds (ds : List D) : O := .l (ds.map O.d)
def O.ll (dss : List (List D)) : O := .l (dss.map O.lds)
def O.atom : O → Option D
  | .d x => some x
  | _ => none
def O.row : O → Option (List D)
  | .l os => os.mapM O.atom
  | _ => none
def O.rows : O → Option (List (List D))
  | .l os => os.mapM O.row
  | _ => none
theorem atoms_of : ∀ ds : List D, (ds.map O.d).mapM O.atom = some ds
  | [] => rfl
  | d :: ds => by
    rw [List.map_cons, List.mapM_cons, atoms_of ds]
    rfl
@[simp] theorem row_lds (ds : List D) : (O.lds ds).row = some ds := atoms_of ds
theorem rows_of : ∀ dss : List (List D), (dss.map O.lds).mapM O.row = some dss
  | [] => rfl
  | d :: ds => by
    rw [List.map_cons, List.mapM_cons, rows_of ds, row_lds]
    rfl
@[simp] theorem rows_ll (dss : List (List D)) : (O.ll dss).rows = some dss := rows_of dss
theorem mapM_inv {α β : Type} {f : α → Option β} {g : β → α} (h : ∀ a b, f a = some b → a = g b) : ∀ {as : List α} {bs : List β}, as.mapM f = some bs → as = bs.map g
  | [], bs, e => by
    simp at e
    subst e
    rfl
  | a :: as, bs, e => by
    rw [List.mapM_cons] at e
    cases ea : f a with
    | none => rw [ea] at e; cases e
    | some b =>
      cases er : as.mapM f with
      | none => rw [ea, er] at e; cases e
      | some r =>
        rw [ea, er] at e
        cases e
        rw [List.map_cons, ← h a b ea, ← mapM_inv h er]
theorem ll_of {o : O} {dss : List (List D)} (h : o.rows = some dss) : o = O.ll dss := by
  cases o with
  | d x => cases h
  | ob c os => cases h
  | l os =>
    unfold O.ll
    congr 1
    refine mapM_inv (fun a b e => ?_) h
    cases a with
    | d x => cases e
    | ob c os => cases e
    | l os =>
      unfold O.lds
      congr 1
      refine mapM_inv (fun a b e => ?_) e
      cases a with
      | d x => cases e; rfl
      | ob c os => cases e
      | l os => cases e
theorem toDs_d : ∀ ds : List D, O.toDs (ds.map O.d) = ds
  | [] => by simp [O.toDs]
  | d :: ds => by simp [O.toDs, O.toD, toDs_d ds]
theorem toDs_lds : ∀ dss : List (List D), O.toDs (dss.map O.lds) = dss.map D.lst
  | [] => by simp [O.toDs]
  | d :: ds => by simp [O.toDs, O.lds, O.toD, toDs_d, toDs_lds ds]
@[simp] theorem toD_ll (dss : List (List D)) : (O.ll dss).toD = .lst (dss.map D.lst) := by
  unfold O.ll
  rw [O.toD, toDs_lds]
section
variable {T : Tb} {H H' : Hp} {P P' : D → V → Prop}
/-- items that hold plain data -/
inductive Ps (P : D → V → Prop) : List D → List V → Prop
  | nil : Ps P [] []
  | cons {d : D} {v : V} {ds : List D} {vs : List V} : P d v → Ps P ds vs → Ps P (d :: ds) (v :: vs)
theorem ps_of : ∀ {ds : List D} {vs : List V} {F : List Addr}, OwL T H P (ds.map O.d) vs F → F = [] ∧ Ps P ds vs
  | [], _, _, h => by
    cases h
    exact ⟨rfl, .nil⟩
  | d :: ds, _, _, h => by
    cases h with
    | cons p r _ =>
      cases p with
      | d p =>
        obtain ⟨rfl, q⟩ := ps_of r
        exact ⟨rfl, .cons p q⟩
theorem of_ps : ∀ {ds : List D} {vs : List V}, Ps P ds vs → OwL T H P (ds.map O.d) vs []
  | _, _, .nil => .nil
  | _, _, .cons p r => .cons (F := []) (G := []) (.d p) (of_ps r) (fun a h => by simp at h)
theorem Ps.mono (h : ∀ d v, P d v → P' d v) : ∀ {ds : List D} {vs : List V}, Ps P ds vs → Ps P' ds vs
  | _, _, .nil => .nil
  | _, _, .cons p r => .cons (h _ _ p) (r.mono h)
theorem Ps.snoc {d : D} {v : V} (q : P d v) : ∀ {ds : List D} {vs : List V}, Ps P ds vs → Ps P (ds ++ [d]) (vs ++ [v])
  | _, _, .nil => .cons q .nil
  | _, _, .cons p r => .cons p (r.snoc q)
theorem Ps.length : ∀ {ds : List D} {vs : List V}, Ps P ds vs → ds.length = vs.length
  | _, _, .nil => rfl
  | _, _, .cons _ r => by rw [List.length_cons, List.length_cons, r.length]
theorem Ps.last {d : D} : ∀ {ds : List D} {vs : List V}, Ps P (ds ++ [d]) vs → ∃ ws v, vs = ws ++ [v] ∧ Ps P ds ws ∧ P d v
  | [], _, h => by
    cases h with
    | cons p r =>
      cases r
      exact ⟨[], _, rfl, .nil, p⟩
  | x :: ds, _, h => by
    cases h with
    | cons p r =>
      obtain ⟨ws, v, rfl, q, z⟩ := Ps.last r
      exact ⟨_ :: ws, v, rfl, .cons p q, z⟩
/-- the lists' addresses, their items -/
inductive Ls (H : Hp) (P : D → V → Prop) : List (List D) → List Addr → Prop
  | nil : Ls H P [] []
  | cons {ds : List D} {b : Addr} {vs : List V} {dss : List (List D)} {bs : List Addr} : H b = some (.lst vs) → Ps P ds vs → Ls H P dss bs → Ls H P (ds :: dss) (b :: bs)
theorem ls_of : ∀ {dss : List (List D)} {vs : List V} {F : List Addr}, OwL T H P (dss.map O.lds) vs F → vs = F.map V.ref ∧ F.Nodup ∧ Ls H P dss F
  | [], _, _, h => by
    cases h
    exact ⟨rfl, .nil, .nil⟩
  | ds :: dss, _, _, h => by
    cases h with
    | cons p r n =>
      cases p with
      | l e q _ =>
        obtain ⟨rfl, q2⟩ := ps_of q
        obtain ⟨rfl, nd, z⟩ := ls_of r
        exact ⟨rfl, List.nodup_cons.mpr ⟨n _ (by simp), nd⟩, .cons e q2 z⟩
theorem of_ls : ∀ {dss : List (List D)} {F : List Addr}, Ls H P dss F → F.Nodup → OwL T H P (dss.map O.lds) (F.map V.ref) F
  | _, _, .nil, _ => .nil
  | _, _, .cons (b := b) e q r, nd => by
    have nd := List.nodup_cons.mp nd
    exact .cons (F := [b]) (.l e (of_ps q) (by simp)) (of_ls r nd.2) (fun a h => by
      rw [List.mem_singleton.mp h]
      exact nd.1)
theorem Ls.mono (h : ∀ d v, P d v → P' d v) : ∀ {dss : List (List D)} {bs : List Addr}, Ls H P dss bs → (∀ b ∈ bs, H' b = H b) → Ls H' P' dss bs
  | _, _, .nil, _ => .nil
  | _, _, .cons e q r, k => .cons (by rw [k _ List.mem_cons_self]; exact e) (q.mono h) (Ls.mono h r fun b m => k b (List.mem_cons_of_mem _ m))
theorem Ls.get : ∀ {dss : List (List D)} {bs : List Addr} {n : Nat} {ds : List D}, Ls H P dss bs → dss[n]? = some ds → ∃ b vs, bs[n]? = some b ∧ H b = some (.lst vs) ∧ Ps P ds vs
  | _, _, n, _, .nil, e => by simp at e
  | _, _, 0, _, .cons h q _, e => by simp at e; subst e; exact ⟨_, _, rfl, h, q⟩
  | _, _, n + 1, _, .cons _ _ r, e => by
    obtain ⟨b, vs, h1, h2⟩ := Ls.get (n := n) r (by simpa using e)
    exact ⟨b, vs, by simpa using h1, h2⟩
/-- one of the lists changes -/
theorem Ls.upd (h : ∀ d v, P d v → P' d v) : ∀ {dss : List (List D)} {bs : List Addr} {n : Nat} {b : Addr} {ds : List D} {vs : List V}, Ls H P dss bs → bs.Nodup → bs[n]? = some b → (∀ c ∈ bs, c ≠ b → H' c = H c) → H' b = some (.lst vs) → Ps P' ds vs → Ls H' P' (dss.set n ds) bs
  | _, _, n, _, _, _, .nil, _, e, _, _, _ => by simp at e
  | _, _, 0, b, _, _, .cons (b := c) _ _ r, nd, e, k, hb, q => by
    simp at e
    subst e
    have nd := List.nodup_cons.mp nd
    exact .cons hb q (r.mono h fun x m => k x (List.mem_cons_of_mem _ m) fun z => nd.1 (z ▸ m))
  | _, _, n + 1, b, _, _, .cons (b := c) hc qc r, nd, e, k, hb, q => by
    have nd := List.nodup_cons.mp nd
    rw [List.getElem?_cons_succ] at e
    have hcb : c ≠ b := fun z => nd.1 (z ▸ List.mem_of_getElem? e)
    exact .cons (by rw [k c List.mem_cons_self hcb]; exact hc) (qc.mono h) (Ls.upd h r nd.2 e (fun x m => k x (List.mem_cons_of_mem _ m)) hb q)
theorem Ls.length : ∀ {dss : List (List D)} {bs : List Addr}, Ls H P dss bs → dss.length = bs.length
  | _, _, .nil => rfl
  | _, _, .cons _ _ r => by rw [List.length_cons, List.length_cons, r.length]
theorem ow_ll {dss : List (List D)} {v : V} {F : List Addr} (h : Ow T H P (O.ll dss) v F) : ∃ a bs, v = .ref a ∧ F = a :: bs ∧ H a = some (.lst (bs.map V.ref)) ∧ a ∉ bs ∧ bs.Nodup ∧ Ls H P dss bs := by
  unfold O.ll at h
  cases h with
  | l e r n =>
    obtain ⟨rfl, nd, z⟩ := ls_of r
    exact ⟨_, _, rfl, rfl, e, n, nd, z⟩
theorem ll_ow {dss : List (List D)} {a : Addr} {bs : List Addr} (e : H a = some (.lst (bs.map V.ref))) (n : a ∉ bs) (nd : bs.Nodup) (z : Ls H P dss bs) : Ow T H P (O.ll dss) (.ref a) (a :: bs) := .l e (of_ls z nd) n
end
/-! ### x[i].append(e), y = x[i].pop() -/
@[simp] def dAppI (k : Nat) (fi fe : Ev → R D) : Ev → R Fl := fun ρ => match ρ[k]? with
  | some (.ot o) => R.of o.rows >>= fun dss => fi ρ >>= fun j => toI j >>= fun j => R.of (ixN dss.length j) >>= fun n => R.of dss[n]? >>= fun ds => fe ρ >>= fun d => R.when (ltLine ds.length) (.ok (.nx (ρ.set k (.ot (O.ll (dss.set n (ds ++ [d])))))))
  | _ => .st
@[simp] def dPopI (y k : Nat) (fi : Ev → R D) : Ev → R Fl := fun ρ => match ρ[k]? with
  | some (.ot o) => R.of o.rows >>= fun dss => fi ρ >>= fun j => toI j >>= fun j => R.of (ixN dss.length j) >>= fun n => R.of dss[n]? >>= fun ds => R.of ds.getLast? >>= fun d => .ok (.nx ((ρ.set k (.ot (O.ll (dss.set n ds.dropLast)))).set y (.sh d)))
  | _ => .st
theorem ot_run {α : Type} {ρ : Ev} {i : Nat} {k : O → R α} {ok : α → Prop} {ex : Nat → Prop} (q : run (match ρ[i]? with | some (.ot o) => k o | _ => R.st) ok ex) : ∃ o, ρ[i]? = some (.ot o) ∧ run (k o) ok ex := by
  cases es : ρ[i]? with
  | none => rw [es] at q; exact q.elim
  | some s =>
    rw [es] at q
    cases s with
    | ot o => exact ⟨o, rfl, q⟩
    | no => exact q.elim
    | sh _ => exact q.elim
    | ow _ => exact q.elim
    | od _ _ => exact q.elim
    | nw _ => exact q.elim
theorem ixN_lt {n : Nat} {j : Int} {m : Nat} (h : ixN n j = some m) : m < n := by
  unfold ixN at h
  split at h
  · split at h
    · cases h; omega
    · cases h
  · split at h
    · cases h; omega
    · cases h
section
variable {K : PySem.W.Frag} {C : Cc} {ρ : Ev} {S : Addr → Prop} {σ : L2.St} {H H2 : Hp} {k n : Nat} {dss : List (List D)} {a b : Addr} {bs : List Addr} {ds' : List D} {vs' : List V}
/-- one of the inner lists is changed -/
theorem Sta.inner (st : Sta K C ρ S σ H2) (es : ρ[k]? = some (.ot (O.ll dss))) (e1 : σ[k]? = some (some (.ref a))) (ha : H2 a = some (.lst (bs.map V.ref))) (hn : a ∉ bs) (nd : bs.Nodup) (z : Ls H2 (fun d v => Sh K C.T H2 S d v) dss bs)
    (hf : ∀ c ∈ a :: bs, C.H0 c = none ∧ ¬ S c) (hb : bs[n]? = some b) (q : Ps (fun d v => Sh K C.T H2 S d v) ds' vs') :
    Sta K C (ρ.set k (.ot (O.ll (dss.set n ds')))) S σ (upd H2 b (.lst vs')) ∧ Kp S H2 (upd H2 b (.lst vs')) := by
  have hm : b ∈ bs := List.mem_of_getElem? hb
  have ow := ll_ow (T := C.T) (P := fun _ _ => True) ha hn nd (z.mono (fun _ _ _ => trivial) fun _ _ => rfl)
  have ftb : Ft C.T H2 (some (.ref a)) (.ot (O.ll dss)) b := ⟨.ref a, a :: bs, rfl, ow, List.mem_cons_of_mem _ hm⟩
  have kS : ∀ {a' : Addr} {o : HO}, S a' → H2 a' = some o → upd H2 b (.lst vs') a' = some o := fun {a' o} w h => by
    rw [upd_ne (fun y => by subst y; exact (hf _ (List.mem_cons_of_mem _ hm)).2 w)]; exact h
  obtain ⟨c0, vs0, _, hb0, _⟩ : ∃ (c : Addr) (vs : List V), bs[n]? = some c ∧ H2 b = some (.lst vs) ∧ True := by
    have hl : n < dss.length := by rw [z.length]; exact (List.getElem?_eq_some_iff.mp hb).1
    obtain ⟨c, vs, h1, h2, _⟩ := z.get (List.getElem?_eq_getElem hl)
    rw [hb] at h1
    cases h1
    exact ⟨b, vs, hb, h2, trivial⟩
  have kp : Kp S H2 (upd H2 b (.lst vs')) := ⟨fun a' o w h _ => kS w h, fun a' vs h => by
    rw [upd_ne (fun y => by subst y; rw [hb0] at h; cases h)]; exact h⟩
  have z2 : Ls (upd H2 b (.lst vs')) (fun d v => Sh K C.T (upd H2 b (.lst vs')) S d v) (dss.set n ds') bs :=
    Ls.upd (fun d v r => r.mono kp fun _ w => w) z nd hb (fun c _ hc => upd_ne hc) upd_same (q.mono fun d v r => r.mono kp fun _ w => w)
  have ha2 : upd H2 b (.lst vs') a = some (.lst (bs.map V.ref)) := by
    rw [upd_ne (fun y => hn (by rw [y]; exact hm))]; exact ha
  exact st.mut (S2 := S) (s' := .ot (O.ll (dss.set n ds'))) es e1 (fun a' o h ne => by
    rw [upd_ne (fun y => by subst y; exact ne ftb)]; exact h) (fun _ h => h) (fun _ h => .inl h) (fun a' h => by
    unfold upd
    split
    · exact fun y => nomatch y
    · exact st.bnd a' h) ⟨.ref a, a :: bs, rfl, ll_ow ha2 hn nd z2, hf⟩ (fun p f => by
    obtain ⟨v, F, ev, r, m⟩ := f
    cases ev
    have r2 := ll_ow (T := C.T) (P := fun _ _ => True) ha2 hn nd (z2.mono (fun _ _ _ => trivial) fun _ _ => rfl)
    rw [r.uniq r2] at m
    exact .inl ⟨.ref a, a :: bs, rfl, ow, m⟩)
end
section
variable {X : Cx} {C : Cc} {fr m : Bool} {o c e : Expr} {fi fe : Ev → R D} {pos p1 p2 p3 : Pos}
theorem ds_appI {k : Nat} (hm : ∀ to t : TE, PE X (.Subscript o c p1) to → PE X e t → PE X (.Call (.Attribute (.Subscript o c p1) "append" p2) [e] [] p3) (tBM X.K "list" rAppend to (tCons t tNil)))
    (ho : PE X o (tVar k)) (hi : DE X C m c fi) (hs : PlainIx c) (h : DE X C true e fe) (hw : swapsWith (.Call (.Attribute (.Subscript o c p1) "append" p2) [e] [] p3) none pos.line X.env = pure false := by rfl) :
    DS X C fr (.Expr (.Call (.Attribute (.Subscript o c p1) "append" p2) [e] [] p3) pos) (dAppI k fi fe) := ⟨PS.imp (ps_expr (hm _ _ (pe_ix ix_list ho hi.pe hs) h.pe) hw) fun D σ H ⟨ρ, S, st, q⟩ => by
  unfold dAppI at q
  obtain ⟨oo, es, qa⟩ := ot_run q
  obtain ⟨dss, ed, q1⟩ := run_of (run_bind qa)
  clear q qa
  obtain rfl := ll_of ed
  obtain ⟨x, e1, v0, F, rfl, r, hf⟩ := st.sl k _ es
  obtain ⟨a, bs, rfl, rfl, ha, hn, nd, z⟩ := ow_ll r
  refine ⟨.ref a, e1, ?_⟩
  refine tD_one (k := fun j => toI j >>= fun j => R.of (ixN dss.length j) >>= fun n => R.of dss[n]? >>= fun ds => fe ρ >>= fun d => R.when (ltLine ds.length) (R.ok (Fl.nx (ρ.set k (.ot (O.ll (dss.set n (ds ++ [d])))))))) st (EXs.run st q1) fun j u H1 e01 rj q2 => ?_
  cases j with
  | int j =>
    cases rj
    obtain ⟨n, en, q3⟩ := run_of (run_bind q2)
    obtain ⟨ds, eds, q4⟩ := run_of (run_bind q3)
    obtain ⟨b, vs, hb, hbv, hp⟩ := z.get eds
    have hz := z.length
    refine ⟨a, bs.map V.ref, j, .ref b, rfl, rfl, SqL.of (e01 _ _ ha), ?_, ?_⟩
    · unfold atI
      rw [List.length_map, ← hz, en]
      simp [hb]
    · refine ⟨.inl ⟨rfl, _, SqL.of (e01 _ _ hbv)⟩, ?_⟩
      refine tD_one (k := fun d => R.when (ltLine ds.length) (R.ok (Fl.nx (ρ.set k (.ot (O.ll (dss.set n (ds ++ [d])))))))) (st.grow e01) (run_mono q4 (fun _ z => z) fun c z => EXc.mono e01 z) fun d v H2 e12 rd q5 => ?_
      obtain ⟨cz, q6⟩ := run_when q5
      have e02 := e01.trans e12
      have st2 := (st.grow e01).grow e12
      have up : ∀ d v, Sh X.K C.T H S d v → Sh X.K C.T H2 (Fw (Fw S H H1) H1 H2) d v := fun d v r => r.mono (Kp.of e02) fun _ w => .inl (.inl w)
      have z2 : Ls H2 (fun d v => Sh X.K C.T H2 (Fw (Fw S H H1) H1 H2) d v) dss bs := z.mono up fun b' m => by
        have := r.there b' (List.mem_cons_of_mem _ m)
        cases eb : H b' with
        | none => exact absurd eb this
        | some o => exact e02 _ _ eb
      have hf2 : ∀ c ∈ a :: bs, C.H0 c = none ∧ ¬ Fw (Fw S H H1) H1 H2 c := fun c m => ⟨(hf c m).1, by
        have t := r.there c m
        rintro ((w | ⟨w, _⟩) | ⟨w, _⟩)
        · exact (hf c m).2 w
        · exact t w
        · exact t (e01.free w)⟩
      obtain ⟨st3, kp⟩ := st2.inner (n := n) (ds' := ds ++ [d]) (vs' := vs ++ [v]) es e1 (e02 _ _ ha) hn nd z2 hf2 hb ((hp.mono up).snoc (rd.mono Kp.refl fun _ w => w.sh))
      refine ⟨b, vs, v, rfl, rfl, e02 _ _ hbv, ?_, ?_⟩
      · rw [← hp.length]; exact lt_line cz
      · exact q6 σ _ ⟨_, st3, fun _ w => .inl (.inl w), (Kp.of e02).trans kp fun _ w => .inl (.inl w)⟩
  | _ => exact q2.elim⟩
theorem ds_popI {y k : Nat} {x : Str} {pos' : Pos} (hN : X.N.Nodup) (hy : X.N[y]? = some x) (hx : Loc X.env.scope x) (hyk : y ≠ k) (hm : ∀ to : TE, PE X (.Subscript o c p1) to → PE X (.Call (.Attribute (.Subscript o c p1) "pop" p2) [] [] p3) (tBM0 X.K "list" rPop to))
    (ho : PE X o (tVar k)) (hi : DE X C m c fi) (hs : PlainIx c) (hw : swapsWith (.Call (.Attribute (.Subscript o c p1) "pop" p2) [] [] p3) (some (.Name x pos')) pos.line X.env = pure false := by rfl)
    (hf : X.fn x = true ∨ X.env.scope.names.lookup x = some .local := by first | exact .inl rfl | exact .inr rfl | assumption) :
    DS X C fr (.Assign [.Name x pos'] (.Call (.Attribute (.Subscript o c p1) "pop" p2) [] [] p3) pos) (dPopI y k fi) := ⟨PS.imp (ps_set hN hy hx (hm _ (pe_ix ix_list ho hi.pe hs)) hw hf) fun D σ H ⟨ρ, S, st, q⟩ => by
  unfold dPopI at q
  obtain ⟨oo, es, qa⟩ := ot_run q
  obtain ⟨dss, ed, q1⟩ := run_of (run_bind qa)
  clear q qa
  obtain rfl := ll_of ed
  obtain ⟨x0, e1, v0, F, rfl, r, hf⟩ := st.sl k _ es
  obtain ⟨a, bs, rfl, rfl, ha, hn, nd, z⟩ := ow_ll r
  refine ⟨.ref a, e1, ?_⟩
  refine tD_one (k := fun j => toI j >>= fun j => R.of (ixN dss.length j) >>= fun n => R.of dss[n]? >>= fun ds => R.of ds.getLast? >>= fun d => R.ok (Fl.nx ((ρ.set k (.ot (O.ll (dss.set n ds.dropLast)))).set y (.sh d)))) st (EXs.run st q1) fun j u H1 e01 rj q2 => ?_
  cases j with
  | int j =>
    cases rj
    obtain ⟨n, en, q3⟩ := run_of (run_bind q2)
    obtain ⟨ds, eds, q4⟩ := run_of (run_bind q3)
    obtain ⟨d, ela, q5⟩ := run_of (run_bind q4)
    have eds' : ds = ds.dropLast ++ [d] := by
      cases ds with
      | nil => simp at ela
      | cons w ws =>
        have := List.dropLast_concat_getLast (l := w :: ws) (by simp)
        rw [List.getLast?_eq_some_getLast (by simp)] at ela
        cases ela
        exact this.symm
    obtain ⟨b, vs, hb, hbv, hp⟩ := z.get eds
    have hz := z.length
    refine ⟨a, bs.map V.ref, j, .ref b, rfl, rfl, SqL.of (e01 _ _ ha), ?_, ?_⟩
    · unfold atI
      rw [List.length_map, ← hz, en]
      simp [hb]
    · refine ⟨.inl ⟨rfl, _, SqL.of (e01 _ _ hbv)⟩, ?_⟩
      have st1 := st.grow e01
      have up : ∀ d v, Sh X.K C.T H S d v → Sh X.K C.T H1 (Fw S H H1) d v := fun d v r => r.mono (Kp.of e01) fun _ w => .inl w
      have z2 : Ls H1 (fun d v => Sh X.K C.T H1 (Fw S H H1) d v) dss bs := z.mono up fun b' m => by
        have := r.there b' (List.mem_cons_of_mem _ m)
        cases eb : H b' with
        | none => exact absurd eb this
        | some o => exact e01 _ _ eb
      have hf2 : ∀ c ∈ a :: bs, C.H0 c = none ∧ ¬ Fw S H H1 c := fun c m => ⟨(hf c m).1, by
        have t := r.there c m
        rintro (w | ⟨w, _⟩)
        · exact (hf c m).2 w
        · exact t w⟩
      rw [eds'] at hp
      obtain ⟨ws, v, rfl, hp0, hv⟩ := hp.last
      obtain ⟨st3, kp⟩ := st1.inner (n := n) (ds' := ds.dropLast) (vs' := ws) es e1 (e01 _ _ ha) hn nd z2 hf2 hb (hp0.mono up)
      refine ⟨b, ws ++ [v], v, rfl, rfl, e01 _ _ hbv, by simp, ?_⟩
      rw [List.dropLast_concat]
      exact q5 _ _ ⟨_, st3.putSh ((up _ _ hv).mono kp fun _ w => w), fun _ w => .inl w, (Kp.of e01).trans kp fun _ w => .inl w⟩
  | _ => exact q2.elim⟩
end
/-- [[] for t in ..] -/
theorem ll_red {K : PySem.W.Frag} {C : Cc} {it : Ev → R (List D)} {vs : List Nat} {j : Nat} {wi : TI} {σ : L2.St} {H : Hp} {Q : VK} {ρ : Ev} {S : Addr → Prop} (his : j ∈ vs)
    (hwi : ∀ (σ : L2.St) (H : Hp) (Q : It → Hp → Prop) (ρ : Ev) (S : Addr → Prop), Sta K C ρ S σ H → run (it ρ) (fun xs => ∀ J H1, Same H H1 → ItS K C.T (Fw S H H1) J H1 xs → Q J H1) (EXc C H) → wi σ H Q)
    (st : Sta K C ρ S σ H) (q : run (it ρ >>= fun xs => R.when (lineOk xs.length) (.ok xs.length)) (fun n => ∀ (a : Addr) (bs : List Addr) (H' : Hp), Same H H' → H a = none → H' a = some (.lst (bs.map V.ref)) → a ∉ bs → bs.Nodup → bs.length = n → (∀ b ∈ bs, H b = none ∧ H' b = some (.lst [])) → Q (.ref a) H') (EXc C H)) :
    tLc wi (tDg K C [j] (gNm j)) (tDT K C bYes) (tLst tNil) vs σ H Q := by
  refine hwi σ H _ ρ S st (run_mono (run_bind q) (fun xs q1 J H1 e1 ok => ?_) fun _ z => z)
  obtain ⟨hline, q1⟩ := run_when q1
  have q1 : ∀ (a : Addr) (bs : List Addr) (H' : Hp), Same H H' → H a = none → H' a = some (.lst (bs.map V.ref)) → a ∉ bs → bs.Nodup → bs.length = xs.length → (∀ b ∈ bs, H b = none ∧ H' b = some (.lst [])) → Q (.ref a) H' := q1
  intro L hL
  have st1 := (st.grow e1).wipe vs
  refine ⟨fun i m H2 => m = xs.length - i ∧ i ≤ xs.length ∧ ∃ bs : List Addr, bs.length = i ∧ H2 L = some (.lst (bs.map V.ref)) ∧ L ∉ bs ∧ bs.Nodup ∧ (∀ b ∈ bs, H1 b = none ∧ H2 b = some (.lst [])) ∧ Same H1 H2, ⟨xs.length, by simp, Nat.zero_le _, [], rfl, upd_same, by simp, .nil, by simp, same_upd hL⟩, ?_⟩
  rintro i m H2 ⟨rfl, hi, bs, hbl, hw, hnL, nd, hbs, s2⟩
  obtain ⟨okg, oks⟩ := ok H2 s2
  by_cases hlt : i < xs.length
  · have hx : xs[i]? = some xs[i] := List.getElem?_eq_getElem hlt
    obtain ⟨go, yl⟩ := okg i _ hx
    refine .inr ⟨go, fun H' => i + 1 ≤ xs.length ∧ ∃ bs : List Addr, bs.length = i + 1 ∧ H' L = some (.lst (bs.map V.ref)) ∧ L ∉ bs ∧ bs.Nodup ∧ (∀ b ∈ bs, H1 b = none ∧ H' b = some (.lst [])) ∧ Same H1 H', fun H' z => ⟨xs.length - (i + 1), by omega, rfl, z.1, z.2⟩, fun v H3 hy => ?_⟩
    obtain ⟨e3, rv⟩ := yl v H3 hy
    have e13 := s2.trans e3
    have st3 : Sta K C (wipeE ρ vs) (fun a => Fw S H H1 a ∨ (H2 a = none ∧ H3 a ≠ none)) (L2.wipe σ vs) H3 := st1.grow' e13 (fun _ w => .inl w) fun a w => w.elim .inl fun w => .inr ⟨s2.free w.1, w.2⟩
    refine ⟨wipeE ρ vs, _, xs[i], _, st3, rv, rfl, fun σ4 st4 hσ => ⟨by rw [hσ vs (fun k hk => by rw [List.mem_singleton.mp hk]; exact his), wipe_wipe], ?_⟩⟩
    refine ⟨_, _, st4, fun H5 e5 => iteT ⟨by rw [sizeLine_eq]; show 0 ≤ 16777216; decide, fun p hp => ?_⟩⟩
    have e25 := e3.trans e5
    have hpL : p ≠ L := fun y => by
      subst y
      rw [e25 _ _ hw] at hp
      cases hp
    have hpb : p ∉ bs := fun y => by
      rw [e25 _ _ (hbs p y).2] at hp
      cases hp
    refine ⟨bs.map V.ref, ?_, ?_, hlt, bs ++ [p], by simp [hbl], ?_, ?_, ?_, fun b hb => ?_, fun a o h => ?_⟩
    · rw [upd_ne (Ne.symm hpL)]
      exact e25 _ _ hw
    · rw [List.length_map, hbl]
      have := lineOk_le hline
      omega
    · rw [upd_same, List.map_append]
      rfl
    · intro y
      rcases List.mem_append.mp y with y | y
      · exact hnL y
      · exact hpL (List.mem_singleton.mp y).symm
    · rw [List.nodup_append]
      exact ⟨nd, by simp, fun a ha b hb e => by
        rw [List.mem_singleton.mp hb] at e
        exact hpb (e ▸ ha)⟩
    · rcases List.mem_append.mp hb with y | y
      · refine ⟨(hbs b y).1, ?_⟩
        rw [upd_ne (fun z => hnL (by rw [← z]; exact y)), upd_ne (fun z => hpb (by rw [← z]; exact y))]
        exact e25 _ _ (hbs b y).2
      · rw [List.mem_singleton.mp y]
        refine ⟨s2.free (e25.free hp), ?_⟩
        rw [upd_ne hpL]
        exact upd_same
    · have h3 := e25 _ _ (s2 _ _ h)
      rw [upd_ne (fun z => by subst z; rw [hL] at h; cases h), upd_ne (fun z => by subst z; rw [hp] at h3; cases h3)]
      exact h3
  · have ei : i = xs.length := by omega
    subst ei
    exact .inl ⟨oks _ (Nat.le_refl _), q1 L bs H2 (e1.trans s2) (e1.free hL) hw hnL nd hbl fun b hb => ⟨e1.free (hbs b hb).1, (hbs b hb).2⟩⟩
@[simp] def dSetLL (i : Nat) (it : Ev → R (List D)) : Ev → R Fl := fun ρ => it ρ >>= fun xs => R.when (lineOk xs.length) (.ok (.nx (ρ.set i (.ot (O.ll (List.replicate xs.length []))))))
theorem ls_empty {H : Hp} {P : D → V → Prop} : ∀ {bs : List Addr}, (∀ b ∈ bs, H b = some (.lst [])) → Ls H P (List.replicate bs.length []) bs
  | [], _ => .nil
  | b :: bs, h => .cons (h b List.mem_cons_self) .nil (ls_empty fun c hc => h c (List.mem_cons_of_mem _ hc))
section
variable {X : Cx} {C : Cc} {tg iter : Expr} {scope : Scope} {own : List (Str × Nat)} {pos spos lp : Pos} {it : Ev → R (List D)} {fr : Bool}
theorem ds_setLL {i j : Nat} {y : Str} {py : Pos} (hc : X.calm = true) (hN : X.N.Nodup) (hy : X.N[i]? = some y) (hyl : X.env.scope.names.lookup y = some .local)
    (hsw : swapsWith (.ListComp (.List [] lp) [⟨tg, iter, [], 0⟩] scope pos) (some (.Name y py)) spos.line X.env = pure true) (hi : DIc X C tg iter it) (ok : BlkOk X.N X.env.scope scope own) (his : j ∈ own.map (·.2))
    (hg : ∀ (s : Shared) (H : Hp) (B : Addr) (cl : List (Str × Addr)) (fp : List Addr), DG (X.blk s H scope (compEnvC scope cl B X.env) fp) C [j] tg (gNm j)) (hs : ∀ x, foldedSetIterable iter X.env x = pure x := by intro _; rfl) :
    DS X C fr (.Assign [.Name y py] (.ListComp (.List [] lp) [⟨tg, iter, [], 0⟩] scope pos) spos) (dSetLL i it) := by
  obtain ⟨wi, hpi, hwi⟩ := hi
  refine ⟨PS.imp (ps_setLc (i := i) (te := tLst tNil) (tt := tDT X.K C bYes) (g := tDg X.K C [j] (gNm j)) hc hN hy hyl hsw hpi ok (fun s H B cl fp => (hg s H B cl fp).pg) (fun s H B cl fp => (dts_nil (X := X.blk s H scope (compEnvC scope cl B X.env) fp) (C := C)).pt) (fun s H B cl fp => pe_lst pa_nil) hs) fun D σ H ⟨ρ, S, st, q⟩ => ?_⟩
  refine ll_red (Q := fun x H1 => D.nx (σ.set i (some x)) H1) his hwi st ?_
  unfold dSetLL at q
  have q' : run (it ρ) (fun xs => run (R.when (lineOk xs.length) (R.ok xs.length)) (fun n => ∀ (a : Addr) (bs : List Addr) (H' : Hp), Same H H' → H a = none → H' a = some (.lst (bs.map V.ref)) → a ∉ bs → bs.Nodup → bs.length = n → (∀ b ∈ bs, H b = none ∧ H' b = some (.lst [])) → D.nx (σ.set i (some (.ref a))) H') (EXc C H)) (EXc C H) := by
    refine run_mono (run_bind q) (fun xs q1 => ?_) fun c z => EXs.exc st.same z
    obtain ⟨hl, q2⟩ := run_when q1
    rw [hl]
    intro a bs H' e ha ha' hn nd hlen hb
    have ow : ∀ {P : PL.D → V → Prop}, Ow C.T H' P (O.ll (List.replicate xs.length [])) (.ref a) (a :: bs) := fun {P} => ll_ow ha' hn nd (by rw [← hlen]; exact ls_empty fun b m => (hb b m).2)
    have fresh : ∀ c ∈ a :: bs, H c = none := fun c m => by
      rcases List.mem_cons.mp m with rfl | m
      · exact ha
      · exact (hb c m).1
    have q3 : ∀ σ' H', Nxt X.K C (ρ.set i (.ot (O.ll (List.replicate xs.length [])))) S H σ' H' → D.nx σ' H' := q2
    exact q3 _ H' ⟨S, st.given e (fun _ w => w) (fun _ w => .inl w) ⟨.ref a, a :: bs, rfl, ow, fun c m => ⟨st.same.free (fresh c m), fun w => st.bnd c w (fresh c m)⟩⟩ (fun p f => by
      obtain ⟨v, F, ev, r, m⟩ := f
      cases ev
      rw [r.uniq (ow (P := fun _ _ => True))] at m
      exact fresh p m), fun _ w => w, Kp.of e⟩
  cases hx : it ρ with
  | ok xs => rw [hx] at q'; exact q'
  | ex c => rw [hx] at q'; exact q'
  | st => rw [hx] at q'; exact q'
end
end
end PL
/-! PLN: a dict of one's own, its keys tuples of whole numbers and texts. -/
namespace PL
open PySem L2 PyProof.Rows
noncomputable section
def keyOf : D → Option Key
  | .int i => some (.inl i)
  | .str x => some (.inr x)
  | _ => none
def keysOf : List D → Option (List Key)
  | [] => some []
  | d :: ds => match keyOf d, keysOf ds with
    | some k, some ks => some (k :: ks)
    | _, _ => none
def keyD : D → Option (List Key)
  | .tup ds => keysOf ds
  | _ => none
def dKey : List Key → D := fun ks => .tup (ks.map fun k => match k with
  | .inl i => D.int i
  | .inr x => D.str x)
section
variable {K : PySem.W.Frag} {T : Tb} {H : Hp} {W : Addr → Prop}
theorem keys_v : ∀ {ds : List D} {vs : List V} {ks : List Key}, ShL K T H W ds vs → keysOf ds = some ks → vs = ks.map kV
  | [], _, ks, h, e => by
    cases h
    cases e
    rfl
  | d :: ds, _, ks, h, e => by
    cases h with
    | cons h r =>
      unfold keysOf at e
      split at e
      · rename_i k ks' e1 e2
        cases e
        rw [List.map_cons, ← keys_v r e2]
        congr 1
        cases d with
        | int i => cases e1; cases h; rfl
        | str x => cases e1; cases h; rfl
        | _ => cases e1
      · cases e
theorem key_v {d : D} {v : V} {ks : List Key} (h : Sh K T H W d v) (e : keyD d = some ks) : ∃ b, v = .ref b ∧ H b = some (.tup (ks.map kV)) := by
  cases d with
  | tup ds =>
    cases h with
    | tup h r => exact ⟨_, rfl, by rw [h, keys_v r e]⟩
  | _ => cases e
theorem sh_dKey {ks : List Key} : ShL K T H W (ks.map fun k => match k with
  | .inl i => D.int i
  | .inr x => D.str x) (ks.map kV) := by
  induction ks with
  | nil => exact .nil
  | cons k ks ih =>
    rw [List.map_cons, List.map_cons]
    refine .cons ?_ ih
    cases k with
    | inl i => exact .int i
    | inr x => exact .str x
end
/-! ### what stands at a key -/
def getK {α : Type} (ks : List (List Key)) (xs : List α) (k : List Key) : Option α := ((ks.zip xs).find? fun p => decide (p.1 = k)).map (·.2)
def hasK (ks : List (List Key)) (k : List Key) : Bool := ks.any fun k' => decide (k' = k)
theorem hasK_iff {ks : List (List Key)} {k : List Key} : hasK ks k = true ↔ k ∈ ks := by
  unfold hasK
  rw [List.any_eq_true]
  exact ⟨fun ⟨x, h, e⟩ => by rw [← of_decide_eq_true e]; exact h, fun h => ⟨k, h, decide_eq_true rfl⟩⟩
def putKs (ks : List (List Key)) (k : List Key) : List (List Key) := if hasK ks k = true then ks else ks ++ [k]
def putXs {α : Type} (ks : List (List Key)) (xs : List α) (k : List Key) (x : α) : List α := if hasK ks k = true then List.zipWith (fun k' y => if k' = k then x else y) ks xs else xs ++ [x]
theorem get_sh {K : PySem.W.Frag} {T : Tb} {H : Hp} {W : Addr → Prop} {k : List Key} : ∀ {ks : List (List Key)} {ds : List D} {vs : List V}, ShL K T H W ds vs → (∀ d, getK ks ds k = some d → ∃ v, valV (ks.zip vs) k = some v ∧ Sh K T H W d v) ∧ (getK ks ds k = none → valV (ks.zip vs) k = none)
  | [], ds, vs, _ => ⟨fun d e => by simp [getK] at e, fun _ => by simp [valV]⟩
  | k' :: ks, _, _, .nil => ⟨fun d e => by simp [getK] at e, fun _ => by simp [valV]⟩
  | k' :: ks, d0 :: ds, v0 :: vs, .cons h r => by
    by_cases e : k' = k
    · refine ⟨fun d ed => ?_, fun ed => ?_⟩
      · simp [getK, List.zip_cons_cons, List.find?_cons, e] at ed
        subst ed
        exact ⟨v0, by simp [valV, List.zip_cons_cons, List.find?_cons, e], h⟩
      · simp [getK, List.zip_cons_cons, List.find?_cons, e] at ed
    · obtain ⟨a1, a2⟩ := get_sh (k := k) (ks := ks) r
      refine ⟨fun d ed => ?_, fun ed => ?_⟩
      · have ed' : getK ks ds k = some d := by simpa [getK, List.zip_cons_cons, List.find?_cons, e] using ed
        obtain ⟨v, ev, rv⟩ := a1 d ed'
        exact ⟨v, by simpa [valV, List.zip_cons_cons, List.find?_cons, e] using ev, rv⟩
      · have ed' : getK ks ds k = none := by simpa [getK, List.zip_cons_cons, List.find?_cons, e] using ed
        simpa [valV, List.zip_cons_cons, List.find?_cons, e] using a2 ed'
theorem put_sh {K : PySem.W.Frag} {T : Tb} {H : Hp} {W : Addr → Prop} {k : List Key} {d : D} {v : V} {ks : List (List Key)} {ds : List D} {vs : List V} (hl : ks.length = vs.length) (r : ShL K T H W ds vs) (h : Sh K T H W d v) :
    putK (ks.zip vs) k v = (putKs ks k).zip (putXs ks vs k v) ∧ (putKs ks k).length = (putXs ks vs k v).length ∧ ShL K T H W (putXs ks ds k d) (putXs ks vs k v) := by
  have hany : ((ks.zip vs).any fun kv => decide (kv.1 = k)) = true ↔ k ∈ ks := by
    rw [List.any_eq_true]
    constructor
    · rintro ⟨p, hp, e⟩
      rw [← of_decide_eq_true e]
      exact (List.of_mem_zip hp).1
    · intro hk
      obtain ⟨i, hi, e⟩ := List.mem_iff_getElem.mp hk
      exact ⟨(ks[i], vs[i]), List.mem_iff_getElem.mpr ⟨i, by simp; omega, by simp⟩, decide_eq_true e⟩
  unfold putK putKs putXs
  have hany2 := hany.trans hasK_iff.symm
  clear hany
  by_cases hk : hasK ks k = true
  · rw [if_pos (hany2.mpr hk), if_pos hk, if_pos hk, if_pos hk]
    clear hany2 hk
    refine ⟨?_, by simp [hl], ?_⟩
    · induction ks generalizing vs ds with
      | nil => simp
      | cons k' ks ih =>
        cases r with
        | nil => simp at hl
        | cons h0 r =>
          simp only [List.zip_cons_cons, List.map_cons, List.zipWith_cons_cons]
          rw [ih (by simpa using hl) r]
          split <;> rfl
    · induction ks generalizing vs ds with
      | nil => simp; exact .nil
      | cons k' ks ih =>
        cases r with
        | nil => simp at hl
        | cons h0 r =>
          simp only [List.zipWith_cons_cons]
          refine .cons ?_ (ih (by simpa using hl) r)
          split
          · exact h
          · exact h0
  · rw [if_neg (fun z => hk (hany2.mp z)), if_neg hk, if_neg hk, if_neg hk]
    refine ⟨?_, by simp [hl], r.snoc h⟩
    rw [List.zip_append hl]
    rfl
theorem od_run {α : Type} {ρ : Ev} {i : Nat} {k : List (List Key) → List D → R α} {ok : α → Prop} {ex : Nat → Prop} (q : run (match ρ[i]? with | some (.od ks ds) => k ks ds | _ => R.st) ok ex) : ∃ ks ds, ρ[i]? = some (.od ks ds) ∧ run (k ks ds) ok ex := by
  cases es : ρ[i]? with
  | none => rw [es] at q; exact q.elim
  | some s =>
    rw [es] at q
    cases s with
    | od ks ds => exact ⟨ks, ds, rfl, q⟩
    | no => exact q.elim
    | sh _ => exact q.elim
    | ow _ => exact q.elim
    | nw _ => exact q.elim
    | ot _ => exact q.elim
@[simp] def sOd0 : Ev → R Sl := fun _ => .ok (.od [] [])
@[simp] def dPutD (k : Nat) (fi fv : Ev → R D) : Ev → R Fl := fun ρ => fv ρ >>= fun d => match ρ[k]? with
  | some (.od ks ds) => fi ρ >>= fun y => R.of (keyD y) >>= fun key => R.when (ltLine ks.length) (.ok (.nx (ρ.set k (.od (putKs ks key) (putXs ks ds key d)))))
  | _ => .st
@[simp] def dGetD (k : Nat) (fi : Ev → R D) : Ev → R D := fun ρ => match ρ[k]? with
  | some (.od ks ds) => fi ρ >>= fun y => R.of (keyD y) >>= fun key => R.of (getK ks ds key)
  | _ => .st
@[simp] def bInD (fi : Ev → R D) (k : Nat) : Ev → R Bool := fun ρ => fi ρ >>= fun y => match ρ[k]? with
  | some (.od ks ds) => R.of (keyD y) >>= fun key => .ok (getK ks ds key).isSome
  | _ => .st
@[simp] def bNotInD (fi : Ev → R D) (k : Nat) : Ev → R Bool := fun ρ => fi ρ >>= fun y => match ρ[k]? with
  | some (.od ks ds) => R.of (keyD y) >>= fun key => .ok (!(getK ks ds key).isSome)
  | _ => .st
@[simp] def dGet2 (k : Nat) (fi fx : Ev → R D) : Ev → R D := fun ρ => match ρ[k]? with
  | some (.od ks ds) => fi ρ >>= fun y => fx ρ >>= fun z => R.of (keyD y) >>= fun key => .ok ((getK ks ds key).getD z)
  | _ => .st
section
variable {X : Cx} {C : Cc} {fr m m' : Bool} {o i e : Expr} {fi fv fx : Ev → R D} {pos p1 p2 p3 : Pos}
theorem se_od0 : SE X C (.Dict [] [] pos) sOd0 := ⟨PE.imp pe_dnewT fun σ H Q ⟨ρ, S, st, q⟩ p hp => by
  have e : Same H (upd H p (.dT [])) := same_upd hp
  refine q (.ref p) _ S e (fun _ w => w) (fun _ w => .inl w) ⟨p, [], rfl, upd_same, rfl, st.same.free hp, fun w => st.bnd p w hp, .nil⟩ fun q f => ?_
  have f : some (V.ref p) = some (V.ref q) := f
  cases f
  exact hp⟩
theorem de_getD {k : Nat} {kk : Nat} (hr : Room kk X.A) (ho : PE X o (tVar k)) (hi : DE X C m i fi) (hs : NoSl i) : DE X C true (.Subscript o i pos) (dGetD k fi) := ⟨PE.imp (pe_dget (by have := hr.units; omega) ho hi.pe hs) fun σ H Q ⟨ρ, S, st, q⟩ => by
  unfold dGetD at q
  obtain ⟨ks, ds, es, q1⟩ := od_run q
  obtain ⟨x, e1, p, vs, rfl, h1, hl, h2, h3, r⟩ := st.sl k _ es
  refine ⟨.ref p, e1, ?_⟩
  refine tD_one (k := fun y => R.of (keyD y) >>= fun key => R.of (getK ks ds key)) st q1 fun y u H1 e01 ry q2 => ?_
  obtain ⟨key, ek, q3⟩ := run_of (run_bind q2)
  obtain ⟨d, ed, q4⟩ := run_of q3
  obtain ⟨b, rfl, hb⟩ := key_v ry ek
  obtain ⟨v, ev, rv⟩ := (get_sh (r.mono (Kp.of e01) fun _ w => w)).1 d ed
  exact ⟨p, v, rfl, by rw [← ev]; exact DGet.t (e01 _ _ h1) hb, q4 v H1 e01 (rv.mono Kp.refl fun _ w => .inl (.inl w))⟩⟩
theorem in_red {k : Nat} {c : Bool → Bool} {σ : L2.St} {H : Hp} {Q : Bool → Hp → Prop} {ρ : Ev} {S : Addr → Prop} {K : PySem.W.Frag} (st : Sta K C ρ S σ H) (q : run (fi ρ >>= fun y => match ρ[k]? with
  | some (.od ks ds) => R.of (keyD y) >>= fun key => R.ok (c (getK ks ds key).isSome)
  | _ => .st) (fun b => ∀ H', Same H H' → Q b H') (EXc C H)) : tD K C m fi σ H fun y H1 => tVar k σ H1 fun x H2 => ∃ a o, x = .ref a ∧ DGet H2 a y o ∧ ∃ c', V.bl (c o.isSome) = .bl c' ∧ Q c' H2 := by
  refine tD_one (k := fun y => match ρ[k]? with
    | some (.od ks ds) => R.of (keyD y) >>= fun key => R.ok (c (getK ks ds key).isSome)
    | _ => .st) st q fun y u H1 e01 ry q2 => ?_
  obtain ⟨ks, ds, es, q3⟩ := od_run q2
  obtain ⟨key, ek, q4⟩ := run_of (run_bind q3)
  obtain ⟨x, e1, p, vs, rfl, h1, hl, h2, h3, r⟩ := st.sl k _ es
  obtain ⟨b, rfl, hb⟩ := key_v ry ek
  have g := get_sh (k := key) (ks := ks) (r.mono (Kp.of e01) fun _ w => w)
  refine ⟨.ref p, e1, p, _, rfl, DGet.t (e01 _ _ h1) hb, _, rfl, ?_⟩
  have q5 : ∀ H', Same H H' → Q (c (getK ks ds key).isSome) H' := q4
  have es2 : (valV (ks.zip vs) key).isSome = (getK ks ds key).isSome := by
    cases ed : getK ks ds key with
    | none => rw [g.2 ed]; rfl
    | some d =>
      obtain ⟨v, ev, _⟩ := g.1 d ed
      rw [ev]; rfl
  rw [es2]
  exact q5 H1 e01
theorem dt_inD {k : Nat} {kk : Nat} (hr : Room kk X.A) (ho : PE X o (tVar k)) (hi : DE X C m i fi) (hm : behindInMarks .In o = false := by rfl) : DT X C (.Compare i [.In] [o] pos) (bInD fi k) := ⟨PT.imp (pt_cmp (pc_din (by have := hr.units; omega) hi.pe ho) hm) fun σ H Q ⟨ρ, S, st, q⟩ => in_red (c := fun b => b) (m := m) (k := k) (Q := Q) st q⟩
theorem dt_notInD {k : Nat} {kk : Nat} (hr : Room kk X.A) (ho : PE X o (tVar k)) (hi : DE X C m i fi) (hm : behindInMarks .NotIn o = false := by rfl) : DT X C (.Compare i [.NotIn] [o] pos) (bNotInD fi k) := ⟨PT.imp (pt_cmp (pc_dnotin (by have := hr.units; omega) hi.pe ho) hm) fun σ H Q ⟨ρ, S, st, q⟩ => in_red (c := fun b => !b) (m := m) (k := k) (Q := Q) st q⟩
theorem ds_putD {k : Nat} {kk : Nat} (hr : Room kk X.A) (ho : PE X o (tVar k)) (hi : DE X C m i fi) (hv : DE X C true e fv) (hs : swapsWith e (some (.Subscript o i p1)) pos.line X.env = pure false := by rfl) :
    DS X C fr (.Assign [.Subscript o i p1] e pos) (dPutD k fi fv) := ⟨PS.imp (ps_dput (by have := hr.units; omega) ho hi.pe hv.pe hs) fun D σ H ⟨ρ, S, st, q⟩ => by
  refine tD_one (k := fun d => match ρ[k]? with
    | some (.od ks ds) => fi ρ >>= fun y => R.of (keyD y) >>= fun key => R.when (ltLine ks.length) (R.ok (Fl.nx (ρ.set k (.od (putKs ks key) (putXs ks ds key d)))))
    | _ => .st) st (EXs.run st q) fun d v H1 e01 rd q2 => ?_
  obtain ⟨ks, ds, es, q3⟩ := od_run q2
  obtain ⟨x, e1, p, vs, rfl, h1, hl, h2, h3, r⟩ := st.sl k _ es
  refine ⟨.ref p, e1, ?_⟩
  have st1 := st.grow e01
  refine tD_one (k := fun y => R.of (keyD y) >>= fun key => R.when (ltLine ks.length) (R.ok (Fl.nx (ρ.set k (.od (putKs ks key) (putXs ks ds key d)))))) st1 (run_mono q3 (fun _ z => z) fun c z => EXc.mono e01 z) fun y u H2 e12 ry q4 => ?_
  obtain ⟨key, ek, q5⟩ := run_of (run_bind q4)
  obtain ⟨cz, q6⟩ := run_when q5
  obtain ⟨b, rfl, hb⟩ := key_v ry ek
  have e02 := e01.trans e12
  have st2 := st1.grow e12
  have r2 : ShL X.K C.T H2 (Fw (Fw S H H1) H1 H2) ds vs := r.mono (Kp.of e02) fun _ w => .inl (.inl w)
  obtain ⟨a1, a2, a3⟩ := put_sh (k := key) hl r2 (rd.mono (Kp.of e12) fun _ w => .inl w.sh)
  have hp : H2 p = some (.dT (ks.zip vs)) := e02 _ _ h1
  have hlen : (ks.zip vs).length < sizeLine := by
    rw [List.length_zip, ← hl, Nat.min_self]
    exact lt_line cz
  have nS : ¬ Fw (Fw S H H1) H1 H2 p := by
    rintro ((w | ⟨w, _⟩) | ⟨w, _⟩)
    · exact h3 w
    · rw [h1] at w; cases w
    · rw [e01 _ _ h1] at w; cases w
  refine ⟨p, _, rfl, DPut.t hp hb hlen, ?_⟩
  rw [a1]
  have kp : Kp (Fw (Fw S H H1) H1 H2) H2 (upd H2 p (.dT ((putKs ks key).zip (putXs ks vs key v)))) := ⟨fun a o w h _ => by
    rw [upd_ne (fun z => by subst z; exact nS w)]; exact h, fun a ws h => by
    rw [upd_ne (fun z => by subst z; rw [hp] at h; cases h)]; exact h⟩
  obtain ⟨st3, _⟩ := st2.mut (S2 := Fw (Fw S H H1) H1 H2) (H2 := upd H2 p (.dT ((putKs ks key).zip (putXs ks vs key v)))) (s' := .od (putKs ks key) (putXs ks ds key d)) es e1 (fun a o h n => by
    rw [upd_ne (fun z => by subst z; exact n rfl)]; exact h) (fun a h => h) (fun a h => .inl h) (fun a h => by
    unfold upd
    split
    · exact fun z => nomatch z
    · exact st2.bnd a h) ⟨p, _, rfl, upd_same, a2, h2, nS, a3.mono kp fun _ w => w⟩ (fun q f => .inl f)
  exact q6 σ _ ⟨_, st3, fun _ w => .inl (.inl w), (Kp.of e02).trans kp fun _ w => .inl (.inl w)⟩⟩
end
theorem _root_.PySem.L2.Room.u65 {k : Nat} {A : Around} (r : L2.Room k A) : A.units + 65 < cLine := by have := r.un; omega
section
variable {X : Cx} {C : Cc} {fr m m' : Bool} {o i e : Expr} {fi fv fx : Ev → R D} {pos p1 p2 p3 : Pos}
/-- x.index(y) -/
@[simp] def vIndex (x y : D) : R D := match x with
  | .lst xs => match D.toPyL xs, y.toPy with
    | some ps, some p => R.when (SeqAt.shaped (.list ps) && SeqAt.shaped p) (R.of (ps.findIdx? fun z => PyData.eqv z p) >>= fun n => .ok (.int (n : Nat)))
    | _, _ => .st
  | _ => .st
@[simp] def dIndex (f g : Ev → R D) : Ev → R D := fun ρ => f ρ >>= fun x => match x with
  | .lst xs => g ρ >>= fun y => vIndex (.lst xs) y
  | _ => .st
theorem de_index {kk : Nat} {f g : Ev → R D} (hr : Room kk X.A) (hm : ∀ ta tb : TE, PE X o ta → PE X e tb → PE X (.Call (.Attribute o "index" p1) [e] [] p2) (tBM X.K "list" (rIndexD X.K) ta (tCons tb tNil))) (ha : DE X C m o f) (hb : DE X C m' e g) :
    DE X C true (.Call (.Attribute o "index" p1) [e] [] p2) (dIndex f g) := ⟨PE.imp (hm _ _ ha.pe hb.pe) fun σ H Q ⟨ρ, S, st, q⟩ => by
  refine tD_one (k := fun x => match x with
    | .lst xs => g ρ >>= fun y => vIndex (.lst xs) y
    | _ => .st) st q fun x v H1 e01 rx q1 => ?_
  cases x with
  | lst xs =>
    cases rx with
    | lst h1 w1 s1 =>
      refine ⟨.inl ⟨rfl, _, SqL.of h1⟩, ?_⟩
      refine tD_one (k := fun y => vIndex (.lst xs) y) (st.grow e01) (run_mono q1 (fun _ z => z) fun c z => EXc.mono e01 z) fun y u H2 e12 ry q2 => ?_
      unfold vIndex at q2
      simp only [] at q2
      split at q2
      · rename_i ps p ex ey
        obtain ⟨c, q3⟩ := run_when q2
        rw [Bool.and_eq_true] at c
        obtain ⟨n, en, q4⟩ := run_of (run_bind q3)
        obtain ⟨hn1, hn2, hn3⟩ := List.findIdx?_eq_some_iff_getElem.mp en
        have d1 : Dp X.K H2 (.ref _) (.list ps) := (Sh.lst (e12 _ _ h1) w1 (s1.mono (Kp.of e12) fun _ w => w)).dp (by rw [D.toPy, ex]; rfl)
        refine ⟨_, u, p, ps, n, ps[n], rfl, rfl, d1, ry.dp ey, c.1, c.2, List.getElem?_eq_getElem hn1, hn2, fun j z' hj hz' => ?_, q4 _ H2 (e01.trans e12) (.int _)⟩
        have := hn3 j hj
        obtain ⟨hjl, rfl⟩ := List.getElem?_eq_some_iff.mp hz'
        simpa using this
      · exact q2.elim
  | _ => exact q1.elim⟩
end
end
end PL
/-! PLO: three at once; x.pop(0). -/
namespace PL
open PySem L2 PyProof.Rows
noncomputable section
@[simp] def gThree (i j l : Nat) : D → Ev → Option Ev := fun d ρ => match d with
  | .tup [x, y, z] => some (((ρ.set i (.sh x)).set j (.sh y)).set l (.sh z))
  | _ => none
@[simp] def dPar3 (i j l : Nat) (h1 h2 h3 : Ev → R Sl) : Ev → R Fl := fun ρ => h1 ρ >>= fun s => h2 ρ >>= fun t => h3 ρ >>= fun u => .ok (.nx (((ρ.set i s).set j t).set l u))
@[simp] def dUnpPop0 (k : Nat) (g : D → Ev → Option Ev) : Ev → R Fl := fun ρ => match ρ[k]? with
  | some (.ow (d :: ds)) => R.of (g d (ρ.set k (.ow ds))) >>= fun ρ' => .ok (.nx ρ')
  | _ => .st
section
variable {X : Cx} {C : Cc} {fr m : Bool} {a b c : Expr} {pos : Pos}
theorem dg_three {i j l k : Nat} {x y z : Str} {p1 p2 p3 : Pos} (hc : X.calm = true) (hN : X.N.Nodup) (hi : X.N[i]? = some x) (hj : X.N[j]? = some y) (hl : X.N[l]? = some z) (hx : Loc X.env.scope x) (hy : Loc X.env.scope y) (hz : Loc X.env.scope z)
    (hf1 : X.fn x = true ∨ X.env.scope.names.lookup x = some .local := by first | exact .inl rfl | exact .inr rfl | assumption) (hf2 : X.fn y = true ∨ X.env.scope.names.lookup y = some .local := by first | exact .inl rfl | exact .inr rfl | assumption)
    (hf3 : X.fn z = true ∨ X.env.scope.names.lookup z = some .local := by first | exact .inl rfl | exact .inr rfl | assumption) :
    DG X C [i, j, l] (.Tuple [.Name x p1, .Name y p2, .Name z p3] k pos) (gThree i j l) := ⟨PG.imp (pg_tup hc (pgs_cons (pg_name hN hi hx hf1) (pgs_cons (pg_name hN hj hy hf2) (pgs_cons (pg_name hN hl hz hf3) pgs_nil)))) fun v σ H Q ⟨ρ, S, d, ρ', st, r, e, q⟩ => by
  unfold gThree at e
  split at e
  · cases e
    cases r with
    | tup h r =>
      cases r with
      | cons h1 r =>
        cases r with
        | cons h2 r =>
          obtain ⟨u, rfl, h3⟩ := r.one
          exact ⟨_, _, rfl, seqT h, rfl, _, _, rfl, _, _, rfl, _, _, rfl, rfl, q _ (((st.putSh h1).putSh h2).putSh h3) fun ws h => by rw [wipe_set (h l (by simp)), wipe_set (h j (by simp)), wipe_set (h i (by simp))]⟩
  · cases e⟩
theorem ds_par3 {i j l : Nat} {x y z : Str} {h1 h2 h3 : Ev → R Sl} {px py pz pt : Pos} {kt k2 : Nat} {pt2 : Pos} (hc : X.calm = true) (hN : X.N.Nodup) (hi : X.N[i]? = some x) (hj : X.N[j]? = some y) (hl : X.N[l]? = some z) (hij : i ≠ j) (hil : i ≠ l) (hjl : j ≠ l)
    (hx : X.env.scope.names.lookup x = some .local) (hy : X.env.scope.names.lookup y = some .local) (hz : X.env.scope.names.lookup z = some .local) (ha : SE X C a h1) (hb : SE X C b h2) (hcc : SE X C c h3)
    (hw : swappedStores [.Tuple [.Name x px, .Name y py, .Name z pz] kt pt] (.Tuple [a, b, c] k2 pt2) X.env = pure (some [x, y, z]))
    (hs : swapsWithSole [.Tuple [.Name x px, .Name y py, .Name z pz] kt pt] (.Tuple [a, b, c] k2 pt2) pos.line X.env = pure false := by rfl)
    (s1 : starEach [a, b, c] X.env = (false, eval a X.env) :: starEach [b, c] X.env := by rfl) (s2 : starEach [b, c] X.env = (false, eval b X.env) :: starEach [c] X.env := by rfl) (s3 : starEach [c] X.env = (false, eval c X.env) :: starEach [] X.env := by rfl) :
    DS X C fr (.Assign [.Tuple [.Name x px, .Name y py, .Name z pz] kt pt] (.Tuple [a, b, c] k2 pt2) pos) (dPar3 i j l h1 h2 h3) :=
  ⟨PS.imp (ps_par3 hc hN hi hj hl hij hil hjl hx hy hz (pa_cons ha.pe (pa_cons hb.pe (pa_cons hcc.pe pa_nil s3) s2) s1) hw hs) fun D σ H ⟨ρ, S, st, q⟩ => by
  refine ⟨ρ, S, st, run_mono (run_bind q) (fun s q1 v H1 S1 e1 l1 u1 ok1 fr1 => ?_) fun c z => EXs.exc st.same z⟩
  have st1 := st.grow' e1 l1 u1
  refine ⟨ρ, S1, st1, run_mono (run_bind q1) (fun t q2 w H2 S2 e2 l2 u2 ok2 fr2 => ?_) fun c z => EXs.exc st1.same z⟩
  have st2 := st1.grow' e2 l2 u2
  refine ⟨ρ, S2, st2, run_mono (run_bind q2) (fun r q3 x H3 S3 e3 l3 u3 ok3 fr3 => ?_) fun c z => EXs.exc st2.same z⟩
  have q4 : ∀ σ' H', Nxt X.K C (((ρ.set i s).set j t).set l r) S H σ' H' → D.nx σ' H' := q3
  have sp := ((st.given (i := i) e1 l1 u1 ok1 fr1).given (i := j) e2 l2 u2 ok2 fr2).given (i := l) e3 l3 u3 ok3 fr3
  exact ⟨v, w, x, rfl, q4 _ H3 ⟨S3, sp, fun a z => l3 a (l2 a (l1 a z)), Kp.of ((e1.trans e2).trans e3)⟩⟩⟩
theorem ds_unpPop0 {k kk : Nat} {tg o : Expr} {is : List Nat} {g : D → Ev → Option Ev} {p1 p2 p3 : Pos} (hm : ∀ to t : TE, PE X o to → PE X (.Constant (.int 0) kk p3) t → PE X (.Call (.Attribute o "pop" p1) [.Constant (.int 0) kk p3] [] p2) (tBM X.K "list" rPopAt to (tCons t tNil)))
    (ho : PE X o (tVar k)) (hg : DG X C is tg g) (hs : swapsWithSole [tg] (.Call (.Attribute o "pop" p1) [.Constant (.int 0) kk p3] [] p2) pos.line X.env = pure false := by rfl) (hw : swappedStores [tg] (.Call (.Attribute o "pop" p1) [.Constant (.int 0) kk p3] [] p2) X.env = pure none := by rfl)
    (h1 : (assignEach [tg] X.env).map (·.2) = [assign tg X.env] := by rfl) : DS X C fr (.Assign [tg] (.Call (.Attribute o "pop" p1) [.Constant (.int 0) kk p3] [] p2) pos) (dUnpPop0 k g) := ⟨PS.imp (ps_asg (hm _ _ ho pe_int) hg.pg hs hw h1) fun D σ H ⟨ρ, S, st, q⟩ => by
  unfold dUnpPop0 at q
  split at q
  · rename_i d ds es
    obtain ⟨ρ', eg, q3⟩ := run_of (run_bind q)
    obtain ⟨x, e1, p, vs, rfl, h1, h2, h3, r⟩ := st.sl k _ es
    cases r with
    | cons hd hr =>
      rename_i v vs
      refine ⟨.ref p, e1, .inl ⟨rfl, _, SqL.of h1⟩, ?_⟩
      obtain ⟨st2, kp⟩ := st.chg1 (vs' := vs) (ds' := ds) (Same.refl _) es e1 h1 h2 h3 hr
      refine ⟨p, v :: vs, 0, 0, v, rfl, rfl, h1, by decide, by decide, ?_, rfl, ?_⟩
      · unfold seqIndex?
        simp
      · refine ⟨_, S, d, ρ', st2, hd.mono kp fun _ w => w, eg, fun σ' st' _ => ?_⟩
        have q4 : ∀ σ' H', Nxt X.K C ρ' S H σ' H' → D.nx σ' H' := q3
        exact q4 σ' _ ⟨S, st', fun _ z => z, kp⟩
  · exact q.elim⟩
end
end
end PL
/-! PLP: own classes: what an instance that is never changed holds, its methods, its making. -/
namespace PL
open PySem L2 PyProof.Rows
noncomputable section
/-- what the walks ask of an own class -/
structure ClF (K : PySem.W.Frag) (C : Addr) : Prop where
  cl : Cls K C
  ha : PySem.W.findIn K (.ref C) "__class__" = some (some (.builtin "object.__class__"))
  hm : PySem.W.mroIn K C (.type "object") = some true
structure ClG (K : PySem.W.Frag) : Prop where
  hn : PySem.W.specialIn K (.builtin "object.__class__") "__get__" = some (some (.builtin "getset_descriptor.__get__"))
  htk : PySem.W.takesIn K (.builtin "object.__class__") = some true
theorem PE.some {X : Cx} {e : Expr} {ι : Type} {t : ι → TE} (h : ∀ i, PE X e (t i)) : PE X e (fun σ H Q => ∃ i, t i σ H Q) := ⟨fun pins s σ H Q I ⟨i, q⟩ => (h i).run pins s σ H Q I q⟩

/-! ### fields, isinstance -/
@[simp] def dFld (tab : List (Nat × Nat)) (fo : Ev → R D) : Ev → R D := fun ρ => fo ρ >>= fun d => match d with
  | .ob c fs => R.of (tab.lookup c) >>= fun i => R.of fs[i]?
  | _ => .st
def FdOk (K : PySem.W.Frag) (T : Tb) (tab : List (Nat × Nat)) (f : Str) : Prop := ∀ c i, tab.lookup c = some i → Cls K (T.ct c) ∧ NoAttr K (T.ct c) f ∧ ∀ vs : List V, (T.fl c).length = vs.length → ((T.fl c).zip vs).lookup f = vs[i]?
@[simp] def dIsC (tab : List (Nat × Bool)) (fo : Ev → R D) : Ev → R D := fun ρ => fo ρ >>= fun d => match d with
  | .ob c _ => R.of (tab.lookup c) >>= fun b => .ok (.bl b)
  | _ => .st
def IsOk (K : PySem.W.Frag) (T : Tb) (tab : List (Nat × Bool)) (C1 : Addr) : Prop := ∀ c b, tab.lookup c = some b → ClF K (T.ct c) ∧ PySem.W.kitOne K (.ref (T.ct c)) (.ref C1) = some b
section
variable {X : Cx} {C : Cc} {m m' : Bool} {o a : Expr} {f : Str} {fo : Ev → R D} {pos p q1 : Pos}
theorem de_fld {tab : List (Nat × Nat)} (ht : FdOk X.K C.T tab f) (h : DE X C m o fo) (hb : attributeBase o f X.env (eval o X.env) = eval o X.env := by rfl) : DE X C m (.Attribute o f pos) (dFld tab fo) :=
  ⟨PE.imp (pe_fld h.pe hb) fun σ H Q ⟨ρ, S, st, q⟩ => tD_one (k := fun d => match d with
    | .ob c fs => R.of (tab.lookup c) >>= fun i => R.of fs[i]?
    | _ => .st) st q fun d v H1 e r q2 => by
    cases d with
    | ob c fs =>
      obtain ⟨i, ei, q3⟩ := run_of (run_bind q2)
      obtain ⟨x, ex, q4⟩ := run_of q3
      cases r with
      | ob h1 w hl rs =>
        obtain ⟨u, eu, ru⟩ := rs.get ex
        obtain ⟨a1, a2, a3⟩ := ht c i ei
        exact ⟨_, _, _, _, u, rfl, h1, a1, a2, by rw [a3 _ hl]; exact eu, q4 u H1 e ru⟩
    | _ => exact q2.elim⟩
theorem de_isC {C1 : Addr} {y : Str} {tab : List (Nat × Bool)} (G : ClG X.K) (ht : IsOk X.K C.T tab C1) (hg : Gl X "isinstance") (hm : X.mg "isinstance" = none) (ha : DE X C m a fo) (hb : PE X (.Name y q1) (tC (.ref C1)))
    (he : starEach [a, .Name y q1] X.env = (false, eval a X.env) :: starEach [.Name y q1] X.env := by rfl) (hpl : (backTo pos (starEach [.Name y q1] X.env)).any (·.1) = false := by rfl)
    (hs : starEach [.Name y q1] X.env = (false, eval (.Name y q1) X.env) :: starEach [] X.env := by rfl) : DE X C m' (.Call (.Name "isinstance" p) [a, .Name y q1] [] pos) (dIsC tab fo) :=
  ⟨PE.imp (pe_callB call_isi hg hm (by decide +kernel) (pa_cons ha.pe (pa_cons hb pa_nil hs) he) (by decide) (by decide) he hpl) fun σ H Q ⟨ρ, S, st, q⟩ => tD_one (k := fun d => match d with
    | .ob c _ => R.of (tab.lookup c) >>= fun b => R.ok (D.bl b)
    | _ => .st) st q fun d v H1 e r q2 => by
    cases d with
    | ob c fs =>
      obtain ⟨b, eb, q3⟩ := run_of (run_bind q2)
      cases r with
      | ob h1 w hl rs =>
        obtain ⟨a1, a2⟩ := ht c b eb
        exact ⟨_, .ref C1, .ref (C.T.ct c), .ref C1, b, rfl, .own C1, .base (.ins h1 a1.cl a1.ha G.hn G.htk a1.hm), a2, q3 _ H1 e (.bl b)⟩
    | _ => exact q2.elim⟩
end

/-! ### methods of such an instance -/
structure MD (P : Program) (w : World) (K : PySem.W.Frag) (mg : Str → Option Value) (base : Heap) (T : Tb) (c : Nat) (m : Str) (k n : Nat) (g : List D → R D) : Prop where
  ex : ∃ (f : Addr) (fd : FuncData) (ps : List Str) (CX : CXT), FnOk P w K mg base CX k f fd ps (spD K T (n + 1) false g) ∧ Cls K (T.ct c) ∧ Meth K (T.ct c) m f ∧ Binds K fd ps [] ∧ m ∉ T.fl c ∧ ∀ X : Cx, X.prog = P → X.w = w → Passes CX X E0
theorem MD.of0 {P : Program} {w : World} {K : PySem.W.Frag} {mg : Str → Option Value} {base : Heap} {T : Tb} {c : Nat} {m : Str} {k n : Nat} {g : List D → R D} {f : Addr} {fd : FuncData} {ps : List Str} (F : FnOk P w K mg base CX0 k f fd ps (spD K T (n + 1) false g))
    (c1 : Cls K (T.ct c)) (hm : Meth K (T.ct c) m f) (b : Binds K fd ps []) (hn : m ∉ T.fl c) : MD P w K mg base T c m k n g := ⟨f, fd, ps, CX0, F, c1, hm, b, hn, fun X _ _ => pass0⟩
theorem MD.mono {P : Program} {w : World} {K : PySem.W.Frag} {mg : Str → Option Value} {base : Heap} {T : Tb} {c : Nat} {m : Str} {k k' n : Nat} {g : List D → R D} (F : MD P w K mg base T c m k n g) (h : k ≤ k') : MD P w K mg base T c m k' n g := by
  obtain ⟨f, fd, ps, CX, F, r⟩ := F
  exact ⟨f, fd, ps, CX, F.mono h, r⟩
theorem lookup_zip_none {α : Type} {m : Str} : ∀ {fs : List Str} {vs : List α}, m ∉ fs → (fs.zip vs).lookup m = none
  | [], _, _ => rfl
  | f :: fs, [], _ => rfl
  | f :: fs, v :: vs, h => by
    rw [List.mem_cons, not_or] at h
    have hb : (m == f) = false := beq_eq_false_iff_ne.mpr h.1
    rw [List.zip_cons_cons, List.lookup_cons, hb]
    exact lookup_zip_none h.2
@[simp] def dMeth (n : Nat) (tab : List (Nat × (List D → R D))) (fo : Ev → R D) (fs : Ev → R (List D)) : Ev → R D := fun ρ => noex (fo ρ) >>= fun d => match d with
  | .ob c xs => R.of (tab.lookup c) >>= fun g => fs ρ >>= fun ds => if ds.length = n then noex (g (.ob c xs :: ds)) else .st
  | _ => .st
section
variable {X : Cx} {C : Cc} {m m' : Bool} {o e : Expr} {mt : Str} {fo : Ev → R D} {fs : Ev → R (List D)} {es : List Expr} {pos apos : Pos} {k n : Nat}
theorem de_meth {tab : List (Nat × (List D → R D))} (hr : Room k X.A) (ht : ∀ c g, tab.lookup c = some g → MD X.prog X.w X.K X.mg X.base C.T c mt k n g) (h : DE X C m o fo) (ha : DA X C m (e :: es) fs)
    (hev : ∃ pl : Sem Bool, eval (.Call (.Attribute o mt apos) (e :: es) [] pos) X.env = (do
      let ov ← eval o X.env
      standAt apos.atName
      let (f, first) ← holding [ov] (getMethod ov mt pl)
      callWith pos f first (backTo pos (starEach (e :: es) X.env)) (backToKw pos (keywordEach [] X.env))) := by exact ⟨_, rfl⟩)
    (hst : starEach (e :: es) X.env = (false, eval e X.env) :: starEach es X.env := by rfl) (hpl : (backTo pos (starEach es X.env)).any (·.1) = false := by rfl) :
    DE X C m (.Call (.Attribute o mt apos) (e :: es) [] pos) (dMeth n tab fo fs) := by
  obtain ⟨pl, hev⟩ := hev
  refine ⟨PE.imp (PE.some (ι := { p : Nat × (List D → R D) // tab.lookup p.1 = Option.some p.2 }) (t := fun i => tMeth (C.T.ct i.1.1) mt (spD X.K C.T (n + 1) false i.1.2) [] E0 (tD X.K C m fo) (tDA X.K C m fs)) fun i => ?_) fun σ H Q ⟨ρ, S, st, q⟩ => ?_⟩
  · obtain ⟨f, fd, ps, CX, F, c1, hm, b, hn, hx⟩ := ht i.1.1 i.1.2 i.2
    exact pe_meth (pl := pl) h.pe c1 hm F hr b .nil (hx X rfl rfl) ha.pa hst hpl hev
  · unfold dMeth at q
    obtain ⟨d, ed, q1⟩ := run_noex (run_bind q)
    cases d with
    | ob c xs =>
      obtain ⟨g, eg, q2⟩ := run_of (run_bind q1)
      obtain ⟨f, fd, ps, CX, F, c1, hm, b, hn, hx⟩ := ht c g eg
      refine ⟨⟨(c, g), eg⟩, ρ, S, st, ?_⟩
      rw [ed]
      intro v H1 e1 r1
      have r1' := r1
      cases r1 with
      | ob h1 w hl rs =>
        refine ⟨_, _, _, rfl, h1, lookup_zip_none hn, ?_⟩
        refine tDA_one (k := fun ds => if ds.length = n then noex (g (.ob c xs :: ds)) else .st) (st.grow e1) (run_mono q2 (fun _ z => z) fun c z => EXc.mono e1 z) fun ds vs H2 e2 r2 q3 => ?_
        obtain ⟨hn2, q3⟩ := run_if q3
        obtain ⟨d, ed2, q4⟩ := run_noex q3
        rw [List.append_nil]
        have e12 := e1.trans e2
        refine ⟨.ob c xs :: ds, fun a => Wf m C.H0 S H H2 a ∧ H2 a ≠ none, fun a h => h.2, by rw [List.length_cons, hn2], sh_alloc (.cons (r1'.mono (Kp.of e2) fun a w => Wf.more e2 w) (r2.mono Kp.refl fun a w => Wf.trans e1 e2 w)), ?_⟩
        show run (g (.ob c xs :: ds)) _ _
        rw [ed2]
        intro v2 H' e3 rv
        have rv : Sh X.K C.T H' (Fw (fun a => Wf m C.H0 S H H2 a ∧ H2 a ≠ none) H2 H') d v2 := rv
        exact q4 v2 H' (e12.trans e3) (rv.mono Kp.refl fun a w => foot_call e12 e3 w)
    | _ => exact q1.elim
end

/-! ### new instances -/
def tOb (K : PySem.W.Frag) (C : Cc) (f : Ev → R (Nat × List D)) : TE := fun σ H Q => ∃ ρ S, Sta K C ρ S σ H ∧ run (f ρ) (fun o => ∀ p dx vs H', Same H H' → H p = none → H' p = some (.ins (C.T.ct o.1) dx ((C.T.fl o.1).zip vs)) → (C.T.fl o.1).length = vs.length →
  ShL K C.T H' (fun a => Fw S H H' a ∧ a ≠ p) o.2 vs → Q (.ref p) H') (EXc C H)
structure OE (X : Cx) (C : Cc) (e : Expr) (f : Ev → R (Nat × List D)) : Prop where
  pe : PE X e (tOb X.K C f)
@[simp] def oD (f : Ev → R (Nat × List D)) : Ev → R D := fun ρ => f ρ >>= fun o => .ok (.ob o.1 o.2)
@[simp] def oIf (t : Ev → R Bool) (f g : Ev → R (Nat × List D)) : Ev → R (Nat × List D) := fun ρ => t ρ >>= fun b => if b = true then f ρ else g ρ
@[simp] def oMake (c n : Nat) (fs : Ev → R (List D)) : Ev → R (Nat × List D) := fun ρ => fs ρ >>= fun ds => if ds.length = n then .ok (c, ds) else .st
@[simp] def dRetOb (f : Ev → R (Nat × List D)) : Ev → R Fl := fun ρ => f ρ >>= fun o => .ok (.rt (.ob o.1 o.2))
@[simp] def unO : D → R (Nat × List D)
  | .ob c xs => .ok (c, xs)
  | _ => .st
@[simp] def oCall (n : Nat) (g : List D → R D) (fs : Ev → R (List D)) : Ev → R (Nat × List D) := fun ρ => fs ρ >>= fun ds => if ds.length = n then noex (g ds) >>= unO else .st
@[simp] def oFlat (f : Ev → R (Nat × List D)) : Ev → R (Nat × List D) := fun ρ => f ρ >>= fun o => R.when (D.flatL o.2) (.ok o)
/-- an __init__ that stores its arguments, each by its name -/
def spInit (T : Tb) (c n : Nat) : Sp := fun vs H Q _ => ∃ (x dx : Addr) (us : List V), vs = .ref x :: us ∧ us.length = n ∧ H x = some (.ins (T.ct c) dx []) ∧ Q .non (upd H x (.ins (T.ct c) dx ((T.fl c).zip us)))
structure IniOk (P : Program) (w : World) (K : PySem.W.Frag) (mg : Str → Option Value) (base : Heap) (T : Tb) (c k n : Nat) : Prop where
  ex : ∃ (f : Addr) (fd : FuncData) (ps : List Str), FnOk P w K mg base CX0 k f fd ps (spInit T c n) ∧ Mk K (T.ct c) f ∧ Binds K fd ps [] ∧ (T.fl c).length = n
section
variable {X : Cx} {C : Cc} {m m' fr : Bool} {a b cc e : Expr} {x : Str} {f g : Ev → R (Nat × List D)} {ft : Ev → R Bool} {fs : Ev → R (List D)} {es : List Expr} {pos p : Pos} {k n : Nat}
theorem OE.de (h : OE X C a f) : DE X C m a (oD f) := ⟨PE.imp h.pe fun σ H Q ⟨ρ, S, st, q⟩ =>
  ⟨ρ, S, st, run_mono (run_bind q) (fun o q p dx vs H' e hn hp hl r => q _ H' e (.ob hp (.inl (.inr ⟨hn, by rw [hp]; exact fun z => nomatch z⟩)) hl (r.mono Kp.refl fun a w => .inl w.1))) fun _ z => z⟩⟩
theorem oe_if (hc : DT X C cc ft) (ha : OE X C a f) (hb : OE X C b g) : OE X C (.IfExp cc a b pos) (oIf ft f g) := ⟨PE.imp (pe_ifExp hc.pt ha.pe hb.pe) fun σ H Q ⟨ρ, S, st, q⟩ =>
  tDT_one (k := fun b => if b = true then f ρ else g ρ) st q fun c H1 e q2 => by
    have go : ∀ {h : Ev → R (Nat × List D)}, run (h ρ) (fun o => ∀ p dx vs H', Same H H' → H p = none → H' p = some (.ins (C.T.ct o.1) dx ((C.T.fl o.1).zip vs)) → (C.T.fl o.1).length = vs.length →
        ShL X.K C.T H' (fun a => Fw S H H' a ∧ a ≠ p) o.2 vs → Q (.ref p) H') (EXc C H) → tOb X.K C h σ H1 Q := fun q => ⟨ρ, _, st.grow e, run_mono q (fun o z p dx vs H' e' hn hp hl r => z p dx vs H' (e.trans e') (e.free hn) hp hl (r.mono Kp.refl fun a w => ⟨Fw.trans e e' w.1, w.2⟩)) fun c z => EXc.mono e z⟩
    cases c with
    | true =>
      rw [if_pos rfl] at q2 ⊢
      exact go q2
    | false =>
      rw [if_neg Bool.false_ne_true] at q2 ⊢
      exact go q2⟩
theorem made_same {H1 : Hp} {x dx : Addr} {o o' : HO} (hx : H1 x = none) (hd : H1 dx = none) : Same H1 (upd (upd H1 dx o) x o') := fun b u e => by
  rw [upd_ne (ne_of_none e hx), upd_ne (ne_of_none e hd)]
  exact e
theorem upd_twice {H : Hp} {x : Addr} {o o' : HO} : upd (upd H x o) x o' = upd H x o' := by
  funext b
  unfold upd
  split <;> rfl
theorem shl_made {K : PySem.W.Frag} {T : Tb} {S : Addr → Prop} {H H2 H3 : Hp} {p : Addr} {vs : List V} {ds : List D} (e : Same H H2) (hb : ∀ a, S a → H a ≠ none) (h : H2 p = none) (e3 : Same H2 H3) (r : ShL K T H2 (Wf true C.H0 S H H2) ds vs) :
    ShL K T H3 (fun a => Fw S H H3 a ∧ a ≠ p) ds vs :=
  r.mono (Kp.of e3) fun a w => ⟨Fw.more e3 w.sh, fun z => by
    subst z
    rcases w.sh with z | ⟨_, z⟩
    · exact hb _ z (e.free h)
    · exact z h⟩
theorem oe_make {c : Nat} (M : IniOk X.prog X.w X.K X.mg X.base C.T c k n) (hr : Room (k + 1) X.A) (hg : Gl X x) (hm : X.mg x = some (.ref (C.T.ct c))) (ha : DA X C true (e :: es) fs) (hdb : (x == ("__debug__" : Str)) = false := by decide)
    (he : starEach (e :: es) X.env = (false, eval e X.env) :: starEach es X.env := by rfl) (hpl : (backTo pos (starEach es X.env)).any (·.1) = false := by rfl) : OE X C (.Call (.Name x p) (e :: es) [] pos) (oMake c n fs) := by
  obtain ⟨f, fd, ps, F, mk, b, hl⟩ := M
  refine ⟨PE.imp (pe_make mk F hr hg hm b .nil (E := E0) pass0 ha.pa hdb he hpl) fun σ H Q ⟨ρ, S, st, q⟩ => tDA_one (k := fun ds => if ds.length = n then R.ok (c, ds) else .st) st q fun ds vs H1 e1 r q2 => ?_⟩
  obtain ⟨hn, q3⟩ := run_if q2
  intro y dx hy hdx hne
  rw [List.append_nil]
  refine ⟨y, dx, vs, rfl, by rw [← r.length, hn], upd_same, rfl, ?_⟩
  rw [upd_twice]
  have s3 : Same H1 (upd (upd H1 dx (.own y)) y (.ins (C.T.ct c) dx ((C.T.fl c).zip vs))) := made_same hy hdx
  exact q3 y dx vs _ (e1.trans s3) (e1.free hy) upd_same (by rw [hl, ← r.length, hn]) (shl_made e1 st.bnd hy s3 r)
/-- C() of a class without an __init__ of its own -/
structure IniNo (K : PySem.W.Frag) (T : Tb) (c : Nat) : Prop where
  mks : PySem.W.makesIn K (T.ct c) = true
  ini : PySem.W.findIn K (.ref (T.ct c)) "__init__" = some (some (.builtin "object.__init__"))
  kp : PySem.W.keepIn K (.ref (T.ct c)) = true
  top : PySem.W.mroIn K (T.ct c) (.type "object") = some true
  fl : T.fl c = []
theorem pe_makeP {C1 : Addr} (mk : PySem.W.makesIn X.K C1 = true) (ini : PySem.W.findIn X.K (.ref C1) "__init__" = some (some (.builtin "object.__init__"))) (kp : PySem.W.keepIn X.K (.ref C1) = true) (top : PySem.W.mroIn X.K C1 (.type "object") = some true)
    (hg : Gl X x) (hm : X.mg x = some (.ref C1)) (hdb : (x == ("__debug__" : Str)) = false := by decide) :
    PE X (.Call (.Name x p) [] [] pos) (fun σ H Q => ∀ y dx, H y = none → H dx = none → dx ≠ y → Q (.ref y) (upd (upd H dx (.own y)) y (.ins C1 dx []))) := by
  refine ⟨fun pins s σ H Q I h => ?_⟩
  refine wpAny_Call_Name_kw (ld_glob I hg hm ?_ hdb)
  refine PySem.W.callWith_K0 I.kIn kp ?_
  have hq := h (s.heap.objs.size + 1) s.heap.objs.size (I.hok.fresh (Nat.le_succ _)) (I.hok.fresh (Nat.le_refl _)) (Nat.ne_of_lt (Nat.lt_succ_self _))
  have I2 := Inv.made (C := C1) I
  refine wpAny_call (make_map0 I.kIn mk ini (fun self => PySem.W.Looks.of_pure (PySem.W.oi_bind self)) ?_)
  have t2 : PySem.W.Looks (model X.prog X.w) ((s.heap.push PySem.W.emptyDict).push (PySem.W.instObj C1 s.heap.objs.size)) (isInstance (.ref (s.heap.objs.size + 1)) (.type "object")) true := by
    have hget : ((s.heap.push PySem.W.emptyDict).push (PySem.W.instObj C1 s.heap.objs.size)).get? (s.heap.objs.size + 1) = some (PySem.W.instObj C1 s.heap.objs.size) := by
      have := Heap.get?_push_size (h := s.heap.push PySem.W.emptyDict) (o := PySem.W.instObj C1 s.heap.objs.size) rfl
      rwa [Heap.size_push] at this
    exact ((PySem.W.Looks.ld hget).andThen .now).andThen (PySem.W.looks_mroIn I2.kIn top)
  refine codeAny_call_builtin PySem.W.oi_plain PySem.W.entry_oi (PySem.W.check_slot PySem.W.oi_kind PySem.W.oi_split t2 (PySem.W.oi_args _ ) ?_)
  rw [PySem.W.oi_run]
  exact wpAny_pure ⟨rfl, ⟨V.ref (s.heap.objs.size + 1), _, I2, rfl, hq⟩⟩
theorem oe_make0 {c : Nat} (M : IniNo X.K C.T c) (hg : Gl X x) (hm : X.mg x = some (.ref (C.T.ct c))) (hdb : (x == ("__debug__" : Str)) = false := by decide) : OE X C (.Call (.Name x p) [] [] pos) (oMake c 0 aNil) :=
  ⟨PE.imp (pe_makeP M.mks M.ini M.kp M.top hg hm hdb) fun σ H Q ⟨ρ, S, st, q⟩ y dx hy hdx hne => by
    have s3 : Same H (upd (upd H dx (.own y)) y (.ins (C.T.ct c) dx [])) := made_same hy hdx
    have q3 : ∀ p dx vs H', Same H H' → H p = none → H' p = some (.ins (C.T.ct c) dx ((C.T.fl c).zip vs)) → (C.T.fl c).length = vs.length → ShL X.K C.T H' (fun a => Fw S H H' a ∧ a ≠ p) [] vs → Q (.ref p) H' := q
    exact q3 y dx [] _ s3 hy (by rw [M.fl]; exact upd_same) (by rw [M.fl]; rfl) .nil⟩
theorem ds_retOb (h : OE X C a f) : DS X C true (.Return (some a) pos) (dRetOb f) := ⟨PS.imp (ps_ret h.pe) fun D σ H ⟨ρ, S, st, q⟩ =>
  ⟨ρ, S, st, run_mono (run_bind q) (fun o q1 p dx vs H1 e hn hp hl r => q1 (.ref p) H1 (st.same.trans e) (.ob (st.same.free hn) hp hl (r.mono Kp.refl fun a w => ⟨st.foot e w.1, w.2⟩))) fun c z => EXs.exc st.same z⟩⟩
theorem oe_call (F : FD X.prog X.w X.K X.mg X.base C.T x k n true gg) (hr : Room k X.A) (hg : Gl X x) (ha : DA X C true (e :: es) fs) (hdb : (x == ("__debug__" : Str)) = false := by decide)
    (he : starEach (e :: es) X.env = (false, eval e X.env) :: starEach es X.env := by rfl) (hpl : (backTo pos (starEach es X.env)).any (·.1) = false := by rfl) : OE X C (.Call (.Name x p) (e :: es) [] pos) (oCall n gg fs) := by
  obtain ⟨f, fd, ps, CX, F, hm, hk, hb, hx⟩ := F
  refine ⟨PE.imp (pe_call F hr hg hm hk hb .nil (hx X rfl rfl) ha.pa hdb he hpl) fun σ H Q ⟨ρ, S, st, q⟩ => tDA_one (k := fun ds => if ds.length = n then noex (gg ds) >>= unO else .st) st q fun ds vs H1 e1 r q2 => ?_⟩
  obtain ⟨hn, q2⟩ := run_if q2
  obtain ⟨d, ed, q3⟩ := run_noex (run_bind q2)
  rw [List.append_nil]
  refine ⟨ds, fun a => Wf true C.H0 S H H1 a ∧ H1 a ≠ none, fun a h => h.2, hn, sh_alloc r, ?_⟩
  rw [ed]
  intro v H' e2 rv
  have rv : RetF X.K C.T (fun a => Wf true C.H0 S H H1 a ∧ H1 a ≠ none) H1 H' d v := rv
  cases rv with
  | lst _ _ _ => exact q3.elim
  | ob hp hp' hl rx => exact q3 _ _ _ H' (e1.trans e2) (e1.free hp) hp' hl (rx.mono Kp.refl fun a w => ⟨(foot_call e1 e2 w.1).sh, w.2⟩)
theorem oe_callP (F : FD X.prog X.w X.K X.mg X.base C.T x k n true gg) (hr : Room k X.A) (hg : Gl X x) (ha : DA X C false (e :: es) fs) (hdb : (x == ("__debug__" : Str)) = false := by decide)
    (he : starEach (e :: es) X.env = (false, eval e X.env) :: starEach es X.env := by rfl) (hpl : (backTo pos (starEach es X.env)).any (·.1) = false := by rfl) : OE X C (.Call (.Name x p) (e :: es) [] pos) (oFlat (oCall n gg fs)) := by
  obtain ⟨f, fd, ps, CX, F, hm, hk, hb, hx⟩ := F
  refine ⟨PE.imp (pe_call F hr hg hm hk hb .nil (hx X rfl rfl) ha.pa hdb he hpl) fun σ H Q ⟨ρ, S, st, q⟩ => ?_⟩
  have q := run_bind q
  refine tDA_one (k := fun ds => if ds.length = n then noex (gg ds) >>= unO else .st) st q fun ds vs H1 e1 r q2 => ?_
  obtain ⟨hn, q2⟩ := run_if q2
  obtain ⟨d, ed, q3⟩ := run_noex (run_bind q2)
  rw [List.append_nil]
  refine ⟨ds, fun a => Wf false C.H0 S H H1 a ∧ H1 a ≠ none, fun a h => h.2, hn, sh_alloc r, ?_⟩
  rw [ed]
  intro v H' e2 rv
  have rv : RetF X.K C.T (fun a => Wf false C.H0 S H H1 a ∧ H1 a ≠ none) H1 H' d v := rv
  cases rv with
  | lst _ _ _ => exact q3.elim
  | ob hp hp' hl rx =>
    obtain ⟨c, q4⟩ := run_when (show run (R.when (D.flatL _) (R.ok (_, _))) _ _ from q3)
    exact q4 _ _ _ H' (e1.trans e2) (e1.free hp) hp' hl (ShL.free rx c)
end
/-! ### tables -/
section
variable {P : Program} {w : World} {K : PySem.W.Frag} {mg : Str → Option Value} {base : Heap} {T : Tb}
theorem md_nil {m : Str} {k n : Nat} : ∀ c g, ([] : List (Nat × (List D → R D))).lookup c = some g → MD P w K mg base T c m k n g := fun _ _ h => by cases h
theorem md_cons {m : Str} {k n c0 : Nat} {g0 : List D → R D} {tab : List (Nat × (List D → R D))} (h0 : MD P w K mg base T c0 m k n g0) (h : ∀ c g, tab.lookup c = some g → MD P w K mg base T c m k n g) : ∀ c g, ((c0, g0) :: tab).lookup c = some g → MD P w K mg base T c m k n g := fun c g e => by
  rw [List.lookup_cons] at e
  by_cases z : c = c0
  · subst z
    rw [beq_self_eq_true] at e
    cases e
    exact h0
  · rw [beq_eq_false_iff_ne.mpr z] at e
    exact h c g e
theorem is_nil {C1 : Addr} : IsOk K T [] C1 := fun _ _ h => by cases h
theorem is_cons {C1 : Addr} {c0 : Nat} {b0 : Bool} {tab : List (Nat × Bool)} (h0 : ClF K (T.ct c0)) (h1 : PySem.W.kitOne K (.ref (T.ct c0)) (.ref C1) = some b0) (h : IsOk K T tab C1) : IsOk K T ((c0, b0) :: tab) C1 := fun c b e => by
  rw [List.lookup_cons] at e
  by_cases z : c = c0
  · subst z
    rw [beq_self_eq_true] at e
    cases e
    exact ⟨h0, h1⟩
  · rw [beq_eq_false_iff_ne.mpr z] at e
    exact h c b e
theorem fd_nil {f : Str} : FdOk K T [] f := fun _ _ h => by cases h
theorem fd_cons {f : Str} {c0 i0 : Nat} {tab : List (Nat × Nat)} (h0 : Cls K (T.ct c0)) (h1 : NoAttr K (T.ct c0) f) (h2 : (T.fl c0)[i0]? = some f) (h3 : (T.fl c0).Nodup) (h : FdOk K T tab f) : FdOk K T ((c0, i0) :: tab) f := fun c i e => by
  rw [List.lookup_cons] at e
  by_cases z : c = c0
  · subst z
    rw [beq_self_eq_true] at e
    cases e
    refine ⟨h0, h1, ?_⟩
    generalize T.fl c = fs at h2 h3
    clear h
    induction fs generalizing i0 with
    | nil => simp at h2
    | cons g fs ih =>
      intro vs hl
      cases vs with
      | nil => simp at hl
      | cons v vs =>
        rw [List.nodup_cons] at h3
        rw [List.zip_cons_cons, List.lookup_cons]
        cases i0 with
        | zero =>
          simp at h2
          subst h2
          rw [beq_self_eq_true]
          rfl
        | succ i =>
          rw [List.getElem?_cons_succ] at h2
          have hne : (f == g) = false := beq_eq_false_iff_ne.mpr fun y => h3.1 (by subst y; exact List.mem_of_getElem? h2)
          rw [hne, List.getElem?_cons_succ]
          exact ih h2 h3.2 vs (by simpa using hl)
  · rw [beq_eq_false_iff_ne.mpr z] at e
    exact h c i e
end
theorem kit_mk {K : PySem.W.Frag} {C D : Addr} {b : Bool} (h1 : PySem.W.isClsIn K C = true) (h2 : PySem.W.typeIn K (.ref C) = some (.type "type")) (hs : PySem.W.subIn K (.ref C) (.ref C) = some true) (h : PySem.W.subIn K (.ref D) (.ref C) = some b) : PySem.W.kitOne K (.ref D) (.ref C) = some b := by
  unfold PySem.W.kitOne
  by_cases e : ((Value.ref D == Value.ref C) = true)
  · rw [if_pos e]
    have e2 : Value.ref D = Value.ref C := eq_of_beq e
    rw [e2, hs] at h
    exact h
  · rw [if_neg e]
    unfold PySem.W.kitCls
    have z : ((PySem.W.clsIn K C).isSome && PySem.W.typeIn K (.ref C) == some (.type "type")) = true := by
      rw [h2, beq_self_eq_true, Bool.and_true]
      exact h1
    dsimp only
    rw [if_pos z]
    exact h
/-! ### the law's own end -/
/-- the script is handed in, True comes out -/
def spL (K : PySem.W.Frag) (g : List D → R D) : Sp := fun vs H Q _ => ∃ a ns, vs = [.ref a] ∧ SqL K H a (ns.map V.int) ∧ g [.scr ns] = .ok (.bl true) ∧ ∀ H', Q (.bl true) H'
theorem spL_to {K : PySem.W.Frag} {T : Tb} {g : List D → R D} {vs : List V} {H : Hp} {Q : VK} {E : XK} (h : spL K g vs H Q E) : spD K T 1 false g vs H Q E := by
  obtain ⟨a, ns, rfl, hq, e, q⟩ := h
  refine ⟨[.scr ns], fun b => H b ≠ none, fun b h => h, rfl, .cons (.scr ?_) .nil, ?_⟩
  · rcases hq with hq | hq
    · refine .inl ⟨hq, ?_⟩
      rcases hq with z | ⟨o, z⟩ <;> (rw [z]; exact fun z => nomatch z)
    · exact .inr hq
  · rw [e]
    intro v H' e rv
    have rv : Sh K T H' (Fw (fun b => H b ≠ none) H H') (.bl true) v := rv
    cases rv
    exact q H'
theorem spL_end {K : PySem.W.Frag} {g : List D → R D} {H : Hp} {a : Addr} {ns : List Int} (hq : SqL K H a (ns.map V.int)) (h : g [.scr ns] = .ok (.bl true)) : spL K g [.ref a] H (fun v _ => v = .bl true) fun _ _ _ => False := ⟨a, ns, rfl, hq, h, fun _ => rfl⟩
end
end PL
/-! PLQ: a written list of new lists; x[i].extend(e), x[i].clear(); list(range(..)). -/
namespace PL
open PySem L2 PyProof.Rows
noncomputable section
theorem ps_sh {K : PySem.W.Frag} {T : Tb} {H : Hp} {W : Addr → Prop} : ∀ {ds : List D} {vs : List V}, ShL K T H W ds vs → Ps (fun d v => Sh K T H W d v) ds vs
  | _, _, .nil => .nil
  | _, _, .cons h r => .cons h (ps_sh r)
theorem sh_ps {K : PySem.W.Frag} {T : Tb} {H : Hp} {W : Addr → Prop} : ∀ {ds : List D} {vs : List V}, Ps (fun d v => Sh K T H W d v) ds vs → ShL K T H W ds vs
  | _, _, .nil => .nil
  | _, _, .cons h r => .cons h (sh_ps r)
theorem Ps.append {P : D → V → Prop} : ∀ {ds es : List D} {vs ws : List V}, Ps P ds vs → Ps P es ws → Ps P (ds ++ es) (vs ++ ws)
  | _, _, _, _, .nil, s => s
  | _, _, _, _, .cons p r, s => .cons p (r.append s)
def tFs (K : PySem.W.Frag) (C : Cc) (f : Ev → R (List (List D))) : TA := fun σ H Q => ∃ ρ S, Sta K C ρ S σ H ∧ run (f ρ) (fun dss => ∀ (ps : List Addr) H' S', Same H H' → (∀ a, S a → S' a) → (∀ a, S' a → Fw S H H' a) → (∀ p ∈ ps, H p = none ∧ ¬ S' p) → ps.Nodup →
  Ls H' (fun d v => Sh K C.T H' S' d v) dss ps → Q (ps.map V.ref) H') (EXc C H)
structure FAs (X : Cx) (C : Cc) (es : List Expr) (f : Ev → R (List (List D))) : Prop where
  pa : PA X es (tFs X.K C f)
@[simp] def fNil : Ev → R (List (List D)) := fun _ => .ok []
@[simp] def fCons (f : Ev → R (List D)) (fs : Ev → R (List (List D))) : Ev → R (List (List D)) := fun ρ => f ρ >>= fun d => fs ρ >>= fun ds => .ok (d :: ds)
@[simp] def sLL (fs : Ev → R (List (List D))) : Ev → R Sl := fun ρ => fs ρ >>= fun dss => R.when (lineOk dss.length) (.ok (.ot (O.ll dss)))
section
variable {X : Cx} {C : Cc} {m fr : Bool} {o c e : Expr} {es : List Expr} {f : Ev → R (List D)} {fs : Ev → R (List (List D))} {fi fe : Ev → R D} {pos p1 p2 p3 p : Pos}
theorem fas_nil : FAs X C [] fNil := ⟨PA.imp pa_nil fun _ H _ ⟨_, S, _, q⟩ => q [] H S (Same.refl _) (fun _ z => z) (fun _ z => .inl z) (fun _ z => by simp at z) .nil .nil⟩
theorem fas_cons (h : FE X C e f) (hs : FAs X C es fs) (hst : starEach (e :: es) X.env = (false, eval e X.env) :: starEach es X.env := by rfl) : FAs X C (e :: es) (fCons f fs) :=
  ⟨PA.imp (pa_cons h.pe hs.pa hst) fun σ H Q ⟨ρ, S, st, q⟩ => by
    refine ⟨ρ, S, st, run_mono (run_bind q) (fun ds q1 p vs H1 e1 hn hp r => ?_) fun _ z => z⟩
    have l1 : ∀ a, S a → Fw S H H1 a ∧ a ≠ p := fun a z => ⟨.inl z, fun y => by subst y; exact st.bnd _ z hn⟩
    refine ⟨ρ, fun a => Fw S H H1 a ∧ a ≠ p, st.grow' e1 l1 fun _ z => z.1, run_mono (run_bind q1) (fun dss q2 ps H2 S2 e2 l2 u2 k2 nd ls => ?_) fun c z => EXc.mono e1 z⟩
    have hp1 : H1 p ≠ none := by rw [hp]; exact fun z => nomatch z
    have hpS : ¬ S2 p := fun z => by
      rcases u2 p z with z | ⟨z, _⟩
      · exact z.2 rfl
      · exact hp1 z
    refine q2 (p :: ps) H2 S2 (e1.trans e2) (fun a z => l2 a (l1 a z)) (fun a z => ?_) (fun q hq => ?_) (List.nodup_cons.mpr ⟨fun z => hp1 (k2 p z).1, nd⟩) (.cons (e2 _ _ hp) ((ps_sh r).mono fun d v z => z.mono (Kp.of e2) l2) ls)
    · rcases u2 a z with z | ⟨z1, z2⟩
      · exact Fw.more e2 z.1
      · exact .inr ⟨e1.free z1, z2⟩
    · rcases List.mem_cons.mp hq with rfl | hq
      · exact ⟨hn, hpS⟩
      · exact ⟨e1.free (k2 q hq).1, (k2 q hq).2⟩⟩
theorem Ls.there {H : Hp} {P : D → V → Prop} : ∀ {dss : List (List D)} {bs : List Addr}, Ls H P dss bs → ∀ b ∈ bs, H b ≠ none
  | _, _, .nil, b, h => by simp at h
  | _, _, .cons e _ r, b, h => by
    rcases List.mem_cons.mp h with rfl | h
    · rw [e]; exact fun z => nomatch z
    · exact r.there b h
theorem se_ll (h : FAs X C es fs) : SE X C (.List es pos) (sLL fs) := ⟨PE.imp (pe_lst h.pa) fun σ H Q ⟨ρ, S, st, q⟩ => by
  refine ⟨ρ, S, st, run_mono (run_bind q) (fun dss q1 ps H1 S1 e1 l1 u1 k1 nd ls => ?_) fun _ z => z⟩
  obtain ⟨c, q2⟩ := run_when q1
  refine ⟨by rw [List.length_map, ← ls.length]; exact lineOk_le c, fun p hp => ?_⟩
  have e2 : Same H1 (upd H1 p (.lst (ps.map V.ref))) := same_upd hp
  have hps : p ∉ ps := fun z => ls.there p z hp
  have hpS : ¬ S1 p := fun z => by
    rcases u1 p z with z | ⟨_, z⟩
    · exact st.bnd p z (e1.free hp)
    · exact z hp
  have ls2 : ∀ {P : D → V → Prop}, (∀ d v, Sh X.K C.T H1 S1 d v → P d v) → Ls (upd H1 p (.lst (ps.map V.ref))) P dss ps := fun h => ls.mono h fun b hb => upd_ne fun y => hps (y ▸ hb)
  have q3 : ∀ v H' S', Same H H' → (∀ a, S a → S' a) → (∀ a, S' a → Fw S H H' a) → SlOk X.K C S' H' (some v) (.ot (O.ll dss)) → (∀ p, Ft C.T H' (some v) (.ot (O.ll dss)) p → H p = none) → Q v H' := q2
  refine q3 (.ref p) _ S1 (e1.trans e2) l1 (fun a z => Fw.more e2 (u1 a z)) ⟨.ref p, p :: ps, rfl, ll_ow upd_same hps nd (ls2 fun d v r => r.mono (Kp.of e2) fun _ w => w), fun a ha => ?_⟩ fun q f => ?_
  · rcases List.mem_cons.mp ha with rfl | ha
    · exact ⟨st.same.free (e1.free hp), hpS⟩
    · exact ⟨st.same.free (k1 a ha).1, (k1 a ha).2⟩
  · obtain ⟨v', F', ev, r', hm⟩ := f
    cases ev
    have r2 := ll_ow (T := C.T) (P := fun _ _ => True) (a := p) upd_same hps nd (ls2 fun _ _ _ => trivial)
    rw [r'.uniq r2] at hm
    rcases List.mem_cons.mp hm with rfl | hm
    · exact e1.free hp
    · exact (k1 q hm).1⟩
/-- x[i].extend(e) -/
@[simp] def dExtI (k : Nat) (fi fe : Ev → R D) : Ev → R Fl := fun ρ => match ρ[k]? with
  | some (.ot o) => R.of o.rows >>= fun dss => fi ρ >>= fun j => toI j >>= fun j => R.of (ixN dss.length j) >>= fun n => R.of dss[n]? >>= fun ds => fe ρ >>= fun d => unL d >>= fun zs => R.when (lineOk (ds.length + zs.length)) (.ok (.nx (ρ.set k (.ot (O.ll (dss.set n (ds ++ zs)))))))
  | _ => .st
theorem ds_extI {k : Nat} (hm : ∀ to t : TE, PE X (.Subscript o c p1) to → PE X e t → PE X (.Call (.Attribute (.Subscript o c p1) "extend" p2) [e] [] p3) (tBM X.K "list" rExtend to (tCons t tNil)))
    (ho : PE X o (tVar k)) (hi : DE X C m c fi) (hs : PlainIx c) (h : DE X C true e fe) (hw : swapsWith (.Call (.Attribute (.Subscript o c p1) "extend" p2) [e] [] p3) none pos.line X.env = pure false := by rfl) :
    DS X C fr (.Expr (.Call (.Attribute (.Subscript o c p1) "extend" p2) [e] [] p3) pos) (dExtI k fi fe) := ⟨PS.imp (ps_expr (hm _ _ (pe_ix ix_list ho hi.pe hs) h.pe) hw) fun D σ H ⟨ρ, S, st, q⟩ => by
  unfold dExtI at q
  obtain ⟨oo, es, qa⟩ := ot_run q
  obtain ⟨dss, ed, q1⟩ := run_of (run_bind qa)
  clear q qa
  obtain rfl := ll_of ed
  obtain ⟨x, e1, v0, F, rfl, r, hf⟩ := st.sl k _ es
  obtain ⟨a, bs, rfl, rfl, ha, hn, nd, z⟩ := ow_ll r
  refine ⟨.ref a, e1, ?_⟩
  refine tD_one (k := fun j => toI j >>= fun j => R.of (ixN dss.length j) >>= fun n => R.of dss[n]? >>= fun ds => fe ρ >>= fun d => unL d >>= fun zs => R.when (lineOk (ds.length + zs.length)) (R.ok (Fl.nx (ρ.set k (.ot (O.ll (dss.set n (ds ++ zs)))))))) st (EXs.run st q1) fun j u H1 e01 rj q2 => ?_
  cases j with
  | int j =>
    cases rj
    obtain ⟨n, en, q3⟩ := run_of (run_bind q2)
    obtain ⟨ds, eds, q4⟩ := run_of (run_bind q3)
    obtain ⟨b, vs, hb, hbv, hp⟩ := z.get eds
    have hz := z.length
    refine ⟨a, bs.map V.ref, j, .ref b, rfl, rfl, SqL.of (e01 _ _ ha), ?_, ?_⟩
    · unfold atI
      rw [List.length_map, ← hz, en]
      simp [hb]
    · refine ⟨.inl ⟨rfl, _, SqL.of (e01 _ _ hbv)⟩, ?_⟩
      refine tD_one (k := fun d => unL d >>= fun zs => R.when (lineOk (ds.length + zs.length)) (R.ok (Fl.nx (ρ.set k (.ot (O.ll (dss.set n (ds ++ zs)))))))) (st.grow e01) (run_mono q4 (fun _ z => z) fun c z => EXc.mono e01 z) fun d v H2 e12 rd q5 => ?_
      cases d with
      | lst zs =>
        obtain ⟨cz, q6⟩ := run_when (show run (R.when (lineOk (ds.length + zs.length)) (R.ok _)) _ _ from q5)
        have e02 := e01.trans e12
        have st2 := (st.grow e01).grow e12
        have up : ∀ d v, Sh X.K C.T H S d v → Sh X.K C.T H2 (Fw (Fw S H H1) H1 H2) d v := fun d v r => r.mono (Kp.of e02) fun _ w => .inl (.inl w)
        have z2 : Ls H2 (fun d v => Sh X.K C.T H2 (Fw (Fw S H H1) H1 H2) d v) dss bs := z.mono up fun b' m => by
          have := r.there b' (List.mem_cons_of_mem _ m)
          cases eb : H b' with
          | none => exact absurd eb this
          | some o => exact e02 _ _ eb
        have hf2 : ∀ c ∈ a :: bs, C.H0 c = none ∧ ¬ Fw (Fw S H H1) H1 H2 c := fun c m => ⟨(hf c m).1, by
          have t := r.there c m
          rintro ((w | ⟨w, _⟩) | ⟨w, _⟩)
          · exact (hf c m).2 w
          · exact t w
          · exact t (e01.free w)⟩
        cases rd with
        | lst hl wl sl =>
          rename_i b2 ws
          obtain ⟨st3, kp⟩ := st2.inner (n := n) (ds' := ds ++ zs) (vs' := vs ++ ws) es e1 (e02 _ _ ha) hn nd z2 hf2 hb ((hp.mono up).append (ps_sh (sl.mono Kp.refl fun _ w => w.sh)))
          refine ⟨b, b2, vs, ws, rfl, rfl, e02 _ _ hbv, hl, ?_, ?_⟩
          · rw [← hp.length, ← sl.length]; exact lineOk_le cz
          · exact q6 σ _ ⟨_, st3, fun _ w => .inl (.inl w), (Kp.of e02).trans kp fun _ w => .inl (.inl w)⟩
      | _ => exact q5.elim
  | _ => exact q2.elim⟩
/-- x[i].clear() -/
@[simp] def dClrI (k : Nat) (fi : Ev → R D) : Ev → R Fl := fun ρ => match ρ[k]? with
  | some (.ot o) => R.of o.rows >>= fun dss => fi ρ >>= fun j => toI j >>= fun j => R.of (ixN dss.length j) >>= fun n => .ok (.nx (ρ.set k (.ot (O.ll (dss.set n [])))))
  | _ => .st
theorem ds_clrI {k : Nat} (hm : ∀ to : TE, PE X (.Subscript o c p1) to → PE X (.Call (.Attribute (.Subscript o c p1) "clear" p2) [] [] p3) (tBM0 X.K "list" rClear to))
    (ho : PE X o (tVar k)) (hi : DE X C m c fi) (hs : PlainIx c) (hw : swapsWith (.Call (.Attribute (.Subscript o c p1) "clear" p2) [] [] p3) none pos.line X.env = pure false := by rfl) :
    DS X C fr (.Expr (.Call (.Attribute (.Subscript o c p1) "clear" p2) [] [] p3) pos) (dClrI k fi) := ⟨PS.imp (ps_expr (hm _ (pe_ix ix_list ho hi.pe hs)) hw) fun D σ H ⟨ρ, S, st, q⟩ => by
  unfold dClrI at q
  obtain ⟨oo, es, qa⟩ := ot_run q
  obtain ⟨dss, ed, q1⟩ := run_of (run_bind qa)
  clear q qa
  obtain rfl := ll_of ed
  obtain ⟨x0, e1, v0, F, rfl, r, hf⟩ := st.sl k _ es
  obtain ⟨a, bs, rfl, rfl, ha, hn, nd, z⟩ := ow_ll r
  refine ⟨.ref a, e1, ?_⟩
  refine tD_one (k := fun j => toI j >>= fun j => R.of (ixN dss.length j) >>= fun n => R.ok (Fl.nx (ρ.set k (.ot (O.ll (dss.set n [])))))) st (EXs.run st q1) fun j u H1 e01 rj q2 => ?_
  cases j with
  | int j =>
    cases rj
    obtain ⟨n, en, q5⟩ := run_of (run_bind q2)
    have hz := z.length
    obtain ⟨b, vs, hb, hbv, hp⟩ := z.get (List.getElem?_eq_getElem (ixN_lt en))
    refine ⟨a, bs.map V.ref, j, .ref b, rfl, rfl, SqL.of (e01 _ _ ha), ?_, ?_⟩
    · unfold atI
      rw [List.length_map, ← hz, en]
      simp [hb]
    · refine ⟨.inl ⟨rfl, _, SqL.of (e01 _ _ hbv)⟩, ?_⟩
      have st1 := st.grow e01
      have up : ∀ d v, Sh X.K C.T H S d v → Sh X.K C.T H1 (Fw S H H1) d v := fun d v r => r.mono (Kp.of e01) fun _ w => .inl w
      have z2 : Ls H1 (fun d v => Sh X.K C.T H1 (Fw S H H1) d v) dss bs := z.mono up fun b' m => by
        have := r.there b' (List.mem_cons_of_mem _ m)
        cases eb : H b' with
        | none => exact absurd eb this
        | some o => exact e01 _ _ eb
      have hf2 : ∀ c ∈ a :: bs, C.H0 c = none ∧ ¬ Fw S H H1 c := fun c m => ⟨(hf c m).1, by
        have t := r.there c m
        rintro (w | ⟨w, _⟩)
        · exact (hf c m).2 w
        · exact t w⟩
      obtain ⟨st3, kp⟩ := st1.inner (n := n) (ds' := []) (vs' := []) es e1 (e01 _ _ ha) hn nd z2 hf2 hb .nil
      refine ⟨b, vs, rfl, rfl, e01 _ _ hbv, ?_⟩
      exact q5 _ _ ⟨_, st3, fun _ w => .inl w, (Kp.of e01).trans kp fun _ w => .inl w⟩
  | _ => exact q2.elim⟩
/-- list(range(e)), list(range(a, b)) -/
def rgOk (a b : Int) : Bool := shut (-1000 ≤ a ∧ b ≤ 1000000 ∧ a ≤ 1000000 ∧ -1000 ≤ b)
theorem rgOk_of {a b : Int} (c : rgOk a b = true) : RgOk a b := by
  obtain ⟨c1, c2, c3, c4⟩ := of_shut c
  exact ⟨by omega, by omega, by omega, by omega, by omega⟩
@[simp] def vLRg1 (x : D) : R (List D) := match x with
  | .int j => R.when (rgOk 0 j) (.ok (rangeD 0 1 j.toNat))
  | _ => .st
@[simp] def vLRg2 (x y : D) : R (List D) := match x, y with
  | .int i, .int j => R.when (rgOk i j) (.ok (rangeD i 1 (j - i).toNat))
  | _, _ => .st
theorem rg_sh {K : PySem.W.Frag} {T : Tb} {H : Hp} {W : Addr → Prop} (a b : Int) : ShL K T H W (rangeD a 1 (b - a).toNat) (rgV a b) := by
  unfold rangeD rgV
  generalize List.range (b - a).toNat = l
  induction l with
  | nil => exact .nil
  | cons k l ih =>
    rw [List.map_cons, List.map_cons]
    refine .cons ?_ ih
    rw [Int.mul_one]
    exact .int _
theorem fe_lrg1 (hc : X.calm = true) (hg : Gl X "list") (hm : X.mg "list" = none) (hg2 : Gl X "range") (hm2 : X.mg "range" = none) (h : DE X C m e fe) (na : starEach [.Call (.Name "range" p1) [e] [] p2] X.env = (false, eval (.Call (.Name "range" p1) [e] [] p2) X.env) :: starEach [] X.env := by rfl)
    (nb : starEach [e] X.env = (false, eval e X.env) :: starEach [] X.env := by rfl) :
    FE X C (.Call (.Name "list" p) [.Call (.Name "range" p1) [e] [] p2] [] pos) (l1 vLRg1 fe) := ⟨PE.imp (pe_listRg hc hg hm (prg_1 hg2 hm2 h.pe nb) na) fun σ H Q ⟨ρ, S, st, q⟩ => tD_one (k := vLRg1) st q fun d v H1 e1 r q2 => by
  cases d with
  | int j =>
    cases r
    obtain ⟨c, q3⟩ := run_when (show run (R.when (rgOk 0 j) (R.ok _)) _ _ from q2)
    refine ⟨j, rfl, rgOk_of c, fun p hp => ?_⟩
    have e2 : Same H1 (upd H1 p (.lst (rgV 0 j))) := same_upd hp
    refine q3 p _ _ (e1.trans e2) (e1.free hp) upd_same ?_
    have := rg_sh (K := X.K) (T := C.T) (H := upd H1 p (.lst (rgV 0 j))) (W := fun a => Fw S H (upd H1 p (.lst (rgV 0 j))) a ∧ a ≠ p) 0 j
    rwa [Int.sub_zero] at this
  | _ => exact q2.elim⟩
theorem fe_lrg2 (hc : X.calm = true) (hg : Gl X "list") (hm : X.mg "list" = none) (hg2 : Gl X "range") (hm2 : X.mg "range" = none) (h : DE X C m e fe) (hi : DE X C m c fi) (na : starEach [.Call (.Name "range" p1) [e, c] [] p2] X.env = (false, eval (.Call (.Name "range" p1) [e, c] [] p2) X.env) :: starEach [] X.env := by rfl)
    (nb : starEach [e, c] X.env = (false, eval e X.env) :: starEach [c] X.env := by rfl) (nc : starEach [c] X.env = (false, eval c X.env) :: starEach [] X.env := by rfl) (nd : (backTo p2 (starEach [c] X.env)).any (·.1) = false := by rfl) :
    FE X C (.Call (.Name "list" p) [.Call (.Name "range" p1) [e, c] [] p2] [] pos) (l2 vLRg2 fe fi) := ⟨PE.imp (pe_listRg hc hg hm (prg_2 hg2 hm2 h.pe hi.pe nb nc nd) na) fun σ H Q ⟨ρ, S, st, q⟩ => tD_two (k := vLRg2) st q fun d d2 v u H1 e1 r1 r2 q2 => by
  unfold vLRg2 at q2
  split at q2
  · rename_i i j
    cases r1
    cases r2
    obtain ⟨cz, q3⟩ := run_when q2
    refine ⟨i, j, rfl, rfl, rgOk_of cz, fun p hp => ?_⟩
    have e2 : Same H1 (upd H1 p (.lst (rgV i j))) := same_upd hp
    exact q3 p _ _ (e1.trans e2) (e1.free hp) upd_same (rg_sh i j)
  · exact q2.elim⟩
end
/-- two names from a list of two -/
@[simp] def gTwoL (i j : Nat) : D → Ev → Option Ev := fun d ρ => match d with
  | .lst [x, y] => some ((ρ.set i (.sh x)).set j (.sh y))
  | _ => none
theorem dg_twoL {X : Cx} {C : Cc} {i j k : Nat} {x y : Str} {pos p1 p2 : Pos} (hc : X.calm = true) (hN : X.N.Nodup) (hi : X.N[i]? = some x) (hj : X.N[j]? = some y) (hx : Loc X.env.scope x) (hy : Loc X.env.scope y)
    (hf1 : X.fn x = true ∨ X.env.scope.names.lookup x = some .local := by first | exact .inl rfl | exact .inr rfl | assumption) (hf2 : X.fn y = true ∨ X.env.scope.names.lookup y = some .local := by first | exact .inl rfl | exact .inr rfl | assumption) :
    DG X C [i, j] (.Tuple [.Name x p1, .Name y p2] k pos) (gTwoL i j) := ⟨PG.imp (pg_lst hc (pgs_cons (pg_name hN hi hx hf1) (pgs_cons (pg_name hN hj hy hf2) pgs_nil))) fun v σ H Q ⟨ρ, S, d, ρ', st, r, e, q⟩ => by
  unfold gTwoL at e
  split at e
  · cases e
    cases r with
    | lst h w r =>
      obtain ⟨u1, u2, rfl, h1, h2⟩ := r.two
      exact ⟨_, _, rfl, SqL.of h, rfl, _, _, rfl, _, _, rfl, rfl, q _ ((st.putSh h1).putSh h2) fun ws h => by rw [wipe_set (h j (by simp)), wipe_set (h i (by simp))]⟩
  · cases e⟩
end
end PL
/-! PLS: set(a list of ints), sorted of it. -/
namespace PL
open PySem PySem.Spec L2 PyProof.Rows
noncomputable section

section
variable {P : Program} {w : World} {A : Around} {E : Value → Shared → Prop} {s : Shared}
/-- so far: a set of the first i of ns stands at a -/
def Had (w : World) (h : Heap) (a : Addr) (ns : List Int) (i : Nat) : Prop := ∃ (M : Int → Bool) (n : Nat), SetR w h a M n ∧ (∀ k, M k = true ↔ k ∈ ns.take i) ∧ n ≤ i
theorem take_more {ns : List Int} {i : Nat} {k : Int} (h : ns[i]? = some k) : ns.take (i + 1) = ns.take i ++ [k] := by
  rw [List.take_add_one, h]
  rfl
theorem had_loop {I : Addr} {fp wr : List Addr} {G : Array GenState → Array GenState → Prop} {n : Nat} {Pv : Nat → Value → Prop} {St : Nat → Shared → Prop} {R : Result → Shared → Prop}
    (W : WalksS P w A.in1 I fp wr G n Pv St) (a : Addr) (haf : a ∉ fp) (ns : List Int) (hn : n = ns.length) (hfew : ns.length < 4000) (hval : ∀ i v, Pv i v → ∃ k t, ns[i]? = some k ∧ v = .int k t)
    (h0 : Heap) (ha0 : h0.get? a = none) (hw0 : ∀ b ∈ wr, h0.get? b = none) :
    ∀ (r i : Nat) (s : Shared), n - i = r → i ≤ n → St i s → (∀ b o, h0.get? b = some o → s.heap.get? b = some o) → Had w s.heap a ns i →
      (∀ s', Moved (a :: wr) G s s' → Had w s'.heap a ns n → (∀ b o, h0.get? b = some o → s'.heap.get? b = some o) → R (.ok (.ret .none)) s') →
      codeAny (model P w) A (.builtin "set.update.loop" ⟨[.ref a, .ref I], []⟩) R s := by
  have haw : a ∉ wr := fun h => haf (W.sub _ h)
  have more : ∀ b ∈ wr, b ∈ a :: wr := fun b hb => List.mem_cons_of_mem _ hb
  have kept : ∀ {u u' : Shared}, Moved wr G u u' → (∀ b o, h0.get? b = some o → u.heap.get? b = some o) → ∀ b o, h0.get? b = some o → u'.heap.get? b = some o :=
    fun mv hk b o e => mv.heap b o (fun hb => by rw [hw0 b hb] at e; cases e) (hk b o e)
  have stay : ∀ {u u' : Shared} {i : Nat}, Moved wr G u u' → Had w u.heap a ns i → Had w u'.heap a ns i :=
    fun mv ⟨M, m, r, h1, h2⟩ => ⟨M, m, r.at fun o e => mv.heap a o haw e, h1, h2⟩
  intro r
  induction r with
  | zero =>
    intro i s hr hi hst hk had hR
    obtain rfl : i = n := by omega
    refine codeAny_builtin F.entry_set_update_loop ?_
    rw [Around.under_plainId F.plain_set_update_loop _]
    show wpAny _ A.in1 (pyNext (.ref I) >>= _) _ _ s
    refine wpAny_bind (W.done s _ _ hst fun s' mv => ?_)
    show wpAny _ A.in1 (ret Value.none) _ _ s'
    exact wpAny_pure (hR s' (mv.mono more) (stay mv had) (kept mv hk))
  | succ r ih =>
    intro i s hr hi hst hk had hR
    have hlt : i < n := by omega
    refine codeAny_builtin F.entry_set_update_loop ?_
    rw [Around.under_plainId F.plain_set_update_loop _]
    show wpAny _ A.in1 (pyNext (.ref I) >>= _) _ _ s
    refine wpAny_bind (W.item i s _ _ hlt hst fun v s' hP hst' mv => ?_)
    obtain ⟨k, t, hp, rfl⟩ := hval i v hP
    obtain ⟨M, m, hS, hM, hm⟩ := stay mv had
    have hk' := kept mv hk
    show wpAny _ A.in1 (holding [Value.int k t] (setAdd a (.int k t)) >>= _) _ _ s'
    refine wpAny_bind (wpAny_holding ?_)
    unfold setAdd
    refine wpAny_holding ?_
    refine wpAny_bind ((intKind P w).pyHash (intKind_is P w k t) ?_)
    refine setR_add_hashed (s := { s' with toks := s'.toks + 1 }) hS (by have h4 : scanBound = 4096 := by rfl
                                                                         omega) fun h' sb S2 => ?_
    have had' : Had w h' a ns (i + 1) := by
      refine ⟨_, _, S2, fun j => ?_, by split <;> omega⟩
      rw [take_more hp, List.mem_append, List.mem_singleton, Bool.or_eq_true, decide_eq_true_eq, hM j]
    have hk2 : ∀ b o, h0.get? b = some o → h'.get? b = some o := fun b o e => (sb.2 b (fun z => by rw [z, ha0] at e; cases e)).trans (hk' b o e)
    refine wpAny_pure ⟨plainId_quiet F.plain_set_update_loop _, ih (i + 1) _ (by omega) hlt (W.frame _ s' _ _ hst' (Nat.le_add_right _ _) fun b hb o e => ?_) hk2 had' fun s'' mv2 had2 hk3 => ?_⟩
    · rw [sb.2 b (fun h : b = a => haf (by rw [← h]; exact hb))]
      exact e
    · refine hR s'' (Moved.trans W.gtrans ((mv.mono more).then_heap (Nat.le_add_right _ _) fun b o hb e => ?_) mv2) had2 hk3
      rw [sb.2 b (fun h : b = a => hb (by rw [h]; exact List.mem_cons_self))]
      exact e
theorem ints_at : ∀ {vs : List Value} {ns : List Int} {i : Nat} {v : Value}, IntsAre vs ns → vs[i]? = some v → ∃ k t, ns[i]? = some k ∧ v = .int k t
  | _, _, _, _, .nil, h => by simp at h
  | _, _, 0, _, .cons n t _, h => by simp at h; exact ⟨n, t, rfl, h.symm⟩
  | _, _, i + 1, v, .cons n t r, h => ints_at (i := i) r (by simpa using h)
/-- the set that set() lays ahead of its items -/
abbrev blank (w : World) : Obj := { cls := .type "set", dict := none, data := .set #[] 0 (.fresh 0 0 (!w.params.followText "set-order")) }
theorem had_zero {h : Heap} {a : Addr} (w : World) (ns : List Int) (ho : h.get? a = some (blank w)) : Had w h a ns 0 := by
  refine ⟨fun _ => false, 0, ⟨_, #[], 0, _, ho, ⟨rfl, rfl, rfl⟩, rfl, fun e he => (by simp at he), by simp, fun k => (by simp), by decide, rfl, rfl, List.Pairwise.nil, ?_⟩, fun k => by simp, Nat.le_refl _⟩
  show _ ∨ (!w.params.followText "set-order") = true
  cases w.params.followText "set-order" with
  | false => exact .inr rfl
  | true => exact .inl rfl
set_option maxHeartbeats 3200000 in
/-- set(xs), xs a list of ints -/
theorem set_of_ints {l : Addr} {items : Array Value} {ns : List Int} {Q : Value → Shared → Prop} (hh : A.handled = none) (hl : s.heap.IsList l items) (hi : IntsAre items.toList ns) (hfew : ns.length < 4000)
    (h : ∀ (h' : Heap) (tk : Nat), Had w h' s.heap.objs.size ns ns.length → (∀ b o, s.heap.get? b = some o → h'.get? b = some o) → Q (.ref s.heap.objs.size) { s with heap := h', toks := tk }) :
    wpAny (model P w) A (call (.type "set") [.ref l]) Q E s := by
  have hlen : items.size = ns.length := by
    rw [← Array.length_toList]
    exact hi.length
  obtain ⟨c, tl, hmro⟩ := F.called_set.mro
  have hmade := F.called_set.made; have hsub := F.called_set.sub
  have h1 := F.called_set.notType; have h2 := F.called_set.canCreate
  have hct := F.typeCall_set_1 (.ref l)
  refine wpAny_call (codeAny_of_tree (show wpAny _ _ (callAny (.type "set") _) _ _ _ from ?_))
  refine wpAny_pure ⟨Code.quiet_builtin _ (by decide +kernel), codeAny_builtin F.entry_type_call ?_⟩
  rw [Around.under_plain (weight_type_call_type "set" [.ref l] []) rfl]
  repeat (any_goals (first | assumption | wp_step))
  refine codeAny_mono (code_set_led1 (.ref l) (E := E) (Q₁ := fun ob s1 => ob = .ref s.heap.objs.size ∧ s1 = { s with heap := s.heap.push (blank w) }) ⟨rfl, rfl⟩) fun r s1 hr => ?_
  cases r with
  | error e => exact hr
  | ok fl =>
    cases fl with
    | ret ob =>
      obtain ⟨rfl, rfl⟩ := hr
      have hS : (s.heap.push (blank w)).get? s.heap.objs.size = some (blank w) := Heap.get?_push_size _ rfl
      have hT : Shared.TypeIs { s with heap := s.heap.push (blank w) } (.ref s.heap.objs.size) "set" := ⟨_, hS, rfl⟩
      have hli := F.called_set.init.lookup; have hbi := F.called_set.init.bind (.ref s.heap.objs.size)
      repeat (any_goals (first | assumption | wp_step))
      refine codeAny_mono (codeAny_call_builtin (R := wants (fun r s2 => r = .none ∧ ∃ h' tk, s2 = { s with heap := h', toks := tk } ∧ Had w h' s.heap.objs.size ns ns.length ∧ (∀ b o, s.heap.get? b = some o → h'.get? b = some o)) E)
        F.called_set.init.plain F.entry_set_init (check_set_init_1 hT ?_)) fun r2 s2 hr2 => ?_
      · obtain ⟨ol, hol, hcl, nl, hdl⟩ := hl
        obtain ⟨ocls, odict, odata, oslots⟩ := ol
        simp only at hcl hdl
        subst hcl; subst hdl
        have hol' : (s.heap.push (blank w)).get? l = some { cls := .type "list", dict := odict, data := .seq items nl, slots := oslots } := Heap.get?_push_of_some _ hol
        have hsls := F.sub_list_set; have hslf := F.sub_list_frozenset
        have hne : (Value.type "list" == Value.type "dict") = false := by decide
        have hl1 : (s.heap.push (blank w)).IsList l items := ⟨_, hol', rfl, nl, rfl⟩
        unfold Builtin.«set.__init__» noKeywords Builtin.Frozenset.updateFrom
        generalize hPI : pyIter = PI
        wp_walk
        subst hPI
        refine wpAny_pyIter_list hl1 (wpAny_bind (wpAny_runValue ?_))
        have hlS : l < s.heap.objs.size := Heap.lt_size hol
        have hh3 : A.in1.in1.in1.handled = none := by simp [hh]
        have hsz : (s.heap.push (blank w)).objs.size = s.heap.objs.size + 1 := Heap.size_push ..
        have hneI : l ≠ (s.heap.push (blank w)).objs.size := by
          rw [hsz]
          exact Nat.ne_of_lt (Nat.lt_succ_of_lt hlS)
        have hSf : s.heap.objs.size ∉ [(s.heap.push (blank w)).objs.size, l] := by
          rw [hsz]
          intro z
          rcases List.mem_cons.mp z with z | z
          · exact absurd z (Nat.ne_of_lt (Nat.lt_succ_self _))
          · exact absurd (List.mem_singleton.mp z) (Nat.ne_of_gt hlS)
        have hval : ∀ (i : Nat) (v : Value), items[i]? = some v → ∃ k t, ns[i]? = some k ∧ v = .int k t := fun i v hv => by
          rw [← Array.getElem?_toList] at hv
          exact ints_at hi hv
        have none_of : ∀ b, s.heap.objs.size ≤ b → s.heap.get? b = none := fun b hb => by
          cases q : s.heap.get? b with
          | none => rfl
          | some o => exact absurd (Nat.lt_of_lt_of_le (Heap.lt_size q) hb) (Nat.lt_irrefl _)
        refine had_loop ((Walks.list hh3 _ l hneI items).toS) s.heap.objs.size hSf ns hlen hfew hval s.heap (none_of _ (Nat.le_refl _))
          (fun b hb => none_of b (by rw [List.mem_singleton.mp hb, hsz]; exact Nat.le_succ _)) (items.size - 0) 0 _ (by omega) (Nat.zero_le _)
          ⟨⟨_, Heap.get?_push_size _ rfl, rfl, rfl⟩, (hl1.push _)⟩ (fun b o e => Heap.get?_push_of_some _ (Heap.get?_push_of_some _ e)) (had_zero w ns (Heap.get?_push_of_some _ hS)) ?hR
        intro s' mv had hkp
        obtain ⟨h', g2, d', tk', os'⟩ := s'
        obtain rfl : g2 = s.gens := mv.gens
        obtain rfl : d' = s.drawn := mv.drawn
        obtain rfl : os' = s.os := mv.os
        show wpAny _ _ _ _ _ _
        refine wpAny_pure ?_
        show wpAny _ _ (ret Value.none) _ _ _
        rw [hlen] at had
        exact wpAny_pure ⟨rfl, h', tk', rfl, had, hkp⟩
      · cases r2 with
        | error e => exact hr2
        | ok fl2 =>
          cases fl2 with
          | ret r =>
            obtain ⟨rfl, h', tk, rfl, had, hk'⟩ := hr2
            repeat (any_goals (first | assumption | wp_step))
            exact h _ _ had hk'
          | _ => exact hr2.elim
    | _ => exact hr.elim
end
/-! ### sorted(set(xs)) -/
def rSetI (K : PySem.W.Frag) (w : World) : List V → Hp → VK → Prop := fun xs H Q => ∃ (l : Addr) (ns : List Int), xs = [.ref l] ∧ SqL K H l (ns.map V.int) ∧ ns.length < 4000 ∧
  ∀ (p : Addr) (M : Int → Bool) (n : Nat), (∀ k, M k = true ↔ k ∈ ns) → n ≤ ns.length → H p = none → Q (.ref p) (upd H p (SetO w p M n))
theorem cr_setI {X : Cx} (hc : X.calm = true) : CallR X (.type "set") (rSetI X.K X.w) := by
  intro pins s σ H xs us Q I r h
  obtain ⟨l, ns, rfl, hq, hl, q⟩ := h
  obtain ⟨its, rv, pl, hz⟩ := I.list hq
  rw [Vals.ref1 r]
  refine set_of_ints (I.ok.hd hc) pl.isList (by simpa using rv.ints) hl fun h' tk had hk => ?_
  obtain ⟨M, n, hS, hM, hn⟩ := had
  rw [List.take_length] at hM
  exact ⟨.ref _, upd H s.heap.objs.size (SetO X.w s.heap.objs.size M n), I.laid (t' := tk) hk (Nat.le_refl _) (setO_new hS), rfl, q _ M n hM hn (I.hok.fresh (Nat.le_refl _))⟩
/-- the rising list of the members of ns -/
def sins (k : Int) : List Int → List Int
  | [] => [k]
  | a :: l => if k < a then k :: a :: l else if k = a then a :: l else a :: sins k l
def sset (ns : List Int) : List Int := ns.foldr sins []
theorem mem_sins {k j : Int} : ∀ {l : List Int}, j ∈ sins k l ↔ j = k ∨ j ∈ l
  | [] => by simp [sins]
  | a :: l => by
    unfold sins
    split
    · simp
    · split
      · rename_i h; subst h; simp
      · simp only [List.mem_cons, mem_sins]
        exact ⟨fun h => h.elim (fun h => .inr (.inl h)) fun h => h.elim .inl fun h => .inr (.inr h), fun h => h.elim (fun h => .inr (.inl h)) fun h => h.elim .inl fun h => .inr (.inr h)⟩
theorem sins_up {k : Int} : ∀ {l : List Int}, l.Pairwise (· < ·) → (sins k l).Pairwise (· < ·)
  | [], _ => List.pairwise_singleton _ _
  | a :: l, h => by
    have h' := List.pairwise_cons.mp h
    unfold sins
    split
    · rename_i hk
      refine List.pairwise_cons.mpr ⟨fun b hb => ?_, h⟩
      rcases List.mem_cons.mp hb with rfl | hb
      · exact hk
      · have := h'.1 b hb; omega
    · split
      · exact h
      · refine List.pairwise_cons.mpr ⟨fun b hb => ?_, sins_up h'.2⟩
        rcases mem_sins.mp hb with rfl | hb
        · omega
        · exact h'.1 b hb
theorem mem_sset {j : Int} : ∀ {ns : List Int}, j ∈ sset ns ↔ j ∈ ns
  | [] => by simp [sset]
  | a :: l => by
    show j ∈ sins a (sset l) ↔ _
    rw [mem_sins, mem_sset, List.mem_cons]
theorem sset_up : ∀ ns : List Int, (sset ns).Pairwise (· < ·)
  | [] => List.Pairwise.nil
  | a :: l => sins_up (sset_up l)
theorem up_one : ∀ {xs ys : List Int}, xs.Pairwise (· < ·) → ys.Pairwise (· < ·) → (∀ k, k ∈ xs ↔ k ∈ ys) → xs = ys
  | [], [], _, _, _ => rfl
  | [], y :: ys, _, _, h => absurd ((h y).mpr List.mem_cons_self) (by simp)
  | x :: xs, [], _, _, h => absurd ((h x).mp List.mem_cons_self) (by simp)
  | x :: xs, y :: ys, hx, hy, h => by
    have hx' := List.pairwise_cons.mp hx
    have hy' := List.pairwise_cons.mp hy
    have e : x = y := by
      rcases List.mem_cons.mp ((h x).mp List.mem_cons_self) with e | e
      · exact e
      · rcases List.mem_cons.mp ((h y).mpr List.mem_cons_self) with e' | e'
        · exact e'.symm
        · have a1 := hy'.1 x e
          have a2 := hx'.1 y e'
          omega
    subst e
    rw [up_one hx'.2 hy'.2 fun k => ?_]
    constructor
    · intro hk
      rcases List.mem_cons.mp ((h k).mp (List.mem_cons_of_mem _ hk)) with e | e
      · subst e; exact absurd (hx'.1 k hk) (by omega)
      · exact e
    · intro hk
      rcases List.mem_cons.mp ((h k).mpr (List.mem_cons_of_mem _ hk)) with e | e
      · subst e; exact absurd (hy'.1 k hk) (by omega)
      · exact e
@[simp] def vSortSet (x : D) : R (List D) := match x with
  | .lst xs => R.of (intsD xs) >>= fun ns => R.when (decide (ns.length < 64)) (.ok ((sset ns).map .int))
  | _ => .st
section
variable {X : Cx} {C : Cc} {m : Bool} {a : Expr} {f : Ev → R D} {pos p1 p2 p3 : Pos}
theorem fe_sortSet (hg : Gl X "sorted") (hm : X.mg "sorted" = none) (hg2 : Gl X "set") (hm2 : X.mg "set" = none) (h : DE X C m a f) (hc : X.calm = true := by rfl)
    (h1 : starEach [a] X.env = (false, eval a X.env) :: starEach [] X.env := by rfl) (h2 : (backTo p3 (starEach [] X.env)).any (·.1) = false := by rfl)
    (h3 : starEach [.Call (.Name "set" p2) [a] [] p3] X.env = (false, eval (.Call (.Name "set" p2) [a] [] p3) X.env) :: starEach [] X.env := by rfl) (h4 : (backTo pos (starEach [] X.env)).any (·.1) = false := by rfl) :
    FE X C (.Call (.Name "sorted" p1) [.Call (.Name "set" p2) [a] [] p3] [] pos) (l1 vSortSet f) :=
  ⟨PE.imp (pe_callB (cr_sortedSet hc) hg hm (by decide +kernel) (pa_cons (pe_callTy (cr_setI hc) hg2 hm2 (by decide +kernel) (pa_cons h.pe pa_nil h1) (by decide) (by decide) h1 h2) pa_nil h3) (by decide) (by decide) h3 h4)
    fun σ H Q ⟨ρ, S, st, q⟩ => tD_one (k := vSortSet) st q fun d v H1 e r q2 => by
      unfold vSortSet at q2
      split at q2
      · obtain ⟨ns, en, q3⟩ := run_of (run_bind q2)
        obtain ⟨c, q4⟩ := run_when q3
        have c := of_decide_eq_true c
        obtain ⟨l, rfl, hl⟩ := sh_ints r en
        refine ⟨l, ns, rfl, hl, by omega, fun p M n hM hn hp => ?_⟩
        refine ⟨p, M, n, rfl, upd_same, by omega, fun ms p' hup hmem hlen hp' => ?_⟩
        have e2 : Same H1 (upd H1 p (SetO X.w p M n)) := same_upd hp
        rw [up_one hup (sset_up ns) fun k => (hmem k).trans ((hM k).trans mem_sset.symm)]
        refine q4 p' _ _ ((e.trans e2).trans (same_upd hp')) ((e.trans e2).free hp') upd_same (ShL.of_ints _)
      · exact q2.elim⟩
end
end
end PL
/-! PLT: sorted of any alike data. -/
namespace PL
open PySem PySem.W L2 PyProof.Rows
noncomputable section
def pyOf (d : D) : PyData := d.toPy.getD .none
structure SortOk (xs : List D) : Prop where
  py : ∀ d ∈ xs, d.toPy = some (pyOf d)
  alike : AllAlike (xs.map pyOf)
  sort : Sortable (xs.map pyOf)
  dep : ∀ d ∈ xs, (pyOf d).depth ≤ 32
def sortB (xs : List D) : Bool := @shut (SortOk xs) (Classical.propDecidable _)
theorem sortB_of {xs : List D} (h : SortOk xs) : sortB xs = true := @shut_of _ (Classical.propDecidable _) h
theorem of_sortB {xs : List D} (h : sortB xs = true) : SortOk xs := @of_shut _ (Classical.propDecidable _) h
def leD (x y : D) : Bool := dataLe false pyOf x y
@[simp] def vSorted (x : D) : R (List D) := match x with
  | .lst xs => R.when (sortB xs) (.ok (xs.mergeSort leD))
  | _ => .st
section
variable {X : Cx} {C : Cc}
/-- sorted(xs), xs a list of data -/
def rSortedD (X : Cx) (T : Tb) : List V → Hp → VK → Prop := fun vs H Q => ∃ (a : Addr) (xs : List V) (ds : List D) (W : Addr → Prop), vs = [V.ref a] ∧ SqL X.K H a xs ∧ ShL X.K T H W ds xs ∧ SortOk ds ∧
  ∀ ys p, H p = none → ShL X.K T H W (ds.mergeSort leD) ys → Q (.ref p) (upd H p (.lst ys))
theorem zip_fst : ∀ {ds : List D} {vs : List V}, ds.length = vs.length → (vs.zip ds).map (·.2) = ds
  | [], [], _ => rfl
  | d :: ds, v :: vs, h => by
    rw [List.zip_cons_cons, List.map_cons, zip_fst (by simpa using h)]
theorem each_zip {xs : List V} {its : List Value} (r : Vals xs its) : ∀ {ds : List D}, ds.length = xs.length → EachIs (fun (u : Value) (b : V × D) => RelV b.1 u) its (xs.zip ds) := by
  induction r with
  | nil => intro ds h; cases ds with
    | nil => exact .nil
    | cons _ _ => simp at h
  | cons h _ ih => intro ds hl; cases ds with
    | nil => simp at hl
    | cons d ds => exact .cons h (ih (by simpa using hl))
theorem zip_sh {K : PySem.W.Frag} {T : Tb} {H : Hp} {W : Addr → Prop} : ∀ {ds : List D} {vs : List V}, ShL K T H W ds vs → ∀ b ∈ vs.zip ds, Sh K T H W b.2 b.1
  | _, _, .nil, b, h => by simp at h
  | _, _, .cons h r, b, hb => by
    rcases List.mem_cons.mp hb with rfl | hb
    · exact h
    · exact zip_sh r b hb
theorem each_vals {out : List Value} {bs : List (V × D)} (h : EachIs (fun (u : Value) (b : V × D) => RelV b.1 u) out bs) : Vals (bs.map (·.1)) out := by
  induction h with
  | nil => exact .nil
  | cons h _ ih => exact .cons h ih
theorem sh_of_mem {K : PySem.W.Frag} {T : Tb} {H : Hp} {W : Addr → Prop} : ∀ {bs : List (V × D)}, (∀ b ∈ bs, Sh K T H W b.2 b.1) → ShL K T H W (bs.map (·.2)) (bs.map (·.1))
  | [], _ => .nil
  | b :: bs, h => .cons (h b List.mem_cons_self) (sh_of_mem fun c hc => h c (List.mem_cons_of_mem _ hc))
theorem cr_sortedD {T : Tb} (hu : X.A.units + 64 < cLine) : CallR X (.builtin "sorted") (rSortedD X T) := by
  intro pins s σ H vs us Q I r h
  obtain ⟨a, xs, ds, W, rfl, hs, hd, ok, q⟩ := h
  obtain ⟨its, rv, hl, hz⟩ := I.list hs
  rw [Vals.ref1 r]
  have hlen := hd.length
  have hm : (xs.zip ds).map (fun b : V × D => pyOf b.2) = ds.map pyOf := by
    have := congrArg (List.map pyOf) (zip_fst hlen)
    rwa [List.map_map] at this
  have hds : ∀ b ∈ xs.zip ds, b.2 ∈ ds := fun b hb => (List.of_mem_zip hb).2
  have e1 := each_zip rv hlen
  have e2 : EachIs (fun (u : Value) (b : V × D) => ∃ as, Reads s.heap u (pyOf b.2) as) its (xs.zip ds) :=
    (each_mem e1).mono fun u b ⟨h1, h2⟩ => Dp.reads I (pyOf b.2) b.1 u ((zip_sh hd b h2).dp (ok.py _ (hds b h2))) h1
  have srt : (xs.zip ds).mergeSort (dataLe false fun b : V × D => pyOf b.2) = (xs.zip ds).mergeSort fun x y => leD x.2 y.2 := rfl
  have hmap : ((xs.zip ds).mergeSort (dataLe false fun b : V × D => pyOf b.2)).map (·.2) = ds.mergeSort leD := by
    rw [srt, List.map_mergeSort (s := leD) (f := fun b : V × D => b.2) (fun _ _ _ _ => rfl), zip_fst hlen]
  have hxl : xs.length ≤ sizeLine := hz
  refine sorted_data (bs := xs.zip ds) (enc := fun b : V × D => pyOf b.2) (R := fun u b => RelV b.1 u) hl.isList e1 e2 (by rw [hm]; exact ok.alike) (by rw [hm]; exact ok.sort) (by rw [List.length_zip]; omega) (fun b hb => by
    have := ok.dep _ (hds b hb)
    omega) fun out h1 h2 => ?_
  obtain ⟨ep, he⟩ := sortedAll_at s.heap its out.toArray
  have rv2 := each_vals h2
  have hlen2 : (((xs.zip ds).mergeSort (dataLe false fun b : V × D => pyOf b.2)).map (·.1)).length ≤ sizeLine := by
    rw [List.length_map, List.length_mergeSort, List.length_zip]
    omega
  refine ⟨.ref _, upd H (s.heap.objs.size + 1) (.lst _), I.laid (t' := s.toks) (fun _ _ => sortedAll_old) (Nat.le_succ _) ⟨hlen2, out, ep, rv2, he⟩, rfl, q _ _ (I.hok.fresh (Nat.le_succ _)) ?_⟩
  rw [← hmap]
  exact sh_of_mem fun b hb => zip_sh hd b (List.mem_mergeSort.mp hb)
end
section
variable {X : Cx} {C : Cc} {m : Bool} {a : Expr} {f : Ev → R D} {pos p1 : Pos}
theorem fe_sorted {k : Nat} (hr : Room k X.A) (hg : Gl X "sorted") (hm : X.mg "sorted" = none) (h : DE X C true a f)
    (h1 : starEach [a] X.env = (false, eval a X.env) :: starEach [] X.env := by rfl) (h2 : (backTo pos (starEach [] X.env)).any (·.1) = false := by rfl) :
    FE X C (.Call (.Name "sorted" p1) [a] [] pos) (l1 vSorted f) :=
  ⟨PE.imp (pe_callB (cr_sortedD (T := C.T) hr.units) hg hm (by decide +kernel) (pa_cons h.pe pa_nil h1) (by decide) (by decide) h1 h2)
    fun σ H Q ⟨ρ, S, st, q⟩ => tD_one (k := vSorted) st q fun d v H1 e r q2 => by
      unfold vSorted at q2
      split at q2
      · obtain ⟨c, q3⟩ := run_when q2
        cases r with
        | lst h1' w1 s1 => exact ⟨_, _, _, _, rfl, SqL.of h1', s1, of_sortB c, fun ys p hp hy => q3 p ys _ (e.trans (same_upd hp)) (e.free hp) upd_same (shl_new e st.bnd hp hy)⟩
      · exact q2.elim⟩
@[simp] def vSortedP (x : D) : R (List D) := match x with
  | .lst xs => R.when (sortB xs && D.flatL xs) (.ok (xs.mergeSort leD))
  | _ => .st
theorem flatL_mem : ∀ {xs : List D}, D.flatL xs = true ↔ ∀ x ∈ xs, x.flat = true
  | [] => by simp [D.flatL]
  | x :: xs => by
    rw [D.flatL, Bool.and_eq_true, flatL_mem]
    simp
theorem fe_sortedP {k : Nat} (hr : Room k X.A) (hg : Gl X "sorted") (hm : X.mg "sorted" = none) (h : DE X C m a f)
    (h1 : starEach [a] X.env = (false, eval a X.env) :: starEach [] X.env := by rfl) (h2 : (backTo pos (starEach [] X.env)).any (·.1) = false := by rfl) :
    FE X C (.Call (.Name "sorted" p1) [a] [] pos) (l1 vSortedP f) :=
  ⟨PE.imp (pe_callB (cr_sortedD (T := C.T) hr.units) hg hm (by decide +kernel) (pa_cons h.pe pa_nil h1) (by decide) (by decide) h1 h2)
    fun σ H Q ⟨ρ, S, st, q⟩ => tD_one (k := vSortedP) st q fun d v H1 e r q2 => by
      unfold vSortedP at q2
      split at q2
      · obtain ⟨c, q3⟩ := run_when q2
        rw [Bool.and_eq_true] at c
        cases r with
        | lst h1' w1 s1 => exact ⟨_, _, _, _, rfl, SqL.of h1', s1, of_sortB c.1, fun ys p hp hy => q3 p ys _ (e.trans (same_upd hp)) (e.free hp) upd_same (ShL.free (hy.mono (Kp.of (same_upd hp)) fun _ w => w) (flatL_mem.mpr fun x hx => flatL_mem.mp c.2 x (List.mem_mergeSort.mp hx)))⟩
      · exact q2.elim⟩
end
end
end PL
/-! PLR: dicts that are handed out, texts that are walked, exceptions. -/
namespace PL
open PySem L2 PyProof.Rows
noncomputable section
theorem units1 {k : Nat} {A : Around} (hr : Room k A) : A.units + 1 < cLine := by have := hr.units; omega
section
variable {X : Cx} {C : Cc} {fr m m' : Bool} {o i e a : Expr} {f fi fv fx : Ev → R D} {pos p p1 p2 p3 : Pos} {tg : Expr}

/-! ### a dict of one's own: get with a default -/
theorem de_get2 {k : Nat} {kk : Nat} (hr : Room kk X.A) (ho : PE X o (tVar k)) (hi : DE X C m i fi) (hx : DE X C true e fx) (mm : M2 X o "get" p1 i e p2) : DE X C true (.Call (.Attribute o "get" p1) [i, e] [] p2) (dGet2 k fi fx) := ⟨PE.imp (pe_dget2 (by have := hr.units; omega) ho hi.pe hx.pe mm) fun σ H Q ⟨ρ, S, st, q⟩ => by
  unfold dGet2 at q
  obtain ⟨ks, ds, es, q1⟩ := od_run q
  obtain ⟨x, e1, p, vs, rfl, h1, hl, h2, h3, r⟩ := st.sl k _ es
  refine ⟨.ref p, e1, p, rfl, .inr ⟨_, .inl h1⟩, ?_⟩
  refine tD_one (k := fun y => fx ρ >>= fun z => R.of (keyD y) >>= fun key => R.ok ((getK ks ds key).getD z)) st q1 fun y u H1 e01 ry q2 => ?_
  refine tD_one (k := fun z => R.of (keyD y) >>= fun key => R.ok ((getK ks ds key).getD z)) (st.grow e01) (run_mono q2 (fun _ z => z) fun c z => EXc.mono e01 z) fun z w H2 e12 rz q3 => ?_
  obtain ⟨key, ek, q4⟩ := run_of (run_bind q3)
  have e02 := e01.trans e12
  obtain ⟨b, rfl, hb⟩ := key_v ry ek
  refine ⟨_, DGet.t (e02 _ _ h1) (e12 _ _ hb), ?_⟩
  have g := get_sh (k := key) (ks := ks) (r.mono (Kp.of e02) fun _ w => w)
  have q5 : ∀ v H', Same H H' → Sh X.K C.T H' (Wf true C.H0 S H H') ((getK ks ds key).getD z) v → Q v H' := q4
  refine q5 _ H2 e02 ?_
  cases ed : getK ks ds key with
  | none =>
    rw [g.2 ed]
    exact rz.mono Kp.refl fun a w => Wf.trans e01 e12 w
  | some d =>
    obtain ⟨v, ev, rv⟩ := g.1 d ed
    rw [ev]
    exact rv.mono Kp.refl fun _ w => .inl (.inl w)⟩

/-! ### a dict among shared data -/
@[simp] def vGetK (x y : D) : R D := match x with
  | .dct ks ds => R.of (keyD y) >>= fun key => R.of (getK ks ds key)
  | _ => .st
theorem de_getS {kk : Nat} (hr : Room kk X.A) (ho : DE X C m o f) (hi : DE X C m' i fi) (hs : NoSl i) : DE X C m (.Subscript o i pos) (d2 vGetK f fi) := ⟨PE.imp (pe_dget (by have := hr.units; omega) ho.pe hi.pe hs) fun σ H Q ⟨ρ, S, st, q⟩ => tD_two (k := vGetK) st q fun x y v u H2 e r1 r2 q2 => by
  unfold vGetK at q2
  split at q2
  · obtain ⟨key, ek, q3⟩ := run_of (run_bind q2)
    obtain ⟨d, ed, q4⟩ := run_of q3
    obtain ⟨b, rfl, hb⟩ := key_v r2 ek
    cases r1 with
    | dct h1 w hl r =>
      obtain ⟨z, ev, rz⟩ := (get_sh r).1 d ed
      exact ⟨_, z, rfl, by rw [← ev]; exact DGet.t h1 hb, q4 z H2 e rz⟩
  · exact q2.elim⟩
@[simp] def iLenD (ds : List D) : R D := match ds with
  | [.dct ks _] => .ok (.int ks.length)
  | _ => .st
theorem bi_lenD {mo : Bool} : BiD X C m mo (.builtin "len") iLenD := ⟨_, call_len_dT, fun S H H2 ds vs Q hb e r q => by
  unfold iLenD at q
  split at q
  · obtain ⟨v, rfl, r1⟩ := r.one
    cases r1 with
    | dct h1 w hl r =>
      refine ⟨_, _, rfl, h1, ?_⟩
      rw [List.length_zip, ← hl, Nat.min_self]
      exact q _ H2 e (.int _)
  · exact q.elim⟩
/-- list(d): the keys -/
@[simp] def vKeys (x : D) : R (List D) := match x with
  | .dct ks _ => .ok (ks.map dKey)
  | _ => .st
theorem keys_sh {K : PySem.W.Frag} {T : Tb} {H : Hp} {W : Addr → Prop} : ∀ {ks : List (List Key)} {vs : List V} {bs : List Addr}, ks.length = vs.length → IsKeys H (ks.zip vs) bs → ShL K T H W (ks.map dKey) (bs.map V.ref)
  | [], _, _, _, h => by
    cases h
    exact .nil
  | k :: ks, [], _, e, _ => by simp at e
  | k :: ks, v :: vs, _, e, h => by
    cases h with
    | cons h r => exact .cons (.tup h sh_dKey) (keys_sh (by simpa using e) r)
theorem fe_listD (hc : X.calm = true) (hg : Gl X "list") (hm : X.mg "list" = none) (ha : DE X C m e f) (he : starEach [e] X.env = (false, eval e X.env) :: starEach [] X.env := by rfl) : FE X C (.Call (.Name "list" p) [e] [] pos) (l1 vKeys f) :=
  ⟨PE.imp (pe_callTy (call_list_dT hc) hg hm (by decide +kernel) (pa_cons ha.pe pa_nil he) (by decide) (by decide) he (by rfl)) fun σ H Q ⟨ρ, S, st, q⟩ => tD_one (k := vKeys) st q fun x v H1 e1 r q2 => by
    unfold vKeys at q2
    split at q2
    · cases r with
      | dct h1 w hl r =>
        refine ⟨_, _, rfl, .inl h1, fun p bs hp hk => ?_⟩
        have q3 : ∀ p vs H', Same H H' → H p = none → H' p = some (.lst vs) → ShL X.K C.T H' (fun a => Fw S H H' a ∧ a ≠ p) _ vs → Q (.ref p) H' := q2
        exact q3 p _ _ (e1.trans (same_upd hp)) (e1.free hp) upd_same ((keys_sh hl hk).mono (W := fun _ => False) (Kp.of (same_upd hp)) fun _ z => z.elim)
    · exact q2.elim⟩

/-! ### own lists put together: no list is within -/
theorem fe_catP {g : Ev → R D} {b : Expr} (ha : DE X C false a f) (hb : DE X C false b g) : FE X C (.BinOp a .Add b pos) (lFlat (l2 vCat f g)) := ⟨PE.imp (pe_op op_cat ha.pe hb.pe) fun σ H Q ⟨ρ, S, st, q⟩ => by
  have q := run_bind q
  refine tD_two (k := vCat) st q fun x y v u H2 e r1 r2 q2 => ?_
  unfold vCat at q2
  split at q2
  · obtain ⟨c, q3⟩ := run_when q2
    obtain ⟨cf, q4⟩ := run_when (show run (R.when (D.flatL _) (R.ok _)) _ _ from q3)
    cases r1 with
    | lst h1 w1 s1 =>
      cases r2 with
      | lst h2 w2 s2 =>
        refine ⟨_, _, _, _, rfl, rfl, h1, h2, ?_, fun p hp => ?_⟩
        · rw [← s1.length, ← s2.length]; exact lineOk_le c
        · exact q4 _ _ _ (e.trans (same_upd hp)) (e.free hp) upd_same (((s1.append s2).free cf : ShL X.K C.T H2 (fun _ => False) _ _).mono (Kp.of (same_upd hp)) fun _ z => z.elim)
  · exact q2.elim⟩

/-! ### the signs of a text -/
@[simp] def vItS (x : D) : R (List D) := match x with
  | .str x => .ok (x.cps.toList.map fun c => D.str ⟨#[c]⟩)
  | _ => .st
theorem di_str (h : DE X C m a f) : DI X C tg a (l1 vItS f) := ⟨_, pi_str h.pe, fun σ H Q ρ S st q => tD_one (k := vItS) st q fun d v H1 e r q2 => by
  unfold vItS at q2
  split at q2
  · cases r
    refine ⟨_, rfl, q2 _ H1 e fun H' k => ?_⟩
    rename_i x
    refine ⟨fun i y hy => ?_, fun i hi => ?_⟩
    · rw [List.getElem?_map, Option.map_eq_some_iff] at hy
      obtain ⟨c, hc, rfl⟩ := hy
      rw [Array.getElem?_toList] at hc
      refine ⟨(Array.getElem?_eq_some_iff.mp hc).1, fun w H2 hy => ?_⟩
      obtain ⟨rfl, c', hc', rfl⟩ := hy
      rw [hc] at hc'
      cases hc'
      exact ⟨Same.refl _, .str _⟩
    · rw [List.length_map, Array.length_toList] at hi
      exact hi
  · exact q2.elim⟩

/-! ### [d[k] for k in d] -/
def valsOk (n j : Nat) (ks : List (List Key)) : Bool := shut (j < n ∧ ks.Nodup ∧ ks.length ≤ 16777216)
@[simp] def lVals (k j : Nat) : Ev → R (List D) := fun ρ => match ρ[k]? with
  | some (.od ks ds) => R.when (valsOk ρ.length j ks) (.ok ds)
  | _ => .st
theorem val_nodup {v : V} {key : List Key} : ∀ {ks : List (List Key)} {vs : List V} {n : Nat}, ks.Nodup → (ks.zip vs)[n]? = some (key, v) → valV (ks.zip vs) key = some v
  | [], _, _, _, h => by simp at h
  | k :: ks, [], _, _, h => by simp at h
  | k :: ks, w :: vs, 0, _, h => by
    simp at h
    obtain ⟨rfl, rfl⟩ := h
    simp [valV, List.zip_cons_cons, List.find?_cons]
  | k :: ks, w :: vs, n + 1, hn, h => by
    rw [List.zip_cons_cons, List.getElem?_cons_succ] at h
    rw [List.nodup_cons] at hn
    have hne : k ≠ key := fun z => hn.1 (by subst z; exact (List.of_mem_zip (List.mem_of_getElem? h)).1)
    have := val_nodup hn.2 h
    simpa [valV, List.zip_cons_cons, List.find?_cons, hne] using this
theorem fe_vals {k j : Nat} {kk : Nat} {scope : Scope} {own : List (Str × Nat)} {x : Str} {px : Pos} (hr : Room kk X.A) (hc : X.calm = true) (hN : X.N.Nodup) (hkj : k ≠ j) (ho : PE X o (tVar k)) (ok : BlkOk X.N X.env.scope scope own) (hown : own.map (·.2) = [j])
    (hg : ∀ (s : Shared) (H : Hp) (B : Addr) (cl : List (Str × Addr)) (fp : List Addr), PG (X.blk s H scope (compEnvC scope cl B X.env) fp) (.Name x px) (gName j))
    (he : ∀ (s : Shared) (H : Hp) (B : Addr) (cl : List (Str × Addr)) (fp : List Addr), PE (X.blk s H scope (compEnvC scope cl B X.env) fp) e (tDGet (tVar k) (tVar j))) (hs : ∀ x, foldedSetIterable o X.env x = pure x := by intro _; rfl) :
    FE X C (.ListComp e [⟨.Name x px, o, [], 0⟩] scope pos) (lVals k j) := by
  refine ⟨PE.imp (pe_lock (pe_lc hc hN (pi_keys ho) ok hg (fun _ _ _ _ _ => pts_nil) he hs)) fun σ H Q ⟨ρ, S, st, q⟩ => ?_⟩
  unfold lVals at q
  obtain ⟨ks, ds, es, q1⟩ := od_run q
  obtain ⟨cz, q2⟩ := run_when q1
  obtain ⟨c1, c2, c3⟩ := of_shut cz
  obtain ⟨x, e1, p, vs, rfl, h1, hl, h2, h3, r⟩ := st.sl k _ es
  have q3 : ∀ p vs H', Same H H' → H p = none → H' p = some (.lst vs) → ShL X.K C.T H' (fun a => Fw S H H' a ∧ a ≠ p) ds vs → Q (.ref p) H' := q2
  refine ⟨p, .dT (ks.zip vs), h1, trivial, fun od => ?_⟩
  rw [hown]
  have kl : k < σ.length := (List.getElem?_eq_some_iff.mp e1).1
  have hz : (ks.zip vs).length = vs.length := by rw [List.length_zip, hl, Nat.min_self]
  refine ⟨.ref p, e1, p, od, rfl, .inr ⟨ks.zip vs, upd_same, fun D hD => ?_⟩⟩
  have hDp : D ≠ p := fun z => by subst z; rw [upd_same] at hD; cases hD
  have hDH : H D = none := by rw [upd_ne hDp] at hD; exact hD
  let H1 := upd H p (.frz od (.dT (ks.zip vs)))
  refine ⟨fun n m H2 => m = vs.length - n ∧ n ≤ vs.length ∧ H2 = upd H1 D (.lst (vs.take n)), ⟨vs.length, by simp, Nat.zero_le _, by rw [List.take_zero]⟩, ?_⟩
  rintro n m H2 ⟨rfl, hn, rfl⟩
  have hp2 : ∀ us : List V, (upd H1 D (.lst us)) p = some (.frz od (.dT (ks.zip vs))) := fun us => by
    rw [upd_ne (Ne.symm hDp)]; exact upd_same
  by_cases hlt : n < vs.length
  · refine .inr ⟨⟨hp2 _, by rw [hz]; exact hlt⟩, fun H' => H' = upd H1 D (.lst (vs.take (n + 1))), fun H' z => ⟨vs.length - (n + 1), by omega, rfl, hlt, z⟩, fun y H' hy => ?_⟩
    obtain ⟨rfl, key, v, qa, hkv, rfl, hqa⟩ := hy
    refine ⟨?_, ?_⟩
    · rw [wipe_set (List.mem_singleton.mpr rfl), wipe_wipe]
    · unfold tYes
      dsimp only
      rw [if_pos rfl]
      have ek : ((wipe σ [j]).set j (some (V.ref qa)))[k]? = some (some (.ref p)) := by
        rw [List.getElem?_set_ne (Ne.symm hkj), wipe_get (by simpa using hkj)]; exact e1
      have ej : ((wipe σ [j]).set j (some (V.ref qa)))[j]? = some (some (.ref qa)) := by
        rw [List.getElem?_set_self (by rw [wipe_length, ← st.len]; exact c1)]
      have hv : vs[n]? = some v := by
        have := hkv
        rw [List.getElem?_zip_eq_some] at this
        exact this.2
      refine ⟨_, ek, _, ej, p, v, rfl, .inr ⟨ks.zip vs, key, qa, .inr ⟨od, hp2 _⟩, rfl, hqa, (val_nodup c2 hkv).symm⟩, vs.take n, upd_same, ?_, ?_⟩
      · rw [List.length_take]
        have : sizeLine = 16777216 := sizeLine_eq
        omega
      · show upd (upd H1 D _) D _ = upd H1 D _
        rw [upd_twice, List.take_succ, hv]
        rfl
  · have hn' : n = vs.length := by omega
    subst hn'
    refine .inl ⟨⟨hp2 _, by rw [hz]; exact Nat.le_refl _⟩, hp2 _, ?_⟩
    rw [List.take_length]
    have sm : Same H (upd (upd H1 D (.lst vs)) p (.dT (ks.zip vs))) := fun b u hb => by
      by_cases hbp : b = p
      · subst hbp
        rw [upd_same, ← h1]
        exact hb
      · rw [upd_ne hbp, upd_ne (fun z => by subst z; rw [hDH] at hb; cases hb)]
        show upd H p _ b = some u
        rw [upd_ne hbp]
        exact hb
    refine q3 D vs _ sm hDH (by rw [upd_ne hDp, upd_same]) (r.mono (Kp.of sm) fun a w => ⟨.inl w, fun z => ?_⟩)
    subst z
    exact st.bnd _ w hDH
end
end
end PL
/-! PLU: exceptions of own classes. -/
namespace PL
open PySem L2 PyProof.Rows
noncomputable section
/-- what the context may let out, by class numbers -/
structure Tk (X : Cx) (C : Cc) : Prop where
  tk : Takes X (fun cls d _ H => ∃ c, cls = .ref (C.T.ec c) ∧ d = none ∧ C.Ex c H)
/-- a def that may raise -/
structure FDX (P : Program) (w : World) (K : PySem.W.Frag) (mg : Str → Option Value) (base : Heap) (T : Tb) (x : Str) (k n : Nat) (fr : Bool) (g : List D → R D) : Prop where
  ex : ∃ (f : Addr) (fd : FuncData) (ps : List Str), FnOk P w K mg base (L2.CX P w) k f fd ps (spD K T n fr g) ∧ mg x = some (.ref f) ∧ PySem.W.keepIn K (.ref f) = true ∧ Binds K fd ps []
theorem FDX.of0 {P : Program} {w : World} {K : PySem.W.Frag} {mg : Str → Option Value} {base : Heap} {T : Tb} {x : Str} {k n : Nat} {fr : Bool} {g : List D → R D} {f : Addr} {fd : FuncData} {ps : List Str} (F : FnOk P w K mg base (L2.CX P w) k f fd ps (spD K T n fr g))
    (hm : mg x = some (.ref f)) (hk : PySem.W.keepIn K (.ref f) = true) (b : Binds K fd ps []) : FDX P w K mg base T x k n fr g := ⟨f, fd, ps, F, hm, hk, b⟩
theorem FDX.mono {P : Program} {w : World} {K : PySem.W.Frag} {mg : Str → Option Value} {base : Heap} {T : Tb} {x : Str} {k k' n : Nat} {fr : Bool} {g : List D → R D} (F : FDX P w K mg base T x k n fr g) (h : k ≤ k') : FDX P w K mg base T x k' n fr g := by
  obtain ⟨f, fd, ps, F, r⟩ := F
  exact ⟨f, fd, ps, F.mono h, r⟩
theorem FDX.fd {P : Program} {w : World} {K : PySem.W.Frag} {mg : Str → Option Value} {base : Heap} {T : Tb} {x : Str} {k n : Nat} {fr : Bool} {g : List D → R D} (F : FDX P w K mg base T x k n fr g) : FD P w K mg base T x k n fr g := by
  obtain ⟨f, fd, ps, F, hm, hk, hb⟩ := F
  exact ⟨f, fd, ps, _, F, hm, hk, hb, fun X h1 h2 => by subst h1 h2; exact passL⟩
section
variable {P : Program} {w : World} {K : PySem.W.Frag} {mg : Str → Option Value} {base : Heap}
/-- THE RULE for a def that raises -/
theorem fnX_ok {x qual : Str} {st : Stmt} {f : Addr} {fd : FuncData} {N ps : List Str} {k : Nat} {T : Tb} {fr : Bool} {body : Ev → R Fl} (F : Fun K x qual st f fd) (S : FnScope N ps (defScope st))
    (hb : ∀ (cdv : Value) (A : Around) (outer : List Env) (s : Shared) (H : Hp) (E : XK) (S0 : Addr → Prop), Room k (A.deeper (envOfC qual (defScope st) s.heap.objs.size f cdv)) →
      Tk (cxOf (L2.CX P w) P w K mg base N qual (defScope st) f cdv A outer s H E) ⟨T, H, S0, fun c H' => E (.ref (T.ec c)) none H'⟩ →
      PassesOwn (model P w) (cxOf (L2.CX P w) P w K mg base N qual (defScope st) f cdv A outer s H E).A (cxOf (L2.CX P w) P w K mg base N qual (defScope st) f cdv A outer s H E).env (cxOf (L2.CX P w) P w K mg base N qual (defScope st) f cdv A outer s H E).xe →
      DB (cxOf (L2.CX P w) P w K mg base N qual (defScope st) f cdv A outer s H E) ⟨T, H, S0, fun c H' => E (.ref (T.ec c)) none H'⟩ fr (defBody st) body) : FnOk P w K mg base (L2.CX P w) (k + 1) f fd ps (spD K T ps.length fr (dFn N.length fr body)) := by
  have hpl : ps.length ≤ N.length := by have := congrArg List.length S.pre; rw [List.length_take] at this; omega
  refine F.okX S (fun vs H Q E h => spD_len h) (fun cdv A outer s H vs Q E hr h => ?_)
  obtain ⟨S0, q⟩ := body_red hpl h
  refine ⟨_, (hb cdv A outer s H E S0 hr ⟨?_⟩ ?_).pss, q⟩
  · exact (takes_of (X := cxOf (L2.CX P w) P w K mg base N qual (defScope st) f cdv A outer s H E) rfl rfl rfl rfl).imp fun cls d σ H' ⟨c, e1, e2, z⟩ => by
      subst e1 e2
      exact z
  · exact passes_of (X := cxOf (L2.CX P w) P w K mg base N qual (defScope st) f cdv A outer s H E) rfl
end
section
variable {X : Cx} {C : Cc} {fr m m' : Bool} {e : Expr} {es : List Expr} {fs : Ev → R (List D)} {g : List D → R D} {x : Str} {pos p p1 p2 p3 : Pos} {k n : Nat}
/-- an own class that may be raised -/
structure ExOk (K : PySem.W.Frag) (mg : Str → Option Value) (T : Tb) (c : Nat) (x : Str) : Prop where
  ex : PySem.W.excIn K (T.ec c) [.type "ValueError", .type "Exception", .type "BaseException", .type "object"] "ValueError.__new__" = true
  at_ : mg x = some (.ref (T.ec c))
  kp : PySem.W.keepIn K (.ref (T.ec c)) = true
  sb : PySem.W.subIn K (.ref (T.ec c)) (.type "BaseException") = some true
  ty : PySem.W.typeIn K (.ref (T.ec c)) = some (.type "type")
@[simp] def dRaise (c : Nat) : Ev → R Fl := fun _ => .ex c
theorem ds_raise {c : Nat} {mm : Str} {j : Nat} (hc : X.calm = true) (tk : Tk X C) (E : ExOk X.K X.mg C.T c x) (hg : Gl X x) (hdb : (x == ("__debug__" : Str)) = false := by decide) :
    DS X C fr (.Raise (some (.Call (.Name x p) [.Constant (.str mm) j p2] [] p1)) none pos) (dRaise c) := ⟨PS.imp (ps_raise hc tk.tk (pmk_own PySem.F.excBase_ValueError E.ex E.at_ E.kp (raises_own E.sb E.ty) hg hdb)) fun D σ H ⟨ρ, S, st, q⟩ => ⟨c, rfl, rfl, (show EXs C c from q) H st.same⟩⟩
/-- a call that may raise -/
@[simp] def dCallX (n : Nat) (g : List D → R D) (fs : Ev → R (List D)) : Ev → R D := fun ρ => fs ρ >>= fun ds => if ds.length = n then g ds else .st
@[simp] def lCallX (n : Nat) (g : List D → R D) (fs : Ev → R (List D)) : Ev → R (List D) := fun ρ => fs ρ >>= fun ds => if ds.length = n then g ds >>= unL else .st
theorem de_callX (F : FDX X.prog X.w X.K X.mg X.base C.T x k n false g) (hr : Room k X.A) (tk : Tk X C) (hg : Gl X x) (ha : DA X C m (e :: es) fs) (hdb : (x == ("__debug__" : Str)) = false := by decide)
    (he : starEach (e :: es) X.env = (false, eval e X.env) :: starEach es X.env := by rfl) (hpl : (backTo pos (starEach es X.env)).any (·.1) = false := by rfl) : DE X C m (.Call (.Name x p) (e :: es) [] pos) (dCallX n g fs) := by
  obtain ⟨f, fd, ps, F, hm, hk, hb⟩ := F
  refine ⟨PE.imp (pe_call F hr hg hm hk hb .nil (E := fun cls d H => ∃ c, cls = .ref (C.T.ec c) ∧ d = none ∧ C.Ex c H) (passes_call tk.tk fun _ _ _ _ h => h) ha.pa hdb he hpl) fun σ H Q ⟨ρ, S, st, q⟩ => tDA_one (k := fun ds => if ds.length = n then g ds else .st) st q fun ds vs H1 e1 r q2 => ?_⟩
  obtain ⟨hn, q2⟩ := run_if q2
  rw [List.append_nil]
  refine ⟨ds, fun a => Wf m C.H0 S H H1 a ∧ H1 a ≠ none, fun a h => h.2, hn, sh_alloc r, run_mono q2 (fun d q3 v H' e2 rv => ?_) fun c z H' e2 => ⟨c, rfl, rfl, z H' (e1.trans e2)⟩⟩
  have rv : Sh X.K C.T H' (Fw (fun a => Wf m C.H0 S H H1 a ∧ H1 a ≠ none) H1 H') d v := rv
  exact q3 v H' (e1.trans e2) (rv.mono Kp.refl fun a w => foot_call e1 e2 w)
theorem fe_callX (F : FDX X.prog X.w X.K X.mg X.base C.T x k n true g) (hr : Room k X.A) (tk : Tk X C) (hg : Gl X x) (ha : DA X C true (e :: es) fs) (hdb : (x == ("__debug__" : Str)) = false := by decide)
    (he : starEach (e :: es) X.env = (false, eval e X.env) :: starEach es X.env := by rfl) (hpl : (backTo pos (starEach es X.env)).any (·.1) = false := by rfl) : FE X C (.Call (.Name x p) (e :: es) [] pos) (lCallX n g fs) := by
  obtain ⟨f, fd, ps, F, hm, hk, hb⟩ := F
  refine ⟨PE.imp (pe_call F hr hg hm hk hb .nil (E := fun cls d H => ∃ c, cls = .ref (C.T.ec c) ∧ d = none ∧ C.Ex c H) (passes_call tk.tk fun _ _ _ _ h => h) ha.pa hdb he hpl) fun σ H Q ⟨ρ, S, st, q⟩ => tDA_one (k := fun ds => if ds.length = n then g ds >>= unL else .st) st q fun ds vs H1 e1 r q2 => ?_⟩
  obtain ⟨hn, q2⟩ := run_if q2
  rw [List.append_nil]
  refine ⟨ds, fun a => Wf true C.H0 S H H1 a ∧ H1 a ≠ none, fun a h => h.2, hn, sh_alloc r, run_mono (run_bind q2) (fun d q3 v H' e2 rv => ?_) fun c z H' e2 => ⟨c, rfl, rfl, z H' (e1.trans e2)⟩⟩
  have rv : RetF X.K C.T (fun a => Wf true C.H0 S H H1 a ∧ H1 a ≠ none) H1 H' d v := rv
  cases rv with
  | ob _ _ _ _ => exact q3.elim
  | lst hp hp' rx => exact q3 _ _ H' (e1.trans e2) (e1.free hp) hp' (rx.mono Kp.refl fun a w => ⟨(foot_call e1 e2 w.1).sh, w.2⟩)
end

/-! ### try: f(..) except E as n: return isinstance(n, A) + j * isinstance(n, B) -/
theorem op_add_bi {X : Cx} : OpR X (binaryOp .Add) (fun x y H Q => ∃ k i, x = .bl k ∧ y = .int i ∧ Q (.int (b2i k + i)) H) := by
  intro pins s σ H x y v u Q I rx ry h
  obtain ⟨k, i, rfl, rfl, q⟩ := h
  obtain ⟨t, rfl⟩ := ry
  cases rx
  exact PySem.IntBool.add_bool_int ⟨.int (b2i k + i), H, I.tok _, ⟨_, rfl⟩, q⟩
theorem op_mul_ib {X : Cx} : OpR X (binaryOp .Mult) (fun x y H Q => ∃ i k, x = .int i ∧ y = .bl k ∧ Q (.int (i * b2i k)) H) := by
  intro pins s σ H x y v u Q I rx ry h
  obtain ⟨i, k, rfl, rfl, q⟩ := h
  obtain ⟨t, rfl⟩ := rx
  cases ry
  exact PySem.IntBool.mul_int_bool ⟨.int (i * b2i k), H, I.tok _, ⟨_, rfl⟩, q⟩
structure KdOk (K : PySem.W.Frag) (T : Tb) (c0 cA cB : Nat) (j : Int) (c : Nat) (r : Int) : Prop where
  ex : PySem.W.exmOne K (.ref (T.ec c)) (.ref (T.ec c0)) = some true
  ok : ExcC K (T.ec c)
  ans : ∃ a b, PySem.W.kitOne K (.ref (T.ec c)) (.ref (T.ec cA)) = some a ∧ PySem.W.kitOne K (.ref (T.ec c)) (.ref (T.ec cB)) = some b ∧ r = b2i a + j * b2i b
@[simp] def dTryK (i n : Nat) (g : List D → R D) (fs : Ev → R (List D)) (tab : List (Nat × Int)) : Ev → R Fl := fun ρ => noex (fs ρ) >>= fun ds => if ds.length = n ∧ i < ρ.length then (match g ds with
  | .ok _ => .ok (.nx ρ)
  | .ex c => R.of (tab.lookup c) >>= fun k => .ok (.rt (.int k))
  | .st => .st) else .st
section
variable {X : Cx} {C : Cc} {m : Bool} {fr : Bool} {e : Expr} {es : List Expr} {fs : Ev → R (List D)} {g : List D → R D} {x xn xE xA xB : Str} {pos p p1 p2 p3 p4 p5 p6 p7 p8 p9 p10 p11 p12 p13 p14 p15 p16 : Pos} {k n i c0 cA cB kj : Nat} {j : Int} {tab : List (Nat × Int)}
theorem ds_tryK (hs : X.stack = X.env :: X.outer) (hf : X.env.frame = some X.env.locals) (hN : X.N.Nodup) (hi : X.N[i]? = some xn) (hln : X.env.kindOf xn = some .local)
    (ht : ∀ c r, tab.lookup c = some r → KdOk X.K C.T c0 cA cB j c r)
    (gE : Gl X xE) (mE : X.mg xE = some (.ref (C.T.ec c0))) (dE : (xE == ("__debug__" : Str)) = false)
    (gA : Gl X xA) (mA : X.mg xA = some (.ref (C.T.ec cA))) (dA : (xA == ("__debug__" : Str)) = false) (gB : Gl X xB) (mB : X.mg xB = some (.ref (C.T.ec cB))) (dB : (xB == ("__debug__" : Str)) = false)
    (gI : Gl X "isinstance") (mI : X.mg "isinstance" = none)
    (hv : ∀ (a : Addr) (pn : List (Addr × Obj)) (q : Pos), PE (X.suite a pn) (.Name xn q) (tVar i))
    (F : FDX X.prog X.w X.K X.mg X.base C.T x k n fr g) (hr : Room k X.A) (hg : Gl X x)
    (ha : ∀ (pn : List (Addr × Obj)) (xe : Value → Shared → Prop), DA (X.tr pn xe) C m (e :: es) fs) (hdb : (x == ("__debug__" : Str)) = false := by decide)
    (he : starEach (e :: es) X.env = (false, eval e X.env) :: starEach es X.env := by rfl) (hpl : (backTo p2 (starEach es X.env)).any (·.1) = false := by rfl)
    (hsw : swapsWith (.Call (.Name x p1) (e :: es) [] p2) none p3.line X.env = pure false := by rfl)
    (s1 : starEach [.Name xn p7, .Name xA p8] X.env = (false, eval (.Name xn p7) X.env) :: starEach [.Name xA p8] X.env := by rfl) (s2 : (backTo p9 (starEach [.Name xA p8] X.env)).any (·.1) = false := by rfl) (s3 : starEach [.Name xA p8] X.env = (false, eval (.Name xA p8) X.env) :: starEach [] X.env := by rfl)
    (s4 : starEach [.Name xn p11, .Name xB p12] X.env = (false, eval (.Name xn p11) X.env) :: starEach [.Name xB p12] X.env := by rfl) (s5 : (backTo p13 (starEach [.Name xB p12] X.env)).any (·.1) = false := by rfl) (s6 : starEach [.Name xB p12] X.env = (false, eval (.Name xB p12) X.env) :: starEach [] X.env := by rfl) :
    DS X C false (.Try [.Expr (.Call (.Name x p1) (e :: es) [] p2) p3] [.ExceptHandler (some (.Name xE p4)) (some xn) [.Return (some (.BinOp (.Call (.Name "isinstance" p6) [.Name xn p7, .Name xA p8] [] p9) .Add
      (.BinOp (.Constant (.int j) kj p14) .Mult (.Call (.Name "isinstance" p10) [.Name xn p11, .Name xB p12] [] p13) p15) p)) p5] p16] [] [] pos) (dTryK i n g fs tab) := by
  obtain ⟨f, fd, ps, F, hm, hk, hb⟩ := F
  refine ⟨PS.imp (ps_try_as (c := .ref (C.T.ec c0)) (i := i) (Wout := fun _ _ _ _ => False)
    (tb := fun W => fun D σ H => tDA X.K C m fs σ H fun vs H1 => spD X.K C.T n fr g vs H1 (fun v H' => D.nx σ H') (WE W σ))
    (ts := fun a cls d => fun D σ H => ∃ c r, cls = .ref (C.T.ec c) ∧ d = none ∧ tab.lookup c = some r ∧ σ[i]? = some (some (.ref a)) ∧ D.rt (.int r) H)
    hs hf hN hi hln ⟨gE, dE, .inl mE⟩ takes0 (fun W pn xe tk hp => ?_) (fun a oe cls d pn hz hfl => ?_)) fun D σ H ⟨ρ, S, st, q⟩ => ?_⟩
  · exact pss_one (ps_expr (pe_callS (X := X.tr pn xe) (k := k) F hr hg hm hk hb (fun σ => passAt tk σ) (ha pn xe).pa hdb he hpl) hsw)
  · refine ⟨fun pins s σ H D I h => ?_⟩
    obtain ⟨c, r, rfl, rfl, hl, hσ, q⟩ := h
    obtain ⟨k1, k2, a1, b1, ka, kb, er⟩ := ht c r hl
    have pA : PE (X.suite a ((a, oe) :: pn)) (.Call (.Name "isinstance" p6) [.Name xn p7, .Name xA p8] [] p9) _ := pe_callB (call_isE k2 hz hfl) gI mI (by decide +kernel) (pa_cons (hv a _ p7) (pa_cons (pe_glob (v := .ref (C.T.ec cA)) gA mA rfl dA) pa_nil s3) s1) (by decide) (by decide) s1 s2
    have pB : PE (X.suite a ((a, oe) :: pn)) (.Call (.Name "isinstance" p10) [.Name xn p11, .Name xB p12] [] p13) _ := pe_callB (call_isE k2 hz hfl) gI mI (by decide +kernel) (pa_cons (hv a _ p11) (pa_cons (pe_glob (v := .ref (C.T.ec cB)) gB mB rfl dB) pa_nil s6) s4) (by decide) (by decide) s4 s5
    refine (pss_one (ps_ret (pe_op op_add_bi pA (pe_op op_mul_ib pe_int pB)))).run pins s σ H D I ?_
    refine ⟨_, hσ, .ref (C.T.ec cA), .ref (C.T.ec cA), a1, rfl, fun u ru => ru, ka, ?_⟩
    refine ⟨_, hσ, .ref (C.T.ec cB), .ref (C.T.ec cB), b1, rfl, fun u ru => ru, kb, j, b1, rfl, rfl, a1, j * b2i b1, rfl, rfl, ?_⟩
    rw [← er]
    exact q
  · unfold dTryK at q
    obtain ⟨ds0, ed, q1⟩ := run_noex (run_bind q)
    obtain ⟨⟨hn, hil⟩, q2⟩ := run_if q1
    refine ⟨ρ, S, st, ?_⟩
    rw [ed]
    intro vs H1 e1 r
    have Lp : ∀ H', Same H1 H' → Nxt X.K C ρ S H σ H' := fun H' e2 => ⟨_, st.grow (e1.trans e2), fun _ z => .inl z, Kp.of (e1.trans e2)⟩
    refine ⟨ds0, fun a => Wf m C.H0 S H H1 a ∧ H1 a ≠ none, fun a h => h.2, hn, sh_alloc r, ?_⟩
    cases eg : g ds0 with
    | ok d =>
      rw [eg] at q2
      intro v H' e2 rv
      exact (show ∀ σ' H', Nxt X.K C ρ S H σ' H' → D.nx σ' H' from q2) σ H' (Lp H' e2)
    | st => rw [eg] at q2; exact q2.elim
    | ex c =>
      rw [eg] at q2
      obtain ⟨r1, hl, q3⟩ := run_of (run_bind q2)
      intro H' e2
      refine ⟨true, (ht c r1 hl).ex, fun _ a _ => ⟨c, r1, rfl, rfl, hl, List.getElem?_set_self (by rw [← st.len]; exact hil), ?_⟩, fun z => nomatch z⟩
      have q4 : ∀ v H', Same C.H0 H' → RetOk X.K C.T C.S0 C.H0 false (.int r1) v H' → D.rt v H' := q3
      exact q4 (.int r1) H' (st.same.trans (e1.trans e2)) (.int r1)
end
theorem kd_nil {K : PySem.W.Frag} {T : Tb} {c0 cA cB : Nat} {j : Int} : ∀ c r, ([] : List (Nat × Int)).lookup c = some r → KdOk K T c0 cA cB j c r := fun _ _ h => by cases h
theorem kd_cons {K : PySem.W.Frag} {T : Tb} {c0 cA cB : Nat} {j : Int} {c1 : Nat} {r1 : Int} {tab : List (Nat × Int)} (h0 : KdOk K T c0 cA cB j c1 r1) (h : ∀ c r, tab.lookup c = some r → KdOk K T c0 cA cB j c r) : ∀ c r, ((c1, r1) :: tab).lookup c = some r → KdOk K T c0 cA cB j c r := fun c r e => by
  rw [List.lookup_cons] at e
  by_cases z : c = c1
  · subst z
    rw [beq_self_eq_true] at e
    cases e
    exact h0
  · rw [beq_eq_false_iff_ne.mpr z] at e
    exact h c r e
end
end PL
/-! PLV: the order of data. -/
namespace PL
open PySem PySem.W L2 PyProof.Rows
theorem leD_eq (x y : D) : leD x y = !dataLt (pyOf y) (pyOf x) := rfl
theorem leD_total (x y : D) : (leD x y || leD y x) = true := by
  rw [leD_eq, leD_eq]
  cases h1 : dataLt (pyOf y) (pyOf x) with
  | false => rfl
  | true =>
    cases h2 : dataLt (pyOf x) (pyOf y) with
    | false => rfl
    | true =>
      have := lex_trans (O := itemOrd) _ _ _ h1 h2
      rw [lex_irrefl] at this
      cases this
theorem leD_trans (x y z : D) (h1 : leD x y = true) (h2 : leD y z = true) : leD x z = true := by
  rw [leD_eq, Bool.not_eq_true'] at h1 h2 ⊢
  cases h3 : dataLt (pyOf z) (pyOf x) with
  | false => rfl
  | true =>
    exfalso
    cases h4 : dataLt (pyOf x) (pyOf y) with
    | true =>
      have := lex_trans (O := itemOrd) _ _ _ h3 h4
      exact absurd (h2.symm.trans this) Bool.false_ne_true
    | false =>
      have e := lex_total (O := itemOrd) _ _ h4 h1
      unfold dataLt at h3 h2
      rw [e] at h3
      exact absurd (h2.symm.trans h3) Bool.false_ne_true
theorem toks_inj {x y : PyData} (ha : alike x y = true) (h : keyToks x = keyToks y) : PyData.eqv x y = true := by
  cases e : PyData.eqv x y with
  | true => rfl
  | false =>
    exfalso
    have z := (toks_eqv x y ha).2 e [] [.inl 0]
    rw [h, lex_pre, lex_irrefl] at z
    cases z
theorem leD_anti {x y : D} (ha : alike (pyOf x) (pyOf y) = true) (h1 : leD x y = true) (h2 : leD y x = true) : PyData.eqv (pyOf x) (pyOf y) = true := by
  rw [leD_eq, Bool.not_eq_true'] at h1 h2
  exact toks_inj ha (lex_total (O := itemOrd) _ _ h2 h1)
theorem sort_pw (xs : List D) : (xs.mergeSort leD).Pairwise fun a b => leD a b = true := List.pairwise_mergeSort leD_trans leD_total xs
/-- data told apart: one sorted list -/
structure Apart (xs : List D) : Prop where
  al : ∀ a ∈ xs, ∀ b ∈ xs, alike (pyOf a) (pyOf b) = true
  inj : ∀ a ∈ xs, ∀ b ∈ xs, PyData.eqv (pyOf a) (pyOf b) = true → a = b
theorem sort_one {xs ys : List D} (A : Apart xs) (p : ys.Perm xs) (s : ys.Pairwise fun a b => leD a b = true) : xs.mergeSort leD = ys := by
  refine List.Perm.eq_of_pairwise (le := fun a b => leD a b = true) (fun a b ha hb h1 h2 => ?_) (sort_pw xs) s ((List.mergeSort_perm _ _).trans p.symm)
  have ha' := (List.mergeSort_perm xs leD).mem_iff.mp ha
  have hb' := p.mem_iff.mp hb
  exact A.inj a ha' b hb' (leD_anti (A.al a ha' b hb') h1 h2)
theorem sort_perm {xs ys : List D} (A : Apart xs) (p : ys.Perm xs) : xs.mergeSort leD = ys.mergeSort leD := sort_one A ((List.mergeSort_perm _ _).trans p) (sort_pw ys)
/-- a difference in the first parts tells -/
theorem lex_first : ∀ {xs ys : List PyData}, xs.length = ys.length → alikeAll xs ys = true → PyData.eqvAll xs ys = false → ∀ as bs : List PyData,
    PyProof.Rows.lexLt itemOrd (keyToksAll (xs ++ as)) (keyToksAll (ys ++ bs)) = PyProof.Rows.lexLt itemOrd (keyToksAll xs) (keyToksAll ys)
  | [], [], _, _, he, _, _ => by simp [PyData.eqvAll] at he
  | x :: xs, y :: ys, hl, ha, he, as, bs => by
    obtain ⟨a1, a2⟩ := alike_all_cons ha
    rw [List.cons_append, List.cons_append]
    cases hx : PyData.eqv x y with
    | true =>
      rw [dataLt_all_yes a1 hx, dataLt_all_yes a1 hx]
      refine lex_first (by simpa using hl) a2 ?_ as bs
      rwa [eqv_all_cons, hx, Bool.true_and] at he
    | false => rw [dataLt_all_no a1 hx, dataLt_all_no a1 hx]
theorem dataLt_pre {xs ys : List PyData} (hl : xs.length = ys.length) (ha : alikeAll xs ys = true) (he : PyData.eqvAll xs ys = false) (as bs : List PyData) : dataLt (.tuple (xs ++ as)) (.tuple (ys ++ bs)) = dataLt (.tuple xs) (.tuple ys) := by
  rw [dataLt_tuple, dataLt_tuple, lex_first hl ha he]
end PL
/-! PLM: how denotations are reckoned. -/
namespace PL
open PySem L2
@[simp] theorem kit_ii : kitB "int" "int" = some true := by decide +kernel
@[simp] theorem kit_ib : kitB "int" "bool" = some false := by decide +kernel
@[simp] theorem kit_bb : kitB "bool" "bool" = some true := by decide +kernel
@[simp] theorem kit_bi : kitB "bool" "int" = some true := by decide +kernel
@[simp] theorem kit_tt : kitB "tuple" "tuple" = some true := by decide +kernel
@[simp] theorem kit_ll : kitB "list" "list" = some true := by decide +kernel
@[simp] theorem kit_lt : kitB "list" "tuple" = some false := by decide +kernel
@[simp] theorem kit_tl : kitB "tuple" "list" = some false := by decide +kernel
@[simp] theorem kit_ss : kitB "str" "str" = some true := by decide +kernel
@[simp] theorem kit_si : kitB "str" "int" = some false := by decide +kernel
@[simp] theorem kit_is : kitB "int" "str" = some false := by decide +kernel

/-! ### sizes -/
theorem lineOk_s {n : Nat} (h : n ≤ 100000) : lineOk n = true := lineOk_of (by omega)
@[simp] theorem lineOk_0 : lineOk 0 = true := lineOk_s (by decide)
@[simp] theorem lineOk_1 : lineOk 1 = true := lineOk_s (by decide)
@[simp] theorem lineOk_2 : lineOk 2 = true := lineOk_s (by decide)
@[simp] theorem lineOk_3 : lineOk 3 = true := lineOk_s (by decide)
@[simp] theorem lineOk_4 : lineOk 4 = true := lineOk_s (by decide)
@[simp] theorem lineOk_5 : lineOk 5 = true := lineOk_s (by decide)
@[simp] theorem lineOk_6 : lineOk 6 = true := lineOk_s (by decide)
@[simp] theorem lineOk_7 : lineOk 7 = true := lineOk_s (by decide)
@[simp] theorem lineOk_8 : lineOk 8 = true := lineOk_s (by decide)
@[simp] theorem lineOk_9 : lineOk 9 = true := lineOk_s (by decide)
@[simp] theorem lineOk_10 : lineOk 10 = true := lineOk_s (by decide)
@[simp] theorem lineOk_11 : lineOk 11 = true := lineOk_s (by decide)
@[simp] theorem lineOk_12 : lineOk 12 = true := lineOk_s (by decide)
@[simp] theorem lineOk_13 : lineOk 13 = true := lineOk_s (by decide)
@[simp] theorem lineOk_14 : lineOk 14 = true := lineOk_s (by decide)
@[simp] theorem lineOk_15 : lineOk 15 = true := lineOk_s (by decide)
@[simp] theorem lineOk_16 : lineOk 16 = true := lineOk_s (by decide)
theorem inRg_s {i : Int} (h : -100000 ≤ i) (h' : i ≤ 100000) : inRg i = true := shut_of ⟨Int.le_trans (by decide) h, Int.lt_of_le_of_lt h' (by decide)⟩
theorem inRg_n {n : Nat} (h : n ≤ 100000) : inRg (n : Int) = true := inRg_s (by omega) (by omega)
@[simp] theorem inRg_0 : inRg 0 = true := inRg_s (by decide) (by decide)
@[simp] theorem inRg_1 : inRg 1 = true := inRg_s (by decide) (by decide)
@[simp] theorem inRg_2 : inRg 2 = true := inRg_s (by decide) (by decide)
theorem repOk_s {n : Nat} {k : Int} (h : 0 ≤ k) (h' : k ≤ 1000) (hn : n ≤ 100) : repOk n k = true := by
  have h2 : n * k.toNat ≤ 100 * 1000 := Nat.mul_le_mul hn (by omega)
  exact shut_of ⟨Int.le_trans (by decide) h, Int.lt_of_le_of_lt h' (by decide), by omega⟩
theorem ltLine_s {n : Nat} (h : n ≤ 100000) : ltLine n = true := shut_of (by omega)
theorem divOk_s {j : Int} (h : 0 < j) (h' : j ≤ 1000000) : divOk j = true := shut_of ⟨h, by omega⟩
theorem powOk_s {i j : Int} (h : 0 ≤ j) (h' : j ≤ 1000) (hi : i.natAbs ≤ 1000) : powOk i j = true := shut_of ⟨h, by omega, Nat.lt_of_le_of_lt hi (by decide)⟩
/-- whole numbers of at most k bits -/
structure Bd (k : Nat) (i : Int) : Prop where
  le : Builtin.Int.intBits i ≤ k
theorem Bd.mono {k l : Nat} {i : Int} (h : Bd k i) (hl : k ≤ l) : Bd l i := ⟨Nat.le_trans h.le hl⟩
theorem Bd.add {k l : Nat} {i j : Int} (h : Bd k i) (h' : Bd l j) : Bd (max k l + 1) (i + j) := ⟨PySem.intBits_add_le h.le h'.le⟩
theorem Bd.mul {k l : Nat} {i j : Int} (h : Bd k i) (h' : Bd l j) : Bd (k + l) (i * j) := ⟨PySem.intBits_mul_le h.le h'.le⟩
theorem Bd.neg {k : Nat} {i : Int} (h : Bd k i) : Bd k (-i) := ⟨PySem.intBits_neg_le h.le⟩
theorem Bd.lt {k : Nat} {i : Int} (h : i.natAbs < 2 ^ k) : Bd k i := ⟨PySem.intBits_le_iff.mpr h⟩
theorem Bd.s {i : Int} (h : -1000000000 ≤ i) (h' : i ≤ 1000000000) : Bd 32 i := .lt (Nat.lt_of_le_of_lt (show i.natAbs ≤ 1000000000 by omega) (by decide))
theorem Bd.add' {k l m : Nat} {i j : Int} (h : Bd k i) (h' : Bd l j) (hk : k + 1 ≤ m) (hl : l + 1 ≤ m) : Bd m (i + j) := (h.add h').mono (by omega)
theorem Bd.nat {n : Nat} (h : n ≤ 1000000) : Bd 32 (n : Int) := .s (by omega) (by omega)
theorem Bd.log {k : Nat} {i : Int} (h : Bd (k + 1) i) : i.natAbs.log2 ≤ k := by
  have := h.le
  unfold Builtin.Int.intBits at this
  split at this
  · rename_i z
    have : i = 0 := by simpa using z
    subst this
    simp
  · omega
theorem mulOk_b {k l : Nat} {i j : Int} (h : Bd k i) (h' : Bd l j) (hk : k + l ≤ 100000000) : mulOk i j = true := by
  have h1 := (h.mono (Nat.le_succ k)).log
  have h2 := (h'.mono (Nat.le_succ l)).log
  exact shut_of (by omega)
theorem mulOk_s {i j : Int} (h : -1000000000 ≤ i) (h' : i ≤ 1000000000) (hj : -1000000000 ≤ j) (hj' : j ≤ 1000000000) : mulOk i j = true := mulOk_b (.s h h') (.s hj hj') (by decide)

/-! ### either way an answer -/
@[simp] theorem ite_okB {c : Prop} [Decidable c] (a b : Bool) : (if c then R.ok a else R.ok b) = R.ok (if c then a else b) := by split <;> rfl
@[simp] theorem ite_okD {c : Prop} [Decidable c] (a b : Bool) : (if c then R.ok (D.bl a) else R.ok (D.bl b)) = R.ok (D.bl (if c then a else b)) := by split <;> rfl
@[simp] theorem ite_okI {c : Prop} [Decidable c] (a b : Int) : (if c then R.ok (D.int a) else R.ok (D.int b)) = R.ok (D.int (if c then a else b)) := by split <;> rfl

/-! ### lists of whole numbers, of truths -/
@[simp] theorem intsD_nil : intsD [] = some [] := rfl
@[simp] theorem intsD_cons (i : Int) (r : List D) : intsD (.int i :: r) = (intsD r).map (i :: ·) := rfl
theorem intsD_of {α : Type} (f : α → Int) (xs : List α) : intsD (xs.map fun x => D.int (f x)) = some (xs.map f) := by
  have := ints_map (xs.map f)
  rw [List.map_map] at this
  exact this
@[simp] theorem ints_map' (ns : List Int) : intsD (ns.map D.int) = some ns := ints_map ns
@[simp] theorem boolsD_nil : boolsD [] = some [] := rfl
@[simp] theorem boolsD_cons (i : Bool) (r : List D) : boolsD (.bl i :: r) = (boolsD r).map (i :: ·) := rfl
theorem boolsD_of {α : Type} (f : α → Bool) (xs : List α) : boolsD (xs.map fun x => D.bl (f x)) = some (xs.map f) := by
  have := bools_map (xs.map f)
  rw [List.map_map] at this
  exact this

/-! ### items by place -/
theorem atI_n {α : Type} (xs : List α) (i : Nat) : atI xs (i : Int) = xs[i]? := by
  unfold atI ixN
  rw [if_pos (by omega)]
  by_cases h : i < xs.length
  · rw [if_pos (by omega)]; simp
  · rw [if_neg (by omega), List.getElem?_eq_none (by omega)]; rfl
@[simp] theorem atI_zero {α : Type} (xs : List α) : atI xs 0 = xs[0]? := atI_n xs 0
@[simp] theorem atI_one {α : Type} (xs : List α) : atI xs 1 = xs[1]? := atI_n xs 1
@[simp] theorem atI_two {α : Type} (xs : List α) : atI xs 2 = xs[2]? := atI_n xs 2
@[simp] theorem atI_lit {α : Type} (xs : List α) (n : Nat) : atI xs (OfNat.ofNat n) = xs[n]? := atI_n xs n
@[simp] theorem atI_neg1 {α : Type} (xs : List α) : atI xs (-1) = xs.getLast? := by
  unfold atI ixN
  rw [if_neg (by omega)]
  cases xs with
  | nil => rfl
  | cons x r =>
    rw [if_pos (by simp only [List.length_cons]; omega), List.getLast?_eq_getElem?]
    show (x :: r)[(-1 + ((x :: r).length : Int)).toNat]? = _
    congr 1
    simp only [List.length_cons]
    omega
theorem ixN_n (n i : Nat) : ixN n (i : Int) = if i < n then some i else none := by
  unfold ixN
  rw [if_pos (by omega)]
  by_cases h : i < n
  · rw [if_pos (by omega), if_pos h]; simp
  · rw [if_neg (by omega), if_neg h]
theorem ixN_neg1 {n : Nat} (h : 0 < n) : ixN n (-1) = some (n - 1) := by
  unfold ixN
  rw [if_neg (by omega), if_pos (by omega)]
  congr 1
  omega

/-! ### loops, comprehensions -/
@[simp] theorem fo_nil {g : D → Ev → Option Ev} {b : Ev → R Fl} {ρ : Ev} : fo g b [] ρ = .ok (.nx ρ) := rfl
@[simp] theorem fo_cons {g : D → Ev → Option Ev} {b : Ev → R Fl} {x : D} {xs : List D} {ρ : Ev} : fo g b (x :: xs) ρ = R.of (g x ρ) >>= fun ρ1 => b ρ1 >>= fun fl => match fl with
      | .nx ρ' => fo g b xs ρ'
      | .ct ρ' => fo g b xs ρ'
      | .bk ρ' => .ok (.nx ρ')
      | .rt d => .ok (.rt d) := rfl
theorem fo_one {g : D → Ev → Option Ev} {b : Ev → R Fl} {x : D} {xs : List D} {ρ ρ1 ρ2 : Ev} (h : g x ρ = some ρ1) (h2 : b ρ1 = .ok (.nx ρ2)) : fo g b (x :: xs) ρ = fo g b xs ρ2 := by
  rw [fo_cons, h, R.of_some, R.bind_ok, h2]
  rfl
@[simp] theorem lcG_nil {g : D → Ev → Option Ev} {t : Ev → R Bool} {e : Ev → R D} {ρ : Ev} : lcG g t e ρ [] = .ok [] := rfl
@[simp] theorem lcG_cons {g : D → Ev → Option Ev} {t : Ev → R Bool} {e : Ev → R D} {ρ : Ev} {x : D} {xs : List D} : lcG g t e ρ (x :: xs) = R.of (g x ρ) >>= fun ρ1 => t ρ1 >>= fun b => if b = true then e ρ1 >>= fun d => lcG g t e ρ xs >>= fun r => .ok (d :: r) else lcG g t e ρ xs := rfl
/-- a loop that goes on, turn by turn: the state a, and what else the slots hold (j) -/
theorem fo_fold {α β J : Type} {g : D → Ev → Option Ev} {b : Ev → R Fl} (e : α → J → Ev) (f : α → β → α) (enc : β → D) (P : α → List β → Prop)
    (h : ∀ a j x r, P a (x :: r) → ∃ ρ1 j', g (enc x) (e a j) = some ρ1 ∧ (b ρ1 = .ok (.nx (e (f a x) j')) ∨ b ρ1 = .ok (.ct (e (f a x) j'))) ∧ P (f a x) r) :
    ∀ (xs : List β) (a : α) (j : J), P a xs → ∃ j', fo g b (xs.map enc) (e a j) = .ok (.nx (e (xs.foldl f a) j'))
  | [], a, j, _ => ⟨j, rfl⟩
  | x :: xs, a, j, hp => by
    obtain ⟨ρ1, j1, h1, h2, h3⟩ := h a j x xs hp
    obtain ⟨j2, h4⟩ := fo_fold e f enc P h xs (f a x) j1 h3
    refine ⟨j2, ?_⟩
    rw [List.map_cons, fo_cons, h1]
    rcases h2 with h2 | h2 <;> simp [h2, h4]
/-- a loop by an invariant over what is ahead and the state -/
theorem fo_inv {α β J : Type} {g : D → Ev → Option Ev} {b : Ev → R Fl} (e : α → J → Ev) (enc : β → D) (I : List β → α → Prop)
    (h : ∀ x r a j, I (x :: r) a → ∃ ρ1 a' j', g (enc x) (e a j) = some ρ1 ∧ (b ρ1 = .ok (.nx (e a' j')) ∨ b ρ1 = .ok (.ct (e a' j'))) ∧ I r a') :
    ∀ (xs : List β) (a : α) (j : J), I xs a → ∃ a' j', fo g b (xs.map enc) (e a j) = .ok (.nx (e a' j')) ∧ I [] a'
  | [], a, j, hp => ⟨a, j, rfl, hp⟩
  | x :: xs, a, j, hp => by
    obtain ⟨ρ1, a1, j1, h1, h2, h3⟩ := h x xs a j hp
    obtain ⟨a2, j2, h4, h5⟩ := fo_inv e enc I h xs a1 j1 h3
    refine ⟨a2, j2, ?_, h5⟩
    rw [List.map_cons, fo_cons, h1]
    rcases h2 with h2 | h2 <;> simp [h2, h4]
/-- a comprehension without a test -/
theorem lcG_map {β : Type} {g : D → Ev → Option Ev} {e : Ev → R D} {ρ : Ev} (enc : β → D) (h : β → D) (xs : List β) (hx : ∀ x ∈ xs, ∃ ρ1, g (enc x) ρ = some ρ1 ∧ e ρ1 = .ok (h x)) : lcG g bYes e ρ (xs.map enc) = .ok (xs.map h) := by
  induction xs with
  | nil => rfl
  | cons x xs ih =>
    obtain ⟨ρ1, h1, h2⟩ := hx x List.mem_cons_self
    rw [List.map_cons, lcG_cons, h1]
    simp [h2, ih fun y hy => hx y (List.mem_cons_of_mem _ hy)]
/-- .. with one -/
theorem lcG_filter {β : Type} {g : D → Ev → Option Ev} {t : Ev → R Bool} {e : Ev → R D} {ρ : Ev} (enc : β → D) (p : β → Bool) (h : β → D) (xs : List β) (hx : ∀ x ∈ xs, ∃ ρ1, g (enc x) ρ = some ρ1 ∧ t ρ1 = .ok (p x) ∧ (p x = true → e ρ1 = .ok (h x))) :
    lcG g t e ρ (xs.map enc) = .ok ((xs.filter p).map h) := by
  induction xs with
  | nil => rfl
  | cons x xs ih =>
    obtain ⟨ρ1, h1, h2, h3⟩ := hx x List.mem_cons_self
    rw [List.map_cons, lcG_cons, h1]
    have ih := ih fun y hy => hx y (List.mem_cons_of_mem _ hy)
    cases hp : p x with
    | true => simp [h2, hp, h3 hp, ih]
    | false => simp [h2, hp, ih]
/-- a while, one turn -/
theorem wh_succ {c : Ev → R Bool} {b : Ev → R Fl} {n : Nat} {ρ : Ev} : wh c b (n + 1) ρ = c ρ >>= fun k => if k = true then b ρ >>= fun fl => match fl with
      | .nx ρ' => wh c b n ρ'
      | .ct ρ' => wh c b n ρ'
      | .bk ρ' => .ok (.nx ρ')
      | .rt d => .ok (.rt d)
    else .ok (.nx ρ) := rfl
theorem rangeD_map (n : Nat) : rangeD 0 1 n = (List.range n).map fun k => D.int (k : Nat) := by
  unfold rangeD
  simp
theorem enumD_map {α : Type} (f : α → D) : ∀ (xs : List α) (k : Nat), enumD k (xs.map f) = (xs.zipIdx k).map fun p => D.tup [.int (p.2 : Nat), f p.1]
  | [], _ => rfl
  | x :: xs, k => by
    rw [List.map_cons, enumD, enumD_map f xs (k + 1)]
    rfl
theorem zipD_map {α β : Type} (f : α → D) (g : β → D) : ∀ (xs : List α) (ys : List β), zipD (xs.map f) (ys.map g) = (xs.zip ys).map fun p => D.tup [f p.1, g p.2]
  | [], _ => rfl
  | _ :: _, [] => rfl
  | x :: xs, y :: ys => by
    show D.tup [f x, g y] :: zipD (xs.map f) (ys.map g) = _
    rw [zipD_map f g xs ys]
    rfl

theorem zipD_len (xs ys : List D) : (zipD xs ys).length = min xs.length ys.length := by simp [zipD]

/-! ### == -/
/-- data whose == is told -/
class En (α : Type) [DecidableEq α] where
  en : α → D
  py : α → PyData
  toPy : ∀ x, (en x).toPy = some (py x)
  lay : ∀ x, (py x).canLay0 = true
  dep : Nat
  depth : ∀ x, (py x).depth ≤ dep
  eqv : ∀ x y, PyData.eqv (py x) (py y) = decide (x = y)
theorem cEq_en {α : Type} [DecidableEq α] [En α] (h : En.dep α ≤ 64) (x y : α) : cEq (En.en x) (En.en y) = some (decide (x = y)) := by
  have s : ∀ z : α, SeqAt.shaped (En.py z) = true := fun z => by
    unfold SeqAt.shaped
    rw [En.lay z]
    have := En.depth z
    simp
    omega
  unfold cEq
  rw [En.toPy, En.toPy]
  simp [s, En.eqv]
instance : En Int where
  en := D.int
  py := PyData.int
  toPy _ := by simp [D.toPy]
  lay _ := by simp [PyData.canLay0]
  dep := 0
  depth _ := by simp [PyData.depth]
  eqv x y := by simp [PyData.eqv, Bool.beq_eq_decide_eq]
instance : En Nat where
  en n := D.int n
  py n := PyData.int n
  toPy _ := by simp [D.toPy]
  lay _ := by simp [PyData.canLay0]
  dep := 0
  depth _ := by simp [PyData.depth]
  eqv x y := by
    simp [PyData.eqv, Bool.beq_eq_decide_eq]
    omega
instance : En Bool where
  en := D.bl
  py := PyData.bool
  toPy _ := by simp [D.toPy]
  lay _ := by simp [PyData.canLay0]
  dep := 0
  depth _ := by simp [PyData.depth]
  eqv x y := by simp [PyData.eqv, Bool.beq_eq_decide_eq]
section
variable {α β : Type} [DecidableEq α] [En α] [DecidableEq β] [En β]
theorem toPyL_map (xs : List α) : D.toPyL (xs.map En.en) = some (xs.map En.py) := by
  induction xs with
  | nil => simp [D.toPyL]
  | cons x xs ih => simp [D.toPyL, En.toPy, ih]
theorem layAll (xs : List α) : PyData.canLayAll0 (xs.map En.py) = true := by
  induction xs with
  | nil => simp [PyData.canLayAll0]
  | cons x xs ih => simp [PyData.canLayAll0, En.lay, ih]
theorem depthAll (xs : List α) : PyData.depthAll (xs.map En.py) ≤ En.dep α := by
  induction xs with
  | nil => simp [PyData.depthAll]
  | cons x xs ih =>
    have := En.depth x
    simp [PyData.depthAll]
    omega
theorem eqvAll (xs ys : List α) : PyData.eqvAll (xs.map En.py) (ys.map En.py) = decide (xs = ys) := by
  induction xs generalizing ys with
  | nil => cases ys <;> simp [PyData.eqvAll]
  | cons x xs ih =>
    cases ys with
    | nil => simp [PyData.eqvAll]
    | cons y ys => simp [PyData.eqvAll, ih, En.eqv]
instance : En (List α) where
  en xs := D.lst (xs.map En.en)
  py xs := PyData.list (xs.map En.py)
  toPy xs := by simp [D.toPy, toPyL_map]
  lay xs := by simp [PyData.canLay0, layAll]
  dep := En.dep α + 1
  depth xs := by
    have := depthAll xs
    simp [PyData.depth]
    omega
  eqv x y := by simp [PyData.eqv, eqvAll]
instance : En (α × β) where
  en x := D.tup [En.en x.1, En.en x.2]
  py x := PyData.tuple [En.py x.1, En.py x.2]
  toPy x := by simp [D.toPy, D.toPyL, En.toPy]
  lay x := by simp [PyData.canLay0, PyData.canLayAll0, En.lay]
  dep := max (En.dep α) (En.dep β) + 1
  depth x := by
    have h1 := En.depth x.1
    have h2 := En.depth x.2
    simp [PyData.depth, PyData.depthAll]
    omega
  eqv x y := by
    simp [PyData.eqv, PyData.eqvAll, En.eqv, Prod.ext_iff]
end
@[simp] theorem cEq_int (x y : Int) : cEq (.int x) (.int y) = some (decide (x = y)) := cEq_en (α := Int) (by decide) x y
@[simp] theorem cEq_bl (x y : Bool) : cEq (.bl x) (.bl y) = some (decide (x = y)) := cEq_en (α := Bool) (by decide) x y
@[simp] theorem cEq_ints (x y : List Int) : cEq (.lst (x.map .int)) (.lst (y.map .int)) = some (decide (x = y)) := cEq_en (α := List Int) (by decide) x y
@[simp] theorem cEq_scr0 (x : List Int) : cEq (.scr x) (.lst []) = some (decide (x = [])) := by
  have h := cEq_en (α := List Int) (by decide) x []
  rw [← h]
  unfold cEq
  have e : (D.scr x).toPy = (En.en x).toPy := by
    rw [En.toPy]
    simp [D.toPy]
    rfl
  rw [e]
  rfl
end PL
/-! PXA: what is changed: a store of cells, over the data. -/
namespace PL
open PySem L2 PyProof.Rows
noncomputable section
inductive Cell where
  | lst (ds : List D) | ob (c : Nat) (ds : List D)
abbrev Mem := List Cell
abbrev Ph := Nat → Option Addr
def Tb.w (T : Tb) (φ : Ph) : Tb := { T with ph := φ }
/-- it stands, and is no table -/
def NT (H : Hp) (a : Addr) : Prop := ∃ o, H a = some o ∧ ∀ ps, o ≠ .tbl ps
def CellOk (K : PySem.W.Frag) (T : Tb) (H : Hp) (S : Addr → Prop) (a : Addr) : Cell → Prop
  | .lst ds => ∃ vs, H a = some (.lst vs) ∧ ShL K T H S ds vs
  | .ob c ds => ∃ dx vs, H a = some (.ins (T.ct c) dx ((T.fl c).zip vs)) ∧ (T.fl c).length = vs.length ∧ ShL K T H S ds vs
structure Sto (K : PySem.W.Frag) (T : Tb) (S : Addr → Prop) (M : Mem) (H : Hp) : Prop where
  bnd : ∀ a, S a → NT H a
  cell : ∀ (n : Nat) c, M[n]? = some c → ∃ a, T.ph n = some a ∧ CellOk K T H S a c
  dom : ∀ n a, T.ph n = some a → n < M.length
  inj : ∀ n m a, T.ph n = some a → T.ph m = some a → n = m
  out : ∀ n a, T.ph n = some a → ¬ S a
abbrev E2 := List (Option D)
structure St2 (K : PySem.W.Frag) (T : Tb) (S : Addr → Prop) (ρ : E2) (M : Mem) (σ : L2.St) (H : Hp) : Prop where
  sto : Sto K T S M H
  len : ρ.length = σ.length
  sl : ∀ (i : Nat) d, ρ[i]? = some (some d) → ∃ v, σ[i]? = some (some v) ∧ Sh K T H S d v
structure Go (K : PySem.W.Frag) (T : Tb) (φ φ' : Ph) (S S' : Addr → Prop) (H H' : Hp) (M' : Mem) : Prop where
  ph : ∀ n a, φ n = some a → φ' n = some a
  new : ∀ n a, φ' n = some a → φ n = some a ∨ H a = none
  sub : ∀ a, S a → S' a
  old : ∀ a, S' a → S a ∨ H a = none
  sto : Sto K (T.w φ') S' M' H'
  kx : ∀ a o, H a = some o → (∀ n, φ n ≠ some a) → (T.tm = true → ∀ ps, o ≠ .tbl ps) → H' a = some o
  free : ∀ a, H' a = none → H a = none

/-! ### how data is carried on -/
section
variable {K : PySem.W.Frag} {T : Tb} {φ φ' φ'' : Ph} {S S' S'' W : Addr → Prop} {H H' H'' : Hp} {M M' M'' : Mem} {σ : L2.St} {ρ : E2}
mutual
theorem Sh.tb (h : ∀ n a, φ n = some a → φ' n = some a) : ∀ {d : D} {v : V}, Sh K (T.w φ) H W d v → Sh K (T.w φ') H W d v
  | _, _, .non => .non
  | _, _, .bl b => .bl b
  | _, _, .int i => .int i
  | _, _, .str x => .str x
  | _, _, .tup e r => .tup e (ShL.tb h r)
  | _, _, .lst e q r => .lst e q (ShL.tb h r)
  | _, _, .scr q => .scr q
  | _, _, .dct e q l r => .dct e q l (ShL.tb h r)
  | _, _, .ob e q l r => .ob e q l (ShL.tb h r)
  | _, _, .ptr e => .ptr (h _ _ e)
theorem ShL.tb (h : ∀ n a, φ n = some a → φ' n = some a) : ∀ {ds : List D} {vs : List V}, ShL K (T.w φ) H W ds vs → ShL K (T.w φ') H W ds vs
  | _, _, .nil => .nil
  | _, _, .cons p r => .cons (Sh.tb h p) (ShL.tb h r)
end
mutual
/-- a footprint may be narrowed by what lists, dicts and objects are -/
theorem Sh.only (hl : ∀ a vs, W a → H a = some (.lst vs) → S' a) (hr : ∀ a vs, W a → Rd H a (.lst vs) → S' a) (hd : ∀ a kvs, W a → H a = some (.dT kvs) → S' a) (ho : ∀ a c dx fs, W a → H a = some (.ins c dx fs) → S' a) : ∀ {d : D} {v : V}, Sh K T H W d v → Sh K T H S' d v
  | _, _, .non => .non
  | _, _, .bl b => .bl b
  | _, _, .int i => .int i
  | _, _, .str x => .str x
  | _, _, .tup e r => .tup e (ShL.only hl hr hd ho r)
  | _, _, .lst e q r => .lst e (hl _ _ q e) (ShL.only hl hr hd ho r)
  | _, _, .scr q => .scr (q.imp (fun z => ⟨z.1, hr _ _ z.2 z.1⟩) id)
  | _, _, .dct e q l r => .dct e (hd _ _ q e) l (ShL.only hl hr hd ho r)
  | _, _, .ob e q l r => .ob e (ho _ _ _ _ q e) l (ShL.only hl hr hd ho r)
  | _, _, .ptr e => .ptr e
theorem ShL.only (hl : ∀ a vs, W a → H a = some (.lst vs) → S' a) (hr : ∀ a vs, W a → Rd H a (.lst vs) → S' a) (hd : ∀ a kvs, W a → H a = some (.dT kvs) → S' a) (ho : ∀ a c dx fs, W a → H a = some (.ins c dx fs) → S' a) : ∀ {ds : List D} {vs : List V}, ShL K T H W ds vs → ShL K T H S' ds vs
  | _, _, .nil => .nil
  | _, _, .cons p r => .cons (Sh.only hl hr hd ho p) (ShL.only hl hr hd ho r)
end
theorem NT.of {a : Addr} {o : HO} (e : H a = some o) (h : ∀ ps, o ≠ .tbl ps) : NT H a := ⟨o, e, h⟩
theorem NT.ne {a : Addr} (h : NT H a) : H a ≠ none := fun z => by
  obtain ⟨o, e, _⟩ := h
  rw [e] at z
  cases z
theorem Sh.nt {d : D} {v : V} (h : Sh K T H W d v) : Sh K T H (fun a => W a ∧ NT H a) d v := h.only (fun a vs w e => ⟨w, .of e fun _ => HO.noConfusion⟩) (fun a vs w e => ⟨w, by
    rcases e with e | ⟨o, e⟩
    · exact .of e fun _ => HO.noConfusion
    · exact .of e fun _ => HO.noConfusion⟩) (fun a kvs w e => ⟨w, .of e fun _ => HO.noConfusion⟩) (fun a c dx fs w e => ⟨w, .of e fun _ => HO.noConfusion⟩)
theorem ShL.nt {ds : List D} {vs : List V} (h : ShL K T H W ds vs) : ShL K T H (fun a => W a ∧ NT H a) ds vs := h.only (fun a vs w e => ⟨w, .of e fun _ => HO.noConfusion⟩) (fun a vs w e => ⟨w, by
    rcases e with e | ⟨o, e⟩
    · exact .of e fun _ => HO.noConfusion
    · exact .of e fun _ => HO.noConfusion⟩) (fun a kvs w e => ⟨w, .of e fun _ => HO.noConfusion⟩) (fun a c dx fs w e => ⟨w, .of e fun _ => HO.noConfusion⟩)
theorem Sto.at_ (s : Sto K (T.w φ) S M H) {n : Nat} {a : Addr} (h : φ n = some a) : ∃ c, M[n]? = some c ∧ CellOk K (T.w φ) H S a c := by
  have hn := s.dom n a h
  obtain ⟨a', e, q⟩ := s.cell n _ (List.getElem?_eq_getElem hn)
  have e : φ n = some a' := e
  rw [h] at e
  cases e
  exact ⟨_, List.getElem?_eq_getElem hn, q⟩
theorem CellOk.there {a : Addr} {c : Cell} (h : CellOk K T H S a c) : (∃ vs, H a = some (.lst vs)) ∨ ∃ c dx fs, H a = some (.ins c dx fs) := by
  cases c with
  | lst ds =>
    obtain ⟨vs, e, _⟩ := h
    exact .inl ⟨vs, e⟩
  | ob c ds =>
    obtain ⟨dx, vs, e, _⟩ := h
    exact .inr ⟨_, _, _, e⟩
theorem Sto.here (s : Sto K (T.w φ) S M H) {n : Nat} {a : Addr} (h : φ n = some a) : NT H a := by
  obtain ⟨c, _, q⟩ := s.at_ h
  rcases q.there with ⟨vs, e⟩ | ⟨c, dx, fs, e⟩
  · exact .of e fun _ => HO.noConfusion
  · exact .of e fun _ => HO.noConfusion
theorem Sto.notup (s : Sto K (T.w φ) S M H) {n : Nat} {a : Addr} {vs : List V} (h : φ n = some a) (e : H a = some (.tup vs)) : False := by
  obtain ⟨c, _, q⟩ := s.at_ h
  rcases q.there with ⟨ws, z⟩ | ⟨c, dx, fs, z⟩
  · rw [e] at z; cases z
  · rw [e] at z; cases z
theorem Go.kp (g : Go K T φ φ' S S' H H' M') (s : Sto K (T.w φ) S M H) : Kp S H H' := ⟨fun a o w e h => g.kx a o e (fun n z => s.out n a z w) fun _ => h, fun a vs e => g.kx a _ e (fun n z => s.notup z e) fun _ _ => HO.noConfusion⟩
theorem Go.sh (g : Go K T φ φ' S S' H H' M') (s : Sto K (T.w φ) S M H) {d : D} {v : V} (h : Sh K (T.w φ) H S d v) : Sh K (T.w φ') H' S' d v := (h.mono (g.kp s) g.sub).tb g.ph
theorem Go.shl (g : Go K T φ φ' S S' H H' M') (s : Sto K (T.w φ) S M H) {ds : List D} {vs : List V} (h : ShL K (T.w φ) H S ds vs) : ShL K (T.w φ') H' S' ds vs := (h.mono (g.kp s) g.sub).tb g.ph
theorem Go.refl (s : Sto K (T.w φ) S M H) : Go K T φ φ S S H H M := ⟨fun _ _ h => h, fun _ _ h => .inl h, fun _ h => h, fun _ h => .inl h, s, fun _ _ h _ _ => h, fun _ h => h⟩
theorem Go.trans (g : Go K T φ φ' S S' H H' M') (g' : Go K T φ' φ'' S' S'' H' H'' M'') : Go K T φ φ'' S S'' H H'' M'' := by
  refine ⟨fun n a h => g'.ph n a (g.ph n a h), fun n a h => ?_, fun a h => g'.sub a (g.sub a h), fun a h => ?_, g'.sto, fun a o e n t => g'.kx a o (g.kx a o e n t) (fun m z => ?_) t, fun a h => g.free a (g'.free a h)⟩
  · rcases g'.new n a h with h | h
    · exact g.new n a h
    · exact .inr (g.free a h)
  · rcases g'.old a h with h | h
    · exact g.old a h
    · exact .inr (g.free a h)
  · rcases g.new m a z with z | z
    · exact n m z
    · rw [e] at z; cases z
theorem Go.st (g : Go K T φ φ' S S' H H' M') (s : St2 K (T.w φ) S ρ M σ H) : St2 K (T.w φ') S' ρ M' σ H' := ⟨g.sto, s.len, fun i d h => by
  obtain ⟨v, e, r⟩ := s.sl i d h
  exact ⟨v, e, g.sh s.sto r⟩⟩
theorem St2.set (s : St2 K T S ρ M σ H) {i : Nat} {d : D} {v : V} (h : Sh K T H S d v) : St2 K T S (ρ.set i (some d)) M (σ.set i (some v)) H := ⟨s.sto, by rw [List.length_set, List.length_set]; exact s.len, fun j d' e => by
  by_cases hj : i = j
  · subst hj
    have hl : i < ρ.length := by
      have := (List.getElem?_eq_some_iff.mp e).1
      rwa [List.length_set] at this
    rw [List.getElem?_set_self hl] at e
    cases e
    exact ⟨v, by rw [List.getElem?_set_self (by rw [← s.len]; exact hl)], h⟩
  · rw [List.getElem?_set_ne hj] at e
    obtain ⟨u, eu, r⟩ := s.sl j d' e
    exact ⟨u, by rw [List.getElem?_set_ne hj]; exact eu, r⟩⟩
theorem St2.wipe (s : St2 K T S ρ M σ H) {i : Nat} {x : Option V} : St2 K T S (ρ.set i none) M (σ.set i x) H := ⟨s.sto, by rw [List.length_set, List.length_set]; exact s.len, fun j d' e => by
  by_cases hj : i = j
  · subst hj
    have hl : i < ρ.length := by
      have := (List.getElem?_eq_some_iff.mp e).1
      rwa [List.length_set] at this
    rw [List.getElem?_set_self hl] at e
    cases e
  · rw [List.getElem?_set_ne hj] at e
    obtain ⟨u, eu, r⟩ := s.sl j d' e
    exact ⟨u, by rw [List.getElem?_set_ne hj]; exact eu, r⟩⟩
theorem CellOk.go (k : Kp S H H') (l : ∀ a, S a → S' a) {a : Addr} {c : Cell} (h : CellOk K T H S a c) (e : H' a = H a) : CellOk K T H' S' a c := by
  cases c with
  | lst ds =>
    obtain ⟨vs, e1, r⟩ := h
    exact ⟨vs, by rw [e]; exact e1, r.mono k l⟩
  | ob c ds =>
    obtain ⟨dx, vs, e1, l1, r⟩ := h
    exact ⟨dx, vs, by rw [e]; exact e1, l1, r.mono k l⟩
/-- nothing but new things: what stands behind an expression that changes nothing -/
theorem Go.pure (s : Sto K (T.w φ) S M H) (e : Same H H') : Go K T φ φ S (fun a => Fw S H H' a ∧ NT H' a) H H' M := by
  have nt : ∀ a, NT H a → NT H' a := fun a ⟨o, h, t⟩ => ⟨o, e _ _ h, t⟩
  refine ⟨fun _ _ h => h, fun _ _ h => .inl h, fun a h => ⟨.inl h, nt a (s.bnd a h)⟩, fun a h => h.1.imp id fun z => z.1, ⟨fun a h => h.2, fun n c h => ?_, s.dom, s.inj, fun n a h z => ?_⟩, fun a o h _ _ => e a o h, fun a h => e.free h⟩
  · obtain ⟨a, h1, h2⟩ := s.cell n c h
    refine ⟨a, h1, h2.go (Kp.of e) (fun a w => ⟨.inl w, nt a (s.bnd a w)⟩) ?_⟩
    rcases h2.there with ⟨vs, z⟩ | ⟨c, dx, fs, z⟩
    · rw [z, e _ _ z]
    · rw [z, e _ _ z]
  · rcases z.1 with z | ⟨z, _⟩
    · exact s.out n a h z
    · exact (s.here h).ne z
/-- a new cell -/
theorem Go.cell {p : Addr} {c : Cell} (s : Sto K (T.w φ) S M H) (e : Same H H') (hn : H p = none) (hp : NT H' p)
    (hc : CellOk K (T.w φ) H' (fun a => (Fw S H H' a ∧ NT H' a) ∧ a ≠ p) p c) : Go K T φ (fun n => if n = M.length then some p else φ n) S (fun a => (Fw S H H' a ∧ NT H' a) ∧ a ≠ p) H H' (M ++ [c]) := by
  have g := Go.pure s e
  have un : ∀ n a, φ n = some a → a ≠ p := fun n a h z => by subst z; exact (s.here h).ne hn
  have ext : ∀ n a, φ n = some a → (if n = M.length then some p else φ n) = some a := fun n a h => by
    rw [if_neg (Nat.ne_of_lt (s.dom n a h))]
    exact h
  have le : ∀ {a c}, CellOk K (T.w φ) H' (fun a => (Fw S H H' a ∧ NT H' a) ∧ a ≠ p) a c → CellOk K (T.w fun n => if n = M.length then some p else φ n) H' (fun a => (Fw S H H' a ∧ NT H' a) ∧ a ≠ p) a c := fun {a c} h => by
    cases c with
    | lst ds =>
      obtain ⟨vs, e1, r⟩ := h
      exact ⟨vs, e1, r.tb ext⟩
    | ob c ds =>
      obtain ⟨dx, vs, e1, l1, r⟩ := h
      exact ⟨dx, vs, e1, l1, r.tb ext⟩
  have sp : ∀ a, S a → a ≠ p := fun a h z => by subst z; exact (s.bnd a h).ne hn
  refine ⟨ext, fun n a h => ?_, fun a h => ⟨g.sub a h, sp a h⟩, fun a h => g.old a h.1, ⟨fun a h => h.1.2, fun n c' h => ?_, fun n a h => ?_, fun n m a h1 h2 => ?_, fun n a h z => ?_⟩, g.kx, g.free⟩
  · by_cases hm : n = M.length
    · rw [if_pos hm] at h
      cases h
      exact .inr hn
    · rw [if_neg hm] at h
      exact .inl h
  · by_cases hm : n < M.length
    · rw [List.getElem?_append_left hm] at h
      obtain ⟨a, h1, h2⟩ := s.cell n c' h
      refine ⟨a, ext n a h1, le (h2.go (Kp.of e) (fun a w => ⟨g.sub a w, sp a w⟩) ?_)⟩
      rcases h2.there with ⟨vs, z⟩ | ⟨c, dx, fs, z⟩
      · rw [z, e _ _ z]
      · rw [z, e _ _ z]
    · rw [List.getElem?_append_right (by omega)] at h
      obtain ⟨h0, h1⟩ := List.getElem?_eq_some_iff.mp h
      have : n = M.length := by simp at h0; omega
      subst this
      simp at h1
      subst h1
      exact ⟨p, if_pos rfl, le hc⟩
  · show n < (M ++ [c]).length
    rw [List.length_append, List.length_singleton]
    have h : (if n = M.length then some p else φ n) = some a := h
    by_cases hm : n = M.length
    · omega
    · rw [if_neg hm] at h
      have := s.dom n a h
      omega
  · have h1 : (if n = M.length then some p else φ n) = some a := h1
    have h2 : (if m = M.length then some p else φ m) = some a := h2
    by_cases hm : n = M.length
    · rw [if_pos hm] at h1
      cases h1
      by_cases hm2 : m = M.length
      · omega
      · rw [if_neg hm2] at h2
        exact absurd rfl (un _ _ h2)
    · rw [if_neg hm] at h1
      by_cases hm2 : m = M.length
      · rw [if_pos hm2] at h2
        cases h2
        exact absurd rfl (un _ _ h1)
      · rw [if_neg hm2] at h2
        exact s.inj n m a h1 h2
  · have h : (if n = M.length then some p else φ n) = some a := h
    by_cases hm : n = M.length
    · rw [if_pos hm] at h
      cases h
      exact z.2 rfl
    · rw [if_neg hm] at h
      exact g.sto.out n a h z.1
/-- cell n is changed, at its place -/
theorem Go.put {n : Nat} {p : Addr} {o : HO} {c : Cell} (s : Sto K (T.w φ) S M H) (h : φ n = some p) (ho : ∀ ps, o ≠ .tbl ps) (nt : ∀ vs, o ≠ .tup vs) (hc : CellOk K (T.w φ) (upd H p o) S p c) : Go K T φ φ S S H (upd H p o) (M.set n c) := by
  have ne : ∀ a, S a → a ≠ p := fun a w z => by subst z; exact s.out n a h w
  obtain ⟨o0, e0, t0⟩ := s.here h
  have kp : Kp S H (upd H p o) := ⟨fun a u w e _ => by rw [upd_ne (ne a w)]; exact e, fun a vs e => by
    rw [upd_ne fun z => by subst z; exact s.notup h e]
    exact e⟩
  refine ⟨fun _ _ h => h, fun _ _ h => .inl h, fun _ h => h, fun _ h => .inl h, ⟨fun a w => ?_, fun m c' hm => ?_, fun m a hm => by rw [List.length_set]; exact s.dom m a hm, s.inj, s.out⟩, fun a u e n' t => ?_, fun a e => ?_⟩
  · obtain ⟨u, e, t⟩ := s.bnd a w
    exact ⟨u, by rw [upd_ne (ne a w)]; exact e, t⟩
  · by_cases hmn : n = m
    · subst hmn
      rw [List.getElem?_set_self (s.dom n p h)] at hm
      cases hm
      exact ⟨p, h, hc⟩
    · rw [List.getElem?_set_ne hmn] at hm
      obtain ⟨a, h1, h2⟩ := s.cell m c' hm
      exact ⟨a, h1, h2.go kp (fun _ w => w) (upd_ne fun z => by subst z; exact hmn (s.inj n m a h h1))⟩
  · rw [upd_ne fun z => by subst z; exact n' n h]
    exact e
  · unfold upd at e
    split at e
    · cases e
    · exact e
end

/-! ### answers -/
inductive RX (α : Type) where
  | ok (a : α) (M : Mem) | ex (c : Nat) (M : Mem) | st
abbrev X2 (α : Type) := E2 → Mem → RX α
@[simp] def RX.bind {α β : Type} (m : RX α) (f : α → Mem → RX β) : RX β := match m with
  | .ok a M => f a M
  | .ex c M => .ex c M
  | .st => .st
def runX {α : Type} (m : RX α) (ok : α → Mem → Prop) (ex : Nat → Mem → Prop) : Prop := match m with
  | .ok a M => ok a M
  | .ex c M => ex c M
  | .st => False
theorem runX_bind {α β : Type} {m : RX α} {f : α → Mem → RX β} {ok : β → Mem → Prop} {ex : Nat → Mem → Prop} (h : runX (m.bind f) ok ex) : runX m (fun a M => runX (f a M) ok ex) ex := by
  cases m with
  | ok a M => exact h
  | ex c M => exact h
  | st => exact h
theorem runX_mono {α : Type} {m : RX α} {ok ok' : α → Mem → Prop} {ex ex' : Nat → Mem → Prop} (h : runX m ok ex) (h1 : ∀ a M, ok a M → ok' a M) (h2 : ∀ c M, ex c M → ex' c M) : runX m ok' ex' := by
  cases m with
  | ok a M => exact h1 a M h
  | ex c M => exact h2 c M h
  | st => exact h
/-- a pure answer -/
@[simp] def RX.of {α : Type} (m : R α) (M : Mem) : RX α := match m with
  | .ok a => .ok a M
  | _ => .st
theorem runX_of {α : Type} {m : R α} {M : Mem} {ok : α → Mem → Prop} {ex : Nat → Mem → Prop} (h : runX (RX.of m M) ok ex) : ∃ a, m = .ok a ∧ ok a M := by
  cases m with
  | ok a => exact ⟨a, rfl, h⟩
  | ex c => exact h.elim
  | st => exact h.elim
@[simp] def RX.when (c : Bool) {α : Type} (m : RX α) : RX α := if c = true then m else .st
theorem runX_when {α : Type} {c : Bool} {m : RX α} {ok : α → Mem → Prop} {ex : Nat → Mem → Prop} (h : runX (RX.when c m) ok ex) : c = true ∧ runX m ok ex := by
  unfold RX.when at h
  by_cases e : c = true
  · rw [if_pos e] at h; exact ⟨e, h⟩
  · rw [if_neg e] at h; exact h.elim
abbrev Zx := Nat → L2.St → Hp → Prop
section
variable (K : PySem.W.Frag) (T : Tb) (Z : Zx)
/-- what is wanted of a refusal -/
abbrev exZ (φ : Ph) (S : Addr → Prop) (σ : L2.St) (H : Hp) : Nat → Mem → Prop := fun c M' => ∀ H' φ' S', Go K T φ φ' S S' H H' M' → Z c σ H'
def tX (f : X2 D) : TE := fun σ H Q => ∃ φ S ρ M, St2 K (T.w φ) S ρ M σ H ∧ runX (f ρ M) (fun d M' => ∀ v H' φ' S', Go K T φ φ' S S' H H' M' → Sh K (T.w φ') H' S' d v → Q v H') (exZ K T Z φ S σ H)
def tXA (f : X2 (List D)) : TA := fun σ H Q => ∃ φ S ρ M, St2 K (T.w φ) S ρ M σ H ∧ runX (f ρ M) (fun ds M' => ∀ vs H' φ' S', Go K T φ φ' S S' H H' M' → ShL K (T.w φ') H' S' ds vs → Q vs H') (exZ K T Z φ S σ H)
def tXT (f : X2 Bool) : TT := fun σ H Q => ∃ φ S ρ M, St2 K (T.w φ) S ρ M σ H ∧ runX (f ρ M) (fun b M' => ∀ H' φ' S', Go K T φ φ' S S' H H' M' → Q b H') (exZ K T Z φ S σ H)
end
structure XE (X : Cx) (T : Tb) (Z : Zx) (e : Expr) (f : X2 D) : Prop where
  pe : PE X e (tX X.K T Z f)
structure XA (X : Cx) (T : Tb) (Z : Zx) (es : List Expr) (f : X2 (List D)) : Prop where
  pa : PA X es (tXA X.K T Z f)
structure XT (X : Cx) (T : Tb) (Z : Zx) (e : Expr) (f : X2 Bool) : Prop where
  pt : PT X e (tXT X.K T Z f)
section
variable {K : PySem.W.Frag} {T : Tb} {Z : Zx} {φ φ0 : Ph} {S S0 : Addr → Prop} {ρ : E2} {M : Mem} {σ : L2.St} {H H0 : Hp}
/-- one value, then what is done with it; all since φ0, S0, H0 -/
theorem tX_one {α : Type} {f : X2 D} {k : D → Mem → RX α} {ok : α → Mem → Prop} {Q : V → Hp → Prop} (st : St2 K (T.w φ) S ρ M σ H) (g : Go K T φ0 φ S0 S H0 H M) (h : runX ((f ρ M).bind k) ok (exZ K T Z φ0 S0 σ H0))
    (hq : ∀ a v H1 φ1 S1 M1, Go K T φ φ1 S S1 H H1 M1 → Go K T φ0 φ1 S0 S1 H0 H1 M1 → St2 K (T.w φ1) S1 ρ M1 σ H1 → Sh K (T.w φ1) H1 S1 a v → runX (k a M1) ok (exZ K T Z φ0 S0 σ H0) → Q v H1) : tX K T Z f σ H Q :=
  ⟨φ, S, ρ, M, st, runX_mono (runX_bind h) (fun a M1 q v H1 φ1 S1 g1 r => hq a v H1 φ1 S1 M1 g1 (g.trans g1) (g1.st st) r q) fun c M1 z H1 φ1 S1 g1 => z H1 φ1 S1 (g.trans g1)⟩
theorem tXA_one {α : Type} {f : X2 (List D)} {k : List D → Mem → RX α} {ok : α → Mem → Prop} {Q : List V → Hp → Prop} (st : St2 K (T.w φ) S ρ M σ H) (g : Go K T φ0 φ S0 S H0 H M) (h : runX ((f ρ M).bind k) ok (exZ K T Z φ0 S0 σ H0))
    (hq : ∀ a v H1 φ1 S1 M1, Go K T φ φ1 S S1 H H1 M1 → Go K T φ0 φ1 S0 S1 H0 H1 M1 → St2 K (T.w φ1) S1 ρ M1 σ H1 → ShL K (T.w φ1) H1 S1 a v → runX (k a M1) ok (exZ K T Z φ0 S0 σ H0) → Q v H1) : tXA K T Z f σ H Q :=
  ⟨φ, S, ρ, M, st, runX_mono (runX_bind h) (fun a M1 q v H1 φ1 S1 g1 r => hq a v H1 φ1 S1 M1 g1 (g.trans g1) (g1.st st) r q) fun c M1 z H1 φ1 S1 g1 => z H1 φ1 S1 (g.trans g1)⟩
theorem tXT_one {α : Type} {f : X2 Bool} {k : Bool → Mem → RX α} {ok : α → Mem → Prop} {Q : Bool → Hp → Prop} (st : St2 K (T.w φ) S ρ M σ H) (g : Go K T φ0 φ S0 S H0 H M) (h : runX ((f ρ M).bind k) ok (exZ K T Z φ0 S0 σ H0))
    (hq : ∀ a H1 φ1 S1 M1, Go K T φ φ1 S S1 H H1 M1 → Go K T φ0 φ1 S0 S1 H0 H1 M1 → St2 K (T.w φ1) S1 ρ M1 σ H1 → runX (k a M1) ok (exZ K T Z φ0 S0 σ H0) → Q a H1) : tXT K T Z f σ H Q :=
  ⟨φ, S, ρ, M, st, runX_mono (runX_bind h) (fun a M1 q H1 φ1 S1 g1 => hq a H1 φ1 S1 M1 g1 (g.trans g1) (g1.st st) q) fun c M1 z H1 φ1 S1 g1 => z H1 φ1 S1 (g.trans g1)⟩
end
end
end PL
/-! PXB: pure expressions over the store. -/
namespace PL
open PySem L2 PyProof.Rows
noncomputable section
/-- cells by their content -/
def deep : Nat → Mem → D → D
  | k + 1, M, .ptr n => match M[n]? with
    | some (.lst ds) => .lst (ds.map (deep k M))
    | some (.ob c ds) => .ob c (ds.map (deep k M))
    | none => .ptr n
  | _, _, d => d
theorem deep_id {k : Nat} {M : Mem} {d : D} (h : ∀ n, d ≠ .ptr n) : deep k M d = d := by
  cases k with
  | zero => rfl
  | succ k =>
    cases d with
    | ptr n => exact absurd rfl (h n)
    | _ => rfl
@[simp] theorem deep_int {k : Nat} {M : Mem} {i : Int} : deep k M (.int i) = .int i := deep_id fun _ => D.noConfusion
@[simp] theorem deep_str {k : Nat} {M : Mem} {i : Str} : deep k M (.str i) = .str i := deep_id fun _ => D.noConfusion
@[simp] theorem deep_bl {k : Nat} {M : Mem} {i : Bool} : deep k M (.bl i) = .bl i := deep_id fun _ => D.noConfusion
@[simp] theorem deep_non {k : Nat} {M : Mem} : deep k M .non = .non := deep_id fun _ => D.noConfusion
@[simp] theorem deep_tup {k : Nat} {M : Mem} {i : List D} : deep k M (.tup i) = .tup i := deep_id fun _ => D.noConfusion
@[simp] theorem deep_lst {k : Nat} {M : Mem} {i : List D} : deep k M (.lst i) = .lst i := deep_id fun _ => D.noConfusion
@[simp] theorem deep_scr {k : Nat} {M : Mem} {i : List Int} : deep k M (.scr i) = .scr i := deep_id fun _ => D.noConfusion
@[simp] theorem deep_dct {k : Nat} {M : Mem} {a : List (List Key)} {i : List D} : deep k M (.dct a i) = .dct a i := deep_id fun _ => D.noConfusion
@[simp] theorem deep_ob {k : Nat} {M : Mem} {a : Nat} {i : List D} : deep k M (.ob a i) = .ob a i := deep_id fun _ => D.noConfusion
theorem deep_ptr {k : Nat} {M : Mem} {n : Nat} {ds : List D} (h : M[n]? = some (.lst ds)) : deep (k + 1) M (.ptr n) = .lst (ds.map (deep k M)) := by simp [deep, h]
theorem deep_pob {k : Nat} {M : Mem} {n c : Nat} {ds : List D} (h : M[n]? = some (.ob c ds)) : deep (k + 1) M (.ptr n) = .ob c (ds.map (deep k M)) := by simp [deep, h]
/-- the cells that are met -/
def idsD : Nat → Mem → D → List Nat
  | k + 1, M, .ptr n => n :: match M[n]? with
    | some (.lst ds) => (ds.map (idsD k M)).flatten
    | some (.ob _ ds) => (ds.map (idsD k M)).flatten
    | none => []
  | _, _, _ => []
section
variable {K : PySem.W.Frag} {T : Tb} {φ : Ph} {S : Addr → Prop} {M : Mem} {H : Hp} {σ : L2.St} {ρ : E2}
theorem deep_sh (s : Sto K (T.w φ) S M H) : ∀ (k : Nat) {d : D} {v : V}, Sh K (T.w φ) H S d v → Sh K (T.w φ) H (fun a => S a ∨ ∃ n ∈ idsD k M d, φ n = some a) (deep k M d) v
  | 0, d, v, r => r.mono Kp.refl fun a w => .inl w
  | k + 1, d, v, r => by
    have go : ∀ {ds : List D} {vs : List V}, ShL K (T.w φ) H S ds vs → ShL K (T.w φ) H (fun a => S a ∨ ∃ n ∈ (ds.map (idsD k M)).flatten, φ n = some a) (ds.map (deep k M)) vs := by
      intro ds
      induction ds with
      | nil =>
        intro vs r
        cases r
        exact .nil
      | cons d ds ih =>
        intro vs r
        cases r with
        | cons p r =>
          refine .cons ((deep_sh s k p).mono Kp.refl fun a w => w.imp id fun ⟨n, hn, e⟩ => ⟨n, ?_, e⟩) ((ih r).mono Kp.refl fun a w => w.imp id fun ⟨n, hn, e⟩ => ⟨n, ?_, e⟩)
          · rw [List.map_cons, List.flatten_cons]; exact List.mem_append_left _ hn
          · rw [List.map_cons, List.flatten_cons]; exact List.mem_append_right _ hn
    cases d with
    | ptr n =>
      have hr := r
      cases r with
      | ptr e =>
        have e : φ n = some _ := e
        obtain ⟨c, hc, q⟩ := s.at_ e
        cases c with
        | lst ds =>
          obtain ⟨vs, e1, r1⟩ := q
          have ei : idsD (k + 1) M (.ptr n) = n :: (ds.map (idsD k M)).flatten := by simp [idsD, hc]
          rw [deep_ptr hc, ei]
          exact .lst e1 (.inr ⟨n, List.mem_cons_self, e⟩) ((go r1).mono Kp.refl fun a w => w.imp id fun ⟨m, hm, z⟩ => ⟨m, List.mem_cons_of_mem _ hm, z⟩)
        | ob c ds =>
          obtain ⟨dx, vs, e1, l1, r1⟩ := q
          have ei : idsD (k + 1) M (.ptr n) = n :: (ds.map (idsD k M)).flatten := by simp [idsD, hc]
          rw [deep_pob hc, ei]
          exact .ob e1 (.inr ⟨n, List.mem_cons_self, e⟩) l1 ((go r1).mono Kp.refl fun a w => w.imp id fun ⟨m, hm, z⟩ => ⟨m, List.mem_cons_of_mem _ hm, z⟩)
    | _ => rw [deep_id fun _ => D.noConfusion]; exact r.mono Kp.refl fun a w => .inl w
/-- the slots as level one sees them: those of vs by their content -/
def vwF (vs : List Nat) (M : Mem) : Nat → E2 → Ev
  | _, [] => []
  | i, none :: ρ => .no :: vwF vs M (i + 1) ρ
  | i, some d :: ρ => .sh (if i ∈ vs then deep 3 M d else d) :: vwF vs M (i + 1) ρ
theorem vwF_len (vs : List Nat) (M : Mem) : ∀ (i : Nat) (ρ : E2), (vwF vs M i ρ).length = ρ.length
  | _, [] => rfl
  | i, none :: ρ => by simp [vwF, vwF_len vs M (i + 1) ρ]
  | i, some d :: ρ => by simp [vwF, vwF_len vs M (i + 1) ρ]
theorem vwF_at (vs : List Nat) (M : Mem) : ∀ (i : Nat) (ρ : E2) (j : Nat), (vwF vs M i ρ)[j]? = (ρ[j]?).map fun o => match o with
    | none => .no
    | some d => .sh (if i + j ∈ vs then deep 3 M d else d)
  | _, [], _ => by simp [vwF]
  | i, none :: ρ, 0 => by simp [vwF]
  | i, some d :: ρ, 0 => by simp [vwF]
  | i, none :: ρ, j + 1 => by
    simp only [vwF, List.getElem?_cons_succ, vwF_at vs M (i + 1) ρ j]
    rw [show i + 1 + j = i + (j + 1) by omega]
  | i, some d :: ρ, j + 1 => by
    simp only [vwF, List.getElem?_cons_succ, vwF_at vs M (i + 1) ρ j]
    rw [show i + 1 + j = i + (j + 1) by omega]
def vids (vs : List Nat) (M : Mem) (ρ : E2) : List Nat := (vs.map fun i => match ρ[i]? with
  | some (some d) => idsD 3 M d
  | _ => []).flatten
def Sv (ns : List Nat) (φ : Ph) (S : Addr → Prop) : Addr → Prop := fun a => S a ∨ ∃ n ∈ ns, φ n = some a
theorem sta_view (vs : List Nat) (st : St2 K (T.w φ) S ρ M σ H) : Sta K ⟨T.w φ, H, Sv (vids vs M ρ) φ S, fun _ _ => False⟩ (vwF vs M 0 ρ) (Sv (vids vs M ρ) φ S) σ H := by
  refine ⟨Same.refl _, fun a h => .inl h, fun a h => h, fun a h => ?_, by rw [vwF_len]; exact st.len, fun i s hs => ?_, fun i j s t x y p hij hs ht hx hy f g => ?_⟩
  · rcases h with h | ⟨n, _, h⟩
    · exact (st.sto.bnd a h).ne
    · exact (st.sto.here h).ne
  · rw [vwF_at, Option.map_eq_some_iff] at hs
    obtain ⟨o, ho, rfl⟩ := hs
    cases o with
    | none =>
      have hl := (List.getElem?_eq_some_iff.mp ho).1
      rw [st.len] at hl
      exact ⟨σ[i], List.getElem?_eq_getElem hl, trivial⟩
    | some d =>
      obtain ⟨v, hv, r⟩ := st.sl i d ho
      refine ⟨some v, hv, v, rfl, ?_⟩
      by_cases hi : 0 + i ∈ vs
      · rw [if_pos hi]
        rw [Nat.zero_add] at hi
        refine (deep_sh st.sto 3 r).mono Kp.refl fun a w => w.imp id fun ⟨n, hn, e⟩ => ⟨n, ?_, e⟩
        unfold vids
        rw [List.mem_flatten]
        exact ⟨idsD 3 M d, List.mem_map.mpr ⟨i, hi, by rw [ho]⟩, hn⟩
      · rw [if_neg hi]
        exact r.mono Kp.refl fun a w => .inl w
  · rw [vwF_at, Option.map_eq_some_iff] at hs
    obtain ⟨o, _, rfl⟩ := hs
    cases o <;> exact f.elim
end

/-! ### data that lies apart from the cells, by what it is -/
def kdD : D → Nat
  | .non => 0
  | .bl _ => 1
  | .int _ => 2
  | .str _ => 3
  | .tup _ => 4
  | .scr _ => 6
  | _ => 5
def clashK (a b : Nat) : Bool := a != b && a != 6 && b != 6
def clashL (us xs : List D) : Bool := us.length != xs.length || (us.zip xs).any fun p => clashK (kdD p.1) (kdD p.2)
def apartN (c : Cell) (us : List D) : Bool := match c with
  | .lst xs => clashL us xs
  | .ob _ _ => true
def apartO (c : Cell) : Bool := match c with
  | .lst _ => true
  | .ob _ _ => false
mutual
def apart (M : Mem) : D → Bool
  | .lst us => M.all (fun c => apartN c us) && apartL M us
  | .tup us => apartL M us
  | .dct _ us => apartL M us
  | .ob _ us => M.all apartO && apartL M us
  | .scr _ => false
  | _ => true
def apartL (M : Mem) : List D → Bool
  | [] => true
  | x :: xs => apart M x && apartL M xs
end
section
variable {K : PySem.W.Frag} {T : Tb} {φ : Ph} {S W : Addr → Prop} {M : Mem} {H : Hp}
def VKi (H : Hp) : Nat → V → Prop
  | 0, v => v = .non
  | 1, v => ∃ b, v = .bl b
  | 2, v => ∃ i, v = .int i
  | 3, v => ∃ x, v = .str x
  | 4, v => ∃ a us, v = .ref a ∧ H a = some (.tup us)
  | 5, v => ∃ a, v = .ref a ∧ ∀ us, H a ≠ some (.tup us)
  | _, _ => True
theorem kd_v (s : Sto K (T.w φ) S M H) {W : Addr → Prop} {d : D} {v : V} (h : Sh K (T.w φ) H W d v) : VKi H (kdD d) v := by
  cases h with
  | non => exact rfl
  | bl b => exact ⟨b, rfl⟩
  | int i => exact ⟨i, rfl⟩
  | str x => exact ⟨x, rfl⟩
  | tup e r => exact ⟨_, _, rfl, e⟩
  | lst e q r => exact ⟨_, rfl, fun us z => by rw [e] at z; cases z⟩
  | scr q => trivial
  | dct e q l r => exact ⟨_, rfl, fun us z => by rw [e] at z; cases z⟩
  | ob e q l r => exact ⟨_, rfl, fun us z => by rw [e] at z; cases z⟩
  | ptr e => exact ⟨_, rfl, fun us z => s.notup (show φ _ = some _ from e) z⟩
theorem kd_le (d : D) : kdD d = 0 ∨ kdD d = 1 ∨ kdD d = 2 ∨ kdD d = 3 ∨ kdD d = 4 ∨ kdD d = 5 ∨ kdD d = 6 := by cases d <;> simp [kdD]
theorem kd_same (s : Sto K (T.w φ) S M H) {d d' : D} {v : V} (h : Sh K (T.w φ) H W d v) (h' : Sh K (T.w φ) H S d' v) : clashK (kdD d) (kdD d') = false := by
  have k1 := kd_v s h
  have k2 := kd_v s h'
  rcases kd_le d with e | e | e | e | e | e | e <;> rcases kd_le d' with e' | e' | e' | e' | e' | e' | e' <;> rw [e] at k1 ⊢ <;> rw [e'] at k2 ⊢ <;> first
    | rfl
    | (exfalso
       simp only [VKi] at k1 k2
       first
         | (obtain ⟨a, us, z0, z1⟩ := k1; obtain ⟨b, z3, z2⟩ := k2; rw [z0] at z3; cases z3; exact z2 _ z1)
         | (obtain ⟨a, us, z0, z1⟩ := k2; obtain ⟨b, z3, z2⟩ := k1; rw [z0] at z3; cases z3; exact z2 _ z1)
         | (obtain ⟨a, us, rfl, z1⟩ := k2; obtain ⟨b, z2⟩ := k1; cases z2; done)
         | (obtain ⟨a, us, rfl, z1⟩ := k1; obtain ⟨b, z2⟩ := k2; cases z2; done)
         | (obtain ⟨a, rfl, z1⟩ := k2; obtain ⟨b, z2⟩ := k1; cases z2; done)
         | (obtain ⟨a, rfl, z1⟩ := k1; obtain ⟨b, z2⟩ := k2; cases z2; done)
         | (obtain ⟨a, rfl⟩ := k2; obtain ⟨b, z2⟩ := k1; cases z2; done)
         | (subst k1; obtain ⟨b, z2⟩ := k2; cases z2; done)
         | (subst k2; obtain ⟨b, z2⟩ := k1; cases z2; done)
         | (subst k1; obtain ⟨b, us, z2, _⟩ := k2; cases z2; done)
         | (subst k2; obtain ⟨b, us, z2, _⟩ := k1; cases z2; done)
         | (subst k1; obtain ⟨b, z2, _⟩ := k2; cases z2; done)
         | (subst k2; obtain ⟨b, z2, _⟩ := k1; cases z2; done))
theorem clashL_no (s : Sto K (T.w φ) S M H) : ∀ {us xs : List D} {vs : List V}, ShL K (T.w φ) H W us vs → ShL K (T.w φ) H S xs vs → clashL us xs = false
  | [], [], _, .nil, .nil => rfl
  | u :: us, x :: xs, _, .cons h r, .cons h' r' => by
    have ih := clashL_no s r r'
    have k := kd_same s h h'
    unfold clashL at ih ⊢
    rw [Bool.or_eq_false_iff] at ih ⊢
    refine ⟨by have := ih.1; simpa using this, ?_⟩
    rw [List.zip_cons_cons, List.any_cons, k, Bool.false_or]
    exact ih.2
  | [], _ :: _, _, .nil, r' => by cases r'
  | _ :: _, [], _, r, .nil => by cases r
def selM (ns : List Nat) (M : Mem) : Mem := ns.filterMap fun n => M[n]?
theorem sel_mem {ns : List Nat} {n : Nat} {c : Cell} (h : n ∈ ns) (e : M[n]? = some c) : c ∈ selM ns M := List.mem_filterMap.mpr ⟨n, h, e⟩
mutual
theorem Sh.apart {ns : List Nat} (s : Sto K (T.w φ) S M H) : ∀ {d : D} {v : V}, Sh K (T.w φ) H (fun a => W a ∨ ∃ n ∈ ns, φ n = some a) d v → apart (selM ns M) d = true → Sh K (T.w φ) H W d v
  | _, _, .non, _ => .non
  | _, _, .bl b, _ => .bl b
  | _, _, .int i, _ => .int i
  | _, _, .str x, _ => .str x
  | _, _, .tup e r, h => .tup e (ShL.apart s r (by simpa [PL.apart] using h))
  | _, _, .lst (a := a) e q r, h => by
    rw [PL.apart, Bool.and_eq_true] at h
    refine .lst e ?_ (ShL.apart s r h.2)
    rcases q with q | ⟨n, hns, hn⟩
    · exact q
    · exfalso
      obtain ⟨c, hc, ok⟩ := s.at_ hn
      have hm := List.all_eq_true.mp h.1 c (sel_mem hns hc)
      cases c with
      | lst xs =>
        obtain ⟨ws, e1, r1⟩ := ok
        rw [e] at e1
        cases e1
        have z := clashL_no s r r1
        rw [show apartN (.lst xs) _ = clashL _ xs from rfl, z] at hm
        cases hm
      | ob c xs =>
        obtain ⟨dx, ws, e1, _, r1⟩ := ok
        rw [e] at e1
        cases e1
  | _, _, .dct e q l r, h => by
    rw [PL.apart] at h
    refine .dct e ?_ l (ShL.apart s r h)
    rcases q with q | ⟨n, hns, hn⟩
    · exact q
    · exfalso
      obtain ⟨c, hc, ok⟩ := s.at_ hn
      rcases ok.there with ⟨ws, z⟩ | ⟨c, dx, fs, z⟩
      · rw [e] at z; cases z
      · rw [e] at z; cases z
  | _, _, .ob e q l r, h => by
    rw [PL.apart, Bool.and_eq_true] at h
    refine .ob e ?_ l (ShL.apart s r h.2)
    rcases q with q | ⟨n, hns, hn⟩
    · exact q
    · exfalso
      obtain ⟨c, hc, ok⟩ := s.at_ hn
      have hm := List.all_eq_true.mp h.1 c (sel_mem hns hc)
      cases c with
      | lst xs =>
        obtain ⟨ws, e1, r1⟩ := ok
        rw [e] at e1
        cases e1
      | ob c xs => cases hm
  | _, _, .scr _, h => by simp [PL.apart] at h
  | _, _, .ptr e, _ => .ptr e
theorem ShL.apart {ns : List Nat} (s : Sto K (T.w φ) S M H) : ∀ {ds : List D} {vs : List V}, ShL K (T.w φ) H (fun a => W a ∨ ∃ n ∈ ns, φ n = some a) ds vs → apartL (selM ns M) ds = true → ShL K (T.w φ) H W ds vs
  | _, _, .nil, _ => .nil
  | _, _, .cons h r, e => by
    rw [PL.apartL, Bool.and_eq_true] at e
    exact .cons (Sh.apart s h e.1) (ShL.apart s r e.2)
end
end
/-- what may be kept: nothing of the cells is in it -/
def okL (ns : List Nat) (M : Mem) (d : D) : Bool := ns.isEmpty || d.flat || apart (selM ns M) d
def okLs (ns : List Nat) (M : Mem) (ds : List D) : Bool := ns.isEmpty || D.flatL ds || apartL (selM ns M) ds
@[simp] theorem vids_nil {M : Mem} {ρ : E2} : vids [] M ρ = [] := rfl
@[simp] theorem okL_nil {M : Mem} {d : D} : okL [] M d = true := rfl
@[simp] theorem okLs_nil {M : Mem} {ds : List D} : okLs [] M ds = true := rfl
theorem okL_flat {vs : List Nat} {M : Mem} {d : D} (h : d.flat = true) : okL vs M d = true := by simp [okL, h]
theorem okLs_flat {vs : List Nat} {M : Mem} {ds : List D} (h : D.flatL ds = true) : okLs vs M ds = true := by simp [okLs, h]
@[simp] theorem okL_int {vs : List Nat} {M : Mem} {i : Int} : okL vs M (.int i) = true := okL_flat rfl
@[simp] theorem okL_bl {vs : List Nat} {M : Mem} {i : Bool} : okL vs M (.bl i) = true := okL_flat rfl
@[simp] theorem okL_str {vs : List Nat} {M : Mem} {i : Str} : okL vs M (.str i) = true := okL_flat rfl
@[simp] theorem okL_non {vs : List Nat} {M : Mem} : okL vs M .non = true := okL_flat rfl
section
variable {K : PySem.W.Frag} {T : Tb} {φ : Ph} {S : Addr → Prop} {M : Mem} {H H' : Hp} {vs : List Nat}
theorem keep_sh (s : Sto K (T.w φ) S M H) (e : Same H H') {d : D} {v : V} (h : Sh K (T.w φ) H' (Fw (Sv vs φ S) H H') d v) (c : okL vs M d = true) : Sh K (T.w φ) H' (fun a => Fw S H H' a ∧ NT H' a) d v := by
  refine Sh.nt ?_
  unfold okL at c
  rw [Bool.or_eq_true, Bool.or_eq_true] at c
  rcases c with (c | c) | c
  · rw [List.isEmpty_iff] at c
    exact h.mono Kp.refl fun a w => w.imp (fun w => w.elim id fun ⟨n, hn, _⟩ => by rw [c] at hn; simp at hn) id
  · exact h.free c
  · have g := Go.pure s e
    refine (Sh.apart g.sto (W := Fw S H H') (h.mono Kp.refl fun a w => ?_) c)
    rcases w with (w | w) | w
    · exact .inl (.inl w)
    · exact .inr w
    · exact .inl (.inr w)
theorem keep_shl (s : Sto K (T.w φ) S M H) (e : Same H H') {W : Addr → Prop} {ds : List D} {us : List V} (h : ShL K (T.w φ) H' (fun a => Fw (Sv vs φ S) H H' a ∧ W a) ds us) (c : okLs vs M ds = true) : ShL K (T.w φ) H' (fun a => (Fw S H H' a ∧ NT H' a) ∧ W a) ds us := by
  have h2 : ShL K (T.w φ) H' (fun a => Fw S H H' a ∧ W a) ds us := by
    unfold okLs at c
    rw [Bool.or_eq_true, Bool.or_eq_true] at c
    rcases c with (c | c) | c
    · rw [List.isEmpty_iff] at c
      exact h.mono Kp.refl fun a w => ⟨w.1.imp (fun w => w.elim id fun ⟨n, hn, _⟩ => by rw [c] at hn; simp at hn) id, w.2⟩
    · exact h.free c
    · have g := Go.pure s e
      refine (ShL.apart g.sto (W := fun a => Fw S H H' a ∧ W a) (h.mono Kp.refl fun a w => ?_) c)
      rcases w with ⟨(w | w) | w, z⟩
      · exact .inl ⟨.inl w, z⟩
      · exact .inr w
      · exact .inl ⟨.inr w, z⟩
  exact (ShL.nt h2).mono Kp.refl fun a w => ⟨⟨w.1.1, w.2⟩, w.1.2⟩
end

/-! ### level one's expressions -/
@[simp] def xL (vs : List Nat) (f : Ev → R D) : X2 D := fun ρ M => RX.bind (RX.of (f (vwF vs M 0 ρ)) M) fun d M => RX.when (okL (vids vs M ρ) M d) (.ok d M)
/-- a new list: a cell -/
@[simp] def xF (vs : List Nat) (f : Ev → R (List D)) : X2 D := fun ρ M => RX.bind (RX.of (f (vwF vs M 0 ρ)) M) fun ds M => RX.when (okLs (vids vs M ρ) M ds) (.ok (.ptr M.length) (M ++ [.lst ds]))
@[simp] def xLT (vs : List Nat) (f : Ev → R Bool) : X2 Bool := fun ρ M => RX.of (f (vwF vs M 0 ρ)) M
@[simp] def xLA (vs : List Nat) (f : Ev → R (List D)) : X2 (List D) := fun ρ M => RX.bind (RX.of (f (vwF vs M 0 ρ)) M) fun ds M => RX.when (okLs (vids vs M ρ) M ds) (.ok ds M)
abbrev cL (T : Tb) (φ : Ph) (H0 : Hp) (S0 : Addr → Prop) : Cc := ⟨T.w φ, H0, S0, fun _ _ => False⟩
section
variable {X : Cx} {T : Tb} {Z : Zx} {e : Expr} {es : List Expr} {f : Ev → R D} {fs : Ev → R (List D)} {ft : Ev → R Bool} {m : Bool}
theorem run_ok {α : Type} {r : R α} {a : α} {ok : α → Prop} {ex : Nat → Prop} (h : r = .ok a) (q : ok a) : run r ok ex := by rw [h]; exact q
theorem DE.x (vs : List Nat) (h : ∀ φ H0 S0, DE X (cL T φ H0 S0) true e f) : XE X T Z e (xL vs f) := ⟨⟨fun pins s σ H Q I ⟨φ, S, ρ, M, st, q⟩ => by
  obtain ⟨d, ed, q1⟩ := runX_of (runX_bind q)
  obtain ⟨c, q2⟩ := runX_when q1
  have q2 : ∀ v H' φ' S', Go X.K T φ φ' S S' H H' M → Sh X.K (T.w φ') H' S' d v → Q v H' := q2
  exact (h φ H (Sv (vids vs M ρ) φ S)).pe.run pins s σ H Q I ⟨_, _, sta_view vs st, run_ok ed fun v H' e r => q2 v H' φ _ (Go.pure st.sto e) (keep_sh st.sto e (r.mono Kp.refl fun a w => w.sh) c)⟩⟩⟩
theorem FE.x (vs : List Nat) (h : ∀ φ H0 S0, FE X (cL T φ H0 S0) e fs) : XE X T Z e (xF vs fs) := ⟨⟨fun pins s σ H Q I ⟨φ, S, ρ, M, st, q⟩ => by
  obtain ⟨ds, ed, q1⟩ := runX_of (runX_bind q)
  obtain ⟨c, q2⟩ := runX_when q1
  have q2 : ∀ v H' φ' S', Go X.K T φ φ' S S' H H' (M ++ [.lst ds]) → Sh X.K (T.w φ') H' S' (.ptr M.length) v → Q v H' := q2
  exact (h φ H (Sv (vids vs M ρ) φ S)).pe.run pins s σ H Q I ⟨_, _, sta_view vs st, run_ok ed fun p us H' e hn hp r => q2 (.ref p) H' _ _ (Go.cell st.sto e hn (.of hp fun _ => HO.noConfusion) ⟨us, hp, keep_shl st.sto e r c⟩) (.ptr (if_pos rfl))⟩⟩⟩
theorem DT.x (vs : List Nat) (h : ∀ φ H0 S0, DT X (cL T φ H0 S0) e ft) : XT X T Z e (xLT vs ft) := ⟨⟨fun pins s σ H Q I ⟨φ, S, ρ, M, st, q⟩ => by
  obtain ⟨b, ed, q2⟩ := runX_of q
  exact (h φ H (Sv (vids vs M ρ) φ S)).pt.run pins s σ H Q I ⟨_, _, sta_view vs st, run_ok ed fun H' e => q2 H' φ _ (Go.pure st.sto e)⟩⟩⟩
theorem DA.x (vs : List Nat) (h : ∀ φ H0 S0, DA X (cL T φ H0 S0) true es fs) : XA X T Z es (xLA vs fs) := ⟨⟨fun pos pins s σ H Q I ⟨φ, S, ρ, M, st, q⟩ => by
  obtain ⟨ds, ed, q1⟩ := runX_of (runX_bind q)
  obtain ⟨c, q2⟩ := runX_when q1
  have q2 : ∀ us H' φ' S', Go X.K T φ φ' S S' H H' M → ShL X.K (T.w φ') H' S' ds us → Q us H' := q2
  exact (h φ H (Sv (vids vs M ρ) φ S)).pa.run pos pins s σ H Q I ⟨_, _, sta_view vs st, run_ok ed fun us H' e r => q2 us H' φ _ (Go.pure st.sto e)
    ((keep_shl (W := fun _ => True) st.sto e (r.mono Kp.refl fun a w => ⟨w.sh, trivial⟩) c).mono Kp.refl fun a w => w.1)⟩⟩⟩
end
end
end PL
/-! PXC: statements, defs and calls over the store. -/
namespace PL
open PySem L2 PyProof.Rows
noncomputable section
inductive F2 where
  | nx (ρ : E2) | rt (d : D) | bk (ρ : E2) | ct (ρ : E2)
inductive RS where
  | ok (fl : F2) (M : Mem) | ex (c : Nat) (ρ : E2) (M : Mem) | st
abbrev Y2 := E2 → Mem → RS
def runS (m : RS) (ok : F2 → Mem → Prop) (ex : Nat → E2 → Mem → Prop) : Prop := match m with
  | .ok a M => ok a M
  | .ex c ρ M => ex c ρ M
  | .st => False
/-- an expression's answer, then a statement's -/
@[simp] def RX.bindS {α : Type} (m : RX α) (ρ : E2) (f : α → Mem → RS) : RS := match m with
  | .ok a M => f a M
  | .ex c M => .ex c ρ M
  | .st => .st
theorem runS_bindS {α : Type} {m : RX α} {ρ : E2} {f : α → Mem → RS} {ok : F2 → Mem → Prop} {ex : Nat → E2 → Mem → Prop} (h : runS (m.bindS ρ f) ok ex) : runX m (fun a M => runS (f a M) ok ex) (fun c M => ex c ρ M) := by
  cases m with
  | ok a M => exact h
  | ex c M => exact h
  | st => exact h
theorem runS_mono {m : RS} {ok ok' : F2 → Mem → Prop} {ex ex' : Nat → E2 → Mem → Prop} (h : runS m ok ex) (h1 : ∀ a M, ok a M → ok' a M) (h2 : ∀ c ρ M, ex c ρ M → ex' c ρ M) : runS m ok' ex' := by
  cases m with
  | ok a M => exact h1 a M h
  | ex c ρ M => exact h2 c ρ M h
  | st => exact h
@[simp] def RS.when (c : Bool) (m : RS) : RS := if c = true then m else .st
theorem runS_when {c : Bool} {m : RS} {ok : F2 → Mem → Prop} {ex : Nat → E2 → Mem → Prop} (h : runS (RS.when c m) ok ex) : c = true ∧ runS m ok ex := by
  unfold RS.when at h
  by_cases e : c = true
  · rw [if_pos e] at h; exact ⟨e, h⟩
  · rw [if_neg e] at h; exact h.elim
@[simp] def RS.of {α : Type} (m : Option α) (f : α → RS) : RS := match m with
  | some a => f a
  | none => .st
theorem runS_of {α : Type} {m : Option α} {f : α → RS} {ok : F2 → Mem → Prop} {ex : Nat → E2 → Mem → Prop} (h : runS (RS.of m f) ok ex) : ∃ a, m = some a ∧ runS (f a) ok ex := by
  cases m with
  | some a => exact ⟨a, rfl, h⟩
  | none => exact h.elim
@[simp] def RX.opt {α β : Type} (m : Option α) (f : α → RX β) : RX β := match m with
  | some a => f a
  | none => .st
theorem runX_opt {α β : Type} {m : Option α} {f : α → RX β} {ok : β → Mem → Prop} {ex : Nat → Mem → Prop} (h : runX (RX.opt m f) ok ex) : ∃ a, m = some a ∧ runX (f a) ok ex := by
  cases m with
  | some a => exact ⟨a, rfl, h⟩
  | none => exact h.elim
section
variable (K : PySem.W.Frag) (T : Tb) (Z : Zx)
def F2Ok (φ : Ph) (S : Addr → Prop) (H : Hp) (D : Ends) : F2 → Mem → Prop
  | .nx ρ', M' => ∀ σ' H' φ' S', Go K T φ φ' S S' H H' M' → St2 K (T.w φ') S' ρ' M' σ' H' → D.nx σ' H'
  | .bk ρ', M' => ∀ σ' H' φ' S', Go K T φ φ' S S' H H' M' → St2 K (T.w φ') S' ρ' M' σ' H' → D.bk σ' H'
  | .ct ρ', M' => ∀ σ' H' φ' S', Go K T φ φ' S S' H H' M' → St2 K (T.w φ') S' ρ' M' σ' H' → D.ct σ' H'
  | .rt d, M' => ∀ v H' φ' S', Go K T φ φ' S S' H H' M' → Sh K (T.w φ') H' S' d v → D.rt v H'
abbrev exS (φ : Ph) (S : Addr → Prop) (H : Hp) : Nat → E2 → Mem → Prop := fun c ρ' M' => ∀ σ' H' φ' S', Go K T φ φ' S S' H H' M' → St2 K (T.w φ') S' ρ' M' σ' H' → Z c σ' H'
def tXS (f : Y2) : TS := fun D σ H => ∃ φ S ρ M, St2 K (T.w φ) S ρ M σ H ∧ runS (f ρ M) (F2Ok K T φ S H D) (exS K T Z φ S H)
end
structure XS (X : Cx) (T : Tb) (Z : Zx) (s : Stmt) (f : Y2) : Prop where
  ps : PS X s (tXS X.K T Z f)
structure XB (X : Cx) (T : Tb) (Z : Zx) (s : List Stmt) (f : Y2) : Prop where
  pss : PSs X s (tXS X.K T Z f)
section
variable {K : PySem.W.Frag} {T : Tb} {Z : Zx} {φ φ0 : Ph} {S S0 : Addr → Prop} {ρ : E2} {M : Mem} {σ : L2.St} {H H0 : Hp}
theorem F2Ok.go {D : Ends} {fl : F2} {M' : Mem} (g : Go K T φ0 φ S0 S H0 H M) (h : F2Ok K T φ0 S0 H0 D fl M') : F2Ok K T φ S H D fl M' := by
  cases fl with
  | nx ρ => exact fun σ' H' φ' S' g' s => h σ' H' φ' S' (g.trans g') s
  | bk ρ => exact fun σ' H' φ' S' g' s => h σ' H' φ' S' (g.trans g') s
  | ct ρ => exact fun σ' H' φ' S' g' s => h σ' H' φ' S' (g.trans g') s
  | rt d => exact fun v H' φ' S' g' r => h v H' φ' S' (g.trans g') r
theorem exS.go {c : Nat} {ρ' : E2} {M' : Mem} (g : Go K T φ0 φ S0 S H0 H M) (h : exS K T Z φ0 S0 H0 c ρ' M') : exS K T Z φ S H c ρ' M' := fun σ' H' φ' S' g' s => h σ' H' φ' S' (g.trans g') s
/-- one value, then a statement's end -/
theorem tX_oneS {f : X2 D} {k : D → Mem → RS} {ok : F2 → Mem → Prop} {Q : V → Hp → Prop} (st : St2 K (T.w φ) S ρ M σ H) (g : Go K T φ0 φ S0 S H0 H M) (h : runS ((f ρ M).bindS ρ k) ok (exS K T Z φ0 S0 H0))
    (hq : ∀ a v H1 φ1 S1 M1, Go K T φ φ1 S S1 H H1 M1 → Go K T φ0 φ1 S0 S1 H0 H1 M1 → St2 K (T.w φ1) S1 ρ M1 σ H1 → Sh K (T.w φ1) H1 S1 a v → runS (k a M1) ok (exS K T Z φ0 S0 H0) → Q v H1) : tX K T Z f σ H Q :=
  ⟨φ, S, ρ, M, st, runX_mono (runS_bindS h) (fun a M1 q v H1 φ1 S1 g1 r => hq a v H1 φ1 S1 M1 g1 (g.trans g1) (g1.st st) r q) fun c M1 z H1 φ1 S1 g1 => z σ H1 φ1 S1 (g.trans g1) (g1.st st)⟩
theorem tXT_oneS {f : X2 Bool} {k : Bool → Mem → RS} {ok : F2 → Mem → Prop} {Q : Bool → Hp → Prop} (st : St2 K (T.w φ) S ρ M σ H) (g : Go K T φ0 φ S0 S H0 H M) (h : runS ((f ρ M).bindS ρ k) ok (exS K T Z φ0 S0 H0))
    (hq : ∀ a H1 φ1 S1 M1, Go K T φ φ1 S S1 H H1 M1 → Go K T φ0 φ1 S0 S1 H0 H1 M1 → St2 K (T.w φ1) S1 ρ M1 σ H1 → runS (k a M1) ok (exS K T Z φ0 S0 H0) → Q a H1) : tXT K T Z f σ H Q :=
  ⟨φ, S, ρ, M, st, runX_mono (runS_bindS h) (fun a M1 q H1 φ1 S1 g1 => hq a H1 φ1 S1 M1 g1 (g.trans g1) (g1.st st) q) fun c M1 z H1 φ1 S1 g1 => z σ H1 φ1 S1 (g.trans g1) (g1.st st)⟩
end
@[simp] def thenS (g : Y2) : F2 → Mem → RS
  | .nx ρ, M => g ρ M
  | fl, M => .ok fl M
@[simp] def RS.bind (m : RS) (f : F2 → Mem → RS) : RS := match m with
  | .ok a M => f a M
  | .ex c ρ M => .ex c ρ M
  | .st => .st
theorem runS_bind {m : RS} {f : F2 → Mem → RS} {ok : F2 → Mem → Prop} {ex : Nat → E2 → Mem → Prop} (h : runS (m.bind f) ok ex) : runS m (fun a M => runS (f a M) ok ex) ex := by
  cases m with
  | ok a M => exact h
  | ex c ρ M => exact h
  | st => exact h
@[simp] def ySeq (f g : Y2) : Y2 := fun ρ M => (f ρ M).bind (thenS g)
@[simp] def yPass : Y2 := fun ρ M => .ok (.nx ρ) M
@[simp] def ySet (i : Nat) (f : X2 D) : Y2 := fun ρ M => (f ρ M).bindS ρ fun d M' => .ok (.nx (ρ.set i (some d))) M'
@[simp] def yDrop (f : X2 D) : Y2 := fun ρ M => (f ρ M).bindS ρ fun _ M' => .ok (.nx ρ) M'
@[simp] def yRet (f : X2 D) : Y2 := fun ρ M => (f ρ M).bindS ρ fun d M' => .ok (.rt d) M'
@[simp] def yIf (t : X2 Bool) (f g : Y2) : Y2 := fun ρ M => (t ρ M).bindS ρ fun b M' => if b = true then f ρ M' else g ρ M'
section
variable {X : Cx} {T : Tb} {Z : Zx} {s : Stmt} {ss sa sb : List Stmt} {a b e o : Expr} {es : List Expr} {f g : Y2} {fe ge fo : X2 D} {ft : X2 Bool} {fs : X2 (List D)} {pos p p1 p2 p3 : Pos}
theorem xb_nil : XB X T Z [] yPass := ⟨PSs.imp pss_nil fun D σ H ⟨φ, S, ρ, M, st, q⟩ => q σ H φ S (Go.refl st.sto) st⟩
theorem xb_one (h : XS X T Z s f) : XB X T Z [s] f := ⟨pss_one h.ps⟩
theorem xb_cons (h : XS X T Z s f) (hs : XB X T Z ss g) : XB X T Z (s :: ss) (ySeq f g) := ⟨PSs.imp (pss_cons h.ps hs.pss) fun D σ H ⟨φ, S, ρ, M, st, q⟩ => by
  refine ⟨φ, S, ρ, M, st, runS_mono (runS_bind q) (fun fl M1 q1 => ?_) fun _ _ _ z => z⟩
  cases fl with
  | nx ρ1 =>
    intro σ1 H1 φ1 S1 g1 st1
    exact ⟨φ1, S1, ρ1, M1, st1, runS_mono q1 (fun fl M2 z => z.go g1) fun _ _ _ z => exS.go g1 z⟩
  | bk ρ1 => exact q1
  | ct ρ1 => exact q1
  | rt d => exact q1⟩
theorem xs_pass : XS X T Z (.Pass pos) yPass := ⟨PS.imp ps_pass fun D σ H ⟨φ, S, ρ, M, st, q⟩ => q σ H φ S (Go.refl st.sto) st⟩
theorem xs_set {i : Nat} {x : Str} {pos' : Pos} (hN : X.N.Nodup) (hi : X.N[i]? = some x) (hx : Loc X.env.scope x) (he : XE X T Z a fe) (hs : swapsWith a (some (.Name x pos')) pos.line X.env = pure false := by rfl)
    (hf : X.fn x = true ∨ X.env.scope.names.lookup x = some .local := by first | exact .inl rfl | exact .inr rfl | assumption) : XS X T Z (.Assign [.Name x pos'] a pos) (ySet i fe) := ⟨PS.imp (ps_set hN hi hx he.pe hs hf) fun D σ H ⟨φ, S, ρ, M, st, q⟩ =>
  tX_oneS st (Go.refl st.sto) q fun d v H1 φ1 S1 M1 g1 _ st1 r q1 => (show ∀ σ' H' φ' S', Go X.K T φ φ' S S' H H' M1 → St2 X.K (T.w φ') S' (ρ.set i (some d)) M1 σ' H' → D.nx σ' H' from q1) _ H1 φ1 S1 g1 (st1.set r)⟩
theorem xs_expr (h : XE X T Z a fe) (hs : swapsWith a none pos.line X.env = pure false := by rfl) : XS X T Z (.Expr a pos) (yDrop fe) := ⟨PS.imp (ps_expr h.pe hs) fun D σ H ⟨φ, S, ρ, M, st, q⟩ =>
  tX_oneS st (Go.refl st.sto) q fun d v H1 φ1 S1 M1 g1 _ st1 r q1 => (show ∀ σ' H' φ' S', Go X.K T φ φ' S S' H H' M1 → St2 X.K (T.w φ') S' ρ M1 σ' H' → D.nx σ' H' from q1) _ H1 φ1 S1 g1 st1⟩
theorem xs_ret (h : XE X T Z a fe) : XS X T Z (.Return (some a) pos) (yRet fe) := ⟨PS.imp (ps_ret h.pe) fun D σ H ⟨φ, S, ρ, M, st, q⟩ =>
  tX_oneS st (Go.refl st.sto) q fun d v H1 φ1 S1 M1 g1 _ st1 r q1 => (show ∀ v H' φ' S', Go X.K T φ φ' S S' H H' M1 → Sh X.K (T.w φ') H' S' d v → D.rt v H' from q1) v H1 φ1 S1 g1 r⟩
theorem xs_if (ht : XT X T Z a ft) (hf : XB X T Z sa f) (hg : XB X T Z sb g) : XS X T Z (.If a sa sb pos) (yIf ft f g) := ⟨PS.imp (ps_if ht.pt hf.pss hg.pss) fun D σ H ⟨φ, S, ρ, M, st, q⟩ => by
  refine tXT_oneS st (Go.refl st.sto) q fun b H1 φ1 S1 M1 g1 _ st1 q1 => ?_
  cases b with
  | true => rw [if_pos rfl] at q1 ⊢; exact ⟨φ1, S1, ρ, M1, st1, runS_mono q1 (fun fl M2 z => z.go g1) fun _ _ _ z => exS.go g1 z⟩
  | false => rw [if_neg Bool.false_ne_true] at q1 ⊢; exact ⟨φ1, S1, ρ, M1, st1, runS_mono q1 (fun fl M2 z => z.go g1) fun _ _ _ z => exS.go g1 z⟩⟩

/-! ### names, values -/
@[simp] def xVar (i : Nat) : X2 D := fun ρ M => match ρ[i]? with
  | some (some d) => .ok d M
  | _ => .st
theorem xe_var {i : Nat} (h : PE X a (tVar i)) : XE X T Z a (xVar i) := ⟨PE.imp h fun σ H Q ⟨φ, S, ρ, M, st, q⟩ => by
  unfold xVar at q
  cases e : ρ[i]? with
  | none => rw [e] at q; exact q.elim
  | some o =>
    rw [e] at q
    cases o with
    | none => exact q.elim
    | some d =>
      obtain ⟨v, hv, r⟩ := st.sl i d e
      exact ⟨v, hv, (show ∀ v H' φ' S', Go X.K T φ φ' S S' H H' M → Sh X.K (T.w φ') H' S' d v → Q v H' from q) v H φ S (Go.refl st.sto) r⟩⟩

/-! ### arguments -/
@[simp] def xNil : X2 (List D) := fun _ M => .ok [] M
@[simp] def xCons (f : X2 D) (fs : X2 (List D)) : X2 (List D) := fun ρ M => (f ρ M).bind fun d M1 => (fs ρ M1).bind fun ds M2 => .ok (d :: ds) M2
theorem xa_nil : XA X T Z [] xNil := ⟨PA.imp pa_nil fun σ H Q ⟨φ, S, ρ, M, st, q⟩ => (show ∀ us H' φ' S', Go X.K T φ φ' S S' H H' M → ShL X.K (T.w φ') H' S' [] us → Q us H' from q) [] H φ S (Go.refl st.sto) .nil⟩
theorem xa_cons (h : XE X T Z e fe) (hs : XA X T Z es fs) (hst : starEach (e :: es) X.env = (false, eval e X.env) :: starEach es X.env := by rfl) : XA X T Z (e :: es) (xCons fe fs) :=
  ⟨PA.imp (pa_cons h.pe hs.pa hst) fun σ H Q ⟨φ, S, ρ, M, st, q⟩ => tX_one st (Go.refl st.sto) q fun d v H1 φ1 S1 M1 g1 g01 st1 r1 q1 => by
    refine tXA_one st1 g01 q1 fun ds vs H2 φ2 S2 M2 g2 g02 st2 r2 q2 => ?_
    exact (show ∀ us H' φ' S', Go X.K T φ φ' S S' H H' M2 → ShL X.K (T.w φ') H' S' (d :: ds) us → Q us H' from q2) _ H2 φ2 S2 g02 (.cons (g2.sh st1.sto r1) r2)⟩

/-! ### lists that are cells -/
def cellL (M : Mem) : D → Option (Nat × List D)
  | .ptr n => match M[n]? with
    | some (.lst ds) => some (n, ds)
    | _ => none
  | _ => none
theorem cell_run {K : PySem.W.Frag} {φ : Ph} {S : Addr → Prop} {M : Mem} {H : Hp} {d : D} {v : V} {n : Nat} {ds : List D} (s : Sto K (T.w φ) S M H) (r : Sh K (T.w φ) H S d v) (h : cellL M d = some (n, ds)) : ∃ a vs, v = .ref a ∧ d = .ptr n ∧ φ n = some a ∧ H a = some (.lst vs) ∧ ShL K (T.w φ) H S ds vs ∧ M[n]? = some (.lst ds) := by
  unfold cellL at h
  split at h
  · split at h
    · rename_i hm
      cases h
      cases r with
      | ptr e =>
        obtain ⟨c, hc, ok⟩ := s.at_ (show φ n = some _ from e)
        rw [hm] at hc
        cases hc
        obtain ⟨vs, e1, r1⟩ := ok
        exact ⟨_, vs, rfl, rfl, e, e1, r1, hm⟩
    · cases h
  · cases h
theorem put_lst {K : PySem.W.Frag} {φ : Ph} {S : Addr → Prop} {M : Mem} {H : Hp} {n : Nat} {a : Addr} {vs : List V} {ds : List D} (s : Sto K (T.w φ) S M H) (h : φ n = some a) (r : ShL K (T.w φ) H S ds vs) : Go K T φ φ S S H (upd H a (.lst vs)) (M.set n (.lst ds)) := by
  refine Go.put s h (fun _ => HO.noConfusion) (fun _ => HO.noConfusion) ⟨vs, upd_same, r.mono ⟨fun b u w e _ => ?_, fun b us e => ?_⟩ fun _ w => w⟩
  · rw [upd_ne fun z => by subst z; exact s.out n b h w]; exact e
  · rw [upd_ne fun z => by subst z; exact s.notup h e]; exact e
/-- o.append(e) -/
@[simp] def xApp (fo fe : X2 D) : X2 D := fun ρ M => (fo ρ M).bind fun x M1 => (fe ρ M1).bind fun d M2 => RX.opt (cellL M2 x) fun c => RX.when (ltLine c.2.length) (.ok .non (M2.set c.1 (.lst (c.2 ++ [d]))))
theorem tyP {K : PySem.W.Frag} {φ : Ph} {S : Addr → Prop} {M : Mem} {H : Hp} {d : D} {v : V} (s : Sto K (T.w φ) S M H) (r : Sh K (T.w φ) H S d v) (h : (cellL M d).isSome = true) : tyV K "list" v H := by
  obtain ⟨⟨n, ds⟩, e⟩ := Option.isSome_iff_exists.mp h
  obtain ⟨a, vs, rfl, rfl, h1, h2, _⟩ := cell_run s r e
  exact .inl ⟨rfl, _, SqL.of h2⟩
/-- a cell stays a list of the same kind -/
def kindL (M : Mem) (d : D) : Bool := (cellL M d).isSome
@[simp] def xApp' (fo fe : X2 D) : X2 D := fun ρ M => (fo ρ M).bind fun x M1 => RX.when (kindL M1 x) ((fe ρ M1).bind fun d M2 => RX.opt (cellL M2 x) fun c => RX.when (ltLine c.2.length) (.ok .non (M2.set c.1 (.lst (c.2 ++ [d])))))
theorem xe_app (hm : ∀ to t : TE, PE X o to → PE X e t → PE X (.Call (.Attribute o "append" p1) [e] [] p2) (tBM X.K "list" rAppend to (tCons t tNil))) (ho : XE X T Z o fo) (he : XE X T Z e fe) : XE X T Z (.Call (.Attribute o "append" p1) [e] [] p2) (xApp' fo fe) :=
  ⟨PE.imp (hm _ _ ho.pe he.pe) fun σ H Q ⟨φ, S, ρ, M, st, q⟩ => tX_one st (Go.refl st.sto) q fun x v H1 φ1 S1 M1 g1 g01 st1 r1 q1 => by
    obtain ⟨ck, q1⟩ := runX_when q1
    refine ⟨tyP st1.sto r1 ck, ?_⟩
    refine tX_one st1 g01 q1 fun d u H2 φ2 S2 M2 g2 g02 st2 r2 q2 => ?_
    obtain ⟨⟨n, ds⟩, ec, q3⟩ := runX_opt q2
    obtain ⟨cl, q4⟩ := runX_when q3
    obtain ⟨a, vs, rfl, rfl, h1, h2, r, hc⟩ := cell_run st2.sto (g2.sh st1.sto r1) ec
    have gp := put_lst st2.sto h1 (r.snoc r2)
    refine ⟨a, vs, u, rfl, rfl, h2, by rw [← r.length]; exact lt_line cl, ?_⟩
    exact (show ∀ v H' φ' S', Go X.K T φ φ' S S' H H' (M2.set n (.lst (ds ++ [d]))) → Sh X.K (T.w φ') H' S' .non v → Q v H' from q4) .non _ φ2 S2 (g02.trans gp) .non⟩
/-- o.extend(e), e a list that stands -/
@[simp] def xExt (fo fe : X2 D) : X2 D := fun ρ M => (fo ρ M).bind fun x M1 => RX.when (kindL M1 x) ((fe ρ M1).bind fun d M2 => RX.opt (cellL M2 x) fun c => match d with
  | .lst zs => RX.when (lineOk (c.2.length + zs.length)) (.ok .non (M2.set c.1 (.lst (c.2 ++ zs))))
  | _ => .st)
theorem xe_ext (hm : ∀ to t : TE, PE X o to → PE X e t → PE X (.Call (.Attribute o "extend" p1) [e] [] p2) (tBM X.K "list" rExtend to (tCons t tNil))) (ho : XE X T Z o fo) (he : XE X T Z e fe) : XE X T Z (.Call (.Attribute o "extend" p1) [e] [] p2) (xExt fo fe) :=
  ⟨PE.imp (hm _ _ ho.pe he.pe) fun σ H Q ⟨φ, S, ρ, M, st, q⟩ => tX_one st (Go.refl st.sto) q fun x v H1 φ1 S1 M1 g1 g01 st1 r1 q1 => by
    obtain ⟨ck, q1⟩ := runX_when q1
    refine ⟨tyP st1.sto r1 ck, ?_⟩
    refine tX_one st1 g01 q1 fun d u H2 φ2 S2 M2 g2 g02 st2 r2 q2 => ?_
    obtain ⟨⟨n, ds⟩, ec, q3⟩ := runX_opt q2
    cases d with
    | lst zs =>
      obtain ⟨cl, q4⟩ := runX_when (show runX (RX.when (lineOk (ds.length + zs.length)) (RX.ok D.non (M2.set n (.lst (ds ++ zs))))) _ _ from q3)
      obtain ⟨a, vs, rfl, rfl, h1, h2, r, hc⟩ := cell_run st2.sto (g2.sh st1.sto r1) ec
      cases r2 with
      | lst e2 w2 s2 =>
        have gp := put_lst st2.sto h1 (r.append s2)
        refine ⟨a, _, vs, _, rfl, rfl, h2, e2, by rw [← r.length, ← s2.length]; exact lineOk_le cl, ?_⟩
        exact (show ∀ v H' φ' S', Go X.K T φ φ' S S' H H' (M2.set n (.lst (ds ++ zs))) → Sh X.K (T.w φ') H' S' .non v → Q v H' from q4) .non _ φ2 S2 (g02.trans gp) .non
    | _ => exact q3.elim⟩
/-- o.clear() -/
@[simp] def xClr (fo : X2 D) : X2 D := fun ρ M => (fo ρ M).bind fun x M1 => RX.opt (cellL M1 x) fun c => .ok .non (M1.set c.1 (.lst []))
theorem xe_clr (hm : ∀ to : TE, PE X o to → PE X (.Call (.Attribute o "clear" p1) [] [] p2) (tBM0 X.K "list" rClear to)) (ho : XE X T Z o fo) : XE X T Z (.Call (.Attribute o "clear" p1) [] [] p2) (xClr fo) :=
  ⟨PE.imp (hm _ ho.pe) fun σ H Q ⟨φ, S, ρ, M, st, q⟩ => tX_one st (Go.refl st.sto) q fun x v H1 φ1 S1 M1 g1 g01 st1 r1 q1 => by
    obtain ⟨⟨n, ds⟩, ec, q3⟩ := runX_opt q1
    obtain ⟨a, vs, rfl, rfl, h1, h2, r, hc⟩ := cell_run st1.sto r1 ec
    have gp := put_lst (ds := []) (vs := []) st1.sto h1 .nil
    refine ⟨.inl ⟨rfl, _, SqL.of h2⟩, a, vs, rfl, rfl, h2, ?_⟩
    exact (show ∀ v H' φ' S', Go X.K T φ φ' S S' H H' (M1.set n (.lst [])) → Sh X.K (T.w φ') H' S' .non v → Q v H' from q3) .non _ φ1 S1 (g01.trans gp) .non⟩
/-- o[i] = e -/
@[simp] def ySetI (fo fi fe : X2 D) : Y2 := fun ρ M => (fe ρ M).bindS ρ fun d M1 => (fo ρ M1).bindS ρ fun x M2 => (fi ρ M2).bindS ρ fun j M3 => match j with
  | .int j => RS.of (cellL M3 x) fun c => RS.of (ixN c.2.length j) fun n => .ok (.nx ρ) (M3.set c.1 (.lst (c.2.set n d)))
  | _ => .st
theorem xs_setI {fi : X2 D} (ho : XE X T Z o fo) (hi : XE X T Z b fi) (h : XE X T Z a fe)
    (ha : ∀ v, assign (.Subscript o b p1) X.env v = (do
      let ov ← holding [v] (eval o X.env)
      let iv ← holding [v, ov] (eval b X.env)
      standAt p1
      holding [v, ov, iv] (setItem ov iv v)
      release [v, ov, iv] []) := by intro _; rfl) (hs : swapsWithSole [.Subscript o b p1] a pos.line X.env = pure false := by rfl) (hw : swappedStores [.Subscript o b p1] a X.env = pure none := by rfl)
    (h1 : (assignEach [.Subscript o b p1] X.env).map (·.2) = [assign (.Subscript o b p1) X.env] := by rfl) : XS X T Z (.Assign [.Subscript o b p1] a pos) (ySetI fo fi fe) := ⟨PS.imp (ps_asg h.pe (pg_sub ho.pe hi.pe set_list ha) hs hw h1) fun D σ H ⟨φ, S, ρ, M, st, q⟩ =>
  tX_oneS st (Go.refl st.sto) q fun d v H1 φ1 S1 M1 g1 _ st1 r1 q1 => tX_oneS st1 g1 q1 fun x u H2 φ2 S2 M2 g2 g02 st2 r2 q2 => tX_oneS st2 g02 q2 fun j w H3 φ3 S3 M3 g3 g03 st3 r3 q3 => by
    cases j with
    | int j =>
      obtain ⟨⟨n, ds⟩, ec, q4⟩ := runS_of q3
      obtain ⟨m, em, q5⟩ := runS_of q4
      cases r3
      obtain ⟨a, vs, rfl, rfl, h1, h2, r, hc⟩ := cell_run st3.sto (g3.sh st2.sto r2) ec
      have rd := g3.sh st2.sto (g2.sh st1.sto r1)
      have gp := put_lst st3.sto h1 (r.set rd m)
      refine ⟨a, vs, j, m, rfl, rfl, h2, by rw [← r.length]; exact em, ?_⟩
      exact (show ∀ σ' H' φ' S', Go X.K T φ φ' S S' H H' (M3.set n (.lst (ds.set m d))) → St2 X.K (T.w φ') S' ρ (M3.set n (.lst (ds.set m d))) σ' H' → D.nx σ' H' from q5) σ _ φ3 S3 (g03.trans gp) (gp.st st3)
    | _ => exact q3.elim⟩
end

/-! ### defs -/
/-- the promise of a def over the store -/
def spX (K : PySem.W.Frag) (T : Tb) (n : Nat) (g : List D → Mem → RX D) : Sp := fun vs H Q E => ∃ φ S M ds, Sto K (T.w φ) S M H ∧ ds.length = n ∧ ShL K (T.w φ) H S ds vs ∧
  runX (g ds M) (fun d M' => ∀ v H' φ' S', Go K T φ φ' S S' H H' M' → Sh K (T.w φ') H' S' d v → Q v H') (fun c M' => ∀ H' φ' S', Go K T φ φ' S S' H H' M' → E (.ref (T.ec c)) none H')
theorem spX_len {K : PySem.W.Frag} {T : Tb} {n : Nat} {g : List D → Mem → RX D} {vs : List V} {H : Hp} {Q : VK} {E : XK} (h : spX K T n g vs H Q E) : vs.length = n := by
  obtain ⟨φ, S, M, ds, _, hl, r, _⟩ := h
  rw [← r.length]; exact hl
@[simp] def outX : RS → RX D
  | .ok (.rt d) M => .ok d M
  | .ok (.nx _) M => .ok .non M
  | .ok _ _ => .st
  | .ex c _ M => .ex c M
  | .st => .st
@[simp] def ev2 (N : Nat) (ds : List D) : E2 := ds.map some ++ List.replicate (N - ds.length) none
@[simp] def xFn (N : Nat) (body : Y2) (ds : List D) (M : Mem) : RX D := outX (body (ev2 N ds) M)
theorem st2_start {K : PySem.W.Frag} {T : Tb} {φ : Ph} {S : Addr → Prop} {M : Mem} {H : Hp} {N : List Str} {ds : List D} {vs : List V} (s : Sto K (T.w φ) S M H) (r : ShL K (T.w φ) H S ds vs) (hN : ds.length ≤ N.length) : St2 K (T.w φ) S (ev2 N.length ds) M (L2.start N vs) H := by
  have hl := r.length
  refine ⟨s, ?_, fun i d hs => ?_⟩
  · unfold ev2 L2.start
    rw [List.length_append, List.length_append, List.length_map, List.length_map, List.length_replicate, List.length_replicate, hl]
  · unfold ev2 at hs
    unfold L2.start
    by_cases hi : i < ds.length
    · rw [List.getElem?_append_left (by simpa using hi), List.getElem?_map] at hs
      cases hd : ds[i]? with
      | none => rw [hd] at hs; cases hs
      | some d' =>
        rw [hd] at hs
        cases hs
        obtain ⟨v, hv, rv⟩ := r.get hd
        refine ⟨v, ?_, rv⟩
        rw [List.getElem?_append_left (by rw [List.length_map, ← hl]; exact hi), List.getElem?_map, hv]
        rfl
    · rw [List.getElem?_append_right (by simpa using hi), List.length_map, List.getElem?_replicate] at hs
      split at hs <;> cases hs
theorem bodyX_red {K : PySem.W.Frag} {T : Tb} {N : List Str} {n : Nat} {body : Y2} {vs : List V} {H : Hp} {Q : VK} {E : XK} (hn : n ≤ N.length) (h : spX K T n (xFn N.length body) vs H Q E) :
    tXS K T (fun c _ H' => E (.ref (T.ec c)) none H') body { nx := fun _ H' => Q .non H', rt := Q } (L2.start N vs) H := by
  obtain ⟨φ, S, M, ds, s, hl, r, q⟩ := h
  refine ⟨φ, S, _, M, st2_start s r (by omega), ?_⟩
  unfold xFn at q
  cases eb : body (ev2 N.length ds) M with
  | ok fl M' =>
    rw [eb] at q
    cases fl with
    | rt d => exact fun v H' φ' S' g r => q v H' φ' S' g r
    | nx ρ => exact fun σ' H' φ' S' g st' => q .non H' φ' S' g .non
    | bk ρ => exact q.elim
    | ct ρ => exact q.elim
  | ex c ρ M' =>
    rw [eb] at q
    exact fun σ' H' φ' S' g _ => q H' φ' S' g
  | st =>
    rw [eb] at q
    exact q.elim
/-- what the context takes -/
structure TkX (X : Cx) (T : Tb) (Z : Zx) : Prop where
  tk : Takes X (fun cls d σ H => ∃ c, cls = .ref (T.ec c) ∧ d = none ∧ Z c σ H)
/-- a def over the store, as callers see it -/
structure FX (P : Program) (w : World) (K : PySem.W.Frag) (mg : Str → Option Value) (base : Heap) (T : Tb) (x : Str) (k n : Nat) (g : List D → Mem → RX D) : Prop where
  ex : ∃ (f : Addr) (fd : FuncData) (ps : List Str), FnOk P w K mg base (L2.CX P w) k f fd ps (spX K T n g) ∧ mg x = some (.ref f) ∧ PySem.W.keepIn K (.ref f) = true ∧ Binds K fd ps []
theorem FX.of0 {P : Program} {w : World} {K : PySem.W.Frag} {mg : Str → Option Value} {base : Heap} {T : Tb} {x : Str} {k n : Nat} {g : List D → Mem → RX D} {f : Addr} {fd : FuncData} {ps : List Str} (F : FnOk P w K mg base (L2.CX P w) k f fd ps (spX K T n g))
    (hm : mg x = some (.ref f)) (hk : PySem.W.keepIn K (.ref f) = true) (b : Binds K fd ps []) : FX P w K mg base T x k n g := ⟨f, fd, ps, F, hm, hk, b⟩
theorem FX.mono {P : Program} {w : World} {K : PySem.W.Frag} {mg : Str → Option Value} {base : Heap} {T : Tb} {x : Str} {k k' n : Nat} {g : List D → Mem → RX D} (F : FX P w K mg base T x k n g) (h : k ≤ k') : FX P w K mg base T x k' n g := by
  obtain ⟨f, fd, ps, F, r⟩ := F
  exact ⟨f, fd, ps, F.mono h, r⟩
section
variable {P : Program} {w : World} {K : PySem.W.Frag} {mg : Str → Option Value} {base : Heap}
theorem fnY_ok {x qual : Str} {st : Stmt} {f : Addr} {fd : FuncData} {N ps : List Str} {k : Nat} {T : Tb} {body : Y2} (F : Fun K x qual st f fd) (S : FnScope N ps (defScope st))
    (hb : ∀ (cdv : Value) (A : Around) (outer : List Env) (s : Shared) (H : Hp) (E : XK), Room k (A.deeper (envOfC qual (defScope st) s.heap.objs.size f cdv)) →
      TkX (cxOf (L2.CX P w) P w K mg base N qual (defScope st) f cdv A outer s H E) T (fun c _ H' => E (.ref (T.ec c)) none H') →
      PassesOwn (model P w) (cxOf (L2.CX P w) P w K mg base N qual (defScope st) f cdv A outer s H E).A (cxOf (L2.CX P w) P w K mg base N qual (defScope st) f cdv A outer s H E).env (cxOf (L2.CX P w) P w K mg base N qual (defScope st) f cdv A outer s H E).xe →
      XB (cxOf (L2.CX P w) P w K mg base N qual (defScope st) f cdv A outer s H E) T (fun c _ H' => E (.ref (T.ec c)) none H') (defBody st) body) : FnOk P w K mg base (L2.CX P w) (k + 1) f fd ps (spX K T ps.length (xFn N.length body)) := by
  have hpl : ps.length ≤ N.length := by have := congrArg List.length S.pre; rw [List.length_take] at this; omega
  refine F.okX S (fun vs H Q E h => spX_len h) (fun cdv A outer s H vs Q E hr h => ?_)
  refine ⟨_, (hb cdv A outer s H E hr ⟨?_⟩ ?_).pss, bodyX_red hpl h⟩
  · exact (takes_of (X := cxOf (L2.CX P w) P w K mg base N qual (defScope st) f cdv A outer s H E) rfl rfl rfl rfl).imp fun cls d σ H' ⟨c, e1, e2, z⟩ => by
      subst e1 e2
      exact z
  · exact passes_of (X := cxOf (L2.CX P w) P w K mg base N qual (defScope st) f cdv A outer s H E) rfl
end
@[simp] def xCall (n : Nat) (g : List D → Mem → RX D) (fs : X2 (List D)) : X2 D := fun ρ M => (fs ρ M).bind fun ds M1 => if ds.length = n then g ds M1 else .st
section
variable {X : Cx} {T : Tb} {Z : Zx} {x : Str} {k n : Nat} {g : List D → Mem → RX D} {e : Expr} {es : List Expr} {fs : X2 (List D)} {p pos : Pos}
theorem run_ifX {α : Type} {c : Prop} [Decidable c] {m : RX α} {ok : α → Mem → Prop} {ex : Nat → Mem → Prop} (h : runX (if c then m else .st) ok ex) : c ∧ runX m ok ex := by
  by_cases e : c
  · rw [if_pos e] at h; exact ⟨e, h⟩
  · rw [if_neg e] at h; exact h.elim
theorem xe_call (F : FX X.prog X.w X.K X.mg X.base T x k n g) (hr : Room k X.A) (tk : TkX X T Z) (hg : Gl X x) (ha : XA X T Z (e :: es) fs) (hdb : (x == ("__debug__" : Str)) = false := by decide)
    (he : starEach (e :: es) X.env = (false, eval e X.env) :: starEach es X.env := by rfl) (hpl : (backTo pos (starEach es X.env)).any (·.1) = false := by rfl) : XE X T Z (.Call (.Name x p) (e :: es) [] pos) (xCall n g fs) := by
  obtain ⟨f, fd, ps, F, hm, hk, hb⟩ := F
  refine ⟨PE.imp (pe_callS F hr hg hm hk hb (fun σ => passAt tk.tk σ) ha.pa hdb he hpl) fun σ H Q ⟨φ, S, ρ, M, st, q⟩ => tXA_one st (Go.refl st.sto) q fun ds vs H1 φ1 S1 M1 g1 g01 st1 r q1 => ?_⟩
  obtain ⟨hn, q2⟩ := run_ifX q1
  exact ⟨φ1, S1, M1, ds, st1.sto, hn, r, runX_mono q2 (fun d M2 q3 v H' φ' S' g2 r2 => q3 v H' φ' S' (g01.trans g2) r2) fun c M2 z H' φ' S' g2 => ⟨c, rfl, rfl, z H' φ' S' (g01.trans g2)⟩⟩
end
end
end PL
/-! PXD: targets, loops, tests over the store; a def that changes nothing, as level one sees it. -/
namespace PL
open PySem L2 PyProof.Rows
noncomputable section
/-! ### targets -/
def tXg (K : PySem.W.Frag) (T : Tb) (is : List Nat) (g : D → E2 → Option E2) : TG := fun v σ H Q => ∃ φ S ρ M d ρ', St2 K (T.w φ) S ρ M σ H ∧ Sh K (T.w φ) H S d v ∧ g d ρ = some ρ' ∧ ∀ σ', St2 K (T.w φ) S ρ' M σ' H → (∀ ws : List Nat, (∀ i ∈ is, i ∈ ws) → wipe σ' ws = wipe σ ws) → Q σ' H
structure XG (X : Cx) (T : Tb) (is : List Nat) (tg : Expr) (g : D → E2 → Option E2) : Prop where
  pg : PG X tg (tXg X.K T is g)
@[simp] def hNm (i : Nat) : D → E2 → Option E2 := fun d ρ => some (ρ.set i (some d))
@[simp] def hTwo (i j : Nat) : D → E2 → Option E2 := fun d ρ => match d with
  | .tup [x, y] => some ((ρ.set i (some x)).set j (some y))
  | _ => none
section
variable {X : Cx} {T : Tb} {Z : Zx} {pos : Pos}
theorem xg_name {i : Nat} {x : Str} (hN : X.N.Nodup) (hi : X.N[i]? = some x) (hx : Loc X.env.scope x) (hf : X.fn x = true ∨ X.env.scope.names.lookup x = some .local := by first | exact .inl rfl | exact .inr rfl | assumption) : XG X T [i] (.Name x pos) (hNm i) :=
  ⟨PG.imp (pg_name hN hi hx hf) fun v σ H Q ⟨φ, S, ρ, M, d, ρ', st, r, e, q⟩ => by
    cases e
    exact q _ (st.set r) fun ws h => wipe_set (h i (by simp))⟩
theorem xg_two {i j k : Nat} {x y : Str} {p1 p2 : Pos} (hc : X.calm = true) (hN : X.N.Nodup) (hi : X.N[i]? = some x) (hj : X.N[j]? = some y) (hx : Loc X.env.scope x) (hy : Loc X.env.scope y)
    (hf1 : X.fn x = true ∨ X.env.scope.names.lookup x = some .local := by first | exact .inl rfl | exact .inr rfl | assumption) (hf2 : X.fn y = true ∨ X.env.scope.names.lookup y = some .local := by first | exact .inl rfl | exact .inr rfl | assumption) :
    XG X T [i, j] (.Tuple [.Name x p1, .Name y p2] k pos) (hTwo i j) := ⟨PG.imp (pg_tup hc (pgs_cons (pg_name hN hi hx hf1) (pgs_cons (pg_name hN hj hy hf2) pgs_nil))) fun v σ H Q ⟨φ, S, ρ, M, d, ρ', st, r, e, q⟩ => by
  unfold hTwo at e
  split at e
  · cases e
    cases r with
    | tup h r =>
      cases r with
      | cons h1 r =>
        obtain ⟨u, rfl, h2⟩ := r.one
        exact ⟨_, _, rfl, seqT h, rfl, _, _, rfl, _, _, rfl, rfl, q _ ((st.set h1).set h2) fun ws h => by rw [wipe_set (h j (by simp)), wipe_set (h i (by simp))]⟩
  · cases e⟩
/-- targets = a value -/
@[simp] def yUnp (f : X2 D) (g : D → E2 → Option E2) : Y2 := fun ρ M => (f ρ M).bindS ρ fun d M' => RS.of (g d ρ) fun ρ' => .ok (.nx ρ') M'
variable {a b tg : Expr} {is : List Nat} {f fe ge : X2 D} {g : D → E2 → Option E2}
theorem xs_unp (h : XE X T Z a f) (hg : XG X T is tg g) (hs : swapsWithSole [tg] a pos.line X.env = pure false := by rfl) (hw : swappedStores [tg] a X.env = pure none := by rfl)
    (h1 : (assignEach [tg] X.env).map (·.2) = [assign tg X.env] := by rfl) : XS X T Z (.Assign [tg] a pos) (yUnp f g) := ⟨PS.imp (ps_asg h.pe hg.pg hs hw h1) fun D σ H ⟨φ, S, ρ, M, st, q⟩ =>
  tX_oneS st (Go.refl st.sto) q fun d v H1 φ1 S1 M1 g1 _ st1 r q1 => by
    obtain ⟨ρ', eg, q2⟩ := runS_of q1
    exact ⟨φ1, S1, ρ, M1, d, ρ', st1, r, eg, fun σ' st' _ => (show ∀ σ' H' φ' S', Go X.K T φ φ' S S' H H' M1 → St2 X.K (T.w φ') S' ρ' M1 σ' H' → D.nx σ' H' from q2) σ' H1 φ1 S1 g1 st'⟩⟩
/-- a, b = e1, e2 -/
@[simp] def yPar (i j : Nat) (f g : X2 D) : Y2 := fun ρ M => (f ρ M).bindS ρ fun x M1 => (g ρ M1).bindS ρ fun y M2 => .ok (.nx ((ρ.set i (some x)).set j (some y))) M2
theorem xs_par {i j : Nat} {x y : Str} {px py pt : Pos} {kt k2 : Nat} {pt2 : Pos} (hc : X.calm = true) (hN : X.N.Nodup) (hi : X.N[i]? = some x) (hj : X.N[j]? = some y) (hij : i ≠ j)
    (hx : X.env.scope.names.lookup x = some .local) (hy : X.env.scope.names.lookup y = some .local) (ha : XE X T Z a fe) (hb : XE X T Z b ge)
    (hw : swappedStores [.Tuple [.Name x px, .Name y py] kt pt] (.Tuple [a, b] k2 pt2) X.env = pure (some [x, y]))
    (hs : swapsWithSole [.Tuple [.Name x px, .Name y py] kt pt] (.Tuple [a, b] k2 pt2) pos.line X.env = pure false := by rfl)
    (h1 : starEach [a, b] X.env = (false, eval a X.env) :: starEach [b] X.env := by rfl) (h2 : starEach [b] X.env = (false, eval b X.env) :: starEach [] X.env := by rfl) :
    XS X T Z (.Assign [.Tuple [.Name x px, .Name y py] kt pt] (.Tuple [a, b] k2 pt2) pos) (yPar i j fe ge) := ⟨PS.imp (ps_par hc hN hi hj hij hx hy (pa_cons ha.pe (pa_cons hb.pe pa_nil h2) h1) hw hs) fun D σ H ⟨φ, S, ρ, M, st, q⟩ =>
  tX_oneS st (Go.refl st.sto) q fun d v H1 φ1 S1 M1 g1 _ st1 r1 q1 => tX_oneS st1 g1 q1 fun e w H2 φ2 S2 M2 g2 g02 st2 r2 q2 =>
    ⟨v, w, rfl, (show ∀ σ' H' φ' S', Go X.K T φ φ' S S' H H' M2 → St2 X.K (T.w φ') S' ((ρ.set i (some d)).set j (some e)) M2 σ' H' → D.nx σ' H' from q2) _ H2 φ2 S2 g02 ((st2.set (g2.sh st1.sto r1)).set r2)⟩⟩

/-! ### tests -/
@[simp] def xB (f : X2 D) : X2 Bool := fun ρ M => (f ρ M).bind fun d M' => RX.of (toB d) M'
variable {ft gt : X2 Bool} {rest : List Expr}
theorem xt_val {e : Expr} (h : XE X T Z e fe) (he : ∀ whole, isTrue e X.env whole = (do let v ← whole; standAt e.pos; holding [v] (truthy v)) := by intro _; rfl) : XT X T Z e (xB fe) := ⟨PT.imp (pt_val h.pe he) fun σ H Q ⟨φ, S, ρ, M, st, q⟩ =>
  tX_one st (Go.refl st.sto) q fun x v H1 φ1 S1 M1 g1 _ st1 r q1 => by
    cases x with
    | bl b =>
      cases r
      exact ⟨b, rfl, (show ∀ H' φ' S', Go X.K T φ φ' S S' H H' M1 → Q b H' from q1) H1 φ1 S1 g1⟩
    | _ => exact q1.elim⟩
@[simp] def xNot (f : X2 Bool) : X2 Bool := fun ρ M => (f ρ M).bind fun b M' => .ok (!b) M'
theorem xt_not (h : XT X T Z a ft) : XT X T Z (.UnaryOp .Not a pos) (xNot ft) := ⟨PT.imp (pt_not h.pt) fun σ H Q ⟨φ, S, ρ, M, st, q⟩ => tXT_one st (Go.refl st.sto) q fun b H1 φ1 S1 M1 g1 _ st1 q1 => (show ∀ H' φ' S', Go X.K T φ φ' S S' H H' M1 → Q (!b) H' from q1) H1 φ1 S1 g1⟩
structure XW (X : Cx) (T : Tb) (Z : Zx) (e : Expr) (f : X2 Bool) : Prop where
  pw : PW X e (tXT X.K T Z f)
theorem XW.xt {e : Expr} (h : XW X T Z e ft) : XT X T Z e ft := ⟨h.pw.pt⟩
theorem xw_and1 (h : XT X T Z a ft) : XW X T Z (.BoolOp .And [a] pos) ft := ⟨pw_and1 h.pt⟩
theorem xw_or1 (h : XT X T Z a ft) : XW X T Z (.BoolOp .Or [a] pos) ft := ⟨pw_or1 h.pt⟩
@[simp] def xAnd (f g : X2 Bool) : X2 Bool := fun ρ M => (f ρ M).bind fun b M' => if b = true then g ρ M' else .ok false M'
@[simp] def xOr (f g : X2 Bool) : X2 Bool := fun ρ M => (f ρ M).bind fun b M' => if b = true then .ok true M' else g ρ M'
theorem tXT_on {K : PySem.W.Frag} {φ φ1 : Ph} {S S1 : Addr → Prop} {ρ : E2} {M1 : Mem} {σ : L2.St} {H H1 : Hp} {Q : Bool → Hp → Prop} (g1 : Go K T φ φ1 S S1 H H1 M1) (st1 : St2 K (T.w φ1) S1 ρ M1 σ H1) (q : runX (gt ρ M1) (fun b M' => ∀ H' φ' S', Go K T φ φ' S S' H H' M' → Q b H') (exZ K T Z φ S σ H)) : tXT K T Z gt σ H1 Q :=
  ⟨φ1, S1, ρ, M1, st1, runX_mono q (fun b M2 z H' φ' S' g' => z H' φ' S' (g1.trans g')) fun c M2 z H' φ' S' g' => z H' φ' S' (g1.trans g')⟩
theorem xw_and (h : XT X T Z a ft) (hr : XW X T Z (.BoolOp .And (b :: rest) pos) gt) : XW X T Z (.BoolOp .And (a :: b :: rest) pos) (xAnd ft gt) := ⟨PW.imp (pw_and h.pt hr.pw) fun σ H Q ⟨φ, S, ρ, M, st, q⟩ =>
  tXT_one st (Go.refl st.sto) q fun c H1 φ1 S1 M1 g1 _ st1 q1 => by
    cases c with
    | true =>
      rw [if_pos rfl] at q1 ⊢
      exact tXT_on g1 st1 q1
    | false =>
      rw [if_neg Bool.false_ne_true] at q1 ⊢
      exact (show ∀ H' φ' S', Go X.K T φ φ' S S' H H' M1 → Q false H' from q1) H1 φ1 S1 g1⟩
theorem xw_or (h : XT X T Z a ft) (hr : XW X T Z (.BoolOp .Or (b :: rest) pos) gt) : XW X T Z (.BoolOp .Or (a :: b :: rest) pos) (xOr ft gt) := ⟨PW.imp (pw_or h.pt hr.pw) fun σ H Q ⟨φ, S, ρ, M, st, q⟩ =>
  tXT_one st (Go.refl st.sto) q fun c H1 φ1 S1 M1 g1 _ st1 q1 => by
    cases c with
    | false =>
      rw [if_neg Bool.false_ne_true] at q1 ⊢
      exact tXT_on g1 st1 q1
    | true =>
      rw [if_pos rfl] at q1 ⊢
      exact (show ∀ H' φ' S', Go X.K T φ φ' S S' H H' M1 → Q true H' from q1) H1 φ1 S1 g1⟩

/-! ### loops -/
/-- what a walk yields, whatever is done in the store meanwhile -/
def ItX (K : PySem.W.Frag) (T : Tb) (φ : Ph) (S : Addr → Prop) (J : It) (H1 : Hp) (xs : List D) : Prop :=
  ∀ φ' S' H' M', Go K T φ φ' S S' H1 H' M' → (∀ (i : Nat) x, xs[i]? = some x → J.go i H' ∧ ∀ v H2, J.yld i H' v H2 → Same H' H2 ∧ Sh K (T.w φ') H2 (Fw S' H' H2) x v) ∧ ∀ i, xs.length ≤ i → J.stop i H'
theorem ItOk.x {K : PySem.W.Frag} {φ : Ph} {S : Addr → Prop} {J : It} {H1 : Hp} {xs : List D} {M : Mem} (s : Sto K (T.w φ) S M H1) (h : ItOk K (T.w φ) S J H1 xs) : ItX K T φ S J H1 xs := fun φ' S' H' M' g => by
  obtain ⟨h1, h2⟩ := h H' (g.kp s)
  refine ⟨fun i x hx => ?_, h2⟩
  obtain ⟨a, b⟩ := h1 i x hx
  refine ⟨a, fun v H2 hy => ?_⟩
  obtain ⟨e, r⟩ := b v H2 hy
  exact ⟨e, (r.tb g.ph).mono Kp.refl fun a w => w.imp (g.sub a) id⟩
def XI (X : Cx) (T : Tb) (Z : Zx) (tg iter : Expr) (f : X2 (List D)) : Prop :=
  ∃ wi, PI X tg iter wi ∧ ∀ (σ : L2.St) (H : Hp) (Q : It → Hp → Prop) φ S ρ M, St2 X.K (T.w φ) S ρ M σ H → runX (f ρ M) (fun xs M1 => ∀ J H1 φ1 S1, Go X.K T φ φ1 S S1 H H1 M1 → ItX X.K T φ1 S1 J H1 xs → Q J H1) (exZ X.K T Z φ S σ H) → wi σ H Q
/-- a list or a tuple that stands -/
@[simp] def xIt (f : X2 D) : X2 (List D) := fun ρ M => (f ρ M).bind fun d M' => RX.of (vIt d) M'
theorem xi_seq (h : XE X T Z a fe) : XI X T Z tg a (xIt fe) := ⟨_, pi_seq h.pe, fun σ H Q φ S ρ M st q => tX_one st (Go.refl st.sto) q fun d v H1 φ1 S1 M1 g1 _ st1 r q1 => by
  obtain ⟨ds, ed, q2⟩ := runX_of q1
  have q2 : ∀ J H1 φ1 S1, Go X.K T φ φ1 S S1 H H1 M1 → ItX X.K T φ1 S1 J H1 ds → Q J H1 := q2
  obtain ⟨ad, vs, rfl, hq⟩ := it_sh r ed
  refine ⟨ad, rfl, ?_⟩
  rcases hq with ⟨hq, hk⟩ | ⟨hq, hk⟩
  · exact .inl ⟨⟨vs, hq⟩, q2 _ H1 φ1 S1 g1 (ItOk.x st1.sto (it_list (fun H' k => (hk H' k).1) fun H' k => (hk H' k).2))⟩
  · exact .inr ⟨⟨vs, hq⟩, q2 _ H1 φ1 S1 g1 (ItOk.x st1.sto (it_tup (fun H' k => (hk H' k).1) fun H' k => (hk H' k).2))⟩⟩
variable {p : Pos} {fs : X2 (List D)} {e1 e2 : Expr}
@[simp] def xRg1 (fs : X2 (List D)) : X2 (List D) := fun ρ M => (fs ρ M).bind fun ds M' => RX.of (vRg1 ds) M'
theorem xi_range1 (hg : Gl X "range") (hm : X.mg "range" = none) (ha : XA X T Z [e1] fs) (hs : starEach [e1] X.env = [(false, eval e1 X.env)] := by rfl) : XI X T Z tg (.Call (.Name "range" p) [e1] [] pos) (xRg1 fs) :=
  ⟨_, pi_range1 hg hm ha.pa hs, fun σ H Q φ S ρ M st q => tXA_one st (Go.refl st.sto) q fun ds vs H1 φ1 S1 M1 g1 _ st1 r q1 => by
    obtain ⟨xs, ed, q2⟩ := runX_of q1
    have q2 : ∀ J H1 φ1 S1, Go X.K T φ φ1 S S1 H H1 M1 → ItX X.K T φ1 S1 J H1 xs → Q J H1 := q2
    unfold vRg1 at ed
    split at ed
    · unfold R.when at ed
      split at ed
      · rename_i c
        cases ed
        obtain ⟨v, rfl, r1⟩ := r.one
        cases r1
        exact ⟨_, rfl, (inRg_of c).1, (inRg_of c).2, q2 _ H1 φ1 S1 g1 (ItOk.x st1.sto it_range)⟩
      · cases ed
    · cases ed⟩
def fo2 (g : D → E2 → Option E2) (b : Y2) : List D → Y2
  | [], ρ, M => .ok (.nx ρ) M
  | x :: xs, ρ, M => RS.of (g x ρ) fun ρ1 => (b ρ1 M).bind fun fl M1 => match fl with
      | .nx ρ' => fo2 g b xs ρ' M1
      | .ct ρ' => fo2 g b xs ρ' M1
      | .bk ρ' => .ok (.nx ρ') M1
      | .rt d => .ok (.rt d) M1
@[simp] def yFor (it : X2 (List D)) (g : D → E2 → Option E2) (b : Y2) : Y2 := fun ρ M => (it ρ M).bindS ρ fun xs M1 => fo2 g b xs ρ M1
variable {sa : List Stmt} {fb : Y2} {iter : Expr} {fi : X2 (List D)}
theorem xs_for (hp : PassesOwn (model X.prog X.w) X.A X.env X.xe) (hc : X.calm = true) (hi : XI X T Z tg iter fi) (hg : XG X T is tg g) (hf : XB X T Z sa fb)
    (hs : ∀ x, foldedSetIterable iter X.env x = pure x := by intro _; rfl) : XS X T Z (.For tg iter sa [] pos) (yFor fi g fb) := by
  obtain ⟨wi, hpi, hwi⟩ := hi
  refine ⟨PS.imp (ps_for hp hc hpi hg.pg hf.pss hs) fun D σ H ⟨φ, S, ρ, M, st, q⟩ => ?_⟩
  refine hwi σ H _ φ S ρ M st (runX_mono (runS_bindS q) (fun xs M1 q1 J H1 φ1 S1 g1 ok => ?_) fun c M1 z H1 φ1 S1 g1 => z σ H1 φ1 S1 g1 (g1.st st))
  -- at turn i the rest of xs is ahead
  refine ⟨fun i m σ1 H2 => m = xs.length - i ∧ i ≤ xs.length ∧ ∃ φ2 S2 ρ1 M2, St2 X.K (T.w φ2) S2 ρ1 M2 σ1 H2 ∧ Go X.K T φ1 φ2 S1 S2 H1 H2 M2 ∧ runS (fo2 g fb (xs.drop i) ρ1 M2) (F2Ok X.K T φ2 S2 H2 D) (exS X.K T Z φ2 S2 H2),
    ⟨xs.length, by simp, Nat.zero_le _, φ1, S1, ρ, M1, g1.st st, Go.refl g1.sto, runS_mono q1 (fun fl M2 z => z.go g1) fun _ _ _ z => exS.go g1 z⟩, ?_⟩
  rintro i m σ1 H2 ⟨rfl, hi, φ2, S2, ρ1, M2, st2, g2, q2⟩
  obtain ⟨okg, oks⟩ := ok φ2 S2 H2 M2 g2
  by_cases hlt : i < xs.length
  · have hx : xs[i]? = some xs[i] := List.getElem?_eq_getElem hlt
    rw [List.drop_eq_getElem_cons hlt] at q2
    obtain ⟨go, yl⟩ := okg i _ hx
    refine .inr ⟨go, fun σ' H' => i + 1 ≤ xs.length ∧ ∃ φ2 S2 ρ1 M2, St2 X.K (T.w φ2) S2 ρ1 M2 σ' H' ∧ Go X.K T φ1 φ2 S1 S2 H1 H' M2 ∧ runS (fo2 g fb (xs.drop (i + 1)) ρ1 M2) (F2Ok X.K T φ2 S2 H' D) (exS X.K T Z φ2 S2 H'), fun σ' H' z => ⟨xs.length - (i + 1), by omega, rfl, z.1, z.2⟩, fun v H3 hy => ?_⟩
    obtain ⟨e3, rv⟩ := yl v H3 hy
    have g3 := Go.pure st2.sto e3
    have st3 := g3.st st2
    unfold fo2 at q2
    obtain ⟨ρ2, e2, q2⟩ := runS_of q2
    refine ⟨φ2, _, ρ1, M2, xs[i], ρ2, st3, Sh.nt rv, e2, fun σ4 st4 _ => ?_⟩
    refine ⟨φ2, _, ρ2, M2, st4, runS_mono (runS_bind q2) (fun fl M4 q5 => ?_) fun c ρ' M' z => exS.go g3 z⟩
    cases fl with
    | nx ρ' =>
      intro σ' H' φ' S' g' st'
      have g34 := g3.trans g'
      exact ⟨hlt, φ', S', ρ', M4, st', g2.trans g34, runS_mono q5 (fun fl M5 z => z.go g34) fun _ _ _ z => exS.go g34 z⟩
    | ct ρ' =>
      intro σ' H' φ' S' g' st'
      have g34 := g3.trans g'
      exact ⟨hlt, φ', S', ρ', M4, st', g2.trans g34, runS_mono q5 (fun fl M5 z => z.go g34) fun _ _ _ z => exS.go g34 z⟩
    | bk ρ' => exact fun σ' H' φ' S' g' st' => (show ∀ σ' H' φ' S', Go X.K T φ2 φ' S2 S' H2 H' M4 → St2 X.K (T.w φ') S' ρ' M4 σ' H' → D.nx σ' H' from q5) σ' H' φ' S' (g3.trans g') st'
    | rt d => exact fun v H' φ' S' g' r => (show ∀ v H' φ' S', Go X.K T φ2 φ' S2 S' H2 H' M4 → Sh X.K (T.w φ') H' S' d v → D.rt v H' from q5) v H' φ' S' (g3.trans g') r
  · have ei : i = xs.length := by omega
    subst ei
    rw [List.drop_length] at q2
    exact .inl ⟨oks _ (Nat.le_refl _), (show ∀ σ' H' φ' S', Go X.K T φ2 φ' S2 S' H2 H' M2 → St2 X.K (T.w φ') S' ρ1 M2 σ' H' → D.nx σ' H' from q2) σ1 H2 φ2 S2 (Go.refl st2.sto) st2⟩
end

/-! ### as level one sees it -/
mutual
def D.plain : D → Bool
  | .non | .bl _ | .int _ | .str _ => true
  | .tup xs => D.plainL xs
  | _ => false
def D.plainL : List D → Bool
  | [] => true
  | x :: xs => x.plain && D.plainL xs
end
section
variable {K : PySem.W.Frag} {T T' : Tb} {H : Hp} {W W' : Addr → Prop}
mutual
theorem Sh.plain : ∀ {d : D} {v : V}, Sh K T' H W' d v → d.plain = true → Sh K T H W d v
  | _, _, .non, _ => .non
  | _, _, .bl b, _ => .bl b
  | _, _, .int i, _ => .int i
  | _, _, .str x, _ => .str x
  | _, _, .tup e r, h => .tup e (ShL.plain r (by simpa [D.plain] using h))
  | _, _, .lst _ _ _, h => by simp [D.plain] at h
  | _, _, .scr _, h => by simp [D.plain] at h
  | _, _, .dct _ _ _ _, h => by simp [D.plain] at h
  | _, _, .ob _ _ _ _, h => by simp [D.plain] at h
  | _, _, .ptr _, h => by simp [D.plain] at h
theorem ShL.plain : ∀ {ds : List D} {vs : List V}, ShL K T' H W' ds vs → D.plainL ds = true → ShL K T H W ds vs
  | _, _, .nil, _ => .nil
  | _, _, .cons h r, e => by
    rw [D.plainL, Bool.and_eq_true] at e
    exact .cons (Sh.plain h e.1) (ShL.plain r e.2)
end
end
@[simp] def xOut (g : List D → Mem → RX D) : List D → R D := fun ds => match g ds [] with
  | .ok d _ => R.when d.plain (.ok d)
  | .ex c _ => .ex c
  | .st => .st
theorem spX_of {K : PySem.W.Frag} {T : Tb} {n : Nat} {g : List D → Mem → RX D} {vs : List V} {H : Hp} {Q : VK} {E : XK} (hT : T.ph = fun _ => none) (ht : T.tm = false) (h : spD K T n false (xOut g) vs H Q E) : spX K T n g vs H Q E := by
  obtain ⟨ds, W, hW, hl, r, q⟩ := h
  have eT : T.w (fun _ => none) = T := by
    cases T
    cases hT
    rfl
  have sm : ∀ {φ' S' H' M'}, Go K T (fun _ => none) φ' (fun a => W a ∧ NT H a) S' H H' M' → Same H H' := fun g a o e => g.kx a o e (fun _ z => nomatch z) fun z => by rw [ht] at z; cases z
  refine ⟨fun _ => none, fun a => W a ∧ NT H a, [], ds, { bnd := fun a w => w.2, cell := fun n c e => by simp at e, dom := fun n a (e : none = some a) => (nomatch e), inj := fun n m a (e : none = some a) => (nomatch e), out := fun n a (e : none = some a) => (nomatch e) }, hl, by rw [eT]; exact r.nt, ?_⟩
  unfold xOut at q
  cases eg : g ds [] with
  | ok d M' =>
    rw [eg] at q
    obtain ⟨c, q⟩ := run_when (show run (R.when d.plain (R.ok d)) _ _ from q)
    intro v H' φ' S' g' rv
    exact (show ∀ v H', Same H H' → Sh K T H' (Fw W H H') d v → Q v H' from q) v H' (sm g') (rv.plain c)
  | ex c M' =>
    rw [eg] at q
    exact fun H' φ' S' g' => (show ∀ H', Same H H' → E (.ref (T.ec c)) none H' from q) H' (sm g')
  | st =>
    rw [eg] at q
    exact q.elim
/-- a def over the store that changes nothing of its caller's: a def of level one -/
theorem FX.fd {P : Program} {w : World} {K : PySem.W.Frag} {mg : Str → Option Value} {base : Heap} {T : Tb} {x : Str} {k n : Nat} {g : List D → Mem → RX D} (F : FX P w K mg base T x k n g) (hT : T.ph = fun _ => none) (ht : T.tm = false) : FD P w K mg base T x k n false (xOut g) := by
  obtain ⟨f, fd, ps, F, hm, hk, hb⟩ := F
  refine ⟨f, fd, ps, _, ⟨fun vs H Q E h => F.len vs H Q E (spX_of hT ht h), fun A outer s H args us vs Q E hr e0 b r h => F.run A outer s H args us vs Q E hr e0 b r (spX_of hT ht h)⟩, hm, hk, hb, fun X h1 h2 => by subst h1 h2; exact passL⟩
end
end PL
/-! PXE: objects that are cells: fields, methods, making. -/
namespace PL
open PySem L2 PyProof.Rows
noncomputable section
def cellO (M : Mem) : D → Option (Nat × Nat × List D)
  | .ptr n => match M[n]? with
    | some (.ob c ds) => some (n, c, ds)
    | _ => none
  | _ => none
section
variable {K : PySem.W.Frag} {T : Tb} {φ : Ph} {S : Addr → Prop} {M : Mem} {H : Hp}
theorem ob_run {d : D} {v : V} {n c : Nat} {ds : List D} (s : Sto K (T.w φ) S M H) (r : Sh K (T.w φ) H S d v) (h : cellO M d = some (n, c, ds)) :
    ∃ a dx vs, v = .ref a ∧ d = .ptr n ∧ φ n = some a ∧ H a = some (.ins (T.ct c) dx ((T.fl c).zip vs)) ∧ (T.fl c).length = vs.length ∧ ShL K (T.w φ) H S ds vs ∧ M[n]? = some (.ob c ds) := by
  unfold cellO at h
  split at h
  · split at h
    · rename_i hm
      cases h
      cases r with
      | ptr e =>
        obtain ⟨c', hc, ok⟩ := s.at_ (show φ n = some _ from e)
        rw [hm] at hc
        cases hc
        obtain ⟨dx, vs, e1, l1, r1⟩ := ok
        exact ⟨_, dx, vs, rfl, rfl, e, e1, l1, r1, hm⟩
    · cases h
  · cases h
end
/-- class c, its field no. i is f -/
def FdAt (K : PySem.W.Frag) (T : Tb) (f : Str) (c i : Nat) : Prop := Cls K (T.ct c) ∧ NoAttr K (T.ct c) f ∧ ∀ vs : List V, (T.fl c).length = vs.length → ((T.fl c).zip vs).lookup f = vs[i]?
/-- o.f -/
@[simp] def xFld (c i : Nat) (fo : X2 D) : X2 D := fun ρ M => (fo ρ M).bind fun x M1 => RX.opt (cellO M1 x) fun o => if o.2.1 = c then RX.opt o.2.2[i]? fun d => .ok d M1 else .st
/-- o.f = e: the field is there -/
@[simp] def yFld (c i : Nat) (fo fe : X2 D) : Y2 := fun ρ M => (fe ρ M).bindS ρ fun d M1 => (fo ρ M1).bindS ρ fun x M2 => RS.of (cellO M2 x) fun o => if o.2.1 = c ∧ i < o.2.2.length then .ok (.nx ρ) (M2.set o.1 (.ob c (o.2.2.set i d))) else .st
/-- o.f = e: a field more; c' is c with it -/
@[simp] def yFldN (c c' : Nat) (fo fe : X2 D) : Y2 := fun ρ M => (fe ρ M).bindS ρ fun d M1 => (fo ρ M1).bindS ρ fun x M2 => RS.of (cellO M2 x) fun o => if o.2.1 = c then .ok (.nx ρ) (M2.set o.1 (.ob c' (o.2.2 ++ [d]))) else .st
structure FdSet (K : PySem.W.Frag) (T : Tb) (f : Str) (c i : Nat) : Prop where
  cl : Cls K (T.ct c)
  na : NoAttr K (T.ct c) f
  few : (T.fl c).length < 1000
  put : ∀ (vs : List V) v, (T.fl c).length = vs.length → putF f v ((T.fl c).zip vs) = (T.fl c).zip (vs.set i v)
structure FdNew (K : PySem.W.Frag) (T : Tb) (f : Str) (c c' : Nat) : Prop where
  cl : Cls K (T.ct c)
  na : NoAttr K (T.ct c) f
  few : (T.fl c).length < 1000
  ct : T.ct c' = T.ct c
  fl : T.fl c' = T.fl c ++ [f]
  put : ∀ (vs : List V) v, (T.fl c).length = vs.length → putF f v ((T.fl c).zip vs) = (T.fl c).zip vs ++ [(f, v)]
section
variable {X : Cx} {T : Tb} {Z : Zx} {o a e : Expr} {es : List Expr} {fo fe : X2 D} {fs : X2 (List D)} {f m : Str} {c c' i k n : Nat} {pos apos p1 p : Pos} {x : Str}
theorem xe_fld (ht : FdAt X.K T f c i) (h : XE X T Z o fo) (hb : attributeBase o f X.env (eval o X.env) = eval o X.env := by rfl) : XE X T Z (.Attribute o f pos) (xFld c i fo) :=
  ⟨PE.imp (pe_fld h.pe hb) fun σ H Q ⟨φ, S, ρ, M, st, q⟩ => tX_one st (Go.refl st.sto) q fun d v H1 φ1 S1 M1 g1 _ st1 r q1 => by
    obtain ⟨⟨n, c1, ds⟩, eo, q2⟩ := runX_opt q1
    obtain ⟨rfl, q3⟩ := run_ifX q2
    obtain ⟨u, eu, q4⟩ := runX_opt q3
    obtain ⟨ad, dx, vs, rfl, rfl, h1, h2, hl, rs, hm⟩ := ob_run st1.sto r eo
    obtain ⟨w, ew, rw'⟩ := rs.get eu
    obtain ⟨a1, a2, a3⟩ := ht
    exact ⟨ad, _, dx, _, w, rfl, h2, a1, a2, by rw [a3 _ hl]; exact ew, (show ∀ v H' φ' S', Go X.K T φ φ' S S' H H' M1 → Sh X.K (T.w φ') H' S' u v → Q v H' from q4) w H1 φ1 S1 g1 rw'⟩⟩
theorem put_ob {K : PySem.W.Frag} {φ : Ph} {S : Addr → Prop} {M : Mem} {H : Hp} {n : Nat} {ad dx : Addr} {vs : List V} {ds : List D} (s : Sto K (T.w φ) S M H) (h : φ n = some ad) (hl : (T.fl c).length = vs.length) (r : ShL K (T.w φ) H S ds vs) :
    Go K T φ φ S S H (upd H ad (.ins (T.ct c) dx ((T.fl c).zip vs))) (M.set n (.ob c ds)) := by
  refine Go.put s h (fun _ => HO.noConfusion) (fun _ => HO.noConfusion) ⟨dx, vs, upd_same, hl, r.mono ⟨fun b u w e _ => ?_, fun b us e => ?_⟩ fun _ w => w⟩
  · rw [upd_ne fun z => by subst z; exact s.out n b h w]; exact e
  · rw [upd_ne fun z => by subst z; exact s.notup h e]; exact e
theorem xs_fld {pos' : Pos} (ht : FdSet X.K T f c i) (h : XE X T Z o fo) (he : XE X T Z a fe) (hs : swapsWith a (some (.Attribute o f pos')) pos.line X.env = pure false := by rfl) : XS X T Z (.Assign [.Attribute o f pos'] a pos) (yFld c i fo fe) :=
  ⟨PS.imp (ps_fld h.pe he.pe hs) fun D σ H ⟨φ, S, ρ, M, st, q⟩ => tX_oneS st (Go.refl st.sto) q fun d v H1 φ1 S1 M1 g1 _ st1 r1 q1 => tX_oneS st1 g1 q1 fun x u H2 φ2 S2 M2 g2 g02 st2 r2 q2 => by
    obtain ⟨⟨n, c1, ds⟩, eo, q3⟩ := runS_of q2
    by_cases hc : c1 = c ∧ i < ds.length
    · have q4 : ∀ σ' H' φ' S', Go X.K T φ φ' S S' H H' (M2.set n (.ob c (ds.set i d))) → St2 X.K (T.w φ') S' ρ (M2.set n (.ob c (ds.set i d))) σ' H' → D.nx σ' H' := by
        rw [if_pos hc] at q3
        exact q3
      obtain ⟨rfl, hi⟩ := hc
      obtain ⟨ad, dx, vs, rfl, rfl, h1, h2, hl, rs, hm⟩ := ob_run st2.sto r2 eo
      have gp := put_ob (c := c1) (dx := dx) (vs := vs.set i v) (ds := ds.set i d) st2.sto h1 (by rw [List.length_set]; exact hl) (rs.set (g2.sh st1.sto r1) i)
      refine ⟨ad, _, dx, _, rfl, h2, ht.cl, ht.na, ?_, ?_⟩
      · rw [List.length_zip, hl, Nat.min_self, ← hl]; exact ht.few
      · rw [ht.put vs v hl]
        exact q4 σ _ φ2 S2 (g02.trans gp) (gp.st st2)
    · rw [if_neg hc] at q3
      exact q3.elim⟩
theorem xs_fldN {pos' : Pos} (ht : FdNew X.K T f c c') (h : XE X T Z o fo) (he : XE X T Z a fe) (hs : swapsWith a (some (.Attribute o f pos')) pos.line X.env = pure false := by rfl) : XS X T Z (.Assign [.Attribute o f pos'] a pos) (yFldN c c' fo fe) :=
  ⟨PS.imp (ps_fld h.pe he.pe hs) fun D σ H ⟨φ, S, ρ, M, st, q⟩ => tX_oneS st (Go.refl st.sto) q fun d v H1 φ1 S1 M1 g1 _ st1 r1 q1 => tX_oneS st1 g1 q1 fun x u H2 φ2 S2 M2 g2 g02 st2 r2 q2 => by
    obtain ⟨⟨n, c1, ds⟩, eo, q3⟩ := runS_of q2
    by_cases hc : c1 = c
    · have q4 : ∀ σ' H' φ' S', Go X.K T φ φ' S S' H H' (M2.set n (.ob c' (ds ++ [d]))) → St2 X.K (T.w φ') S' ρ (M2.set n (.ob c' (ds ++ [d]))) σ' H' → D.nx σ' H' := by
        rw [if_pos hc] at q3
        exact q3
      subst hc
      obtain ⟨ad, dx, vs, rfl, rfl, h1, h2, hl, rs, hm⟩ := ob_run st2.sto r2 eo
      have hl2 : (T.fl c').length = (vs ++ [v]).length := by rw [ht.fl, List.length_append, List.length_append, hl]; rfl
      have gp := put_ob (c := c') (dx := dx) (vs := vs ++ [v]) (ds := ds ++ [d]) st2.sto h1 hl2 (rs.snoc (g2.sh st1.sto r1))
      refine ⟨ad, _, dx, _, rfl, h2, ht.cl, ht.na, ?_, ?_⟩
      · rw [List.length_zip, hl, Nat.min_self, ← hl]; exact ht.few
      · rw [ht.put vs v hl]
        have ez : (T.fl c').zip (vs ++ [v]) = (T.fl c1).zip vs ++ [(f, v)] := by rw [ht.fl, List.zip_append hl]; rfl
        rw [ht.ct, ez] at gp
        exact q4 σ _ φ2 S2 (g02.trans gp) (gp.st st2)
    · rw [if_neg hc] at q3
      exact q3.elim⟩

/-! ### methods -/
structure MX (P : Program) (w : World) (K : PySem.W.Frag) (mg : Str → Option Value) (base : Heap) (T : Tb) (c : Nat) (m : Str) (k n : Nat) (g : List D → Mem → RX D) : Prop where
  ex : ∃ (f : Addr) (fd : FuncData) (ps : List Str), FnOk P w K mg base (L2.CX P w) k f fd ps (spX K T (n + 1) g) ∧ Cls K (T.ct c) ∧ Meth K (T.ct c) m f ∧ Binds K fd ps [] ∧ m ∉ T.fl c
theorem MX.of0 {P : Program} {w : World} {K : PySem.W.Frag} {mg : Str → Option Value} {base : Heap} {T : Tb} {c : Nat} {m : Str} {k n : Nat} {g : List D → Mem → RX D} {f : Addr} {fd : FuncData} {ps : List Str} (F : FnOk P w K mg base (L2.CX P w) k f fd ps (spX K T (n + 1) g))
    (c1 : Cls K (T.ct c)) (hm : Meth K (T.ct c) m f) (b : Binds K fd ps []) (hn : m ∉ T.fl c) : MX P w K mg base T c m k n g := ⟨f, fd, ps, F, c1, hm, b, hn⟩
theorem MX.mono {P : Program} {w : World} {K : PySem.W.Frag} {mg : Str → Option Value} {base : Heap} {T : Tb} {c : Nat} {m : Str} {k k' n : Nat} {g : List D → Mem → RX D} (F : MX P w K mg base T c m k n g) (h : k ≤ k') : MX P w K mg base T c m k' n g := by
  obtain ⟨f, fd, ps, F, r⟩ := F
  exact ⟨f, fd, ps, F.mono h, r⟩
/-- a method's call, what it lets out told by the slots -/
def tMethA (C : Addr) (m : Str) (sp : Sp) (E : L2.St → XK) (ta : TE) (t : TA) : TE := fun σ H Q => ta σ H fun x H1 => ∃ b dx fs, x = .ref b ∧ H1 b = some (.ins C dx fs) ∧ fs.lookup m = none ∧ t σ H1 fun vs H2 => sp (.ref b :: vs) H2 Q (E σ)
theorem pe_methA {CX : CXT} {C g : Addr} {fd : FuncData} {ps : List Str} {sp : Sp} {E : L2.St → XK} {ta : TE} {t : TA} {pl : Sem Bool} (ho : PE X o ta) (cl : Cls X.K C) (me : Meth X.K C m g) (F : FnOk X.prog X.w X.K X.mg X.base CX k g fd ps sp) (hr : Room k X.A) (hb : Binds X.K fd ps []) (hx : ∀ σ, PassesAt CX X σ (E σ)) (ha : PA X (e :: es) t)
    (h1 : starEach (e :: es) X.env = (false, eval e X.env) :: starEach es X.env) (h2 : (backTo pos (starEach es X.env)).any (·.1) = false)
    (ev : eval (.Call (.Attribute o m apos) (e :: es) [] pos) X.env = (do
      let ov ← eval o X.env
      standAt apos.atName
      let (f, first) ← holding [ov] (getMethod ov m pl)
      callWith pos f first (backTo pos (starEach (e :: es) X.env)) (backToKw pos (keywordEach [] X.env)))) : PE X (.Call (.Attribute o m apos) (e :: es) [] pos) (tMethA C m sp E ta t) := ⟨fun pins s σ H Q I h => by
  refine PySem.W.methodCall_KW (pl := pl) (thn (ho.run pins s σ H _ I h) fun ov sA ⟨y, HA, IA, ry, b, dx, fs, ey, eb, no, qA⟩ => ?_) ev
  subst ey
  cases ry
  refine getmeth_ok IA eb cl me no (PySem.W.callWith_K (first := [.ref b]) (h₀ := X.base) IA.ok.mod.kin me.kp (thn (ha.run pos pins sA σ HA _ IA qA) fun us sB ⟨vs, HB, IB, rB, qB⟩ => ⟨IB.kIn, ?_⟩) h1 h2)
  exact run_fnS (us := .ref b :: us) (vs := .ref b :: vs) F hr hb (hx σ) IB (.cons rfl rB) qB⟩
theorem pe_meth0A {CX : CXT} {C g : Addr} {fd : FuncData} {ps : List Str} {sp : Sp} {E : L2.St → XK} {ta : TE} {pl : Sem Bool} (ho : PE X o ta) (cl : Cls X.K C) (me : Meth X.K C m g) (F : FnOk X.prog X.w X.K X.mg X.base CX k g fd ps sp) (hr : Room k X.A) (hb : Binds X.K fd ps []) (hx : ∀ σ, PassesAt CX X σ (E σ))
    (ev : eval (.Call (.Attribute o m apos) [] [] pos) X.env = (do
      let ov ← eval o X.env
      standAt apos.atName
      let (f, first) ← holding [ov] (getMethod ov m pl)
      callWith pos f first (backTo pos (starEach [] X.env)) (backToKw pos (keywordEach [] X.env)))) : PE X (.Call (.Attribute o m apos) [] [] pos) (tMethA C m sp E ta tNil) := ⟨fun pins s σ H Q I h => by
  refine PySem.W.methodCall_KW (pl := pl) (thn (ho.run pins s σ H _ I h) fun ov sA ⟨y, HA, IA, ry, b, dx, fs, ey, eb, no, qA⟩ => ?_) ev
  subst ey
  cases ry
  exact getmeth_ok IA eb cl me no (PySem.W.callWith_K0 (first := [.ref b]) IA.kIn me.kp (run_fnS (us := [.ref b]) (vs := [.ref b]) F hr hb (hx σ) IA (.cons rfl .nil) qA))⟩
@[simp] def xMeth (c n : Nat) (g : List D → Mem → RX D) (fo : X2 D) (fs : X2 (List D)) : X2 D := fun ρ M => (fo ρ M).bind fun x M1 => RX.opt (cellO M1 x) fun o => if o.2.1 = c then (fs ρ M1).bind fun ds M2 => if ds.length = n then g (x :: ds) M2 else .st else .st
theorem xe_meth (F : MX X.prog X.w X.K X.mg X.base T c m k n g) (hr : Room k X.A) (tk : TkX X T Z) (h : XE X T Z o fo) (ha : XA X T Z (e :: es) fs)
    (hev : ∃ pl : Sem Bool, eval (.Call (.Attribute o m apos) (e :: es) [] pos) X.env = (do
      let ov ← eval o X.env
      standAt apos.atName
      let (f, first) ← holding [ov] (getMethod ov m pl)
      callWith pos f first (backTo pos (starEach (e :: es) X.env)) (backToKw pos (keywordEach [] X.env))) := by exact ⟨_, rfl⟩)
    (hst : starEach (e :: es) X.env = (false, eval e X.env) :: starEach es X.env := by rfl) (hpl : (backTo pos (starEach es X.env)).any (·.1) = false := by rfl) : XE X T Z (.Call (.Attribute o m apos) (e :: es) [] pos) (xMeth c n g fo fs) := by
  obtain ⟨fn, fd, ps, F, c1, hm, hb, hn⟩ := F
  obtain ⟨pl, hev⟩ := hev
  refine ⟨PE.imp (pe_methA h.pe c1 hm F hr hb (fun σ => passAt tk.tk σ) ha.pa hst hpl hev) fun σ H Q ⟨φ, S, ρ, M, st, q⟩ => tX_one st (Go.refl st.sto) q fun d v H1 φ1 S1 M1 g1 g01 st1 r q1 => ?_⟩
  obtain ⟨⟨n1, c2, ds1⟩, eo, q2⟩ := runX_opt q1
  obtain ⟨rfl, q3⟩ := run_ifX q2
  obtain ⟨ad, dx, vs, rfl, rfl, h1, h2, hl, rs, _⟩ := ob_run st1.sto r eo
  refine ⟨ad, dx, _, rfl, h2, lookup_zip_none hn, tXA_one st1 g01 q3 fun ds us H2 φ2 S2 M2 g2 g02 st2 r2 q4 => ?_⟩
  obtain ⟨hn2, q5⟩ := run_ifX q4
  exact ⟨φ2, S2, M2, .ptr n1 :: ds, st2.sto, by rw [List.length_cons, hn2], .cons (g2.sh st1.sto r) r2, runX_mono q5 (fun d M3 q6 v H' φ' S' g3 r3 => q6 v H' φ' S' (g02.trans g3) r3) fun c M3 z H' φ' S' g3 => ⟨c, rfl, rfl, z H' φ' S' (g02.trans g3)⟩⟩
@[simp] def xMeth0 (c : Nat) (g : List D → Mem → RX D) (fo : X2 D) : X2 D := fun ρ M => (fo ρ M).bind fun x M1 => RX.opt (cellO M1 x) fun o => if o.2.1 = c then g [x] M1 else .st
theorem xe_meth0 (F : MX X.prog X.w X.K X.mg X.base T c m k 0 g) (hr : Room k X.A) (tk : TkX X T Z) (h : XE X T Z o fo)
    (hev : ∃ pl : Sem Bool, eval (.Call (.Attribute o m apos) [] [] pos) X.env = (do
      let ov ← eval o X.env
      standAt apos.atName
      let (f, first) ← holding [ov] (getMethod ov m pl)
      callWith pos f first (backTo pos (starEach [] X.env)) (backToKw pos (keywordEach [] X.env))) := by exact ⟨_, rfl⟩) : XE X T Z (.Call (.Attribute o m apos) [] [] pos) (xMeth0 c g fo) := by
  obtain ⟨fn, fd, ps, F, c1, hm, hb, hn⟩ := F
  obtain ⟨pl, hev⟩ := hev
  refine ⟨PE.imp (pe_meth0A h.pe c1 hm F hr hb (fun σ => passAt tk.tk σ) hev) fun σ H Q ⟨φ, S, ρ, M, st, q⟩ => tX_one st (Go.refl st.sto) q fun d v H1 φ1 S1 M1 g1 g01 st1 r q1 => ?_⟩
  obtain ⟨⟨n1, c2, ds1⟩, eo, q2⟩ := runX_opt q1
  obtain ⟨rfl, q5⟩ := run_ifX q2
  obtain ⟨ad, dx, vs, rfl, rfl, h1, h2, hl, rs, _⟩ := ob_run st1.sto r eo
  exact ⟨ad, dx, _, rfl, h2, lookup_zip_none hn, φ1, S1, M1, [.ptr n1], st1.sto, rfl, .cons r .nil, runX_mono q5 (fun d M3 q6 v H' φ' S' g3 r3 => q6 v H' φ' S' (g01.trans g3) r3) fun c M3 z H' φ' S' g3 => ⟨c, rfl, rfl, z H' φ' S' (g01.trans g3)⟩⟩

/-! ### making -/
/-- an __init__ over the store: c0 is the class without fields -/
structure IX (P : Program) (w : World) (K : PySem.W.Frag) (mg : Str → Option Value) (base : Heap) (T : Tb) (c0 k n : Nat) (g : List D → Mem → RX D) : Prop where
  ex : ∃ (f : Addr) (fd : FuncData) (ps : List Str), FnOk P w K mg base (L2.CX P w) k f fd ps (spX K T (n + 1) g) ∧ Mk K (T.ct c0) f ∧ Binds K fd ps [] ∧ T.fl c0 = []
@[simp] def xMake (c0 n : Nat) (g : List D → Mem → RX D) (fs : X2 (List D)) : X2 D := fun ρ M => (fs ρ M).bind fun ds M1 => if ds.length = n then (g (.ptr M1.length :: ds) (M1 ++ [.ob c0 []])).bind fun d M2 => match d with
  | .non => .ok (.ptr M1.length) M2
  | _ => .st else .st
def tMakeA (C : Addr) (sp : Sp) (E : L2.St → XK) (t : TA) : TE := fun σ H Q => t σ H fun vs H1 => ∀ y dx, H1 y = none → H1 dx = none → dx ≠ y → sp (.ref y :: vs) (upd (upd H1 dx (.own y)) y (.ins C dx [])) (fun v H2 => v = .non ∧ Q (.ref y) H2) (E σ)
theorem pe_makeA {CX : CXT} {C g : Addr} {fd : FuncData} {ps : List Str} {sp : Sp} {E : L2.St → XK} {t : TA} (mk : Mk X.K C g) (F : FnOk X.prog X.w X.K X.mg X.base CX k g fd ps sp) (hr : Room (k + 1) X.A) (hg : Gl X x) (hm : X.mg x = some (.ref C)) (hb : Binds X.K fd ps []) (hx : ∀ σ, PassesAt CX X σ (E σ)) (ha : PA X (e :: es) t)
    (hdb : (x == ("__debug__" : Str)) = false) (he : starEach (e :: es) X.env = (false, eval e X.env) :: starEach es X.env) (hpl : (backTo pos (starEach es X.env)).any (·.1) = false) : PE X (.Call (.Name x p) (e :: es) [] pos) (tMakeA C sp E t) := ⟨fun pins s σ H Q I h => by
  refine wpAny_Call_Name_kw (ld_glob I hg hm ?_ hdb)
  refine PySem.W.callWith_K (h₀ := X.base) I.ok.mod.kin mk.kp (thn (ha.run pos pins s σ H _ I h) fun us sA ⟨vs, HA, IA, rA, qA⟩ => ⟨IA.kIn, ?_⟩) he hpl
  have hq := qA (sA.heap.objs.size + 1) sA.heap.objs.size (IA.hok.fresh (Nat.le_succ _)) (IA.hok.fresh (Nat.le_refl _)) (Nat.ne_of_lt (Nat.lt_succ_self _))
  have IB := Inv.made (C := C) IA
  have hlen : (Value.ref (sA.heap.objs.size + 1) :: us).length = ps.length := by
    have z := F.len _ _ _ _ hq
    rw [List.length_cons] at z ⊢
    rw [← rA.length]
    exact z
  have bb := hb _ (Value.ref (sA.heap.objs.size + 1) :: us) IB.kIn (by rw [List.append_nil]; exact hlen)
  rw [List.append_nil] at bb
  refine wpAny_call (make_map (f := g) IA.kIn mk.makes mk.init (beq_iff_eq.mp mk.fn) (codeAny_mono (F.run _ X.stack _ _ ⟨Value.ref (sA.heap.objs.size + 1) :: us, []⟩ (Value.ref (sA.heap.objs.size + 1) :: us) _ _ (E σ) (hr.make C us []) (IB.env0.make C us []) bb (show Vals (V.ref (sA.heap.objs.size + 1) :: vs) _ from .cons rfl rA) hq) fun r sC hq' => ?_))
  cases r with
  | error z => exact hx σ pins _ _ z sC IB hq'
  | ok fl =>
    cases fl with
    | ret u =>
      obtain ⟨v, HC, IC, rv, ev, q3⟩ := IB.after hq'
      subst ev
      exact ⟨rv, ⟨V.ref (sA.heap.objs.size + 1), HC, IC, rfl, q3⟩⟩
    | next => exact False.elim hq'
    | brk => exact False.elim hq'
    | cont => exact False.elim hq'⟩
theorem xe_make {c0 : Nat} (F : IX X.prog X.w X.K X.mg X.base T c0 k n g) (hr : Room (k + 1) X.A) (tk : TkX X T Z) (hg : Gl X x) (hm : X.mg x = some (.ref (T.ct c0))) (ha : XA X T Z (e :: es) fs) (hdb : (x == ("__debug__" : Str)) = false := by decide)
    (he : starEach (e :: es) X.env = (false, eval e X.env) :: starEach es X.env := by rfl) (hpl : (backTo pos (starEach es X.env)).any (·.1) = false := by rfl) : XE X T Z (.Call (.Name x p) (e :: es) [] pos) (xMake c0 n g fs) := by
  obtain ⟨fn, fd, ps, F, mk, hb, hfl⟩ := F
  refine ⟨PE.imp (pe_makeA mk F hr hg hm hb (fun σ => passAt tk.tk σ) ha.pa hdb he hpl) fun σ H Q ⟨φ, S, ρ, M, st, q⟩ => tXA_one st (Go.refl st.sto) q fun ds vs H1 φ1 S1 M1 g1 g01 st1 r q1 => ?_⟩
  obtain ⟨hn, q2⟩ := run_ifX q1
  intro y dx hy hdx hne
  have sm : Same H1 (upd (upd H1 dx (.own y)) y (.ins (T.ct c0) dx [])) := made_same hy hdx
  have gc : Go X.K T φ1 (fun n => if n = M1.length then some y else φ1 n) S1 _ H1 (upd (upd H1 dx (.own y)) y (.ins (T.ct c0) dx [])) (M1 ++ [.ob c0 []]) := Go.cell st1.sto sm hy (.of upd_same fun _ => HO.noConfusion) (c := .ob c0 []) ⟨dx, [], by show _ = some (HO.ins (T.ct c0) dx ((T.fl c0).zip [])); rw [hfl]; exact upd_same, by show (T.fl c0).length = _; rw [hfl]; rfl, .nil⟩
  refine ⟨fun n => if n = M1.length then some y else φ1 n, _, M1 ++ [.ob c0 []], .ptr M1.length :: ds, gc.sto, by rw [List.length_cons, hn], (.cons (.ptr (show (if M1.length = M1.length then some y else φ1 M1.length) = some y from if_pos rfl)) (gc.shl st1.sto r)), runX_mono (runX_bind q2) (fun d M2 q3 v H' φ' S' g3 r3 => ?_) fun c M2 z H' φ' S' g3 => ⟨c, rfl, rfl, z H' φ' S' ((g01.trans gc).trans g3)⟩⟩
  cases d with
  | non =>
    cases r3
    exact ⟨rfl, (show ∀ v H' φ' S', Go X.K T φ φ' S S' H H' M2 → Sh X.K (T.w φ') H' S' (.ptr M1.length) v → Q v H' from q3) (.ref y) H' φ' S' ((g01.trans gc).trans g3) (.ptr (g3.ph M1.length y (if_pos rfl)))⟩
  | _ => exact q3.elim
end
end
end PL
/-! PXF: more expressions over the store. -/
namespace PL
open PySem L2 PyProof.Rows
noncomputable section
/-- never come to -/
@[simp] def yNever : Y2 := fun _ _ => .st
/-- a new list that stands -/
@[simp] def xFD (vs : List Nat) (f : Ev → R (List D)) : X2 D := fun ρ M => RX.bind (RX.of (f (vwF vs M 0 ρ)) M) fun ds M => RX.when (okLs (vids vs M ρ) M ds) (.ok (.lst ds) M)
section
variable {X : Cx} {T : Tb} {Z : Zx} {s : Stmt} {a b c e : Expr} {es : List Expr} {fe ge he : X2 D} {fs : Ev → R (List D)} {xs : X2 (List D)} {pos p : Pos} {k : Nat}
theorem xs_never : XS X T Z s yNever := ⟨PS.imp ps_never fun D σ H ⟨φ, S, ρ, M, st, q⟩ => q⟩
theorem FE.xd (vs : List Nat) (h : ∀ φ H0 S0, FE X (cL T φ H0 S0) e fs) : XE X T Z e (xFD vs fs) := ⟨⟨fun pins s σ H Q I ⟨φ, S, ρ, M, st, q⟩ => by
  obtain ⟨ds, ed, q1⟩ := runX_of (runX_bind q)
  obtain ⟨c, q2⟩ := runX_when q1
  have q2 : ∀ v H' φ' S', Go X.K T φ φ' S S' H H' M → Sh X.K (T.w φ') H' S' (.lst ds) v → Q v H' := q2
  exact (h φ H (Sv (vids vs M ρ) φ S)).pe.run pins s σ H Q I ⟨_, _, sta_view vs st, run_ok ed fun p us H' e hn hp r => q2 (.ref p) H' φ _ (Go.pure st.sto e)
    (.lst hp ⟨.inr ⟨hn, by rw [hp]; exact fun z => nomatch z⟩, .of hp fun _ => HO.noConfusion⟩ ((keep_shl st.sto e r c).mono Kp.refl fun a w => w.1))⟩⟩⟩
/-- a new thing laid: what stands behind it -/
theorem go_laid {K : PySem.W.Frag} {φ : Ph} {S : Addr → Prop} {M : Mem} {H : Hp} {q : Addr} {o : HO} (st : Sto K (T.w φ) S M H) (h : H q = none) : Go K T φ φ S (fun a => Fw S H (upd H q o) a ∧ NT (upd H q o) a) H (upd H q o) M := Go.pure st (same_upd h)
/-- a list display -/
@[simp] def xLst (xs : X2 (List D)) : X2 D := fun ρ M => (xs ρ M).bind fun ds M1 => RX.when (lineOk ds.length) (.ok (.lst ds) M1)
theorem xe_lst (h : XA X T Z es xs) : XE X T Z (.List es pos) (xLst xs) := ⟨PE.imp (pe_lst h.pa) fun σ H Q ⟨φ, S, ρ, M, st, q⟩ => tXA_one st (Go.refl st.sto) q fun ds vs H1 φ1 S1 M1 g1 _ st1 r q1 => by
  obtain ⟨cl, q2⟩ := runX_when q1
  refine ⟨by rw [← r.length]; exact lineOk_le cl, fun q hq => ?_⟩
  have g2 := go_laid (o := .lst vs) st1.sto hq
  exact (show ∀ v H' φ' S', Go X.K T φ φ' S S' H H' M1 → Sh X.K (T.w φ') H' S' (.lst ds) v → Q v H' from q2) (.ref q) _ φ1 _ (g1.trans g2)
    (.lst upd_same ⟨.inr ⟨hq, by rw [upd_same]; exact fun z => nomatch z⟩, .of upd_same fun _ => HO.noConfusion⟩ (g2.shl st1.sto r))⟩
/-- a tuple -/
@[simp] def xTup (xs : X2 (List D)) : X2 D := fun ρ M => (xs ρ M).bind fun ds M1 => RX.when (lineOk ds.length) (.ok (.tup ds) M1)
theorem xe_tup (h : XA X T Z es xs) : XE X T Z (.Tuple es k pos) (xTup xs) := ⟨PE.imp (pe_tup h.pa) fun σ H Q ⟨φ, S, ρ, M, st, q⟩ => tXA_one st (Go.refl st.sto) q fun ds vs H1 φ1 S1 M1 g1 _ st1 r q1 => by
  obtain ⟨cl, q2⟩ := runX_when q1
  refine ⟨by rw [← r.length]; exact lineOk_le cl, fun q hq => ?_⟩
  have g2 := go_laid (o := .tup vs) st1.sto hq
  exact (show ∀ v H' φ' S', Go X.K T φ φ' S S' H H' M1 → Sh X.K (T.w φ') H' S' (.tup ds) v → Q v H' from q2) (.ref q) _ φ1 _ (g1.trans g2) (.tup upd_same (g2.shl st1.sto r))⟩
/-- two lists that stand, one behind the other -/
@[simp] def xCat (fe ge : X2 D) : X2 D := fun ρ M => (fe ρ M).bind fun x M1 => (ge ρ M1).bind fun y M2 => match x, y with
  | .lst us, .lst ws => RX.when (lineOk (us.length + ws.length)) (.ok (.lst (us ++ ws)) M2)
  | _, _ => .st
theorem xe_cat (ha : XE X T Z a fe) (hb : XE X T Z b ge) : XE X T Z (.BinOp a .Add b pos) (xCat fe ge) := ⟨PE.imp (pe_op op_cat ha.pe hb.pe) fun σ H Q ⟨φ, S, ρ, M, st, q⟩ => tX_one st (Go.refl st.sto) q fun x v H1 φ1 S1 M1 g1 g01 st1 r1 q1 => tX_one st1 g01 q1 fun y u H2 φ2 S2 M2 g2 g02 st2 r2 q2 => by
  split at q2
  · obtain ⟨cl, q3⟩ := runX_when q2
    have r1 := g2.sh st1.sto r1
    cases r1 with
    | lst h1 w1 s1 =>
      cases r2 with
      | lst h2 w2 s2 =>
        refine ⟨_, _, _, _, rfl, rfl, h1, h2, by rw [← s1.length, ← s2.length]; exact lineOk_le cl, fun q hq => ?_⟩
        rename_i a1 vs1 a2 vs2
        have g3 := go_laid (o := .lst (vs1 ++ vs2)) st2.sto hq
        exact (show ∀ v H' φ' S', Go X.K T φ φ' S S' H H' M2 → Sh X.K (T.w φ') H' S' _ v → Q v H' from q3) (.ref q) _ φ2 _ (g02.trans g3)
          (.lst upd_same ⟨.inr ⟨hq, by rw [upd_same]; exact fun z => nomatch z⟩, .of upd_same fun _ => HO.noConfusion⟩ (g3.shl st2.sto (s1.append s2)))
  · exact q2.elim⟩
/-- comparisons -/
@[simp] def xC (cc : D → D → Option Bool) (fe ge : X2 D) : X2 Bool := fun ρ M => (fe ρ M).bind fun x M1 => (ge ρ M1).bind fun y M2 => RX.opt (cc x y) fun b => .ok b M2
@[simp] def xV (f : X2 Bool) : X2 D := fun ρ M => (f ρ M).bind fun b M1 => .ok (.bl b) M1
theorem xt_cmp {C : Cc} {op : CmpOp} {cc : D → D → Option Bool} (hc : CmpD X C op cc) (ha : XE X T Z a fe) (hb : XE X T Z b ge) (hm : behindInMarks op b = false) : XT X T Z (.Compare a [op] [b] pos) (xC cc fe ge) := by
  obtain ⟨r, ho, hr⟩ := hc
  refine ⟨PT.imp (pt_cmpR ho ha.pe hb.pe hm) fun σ H Q ⟨φ, S, ρ, M, st, q⟩ => tX_one st (Go.refl st.sto) q fun x v H1 φ1 S1 M1 g1 g01 st1 r1 q1 => tX_one st1 g01 q1 fun y u H2 φ2 S2 M2 g2 g02 st2 r2 q2 => ?_⟩
  obtain ⟨k, ek, q3⟩ := runX_opt q2
  exact hr H2 _ _ x y v u _ k (g2.sh st1.sto r1) r2 ek ⟨k, rfl, (show ∀ H' φ' S', Go X.K T φ φ' S S' H H' M2 → Q k H' from q3) H2 φ2 S2 g02⟩
theorem runX_xV {f : X2 Bool} {ρ : E2} {M : Mem} {ok : D → Mem → Prop} {ex : Nat → Mem → Prop} (h : runX (xV f ρ M) ok ex) : runX (f ρ M) (fun b M' => ok (.bl b) M') ex := runX_bind h
theorem xe_cmp {C : Cc} {op : CmpOp} {cc : D → D → Option Bool} (hc : CmpD X C op cc) (ha : XE X T Z a fe) (hb : XE X T Z b ge) (hm : behindInMarks op b = false) : XE X T Z (.Compare a [op] [b] pos) (xV (xC cc fe ge)) := by
  obtain ⟨r, ho, hr⟩ := hc
  refine ⟨PE.imp (pe_cmpR ho ha.pe hb.pe hm) fun σ H Q ⟨φ, S, ρ, M, st, q⟩ => ?_⟩
  have q := runX_xV q
  refine tX_one st (Go.refl st.sto) q fun x v H1 φ1 S1 M1 g1 g01 st1 r1 q1 => tX_one st1 g01 q1 fun y u H2 φ2 S2 M2 g2 g02 st2 r2 q2 => ?_
  obtain ⟨k, ek, q3⟩ := runX_opt q2
  exact hr H2 _ _ x y v u _ k (g2.sh st1.sto r1) r2 ek ((show ∀ v H' φ' S', Go X.K T φ φ' S S' H H' M2 → Sh X.K (T.w φ') H' S' (.bl k) v → Q v H' from q3) _ H2 φ2 S2 g02 (.bl k))
/-- and, or, not as values: True or False -/
@[simp] def xAndV (f g : X2 D) : X2 D := fun ρ M => (f ρ M).bind fun d M1 => RX.bind (RX.of (toB d) M1) fun b M1 => if b = true then g ρ M1 else .ok (.bl false) M1
@[simp] def xOrV (f g : X2 D) : X2 D := fun ρ M => (f ρ M).bind fun d M1 => RX.bind (RX.of (toB d) M1) fun b M1 => if b = true then .ok (.bl true) M1 else g ρ M1
@[simp] def xNotV (f : X2 D) : X2 D := fun ρ M => (f ρ M).bind fun d M1 => RX.bind (RX.of (toB d) M1) fun b M1 => .ok (.bl (!b)) M1
variable {rest : List Expr}
theorem xe_one {op : BoolOp} (h : XE X T Z a fe) : XE X T Z (.BoolOp op [a] pos) fe := ⟨pe_one h.pe⟩
theorem tX_on {K : PySem.W.Frag} {φ φ1 : Ph} {S S1 : Addr → Prop} {ρ : E2} {M1 : Mem} {σ : L2.St} {H H1 : Hp} {Q : V → Hp → Prop} (g1 : Go K T φ φ1 S S1 H H1 M1) (st1 : St2 K (T.w φ1) S1 ρ M1 σ H1) (q : runX (ge ρ M1) (fun d M' => ∀ v H' φ' S', Go K T φ φ' S S' H H' M' → Sh K (T.w φ') H' S' d v → Q v H') (exZ K T Z φ S σ H)) : tX K T Z ge σ H1 Q :=
  ⟨φ1, S1, ρ, M1, st1, runX_mono q (fun b M2 z v H' φ' S' g' r => z v H' φ' S' (g1.trans g') r) fun c M2 z H' φ' S' g' => z H' φ' S' (g1.trans g')⟩
theorem bl_run {α : Type} {K : PySem.W.Frag} {T : Tb} {H : Hp} {S : Addr → Prop} {d : D} {v : V} {M1 : Mem} {k : Bool → Mem → RX α} {ok : α → Mem → Prop} {ex : Nat → Mem → Prop} (r : Sh K T H S d v) (q : runX (RX.bind (RX.of (toB d) M1) k) ok ex) : ∃ b, v = .bl b ∧ runX (k b M1) ok ex := by
  cases d with
  | bl b =>
    cases r
    exact ⟨b, rfl, q⟩
  | _ => exact q.elim
theorem xe_and2 (h : XE X T Z a fe) (hr : XE X T Z (.BoolOp .And (b :: rest) pos) ge) : XE X T Z (.BoolOp .And (a :: b :: rest) pos) (xAndV fe ge) := ⟨PE.imp (pe_and h.pe hr.pe) fun σ H Q ⟨φ, S, ρ, M, st, q⟩ => tX_one st (Go.refl st.sto) q fun x v H1 φ1 S1 M1 g1 _ st1 r1 q1 => by
  obtain ⟨b, rfl, q2⟩ := bl_run r1 q1
  refine ⟨b, rfl, ?_⟩
  cases b with
  | true =>
    rw [if_pos rfl] at q2 ⊢
    exact tX_on g1 st1 q2
  | false =>
    rw [if_neg Bool.false_ne_true] at q2 ⊢
    exact (show ∀ v H' φ' S', Go X.K T φ φ' S S' H H' M1 → Sh X.K (T.w φ') H' S' (.bl false) v → Q v H' from q2) _ H1 φ1 S1 g1 (.bl _)⟩
theorem xe_or2 (h : XE X T Z a fe) (hr : XE X T Z (.BoolOp .Or (b :: rest) pos) ge) : XE X T Z (.BoolOp .Or (a :: b :: rest) pos) (xOrV fe ge) := ⟨PE.imp (pe_or h.pe hr.pe) fun σ H Q ⟨φ, S, ρ, M, st, q⟩ => tX_one st (Go.refl st.sto) q fun x v H1 φ1 S1 M1 g1 _ st1 r1 q1 => by
  obtain ⟨b, rfl, q2⟩ := bl_run r1 q1
  refine ⟨b, rfl, ?_⟩
  cases b with
  | false =>
    rw [if_neg Bool.false_ne_true] at q2 ⊢
    exact tX_on g1 st1 q2
  | true =>
    rw [if_pos rfl] at q2 ⊢
    exact (show ∀ v H' φ' S', Go X.K T φ φ' S S' H H' M1 → Sh X.K (T.w φ') H' S' (.bl true) v → Q v H' from q2) _ H1 φ1 S1 g1 (.bl _)⟩
theorem xe_not (h : XE X T Z a fe) : XE X T Z (.UnaryOp .Not a pos) (xNotV fe) := ⟨PE.imp (pe_not h.pe) fun σ H Q ⟨φ, S, ρ, M, st, q⟩ => tX_one st (Go.refl st.sto) q fun x v H1 φ1 S1 M1 g1 _ st1 r1 q1 => by
  obtain ⟨b, rfl, q2⟩ := bl_run r1 q1
  exact ⟨b, rfl, (show ∀ v H' φ' S', Go X.K T φ φ' S S' H H' M1 → Sh X.K (T.w φ') H' S' (.bl (!b)) v → Q v H' from q2) _ H1 φ1 S1 g1 (.bl _)⟩⟩
/-- a if t else b -/
@[simp] def xIf (t : X2 Bool) (f g : X2 D) : X2 D := fun ρ M => (t ρ M).bind fun b M1 => if b = true then f ρ M1 else g ρ M1
theorem xe_if {ft : X2 Bool} (hc : XT X T Z c ft) (ha : XE X T Z a fe) (hb : XE X T Z b ge) : XE X T Z (.IfExp c a b pos) (xIf ft fe ge) := ⟨PE.imp (pe_ifExp hc.pt ha.pe hb.pe) fun σ H Q ⟨φ, S, ρ, M, st, q⟩ => tXT_one st (Go.refl st.sto) q fun b H1 φ1 S1 M1 g1 _ st1 q1 => by
  cases b with
  | true =>
    rw [if_pos rfl] at q1 ⊢
    exact tX_on g1 st1 q1
  | false =>
    rw [if_neg Bool.false_ne_true] at q1 ⊢
    exact tX_on g1 st1 q1⟩
/-- a call without arguments -/
@[simp] def xCall0 (g : List D → Mem → RX D) : X2 D := fun _ M => g [] M
theorem pe_call0A {x : Str} {CX : CXT} {g : Addr} {fd : FuncData} {ps : List Str} {sp : Sp} {E : L2.St → XK} (F : FnOk X.prog X.w X.K X.mg X.base CX k g fd ps sp) (hr : Room k X.A) (hg : Gl X x) (hm : X.mg x = some (.ref g)) (kp : PySem.W.keepIn X.K (.ref g) = true) (hb : Binds X.K fd ps []) (hx : ∀ σ, PassesAt CX X σ (E σ))
    (hdb : (x == ("__debug__" : Str)) = false) : PE X (.Call (.Name x p) [] [] pos) (fun σ H Q => sp [] H Q (E σ)) := ⟨fun pins s σ H Q I h => by
  refine wpAny_Call_Name_kw (ld_glob I hg hm ?_ hdb)
  exact PySem.W.callWith_K0 I.kIn kp (run_fnS (us := []) (vs := []) F hr hb (hx σ) I .nil h)⟩
theorem xe_call0 {x : Str} {g : List D → Mem → RX D} (F : FX X.prog X.w X.K X.mg X.base T x k 0 g) (hr : Room k X.A) (tk : TkX X T Z) (hg : Gl X x) (hdb : (x == ("__debug__" : Str)) = false := by decide) : XE X T Z (.Call (.Name x p) [] [] pos) (xCall0 g) := by
  obtain ⟨f, fd, ps, F, hm, hk, hb⟩ := F
  exact ⟨PE.imp (pe_call0A F hr hg hm hk hb (fun σ => passAt tk.tk σ) hdb) fun σ H Q ⟨φ, S, ρ, M, st, q⟩ =>
    ⟨φ, S, M, [], st.sto, rfl, .nil, runX_mono q (fun d M2 z v H' φ' S' g2 r2 => z v H' φ' S' g2 r2) fun c M2 z H' φ' S' g2 => ⟨c, rfl, rfl, z H' φ' S' g2⟩⟩⟩
end
end
end PL
/-! PXG: comprehensions over the store, built-ins and level one's defs on what stands. -/
namespace PL
open PySem L2 PyProof.Rows
noncomputable section
section
variable {K : PySem.W.Frag} {T : Tb} {φ φ' : Ph} {S S' : Addr → Prop} {H H' : Hp} {M M' : Mem} {ρ : E2} {σ : L2.St}
/-- a list aside of all is changed -/
theorem Go.aside {L : Addr} {us : List V} (g : Go K T φ φ' S S' H H' M') (hL : H L = none) (hw : ∀ vs, H' L ≠ some (.tup vs)) (nS : ¬ S' L) (nφ : ∀ n, φ' n ≠ some L) : Go K T φ φ' S S' H (upd H' L (.lst us)) M' := by
  have ne : ∀ a, S' a → a ≠ L := fun a w z => nS (z ▸ w)
  have kp : Kp S' H' (upd H' L (.lst us)) := ⟨fun a o w e _ => by rw [upd_ne (ne a w)]; exact e, fun a vs e => by
    rw [upd_ne fun z => by subst z; exact hw vs e]
    exact e⟩
  refine ⟨g.ph, g.new, g.sub, g.old, ⟨fun a w => ?_, fun n c e => ?_, g.sto.dom, g.sto.inj, g.sto.out⟩, fun a o e n t => ?_, fun a e => ?_⟩
  · obtain ⟨o, e, t⟩ := g.sto.bnd a w
    exact ⟨o, by rw [upd_ne (ne a w)]; exact e, t⟩
  · obtain ⟨a, h1, h2⟩ := g.sto.cell n c e
    exact ⟨a, h1, h2.go kp (fun _ w => w) (upd_ne fun z => nφ n (z ▸ h1))⟩
  · rw [upd_ne fun z => by subst z; rw [hL] at e; cases e]
    exact g.kx a o e n t
  · refine g.free a ?_
    unfold upd at e
    split at e
    · cases e
    · exact e
theorem kp_aside {W : Addr → Prop} {L : Addr} {us : List V} (hw : ∀ vs, H L ≠ some (.tup vs)) (nS : ¬ W L) : Kp W H (upd H L (.lst us)) := ⟨fun a o w e _ => by rw [upd_ne fun z => by subst z; exact nS w]; exact e, fun a vs e => by
  rw [upd_ne fun z => by subst z; exact hw vs e]
  exact e⟩
/-- .. and told among what stands -/
theorem Go.take {L : Addr} {ws : List V} (g : Go K T φ φ' S S' H H' M') (hL : H L = none) (hw : H' L = some (.lst ws)) (nφ : ∀ n, φ' n ≠ some L) : Go K T φ φ' S (fun a => S' a ∨ a = L) H H' M' := by
  have l : ∀ {ds : List D} {vs : List V}, ShL K (T.w φ') H' S' ds vs → ShL K (T.w φ') H' (fun a => S' a ∨ a = L) ds vs := fun r => r.mono Kp.refl fun _ w => .inl w
  refine ⟨g.ph, g.new, fun a w => .inl (g.sub a w), fun a w => w.elim (g.old a) fun z => .inr (z ▸ hL), ⟨fun a w => ?_, fun n c e => ?_, g.sto.dom, g.sto.inj, fun n a e z => ?_⟩, g.kx, g.free⟩
  · rcases w with w | rfl
    · exact g.sto.bnd a w
    · exact .of hw fun _ => HO.noConfusion
  · obtain ⟨a, h1, h2⟩ := g.sto.cell n c e
    exact ⟨a, h1, h2.go Kp.refl (fun _ w => .inl w) rfl⟩
  · rcases z with z | rfl
    · exact g.sto.out n a e z
    · exact nφ n e
def wipe2 (ρ : E2) : List Nat → E2
  | [] => ρ
  | i :: is => (wipe2 ρ is).set i none
theorem St2.wipes (s : St2 K T S ρ M σ H) : ∀ vs : List Nat, St2 K T S (wipe2 ρ vs) M (L2.wipe σ vs) H
  | [] => s
  | i :: vs => (s.wipes vs).wipe
end
/-- an answer that is no refusal -/
def noexX {α : Type} : RX α → RX α
  | .ok a M => .ok a M
  | _ => .st
@[simp] theorem noexX_ok {α : Type} (a : α) (M : Mem) : noexX (RX.ok a M) = .ok a M := rfl
theorem runX_noex {α : Type} {m : RX α} {ok : α → Mem → Prop} {ex ex' : Nat → Mem → Prop} (h : runX (noexX m) ok ex) : runX m ok ex' := by
  cases m with
  | ok a M => exact h
  | ex c M => exact h.elim
  | st => exact h.elim
/-- the comprehension's walk -/
def lcX (g : D → E2 → Option E2) (t : X2 Bool) (e : X2 D) (ρw : E2) : List D → Mem → RX (List D)
  | [], M => .ok [] M
  | x :: xs, M => RX.opt (g x ρw) fun ρ1 => (noexX (t ρ1 M)).bind fun b M1 => if b = true then (noexX (e ρ1 M1)).bind fun d M2 => (lcX g t e ρw xs M2).bind fun r M3 => .ok (d :: r) M3 else lcX g t e ρw xs M1
@[simp] def xLC (it : X2 (List D)) (vs : List Nat) (g : D → E2 → Option E2) (t : X2 Bool) (e : X2 D) : X2 D := fun ρ M => (it ρ M).bind fun xs M1 => RX.when (lineOk xs.length) ((lcX g t e (wipe2 ρ vs) xs M1).bind fun ds M2 => .ok (.lst ds) M2)
@[simp] def xYes : X2 Bool := fun _ M => .ok true M
structure XTs (X : Cx) (T : Tb) (Z : Zx) (es : List Expr) (f : X2 Bool) : Prop where
  pt : PTs X es (tXT X.K T Z f)
theorem lcx_red {K : PySem.W.Frag} {T : Tb} {Z : Zx} {it : X2 (List D)} {vs is : List Nat} {g : D → E2 → Option E2} {t : X2 Bool} {e : X2 D} {wi : TI} {σ : L2.St} {H : Hp} {Q : VK} {ρ : E2} {M : Mem} {φ : Ph} {S : Addr → Prop} (his : ∀ i ∈ is, i ∈ vs)
    (hwi : ∀ (σ : L2.St) (H : Hp) (Q : It → Hp → Prop) φ S ρ M, St2 K (T.w φ) S ρ M σ H → runX (it ρ M) (fun xs M1 => ∀ J H1 φ1 S1, Go K T φ φ1 S S1 H H1 M1 → ItX K T φ1 S1 J H1 xs → Q J H1) (exZ K T Z φ S σ H) → wi σ H Q)
    (st : St2 K (T.w φ) S ρ M σ H) (q : runX (xLC it vs g t e ρ M) (fun d M' => ∀ v H' φ' S', Go K T φ φ' S S' H H' M' → Sh K (T.w φ') H' S' d v → Q v H') (exZ K T Z φ S σ H)) :
    tLc wi (tXg K T is g) (tXT K T (fun _ _ _ => False) t) (tX K T (fun _ _ _ => False) e) vs σ H Q := by
  refine hwi σ H _ φ S ρ M st (runX_mono (runX_bind q) (fun xs M1 q1 J H1 φ1 S1 g1 ok => ?_) fun _ _ z => z)
  obtain ⟨hline, q1⟩ := runX_when q1
  intro L hL
  have st1 := (g1.st st).wipes vs
  have nS1 : ¬ S1 L := fun z => (st1.sto.bnd L z).ne hL
  have nφ1 : ∀ n, φ1 n ≠ some L := fun n z => (st1.sto.here z).ne hL
  have nt1 : ∀ vs, H1 L ≠ some (.tup vs) := fun vs z => by rw [hL] at z; cases z
  refine ⟨fun i m H2 => m = xs.length - i ∧ i ≤ xs.length ∧ ∃ φ2 S2 M2 ds ws, St2 K (T.w φ2) S2 (wipe2 ρ vs) M2 (L2.wipe σ vs) H2 ∧ Go K T φ1 φ2 S1 S2 H1 H2 M2 ∧ ¬ S2 L ∧ (∀ n, φ2 n ≠ some L) ∧ H2 L = some (.lst ws) ∧ ds.length ≤ i ∧ ShL K (T.w φ2) H2 S2 ds ws ∧
      runX (lcX g t e (wipe2 ρ vs) (xs.drop i) M2) (fun r M' => ∀ v H' φ' S', Go K T φ φ' S S' H H' M' → Sh K (T.w φ') H' S' (.lst (ds ++ r)) v → Q v H') (exZ K T Z φ S σ H), ⟨xs.length, by simp, Nat.zero_le _, ?_⟩, ?_⟩
  · have gI := (Go.refl st1.sto).aside (us := []) hL nt1 nS1 nφ1
    refine ⟨φ1, S1, M1, [], [], ⟨gI.sto, st1.len, fun i d h => ?_⟩, gI, nS1, nφ1, upd_same, Nat.le_refl _, .nil, runX_mono (runX_bind q1) (fun r M' z => z) fun _ _ z => z⟩
    obtain ⟨v, hv, r⟩ := st1.sl i d h
    exact ⟨v, hv, r.mono (kp_aside nt1 nS1) fun _ w => w⟩
  · rintro i m H2 ⟨rfl, hi, φ2, S2, M2, ds, ws, st2, g2, nS, nφ, hw, hd, r2, q2⟩
    obtain ⟨okg, oks⟩ := ok φ2 S2 H2 M2 g2
    by_cases hlt : i < xs.length
    · have hx : xs[i]? = some xs[i] := List.getElem?_eq_getElem hlt
      rw [List.drop_eq_getElem_cons hlt] at q2
      obtain ⟨go, yl⟩ := okg i _ hx
      refine .inr ⟨go, fun H' => i + 1 ≤ xs.length ∧ ∃ φ2 S2 M2 ds ws, St2 K (T.w φ2) S2 (wipe2 ρ vs) M2 (L2.wipe σ vs) H' ∧ Go K T φ1 φ2 S1 S2 H1 H' M2 ∧ ¬ S2 L ∧ (∀ n, φ2 n ≠ some L) ∧ H' L = some (.lst ws) ∧ ds.length ≤ i + 1 ∧ ShL K (T.w φ2) H' S2 ds ws ∧
        runX (lcX g t e (wipe2 ρ vs) (xs.drop (i + 1)) M2) (fun r M' => ∀ v H' φ' S', Go K T φ φ' S S' H H' M' → Sh K (T.w φ') H' S' (.lst (ds ++ r)) v → Q v H') (exZ K T Z φ S σ H), fun H' z => ⟨xs.length - (i + 1), by omega, rfl, z.1, z.2⟩, fun v H3 hy => ?_⟩
      obtain ⟨e3, rv⟩ := yl v H3 hy
      have g3 := Go.pure st2.sto e3
      have st3 := g3.st st2
      unfold lcX at q2
      obtain ⟨ρ1, eg, q3⟩ := runX_opt q2
      -- L stays aside, whatever is done
      have side : ∀ {φ4 S4 H4 M4}, Go K T φ2 φ4 S2 S4 H2 H4 M4 → ¬ S4 L ∧ (∀ n, φ4 n ≠ some L) ∧ H4 L = some (.lst ws) := fun g4 => by
        refine ⟨fun z => ?_, fun n z => ?_, g4.kx L _ hw nφ fun _ _ => HO.noConfusion⟩
        · rcases g4.old L z with z | z
          · exact nS z
          · rw [hw] at z; cases z
        · rcases g4.new n L z with z | z
          · exact nφ n z
          · rw [hw] at z; cases z
      refine ⟨φ2, _, wipe2 ρ vs, M2, xs[i], ρ1, st3, Sh.nt rv, eg, fun σ4 st4 hσ => ⟨by rw [hσ vs his, wipe_wipe], ?_⟩⟩
      refine ⟨φ2, _, ρ1, M2, st4, runX_mono (runX_noex (ex' := fun _ _ => False) (runX_bind q3)) (fun b M5 q5 H5 φ5 S5 g5 => ?_) fun _ _ z => z.elim⟩
      have g25 := g3.trans g5
      cases b with
      | false =>
        rw [if_neg Bool.false_ne_true] at q5
        obtain ⟨s1, s2, s3⟩ := side g25
        exact iteF ⟨hlt, φ5, S5, M5, ds, ws, g25.st st2, g2.trans g25, s1, s2, s3, by omega, g25.shl st2.sto r2, q5⟩
      | true =>
        rw [if_pos rfl] at q5
        refine iteT ⟨φ5, S5, ρ1, M5, g5.st st4, runX_mono (runX_noex (ex' := fun _ _ => False) (runX_bind q5)) (fun d M6 q6 y H6 φ6 S6 g6 ry => ?_) fun _ _ z => z.elim⟩
        have g26 := g25.trans g6
        obtain ⟨s1, s2, s3⟩ := side g26
        have nt6 : ∀ vs, H6 L ≠ some (.tup vs) := fun vs z => by rw [s3] at z; cases z
        refine ⟨ws, s3, ?_, hlt, φ6, S6, M6, ds ++ [d], ws ++ [y], ⟨((g2.trans g26).aside hL nt6 s1 s2).sto, st2.len, fun j d' h => ?_⟩, (g2.trans g26).aside hL nt6 s1 s2, s1, s2, upd_same, by rw [List.length_append, List.length_singleton]; omega,
          ((g26.shl st2.sto r2).mono (kp_aside nt6 s1) fun _ w => w).snoc (ry.mono (kp_aside nt6 s1) fun _ w => w), runX_mono (runX_bind q6) (fun r M' z => ?_) fun _ _ z => z⟩
        · have := lineOk_le hline
          rw [← r2.length]
          omega
        · obtain ⟨u, hu, ru⟩ := (g26.st st2).sl j d' h
          exact ⟨u, hu, ru.mono (kp_aside nt6 s1) fun _ w => w⟩
        · have z : ∀ v H' φ' S', Go K T φ φ' S S' H H' M' → Sh K (T.w φ') H' S' (.lst (ds ++ d :: r)) v → Q v H' := z
          rw [List.append_assoc]
          exact z
    · have ei : i = xs.length := by omega
      subst ei
      rw [List.drop_length] at q2
      have q3 : ∀ v H' φ' S', Go K T φ φ' S S' H H' M2 → Sh K (T.w φ') H' S' (.lst (ds ++ [])) v → Q v H' := q2
      rw [List.append_nil] at q3
      exact .inl ⟨oks _ (Nat.le_refl _), q3 (.ref L) H2 φ2 _ (g1.trans (g2.take hL hw nφ)) (.lst hw (.inr rfl) (r2.mono Kp.refl fun _ w => .inl w))⟩
abbrev Z0 : Zx := fun _ _ _ => False
section
variable {X : Cx} {T : Tb} {Z : Zx} {elt tg iter a e : Expr} {es ifs : List Expr} {scope : Scope} {own : List (Str × Nat)} {pos p : Pos} {is : List Nat} {it : X2 (List D)} {g : D → E2 → Option E2} {t : X2 Bool} {fe : X2 D} {fs : X2 (List D)}
theorem xts_nil : XTs X T Z [] xYes := ⟨PTs.imp pts_nil fun σ H Q ⟨φ, S, ρ, M, st, q⟩ => (show ∀ H' φ' S', Go X.K T φ φ' S S' H H' M → Q true H' from q) H φ S (Go.refl st.sto)⟩
theorem xts_one {c : Expr} {f : X2 Bool} (h : XT X T Z c f) : XTs X T Z [c] f := ⟨pts_one h.pt⟩
theorem tk0 : TkX X T Z0 := ⟨fun u s' x => by
  obtain ⟨_, _, _, _, _, _, _, _, _, _, _, _, _, _, _, _, z⟩ := x
  obtain ⟨_, _, _, z⟩ := z
  exact z.elim⟩
theorem xe_lc (hc : X.calm = true) (hN : X.N.Nodup) (hi : XI X T Z tg iter it) (ok : BlkOk X.N X.env.scope scope own) (his : ∀ i ∈ is, i ∈ own.map (·.2))
    (hg : ∀ (s : Shared) (H : Hp) (B : Addr) (cl : List (Str × Addr)) (fp : List Addr), XG (X.blk s H scope (compEnvC scope cl B X.env) fp) T is tg g) (ht : ∀ (s : Shared) (H : Hp) (B : Addr) (cl : List (Str × Addr)) (fp : List Addr), XTs (X.blk s H scope (compEnvC scope cl B X.env) fp) T Z0 ifs t)
    (he : ∀ (s : Shared) (H : Hp) (B : Addr) (cl : List (Str × Addr)) (fp : List Addr), XE (X.blk s H scope (compEnvC scope cl B X.env) fp) T Z0 elt fe) (hs : ∀ x, foldedSetIterable iter X.env x = pure x := by intro _; rfl) :
    XE X T Z (.ListComp elt [⟨tg, iter, ifs, 0⟩] scope pos) (xLC it (own.map (·.2)) g t fe) := by
  obtain ⟨wi, hpi, hwi⟩ := hi
  exact ⟨PE.imp (pe_lc hc hN hpi ok (fun s H B cl fp => (hg s H B cl fp).pg) (fun s H B cl fp => (ht s H B cl fp).pt) (fun s H B cl fp => (he s H B cl fp).pe) hs) fun σ H Q ⟨φ, S, ρ, M, st, q⟩ => lcx_red his hwi st q⟩

/-! ### built-ins -/
@[simp] def xBi (h : List D → R D) (fs : X2 (List D)) : X2 D := fun ρ M => (fs ρ M).bind fun ds M1 => RX.of (h ds) M1
variable {x : Str} {k n : Nat}
theorem xe_bi {C : Cc} {id : String} {h : List D → R D} (hb : BiD X C true true (.builtin id) h) (hg : Gl X x) (hm : X.mg x = none) (hv : bootBuiltins x = some (.builtin id)) (ha : XA X T Z (e :: es) fs) (hn : x ≠ "__name__" := by decide) (hdb : (x == ("__debug__" : Str)) = false := by decide)
    (he : starEach (e :: es) X.env = (false, eval e X.env) :: starEach es X.env := by rfl) (hpl : (backTo pos (starEach es X.env)).any (·.1) = false := by rfl) : XE X T Z (.Call (.Name x p) (e :: es) [] pos) (xBi h fs) := by
  obtain ⟨r, hc, hr⟩ := hb
  refine ⟨PE.imp (pe_callB hc hg hm hv ha.pa hn hdb he hpl) fun σ H Q ⟨φ, S, ρ, M, st, q⟩ => tXA_one st (Go.refl st.sto) q fun ds vs H1 φ1 S1 M1 g1 _ st1 r1 q1 => ?_⟩
  obtain ⟨d, ed, q2⟩ := runX_of q1
  have q2 : ∀ v H' φ' S', Go X.K T φ φ' S S' H H' M1 → Sh X.K (T.w φ') H' S' d v → Q v H' := q2
  exact hr (T := T.w φ1) (Z := H1) (Ex := fun _ => False) S1 H1 H1 ds vs Q (fun a w => (st1.sto.bnd a w).ne) (Same.refl _) (r1.mono Kp.refl fun a w => .inl (.inl w)) (run_ok ed fun w H' e' rw' => q2 w H' φ1 _ (g1.trans (Go.pure st1.sto e')) (Sh.nt (rw'.mono Kp.refl fun a z => z.sh)))

/-! ### level one's defs, on what stands -/
theorem fd_run {fr : Bool} {gg : List D → R D} {f : Addr} {pins : List (Addr × Obj)} {σ : L2.St} {H : Hp} {s : Shared} {Q : VK} {us : List Value} {vs : List V} (F : FD X.prog X.w X.K X.mg X.base T x k n fr gg) (hr : Room k X.A) (hm : X.mg x = some (.ref f)) (I : Inv X pins σ H s) (r : Vals vs us)
    (h : spD X.K T n fr gg vs H Q E0) : wpAny (model X.prog X.w) X.A (call (.ref f) us) (EP X pins σ Q) X.xe s := by
  obtain ⟨f', fd, ps, CX, F, hm', hk, hb, hx⟩ := F
  rw [hm] at hm'
  cases hm'
  exact run_fn F hr hb .nil (hx X rfl rfl) I r (by rw [List.append_nil]; exact h)
/-- arguments, some of them by their content -/
def dvm : List Bool → Mem → List D → List D
  | b :: bs, M, d :: ds => (if b = true then deep 3 M d else d) :: dvm bs M ds
  | _, _, ds => ds
def mids : List Bool → Mem → List D → List Nat
  | b :: bs, M, d :: ds => (if b = true then idsD 3 M d else []) ++ mids bs M ds
  | _, _, _ => []
theorem dvm_len : ∀ (bs : List Bool) (M : Mem) (ds : List D), (dvm bs M ds).length = ds.length
  | [], M, ds => by simp [dvm]
  | b :: bs, M, [] => by simp [dvm]
  | b :: bs, M, d :: ds => by simp [dvm, dvm_len bs M ds]
theorem dvm_sh {K : PySem.W.Frag} {φ : Ph} {S : Addr → Prop} {M : Mem} {H : Hp} (s : Sto K (T.w φ) S M H) : ∀ (bs : List Bool) {ds : List D} {vs : List V}, ShL K (T.w φ) H S ds vs → ShL K (T.w φ) H (Sv (mids bs M ds) φ S) (dvm bs M ds) vs
  | [], ds, vs, r => by
    have e : dvm [] M ds = ds := by cases ds <;> rfl
    rw [e]
    exact r.mono Kp.refl fun a w => .inl w
  | b :: bs, _, _, .nil => .nil
  | b :: bs, _, _, .cons (d := d) (ds := ds) h r => by
    have ih := dvm_sh s bs r
    unfold dvm mids
    refine .cons ?_ (ih.mono Kp.refl fun a w => w.imp id fun ⟨n, hn, e⟩ => ⟨n, List.mem_append_right _ hn, e⟩)
    cases b with
    | true =>
      rw [if_pos rfl, if_pos rfl]
      exact (deep_sh s 3 h).mono Kp.refl fun a w => w.imp id fun ⟨n, hn, e⟩ => ⟨n, List.mem_append_left _ hn, e⟩
    | false =>
      rw [if_neg Bool.false_ne_true]
      exact h.mono Kp.refl fun a w => .inl w
@[simp] def xFd (n : Nat) (bs : List Bool) (gg : List D → R D) (fs : X2 (List D)) : X2 D := fun ρ M => (fs ρ M).bind fun ds M1 => if ds.length = n then RX.bind (RX.of (gg (dvm bs M1 ds)) M1) fun d M1 => RX.when (okL (mids bs M1 ds) M1 d) (.ok d M1) else .st
theorem xe_fd {gg : List D → R D} (bs : List Bool) (F : ∀ φ, FD X.prog X.w X.K X.mg X.base (T.w φ) x k n false gg) (hr : Room k X.A) (hg : Gl X x) (ha : XA X T Z (e :: es) fs) (hdb : (x == ("__debug__" : Str)) = false := by decide)
    (he : starEach (e :: es) X.env = (false, eval e X.env) :: starEach es X.env := by rfl) (hpl : (backTo pos (starEach es X.env)).any (·.1) = false := by rfl) : XE X T Z (.Call (.Name x p) (e :: es) [] pos) (xFd n bs gg fs) := by
  obtain ⟨f, _, _, _, _, hm, hk, _, _⟩ := F fun _ => none
  refine ⟨⟨fun pins s σ H Q I ⟨φ, S, ρ, M, st, q⟩ => ?_⟩⟩
  have ht : tXA X.K T Z fs σ H fun vs H1 => ∃ φ, spD X.K (T.w φ) n false gg vs H1 Q E0 := tXA_one st (Go.refl st.sto) q fun ds vs H1 φ1 S1 M1 g1 _ st1 r q1 => by
    obtain ⟨hn, q2⟩ := run_ifX q1
    obtain ⟨d, ed, q3⟩ := runX_of (runX_bind q2)
    obtain ⟨c, q4⟩ := runX_when q3
    have q4 : ∀ v H' φ' S', Go X.K T φ φ' S S' H H' M1 → Sh X.K (T.w φ') H' S' d v → Q v H' := q4
    refine ⟨φ1, dvm bs M1 ds, Sv (mids bs M1 ds) φ1 S1, fun a w => ?_, by rw [dvm_len]; exact hn, dvm_sh st1.sto bs r, run_ok ed fun v H' e2 rv => ?_⟩
    · rcases w with w | ⟨m, _, w⟩
      · exact (st1.sto.bnd a w).ne
      · exact (st1.sto.here w).ne
    · have rv : Sh X.K (T.w φ1) H' (Fw (Sv (mids bs M1 ds) φ1 S1) H1 H') d v := rv
      exact q4 v H' φ1 _ (g1.trans (Go.pure st1.sto e2)) (keep_sh st1.sto e2 rv c)
  refine wpAny_Call_Name_kw (ld_glob I hg hm ?_ hdb)
  exact PySem.W.callWith_K (h₀ := X.base) I.ok.mod.kin hk (thn (ha.pa.run pos pins s σ H _ I ht) fun us s1 ⟨vs, H1, I1, r, φ1, q1⟩ => ⟨I1.kIn, fd_run (F φ1) hr hm I1 r q1⟩) he hpl
@[simp] def xFdL (n : Nat) (bs : List Bool) (gg : List D → R D) (fs : X2 (List D)) : X2 D := fun ρ M => (fs ρ M).bind fun ds M1 => if ds.length = n then RX.bind (RX.of (gg (dvm bs M1 ds)) M1) fun d M1 => match d with
  | .lst us => RX.when (okLs (mids bs M1 ds) M1 us) (.ok (.lst us) M1)
  | _ => .st else .st
theorem xe_fdL {gg : List D → R D} (bs : List Bool) (F : ∀ φ, FD X.prog X.w X.K X.mg X.base (T.w φ) x k n true gg) (hr : Room k X.A) (hg : Gl X x) (ha : XA X T Z (e :: es) fs) (hdb : (x == ("__debug__" : Str)) = false := by decide)
    (he : starEach (e :: es) X.env = (false, eval e X.env) :: starEach es X.env := by rfl) (hpl : (backTo pos (starEach es X.env)).any (·.1) = false := by rfl) : XE X T Z (.Call (.Name x p) (e :: es) [] pos) (xFdL n bs gg fs) := by
  obtain ⟨f, _, _, _, _, hm, hk, _, _⟩ := F fun _ => none
  refine ⟨⟨fun pins s σ H Q I ⟨φ, S, ρ, M, st, q⟩ => ?_⟩⟩
  have ht : tXA X.K T Z fs σ H fun vs H1 => ∃ φ, spD X.K (T.w φ) n true gg vs H1 Q E0 := tXA_one st (Go.refl st.sto) q fun ds vs H1 φ1 S1 M1 g1 _ st1 r q1 => by
    obtain ⟨hn, q2⟩ := run_ifX q1
    obtain ⟨d, ed, q3⟩ := runX_of (runX_bind q2)
    refine ⟨φ1, dvm bs M1 ds, Sv (mids bs M1 ds) φ1 S1, fun a w => ?_, by rw [dvm_len]; exact hn, dvm_sh st1.sto bs r, run_ok ed fun v H' e2 rv => ?_⟩
    · rcases w with w | ⟨m, _, w⟩
      · exact (st1.sto.bnd a w).ne
      · exact (st1.sto.here w).ne
    · have rv : RetF X.K (T.w φ1) (Sv (mids bs M1 ds) φ1 S1) H1 H' d v := rv
      cases rv with
      | ob _ _ _ _ => exact q3.elim
      | lst hp hp' rx =>
        obtain ⟨c, q4⟩ := runX_when (show runX (RX.when (okLs (mids bs M1 ds) M1 _) (RX.ok (D.lst _) M1)) _ _ from q3)
        exact (show ∀ v H' φ' S', Go X.K T φ φ' S S' H H' M1 → Sh X.K (T.w φ') H' S' (.lst _) v → Q v H' from q4) _ H' φ1 _ (g1.trans (Go.pure st1.sto e2))
          (.lst hp' ⟨.inr ⟨hp, by rw [hp']; exact fun z => nomatch z⟩, .of hp' fun _ => HO.noConfusion⟩ ((keep_shl st1.sto e2 rx c).mono Kp.refl fun a w => w.1))
  refine wpAny_Call_Name_kw (ld_glob I hg hm ?_ hdb)
  exact PySem.W.callWith_K (h₀ := X.base) I.ok.mod.kin hk (thn (ha.pa.run pos pins s σ H _ I ht) fun us s1 ⟨vs, H1, I1, r, φ1, q1⟩ => ⟨I1.kIn, fd_run (F φ1) hr hm I1 r q1⟩) he hpl
/-- a list that stands, so many times -/
@[simp] def xRep (fe ge : X2 D) : X2 D := fun ρ M => (fe ρ M).bind fun x M1 => (ge ρ M1).bind fun y M2 => RX.bind (RX.of (vRep x y) M2) fun ds M2 => .ok (.lst ds) M2
theorem xe_rep {b : Expr} {ge : X2 D} (ha : XE X T Z a fe) (hb : XE X T Z b ge) : XE X T Z (.BinOp a .Mult b pos) (xRep fe ge) := ⟨PE.imp (pe_op op_rep ha.pe hb.pe) fun σ H Q ⟨φ, S, ρ, M, st, q⟩ => tX_one st (Go.refl st.sto) q fun x v H1 φ1 S1 M1 g1 g01 st1 r1 q1 => tX_one st1 g01 q1 fun y u H2 φ2 S2 M2 g2 g02 st2 r2 q2 => by
  obtain ⟨ds, ed, q3⟩ := runX_of (runX_bind q2)
  have q3 : ∀ v H' φ' S', Go X.K T φ φ' S S' H H' M2 → Sh X.K (T.w φ') H' S' (.lst ds) v → Q v H' := q3
  have r1 := g2.sh st1.sto r1
  cases x with
  | lst us =>
    cases y with
    | int k =>
      have ed : R.when (repOk us.length k) (R.ok (List.replicate k.toNat us).flatten) = .ok ds := ed
      unfold R.when at ed
      split at ed
      · rename_i c
        cases ed
        obtain ⟨c1, c2, c3⟩ := of_shut c
        cases r1 with
        | lst h1 w1 s1 =>
          rename_i a1 vs1
          cases r2
          refine ⟨a1, k, vs1, rfl, rfl, h1, c1, c2, by rw [← s1.length, sizeLine_eq]; exact c3, fun q hq => ?_⟩
          have g3 := go_laid (o := .lst (List.replicate k.toNat vs1).flatten) st2.sto hq
          exact q3 (.ref q) _ φ2 _ (g02.trans g3) (.lst upd_same ⟨.inr ⟨hq, by rw [upd_same]; exact fun z => nomatch z⟩, .of upd_same fun _ => HO.noConfusion⟩ (g3.shl st2.sto (s1.rep _)))
      · cases ed
    | _ => cases ed
  | _ => cases ed⟩
end
end
end PL
/-! PXH: facts of fields; get on a dict that a call gave; a def that calls itself. -/
namespace PL
open PySem L2 PyProof.Rows
noncomputable section
section
variable {K : PySem.W.Frag} {T : Tb} {f : Str} {c c' i : Nat}
theorem fdat_mk (h0 : Cls K (T.ct c)) (h1 : NoAttr K (T.ct c) f) (h2 : (T.fl c)[i]? = some f) (h3 : (T.fl c).Nodup) : FdAt K T f c i := fd_cons h0 h1 h2 h3 fd_nil c i (by simp [List.lookup])
theorem putF_at : ∀ {fs : List Str} {i : Nat} {vs : List V} {v : V}, fs[i]? = some f → fs.Nodup → fs.length = vs.length → putF f v (fs.zip vs) = fs.zip (vs.set i v)
  | [], _, _, _, h, _, _ => by simp at h
  | g :: fs, _, [], _, _, _, hl => by simp at hl
  | g :: fs, 0, u :: vs, v, h, _, _ => by
    simp at h
    subst h
    simp [putF]
  | g :: fs, i + 1, u :: vs, v, h, nd, hl => by
    rw [List.nodup_cons] at nd
    rw [List.getElem?_cons_succ] at h
    have hne : ¬ g = f := fun z => nd.1 (by subst z; exact List.mem_of_getElem? h)
    have ih := putF_at (v := v) h nd.2 (by simpa using hl)
    rw [List.zip_cons_cons, putF, if_neg hne, ih, List.set_cons_succ, List.zip_cons_cons]
theorem putF_new : ∀ {fs : List Str} {vs : List V} {v : V}, f ∉ fs → fs.length = vs.length → putF f v (fs.zip vs) = fs.zip vs ++ [(f, v)]
  | [], [], _, _, _ => rfl
  | [], _ :: _, _, _, hl => by simp at hl
  | _ :: _, [], _, _, hl => by simp at hl
  | g :: fs, u :: vs, v, h, hl => by
    rw [List.mem_cons, not_or] at h
    have hne : ¬ g = f := fun z => h.1 z.symm
    rw [List.zip_cons_cons, putF, if_neg hne, putF_new h.2 (by simpa using hl)]
    rfl
theorem fdset_mk (h0 : Cls K (T.ct c)) (h1 : NoAttr K (T.ct c) f) (h2 : (T.fl c)[i]? = some f) (h3 : (T.fl c).Nodup) (h4 : (T.fl c).length < 1000) : FdSet K T f c i := ⟨h0, h1, h4, fun vs v hl => putF_at h2 h3 hl⟩
theorem fdnew_mk (h0 : Cls K (T.ct c)) (h1 : NoAttr K (T.ct c) f) (h2 : T.ct c' = T.ct c) (h3 : T.fl c' = T.fl c ++ [f]) (h4 : f ∉ T.fl c) (h5 : (T.fl c).length < 1000) : FdNew K T f c c' := ⟨h0, h1, h5, h2, h3, fun vs v hl => putF_new h4 hl⟩
end
section
variable {X : Cx} {C : Cc} {m m' : Bool} {o i e : Expr} {f fi fx : Ev → R D} {p1 p2 : Pos}
/-- d.get(k, x), d a dict that a call gave -/
@[simp] def vGet2 (x y z : D) : R D := match x with
  | .dct ks ds => R.of (keyD y) >>= fun key => .ok ((getK ks ds key).getD z)
  | _ => .st
@[simp] def dGetE (f fi fx : Ev → R D) : Ev → R D := fun ρ => f ρ >>= fun x => R.when (match x with | .dct _ _ => true | _ => false) (fi ρ >>= fun y => fx ρ >>= fun z => vGet2 x y z)
theorem de_getE {kk : Nat} (hr : Room kk X.A) (ho : DE X C true o f) (hi : DE X C true i fi) (hx : DE X C true e fx) (mm : M2 X o "get" p1 i e p2) : DE X C true (.Call (.Attribute o "get" p1) [i, e] [] p2) (dGetE f fi fx) := ⟨PE.imp (pe_dget2 (by have := hr.units; omega) ho.pe hi.pe hx.pe mm) fun σ H Q ⟨ρ, S, st, q⟩ => by
  refine tD_one (k := fun x => R.when (match x with | .dct _ _ => true | _ => false) (fi ρ >>= fun y => fx ρ >>= fun z => vGet2 x y z)) st q fun x v H1 e1 r1 q1 => ?_
  cases x with
  | dct ks ds =>
    obtain ⟨_, q1⟩ := run_when q1
    cases r1 with
    | dct h1 w1 hl r =>
      rename_i a vs
      refine ⟨a, rfl, .inr ⟨_, .inl h1⟩, ?_⟩
      refine tD_one (k := fun y => fx ρ >>= fun z => vGet2 (.dct ks ds) y z) (st.grow e1) (run_mono q1 (fun _ z => z) fun c z => EXc.mono e1 z) fun y u H2 e2 r2 q2 => ?_
      have e12 := e1.trans e2
      refine tD_one (k := fun z => vGet2 (.dct ks ds) y z) ((st.grow e1).grow e2) (run_mono q2 (fun _ z => z) fun c z => EXc.mono e2 z) fun z w H3 e3 r3 q3 => ?_
      obtain ⟨key, ek, q4⟩ := run_of (run_bind (show run (R.of (keyD y) >>= fun key => R.ok ((getK ks ds key).getD z)) (fun d => ∀ v H', Same H H' → Sh X.K C.T H' (Wf true C.H0 S H H') d v → Q v H') (EXc C H2) from q3))
      have e13 := e12.trans e3
      obtain ⟨b, rfl, hb⟩ := key_v r2 ek
      refine ⟨_, DGet.t ((e2.trans e3) _ _ h1) (e3 _ _ hb), ?_⟩
      have g := get_sh (k := key) (ks := ks) (r.mono (Kp.of (e2.trans e3)) fun _ w => w)
      have q5 : ∀ v H', Same H H' → Sh X.K C.T H' (Wf true C.H0 S H H') ((getK ks ds key).getD z) v → Q v H' := q4
      refine q5 _ H3 e13 ?_
      cases ed : getK ks ds key with
      | none =>
        rw [g.2 ed]
        exact r3.mono Kp.refl fun a w => by
          rcases w.sh with ((w | ⟨w1, w2⟩) | ⟨w1, w2⟩) | ⟨w1, w2⟩
          · exact .inl (.inl w)
          · exact .inl (.inr ⟨w1, fun y => w2 ((e2.trans e3).free y)⟩)
          · exact .inl (.inr ⟨e1.free w1, fun y => w2 (e3.free y)⟩)
          · exact .inl (.inr ⟨e12.free w1, w2⟩)
      | some d =>
        obtain ⟨v, ev, rv⟩ := g.1 d ed
        rw [ev]
        exact rv.mono Kp.refl fun _ w => Wf.more (e2.trans e3) w
  | _ => exact absurd (run_when q1).1 Bool.false_ne_true⟩
end
/-- a def of which nothing is asked -/
theorem FD.stuck {P : Program} {w : World} {K : PySem.W.Frag} {mg : Str → Option Value} {base : Heap} {T : Tb} {x qual : Str} {st : Stmt} {f : Addr} {fd : FuncData} {N ps : List Str} {k n : Nat} {fr : Bool} (F : Fun K x qual st f fd) (S : FnScope N ps (defScope st)) (hm : mg x = some (.ref f)) (hk : PySem.W.keepIn K (.ref f) = true) (b : Binds K fd ps []) (hn : ps.length = n) :
    FD P w K mg base T x (k + 1) n fr fun _ => .st := by
  refine FD.of0 (F.ok S (fun vs H Q E h => ?_) fun cdv A outer s H vs Q E hr h => ?_) hm hk b
  · obtain ⟨ds, W, _, hl, r, q⟩ := h
    exact q.elim
  · obtain ⟨ds, W, _, hl, r, q⟩ := h
    exact q.elim
end
end PL
/-! The defs of the text, by what they answer on data (printed by gen.py). -/
namespace T_k12
open PySem L2 PL
noncomputable section
def B_is_whole : Ev → R Fl :=
 (dRet (dAnd (d1 (vIsi "int") (dVar 0)) (dNot (d1 (vIsi "bool") (dVar 0)))))
def D_is_whole : List D → R D := dFn 1 false B_is_whole
def B_is_stretch : Ev → R Fl :=
 (dSeq (dIfS (bOr (bNot (bD (d1 (vIsi "tuple") (dVar 0)))) (bOr (bC cNe (dB iLen (aCons (dVar 0) aNil)) (dC (.int 2))) (bNot (bD (dB iAll (aCons (lD (lLC (l1 vIt (dVar 0)) [2] (gNm 2) bYes (dCall 1 D_is_whole (aCons (dVar 2) aNil)))) aNil))))))
 (dRet (dC (.bl false)))
 dPass)
 (dRet (dAnd (bV (bCh cLe cLt (dC (.int 0)) (d2 vIdx (dVar 0) (dC (.int 0))) (dVar 1))) (bV (bCh cLe cLe (dC (.int 1)) (d2 vIdx (dVar 0) (dC (.int 1))) (dC (.int 9)))))))
def D_is_stretch : List D → R D := dFn 3 false B_is_stretch
def B_asked_shop : Ev → R Fl :=
 (dSeq (dIfS (bOr (bNot (bD (d1 (vIsi "list") (dVar 0)))) (bC cGe (dB iLen (aCons (dVar 0) aNil)) (dC (.int 100))))
 dNever
 dPass)
 (dIfS (bNot (bD (dB iAll (aCons (lD (lLC (lB vEn (aCons (dVar 0) aNil)) [1, 2] (gTwo 1 2) bYes (dCall 2 D_is_stretch (aCons (dVar 2) (aCons (d2 vAdd (dVar 1) (dC (.int 1))) aNil))))) aNil))))
 dNever
 dPass))
def D_asked_shop : List D → R D := dFn 3 false B_asked_shop
def B_is_place : Ev → R Fl :=
 (dRet (dAnd (dCall 1 D_is_whole (aCons (dVar 1) aNil)) (bV (bCh cLe cLe (dC (.int 0)) (dVar 1) (dB iLen (aCons (dVar 0) aNil))))))
def D_is_place : List D → R D := dFn 2 false B_is_place
def B_asked_till : Ev → R Fl :=
 (dIfS (bNot (bD (dCall 2 D_is_place (aCons (dVar 0) (aCons (dVar 1) aNil)))))
 dNever
 dPass)
def D_asked_till : List D → R D := dFn 2 false B_asked_till
def B_asked_places : Ev → R Fl :=
 (dSeq (dIfS (bOr (bNot (bD (d1 (vIsi "list") (dVar 1)))) (bNot (bD (dB iAll (aCons (lD (lLC (l1 vIt (dVar 1)) [3] (gNm 3) bYes (dCall 2 D_is_place (aCons (dVar 0) (aCons (dVar 3) aNil))))) aNil)))))
 dNever
 dPass)
 (dIfS (bNot (bD (dB iAll (aCons (lD (lLC (lB vRg2 (aCons (dC (.int 1)) (aCons (dB iLen (aCons (dVar 1) aNil)) aNil))) [2] (gNm 2) bYes (bV (bC cLt (d2 vIdx (dVar 1) (d2 vSub (dVar 2) (dC (.int 1)))) (d2 vIdx (dVar 1) (dVar 2)))))) aNil))))
 dNever
 dPass))
def D_asked_places : List D → R D := dFn 4 false B_asked_places
def B_beyond : Ev → R Fl :=
 (dSeq (dSet 2 (sOw (l2 vRep (lD (lLst (aCons (dC (.bl false)) aNil))) (d2 vAdd (dB iLen (aCons (dVar 0) aNil)) (dC (.int 1))))))
 (dSeq (dFor (l1 vIt (dVar 1)) (gNm 3)
 (dSetI 2 (dVar 3) (dC (.bl true))))
 (dSeq (dFor (lB vRg3 (aCons (dB iLen (aCons (dVar 0) aNil)) (aCons (dC (.int 0)) (aCons (d1 vNeg (dC (.int 1))) aNil)))) (gNm 3)
 (dIfS (bD (d2 vIdx (dPk 2) (dVar 3)))
 (dSetI 2 (d2 vIdx (d2 vIdx (dVar 0) (d2 vSub (dVar 3) (dC (.int 1)))) (dC (.int 0))) (dC (.bl true)))
 dPass))
 (dRetO 2))))
abbrev L_beyond_0 : Ev → R Fl :=
 (dSetI 2 (dVar 3) (dC (.bl true)))
abbrev L_beyond_1 : Ev → R Fl :=
 (dIfS (bD (d2 vIdx (dPk 2) (dVar 3)))
 (dSetI 2 (d2 vIdx (d2 vIdx (dVar 0) (d2 vSub (dVar 3) (dC (.int 1)))) (dC (.int 0))) (dC (.bl true)))
 dPass)
def D_beyond : List D → R D := dFn 4 true B_beyond
def B_must_of : Ev → R Fl :=
 (dSeq (dPar 3 4 (sSh (lD (lCall 2 D_beyond (aCons (dVar 0) (aCons (dVar 2) aNil))))) (sSh (lD (lCall 2 D_beyond (aCons (dVar 0) (aCons (lD (lLst (aCons (dVar 1) aNil))) aNil))))))
 (dRetF (lLC (lB vRg1 (aCons (dB iLen (aCons (dVar 0) aNil)) aNil)) [5] (gNm 5) bYes (dIf (bD (d2 vIdx (dVar 4) (d2 vAdd (dVar 5) (dC (.int 1))))) (dC (.int 1)) (dIf (bD (d2 vIdx (dVar 3) (d2 vAdd (dVar 5) (dC (.int 1))))) (dC (.int 2)) (dC (.int 0)))))))
def D_must_of : List D → R D := dFn 6 true B_must_of
def B_must : Ev → R Fl :=
 (dSeq (dDrop (dCall 1 D_asked_shop (aCons (dVar 0) aNil)))
 (dSeq (dDrop (dCall 2 D_asked_till (aCons (dVar 0) (aCons (dVar 1) aNil))))
 (dSeq (dDrop (dCall 2 D_asked_places (aCons (dVar 0) (aCons (dVar 2) aNil))))
 (dRetF (lCall 3 D_must_of (aCons (dVar 0) (aCons (dVar 1) (aCons (dVar 2) aNil))))))))
def D_must : List D → R D := dFn 3 true B_must
def B_least_of : Ev → R Fl :=
 (dRet (dB iSum (aCons (lD (lLC (lB vEn (aCons (lD (lCall 3 D_must_of (aCons (dVar 0) (aCons (dVar 1) (aCons (dVar 2) aNil))))) aNil)) [3, 4] (gTwo 3 4) bYes (d2 vMul (dVar 4) (d2 vIdx (d2 vIdx (dVar 0) (dVar 3)) (dC (.int 1)))))) aNil)))
def D_least_of : List D → R D := dFn 5 false B_least_of
def B_least : Ev → R Fl :=
 (dSeq (dDrop (dCall 1 D_asked_shop (aCons (dVar 0) aNil)))
 (dSeq (dDrop (dCall 2 D_asked_till (aCons (dVar 0) (aCons (dVar 1) aNil))))
 (dSeq (dDrop (dCall 2 D_asked_places (aCons (dVar 0) (aCons (dVar 2) aNil))))
 (dRet (dCall 3 D_least_of (aCons (dVar 0) (aCons (dVar 1) (aCons (dVar 2) aNil))))))))
def D_least : List D → R D := dFn 3 false B_least
def B_gone_of : Ev → R Fl :=
 (dSeq (dSet 2 (sOw (l2 vRep (lD (lLst (aCons (dC (.int 0)) aNil))) (dB iLen (aCons (dVar 0) aNil)))))
 (dSeq (dFor (lB vRg2 (aCons (dC (.int 1)) (aCons (dB iLen (aCons (dVar 1) aNil)) aNil))) (gNm 3)
 (dSeq (dSet 4 (sSh (dB iMax2 (aCons (d2 vIdx (dVar 1) (d2 vSub (dVar 3) (dC (.int 1)))) (aCons (d2 vIdx (dVar 1) (dVar 3)) aNil)))))
 (dSetI 2 (d2 vSub (dVar 4) (dC (.int 1))) (d2 vAdd (dIxO 2 (d2 vSub (dVar 4) (dC (.int 1)))) (dC (.int 1))))))
 (dRetO 2)))
abbrev L_gone_of_0 : Ev → R Fl :=
 (dSeq (dSet 4 (sSh (dB iMax2 (aCons (d2 vIdx (dVar 1) (d2 vSub (dVar 3) (dC (.int 1)))) (aCons (d2 vIdx (dVar 1) (dVar 3)) aNil)))))
 (dSetI 2 (d2 vSub (dVar 4) (dC (.int 1))) (d2 vAdd (dIxO 2 (d2 vSub (dVar 4) (dC (.int 1)))) (dC (.int 1)))))
def D_gone_of : List D → R D := dFn 5 true B_gone_of
def B_is_name : Ev → R Fl :=
 (dRet (dAnd (d1 (vIsi "str") (dVar 0)) (dAnd (bV (bCh cLe cLe (dC (.int 1)) (dB iLen (aCons (dVar 0) aNil)) (dC (.int 4)))) (dB iAll (aCons (lD (lLC (l1 vItS (dVar 0)) [1] (gNm 1) bYes (bV (bC cIn (dVar 1) (dC (.str "abcdefghijklmnopqrstuvwxyz")))))) aNil)))))
def D_is_name : List D → R D := dFn 2 false B_is_name
def B_is_thing : Ev → R Fl :=
 (dRet (dAnd (dCall 1 D_is_name (aCons (dVar 0) aNil)) (dAnd (dCall 1 D_is_whole (aCons (dVar 1) aNil)) (bV (bCh cLe cLt (dC (.int 0)) (dVar 1) (dC (.int 100)))))))
def D_is_thing : List D → R D := dFn 2 false B_is_thing
def B_is_many : Ev → R Fl :=
 (dRet (dAnd (dCall 1 D_is_whole (aCons (dVar 0) aNil)) (bV (bCh cLe cLe (dC (.int 1)) (dVar 0) (dC (.int 9))))))
def D_is_many : List D → R D := dFn 1 false B_is_many
def B_is_word : Ev → R Fl :=
 (dSeq (dIfS (bOr (bNot (bD (d1 (vIsi "tuple") (dVar 0)))) (bOr (bC cNotIn (dB iLen (aCons (dVar 0) aNil)) (lTup (aCons (dC (.int 3)) (aCons (dC (.int 6)) aNil)))) (bNot (bD (d1 (vIsi "str") (d2 vIdx (dVar 0) (dC (.int 0))))))))
 (dRet (dC (.bl false)))
 dPass)
 (dSeq (dIfS (bOr (bNot (bD (dB iAll (aCons (lD (lLC (l1 vIt (dSl (dVar 0) (oSo (dC (.int 1))) (oSo (dC (.int 3))))) [1] (gNm 1) bYes (dCall 1 D_is_whole (aCons (dVar 1) aNil)))) aNil)))) (bOr (bNot (bCh cLe cLt (dC (.int 0)) (d2 vIdx (dVar 0) (dC (.int 1))) (dC (.int 4)))) (bNot (bCh cLe cLe (dC (.int 0)) (d2 vIdx (dVar 0) (dC (.int 2))) (dC (.int 60))))))
 (dRet (dC (.bl false)))
 dPass)
 (dSeq (dIfS (bC cEq (dB iLen (aCons (dVar 0) aNil)) (dC (.int 3)))
 (dRet (bV (bC cEq (d2 vIdx (dVar 0) (dC (.int 0))) (dC (.str "strike")))))
 dPass)
 (dRet (dAnd (bV (bC cIn (d2 vIdx (dVar 0) (dC (.int 0))) (lTup (aCons (dC (.str "want")) (aCons (dC (.str "got")) aNil))))) (dAnd (dCall 2 D_is_thing (aCons (d2 vIdx (dVar 0) (dC (.int 3))) (aCons (d2 vIdx (dVar 0) (dC (.int 4))) aNil))) (dCall 1 D_is_many (aCons (d2 vIdx (dVar 0) (dC (.int 5))) aNil))))))))
def D_is_word : List D → R D := dFn 2 false B_is_word
def B_asked_words : Ev → R Fl :=
 (dIfS (bOr (bNot (bD (d1 (vIsi "list") (dVar 0)))) (bOr (bC cGt (dB iLen (aCons (dVar 0) aNil)) (dC (.int 40))) (bNot (bD (dB iAll (aCons (lD (lLC (l1 vIt (dVar 0)) [1] (gNm 1) bYes (dCall 1 D_is_word (aCons (dVar 1) aNil)))) aNil))))))
 dNever
 dPass)
def D_asked_words : List D → R D := dFn 2 false B_asked_words
def B_joined_of : Ev → R Fl :=
 (dSeq (dSet 2 sOd0)
 (dSeq (dFor (l1 vIt (d2 vAdd (dVar 0) (dVar 1))) (gNm 3)
 (dSeq (dIfS (bC cNe (dGet2 2 (dSl (dVar 3) oNo (oSo (dC (.int 3)))) (dVar 3)) (dVar 3))
 dNever
 dPass)
 (dPutD 2 (dSl (dVar 3) oNo (oSo (dC (.int 3)))) (dVar 3))))
 (dSeq (dIfS (bC cGt (dB iLenD (aCons (dPk 2) aNil)) (dC (.int 40)))
 dNever
 dPass)
 (dRetF (lLC (l1 vIt (lD (l1 vSorted (lD (l1 vKeys (dPk 2)))))) [4] (gNm 4) bYes (dGetD 2 (dVar 4)))))))
abbrev L_joined_of_0 : Ev → R Fl :=
 (dSeq (dIfS (bC cNe (dGet2 2 (dSl (dVar 3) oNo (oSo (dC (.int 3)))) (dVar 3)) (dVar 3))
 dNever
 dPass)
 (dPutD 2 (dSl (dVar 3) oNo (oSo (dC (.int 3)))) (dVar 3)))
def D_joined_of : List D → R D := dFn 5 true B_joined_of
def B_joined : Ev → R Fl :=
 (dSeq (dDrop (dCall 1 D_asked_words (aCons (dVar 0) aNil)))
 (dSeq (dDrop (dCall 1 D_asked_words (aCons (dVar 1) aNil)))
 (dRetF (lCall 2 D_joined_of (aCons (dVar 0) (aCons (dVar 1) aNil))))))
def D_joined : List D → R D := dFn 2 true B_joined
def B_counts_of : Ev → R Fl :=
 (dSeq (dSet 1 sOd0)
 (dSeq (dFor (l1 vIt (lD (lCall 2 D_joined_of (aCons (dVar 0) (aCons (lD (lLst aNil)) aNil))))) (gNm 2)
 (dSeq (dIfS (bC cEq (d2 vIdx (dVar 2) (dC (.int 0))) (dC (.str "got")))
 (dPutD 1 (dSl (dVar 2) (oSo (dC (.int 3))) (oSo (dC (.int 5)))) (d2 vSub (dGet2 1 (dSl (dVar 2) (oSo (dC (.int 3))) (oSo (dC (.int 5)))) (dC (.int 0))) (d2 vIdx (dVar 2) (dC (.int 5)))))
 dPass)
 (dIfS (bAnd (bC cEq (d2 vIdx (dVar 2) (dC (.int 0))) (dC (.str "want"))) (bC cNotIn (lTup (aCons (dC (.str "strike")) (aCons (d2 vIdx (dVar 2) (dC (.int 1))) (aCons (d2 vIdx (dVar 2) (dC (.int 2))) aNil)))) (dVar 0)))
 (dPutD 1 (dSl (dVar 2) (oSo (dC (.int 3))) (oSo (dC (.int 5)))) (d2 vAdd (dGet2 1 (dSl (dVar 2) (oSo (dC (.int 3))) (oSo (dC (.int 5)))) (dC (.int 0))) (d2 vIdx (dVar 2) (dC (.int 5)))))
 dPass)))
 (dRet (dPk 1))))
abbrev L_counts_of_0 : Ev → R Fl :=
 (dSeq (dIfS (bC cEq (d2 vIdx (dVar 2) (dC (.int 0))) (dC (.str "got")))
 (dPutD 1 (dSl (dVar 2) (oSo (dC (.int 3))) (oSo (dC (.int 5)))) (d2 vSub (dGet2 1 (dSl (dVar 2) (oSo (dC (.int 3))) (oSo (dC (.int 5)))) (dC (.int 0))) (d2 vIdx (dVar 2) (dC (.int 5)))))
 dPass)
 (dIfS (bAnd (bC cEq (d2 vIdx (dVar 2) (dC (.int 0))) (dC (.str "want"))) (bC cNotIn (lTup (aCons (dC (.str "strike")) (aCons (d2 vIdx (dVar 2) (dC (.int 1))) (aCons (d2 vIdx (dVar 2) (dC (.int 2))) aNil)))) (dVar 0)))
 (dPutD 1 (dSl (dVar 2) (oSo (dC (.int 3))) (oSo (dC (.int 5)))) (d2 vAdd (dGet2 1 (dSl (dVar 2) (oSo (dC (.int 3))) (oSo (dC (.int 5)))) (dC (.int 0))) (d2 vIdx (dVar 2) (dC (.int 5)))))
 dPass))
def D_counts_of : List D → R D := dFn 3 false B_counts_of
def B_left : Ev → R Fl :=
 (dSeq (dDrop (dCall 1 D_asked_words (aCons (dVar 0) aNil)))
 (dSeq (dSet 1 (sSh (dCall 1 D_counts_of (aCons (dVar 0) aNil))))
 (dRetF (lLC (l1 vIt (lD (l1 vSorted (lD (l1 vKeys (dVar 1)))))) [2] (gNm 2) (bC cGt (d2 vGetK (dVar 1) (dVar 2)) (dC (.int 0))) (d2 vAdd (dVar 2) (lTup (aCons (d2 vGetK (dVar 1) (dVar 2)) aNil)))))))
def D_left : List D → R D := dFn 3 true B_left
def B_over : Ev → R Fl :=
 (dSeq (dDrop (dCall 1 D_asked_words (aCons (dVar 0) aNil)))
 (dSeq (dSet 1 (sSh (dCall 1 D_counts_of (aCons (dVar 0) aNil))))
 (dRetF (lLC (l1 vIt (lD (l1 vSorted (lD (l1 vKeys (dVar 1)))))) [2] (gNm 2) (bC cLt (d2 vGetK (dVar 1) (dVar 2)) (dC (.int 0))) (d2 vAdd (dVar 2) (lTup (aCons (d1 vNeg (d2 vGetK (dVar 1) (dVar 2))) aNil)))))))
def D_over : List D → R D := dFn 3 true B_over
def B_places_left : Ev → R Fl :=
 (dRetF (l1 vSortSet (lD (lLC (l1 vIt (lD (lCall 1 D_left (aCons (dVar 0) aNil)))) [1] (gNm 1) bYes (d2 vIdx (dVar 1) (dC (.int 1)))))))
def D_places_left : List D → R D := dFn 2 true B_places_left
def B_asked_all : Ev → R Fl :=
 (dSeq (dDrop (dCall 1 D_asked_shop (aCons (dVar 0) aNil)))
 (dSeq (dDrop (dCall 2 D_asked_till (aCons (dVar 0) (aCons (dVar 1) aNil))))
 (dDrop (dCall 2 D_asked_places (aCons (dVar 0) (aCons (dVar 2) aNil))))))
def D_asked_all : List D → R D := dFn 3 false B_asked_all
def B_way : Ev → R Fl :=
 (dSeq (dDrop (dCall 3 D_asked_all (aCons (dVar 0) (aCons (dVar 1) (aCons (dVar 2) aNil)))))
 (dSeq (dSet 3 (sSh (lD (lCall 3 D_must_of (aCons (dVar 0) (aCons (dVar 1) (aCons (dVar 2) aNil)))))))
 (dSeq (dSetLL 4 (lB vRg1 (aCons (d2 vAdd (dB iLen (aCons (dVar 0) aNil)) (dC (.int 1))) aNil)))
 (dSeq (dFor (l1 vIt (lTup (aCons (dC (.int 1)) (aCons (dC (.int 2)) aNil)))) (gNm 5)
 (dFor (lB vRg3 (aCons (dB iLen (aCons (dVar 0) aNil)) (aCons (dC (.int 0)) (aCons (d1 vNeg (dC (.int 1))) aNil)))) (gNm 6)
 (dIfS (bC cEq (d2 vIdx (dVar 3) (d2 vSub (dVar 6) (dC (.int 1)))) (dVar 5))
 (dAppI 4 (d2 vIdx (d2 vIdx (dVar 0) (d2 vSub (dVar 6) (dC (.int 1)))) (dC (.int 0))) (dVar 6))
 dPass)))
 (dSeq (dPar 7 8 (sSh (dC (.int 0))) (sOw (lLst (aCons (dC (.int 0)) aNil))))
 (wh (bD (dC (.bl true)))
 (dSeq (dIfS (bC cNe (d2 vIdx (dPk 4) (dVar 7)) (lLP aNil))
 (dPopI 7 4 (dVar 7))
 (dIfS (bAnd (bC cGt (dVar 7) (dC (.int 0))) (bC cEq (d2 vIdx (dVar 3) (d2 vSub (dVar 7) (dC (.int 1)))) (dC (.int 2))))
 (dSet 7 (sSh (d2 vIdx (d2 vIdx (dVar 0) (d2 vSub (dVar 7) (dC (.int 1)))) (dC (.int 0)))))
 (dRetO 8)))
 (dApp 8 (dVar 7))) fuel))))))
abbrev L_way_0 : Ev → R Fl :=
 (dFor (lB vRg3 (aCons (dB iLen (aCons (dVar 0) aNil)) (aCons (dC (.int 0)) (aCons (d1 vNeg (dC (.int 1))) aNil)))) (gNm 6)
 (dIfS (bC cEq (d2 vIdx (dVar 3) (d2 vSub (dVar 6) (dC (.int 1)))) (dVar 5))
 (dAppI 4 (d2 vIdx (d2 vIdx (dVar 0) (d2 vSub (dVar 6) (dC (.int 1)))) (dC (.int 0))) (dVar 6))
 dPass))
abbrev L_way_1 : Ev → R Fl :=
 (dIfS (bC cEq (d2 vIdx (dVar 3) (d2 vSub (dVar 6) (dC (.int 1)))) (dVar 5))
 (dAppI 4 (d2 vIdx (d2 vIdx (dVar 0) (d2 vSub (dVar 6) (dC (.int 1)))) (dC (.int 0))) (dVar 6))
 dPass)
abbrev L_way_2 : Ev → R Fl :=
 (dSeq (dIfS (bC cNe (d2 vIdx (dPk 4) (dVar 7)) (lLP aNil))
 (dPopI 7 4 (dVar 7))
 (dIfS (bAnd (bC cGt (dVar 7) (dC (.int 0))) (bC cEq (d2 vIdx (dVar 3) (d2 vSub (dVar 7) (dC (.int 1)))) (dC (.int 2))))
 (dSet 7 (sSh (d2 vIdx (d2 vIdx (dVar 0) (d2 vSub (dVar 7) (dC (.int 1)))) (dC (.int 0)))))
 (dRetO 8)))
 (dApp 8 (dVar 7)))
abbrev C_way_2 : Ev → R Bool := (bD (dC (.bl true)))
def D_way : List D → R D := dFn 10 true B_way
def B_is_walk : Ev → R Fl :=
 (dSeq (dIfS (bOr (bNot (bD (d1 (vIsi "list") (dVar 2)))) (bNot (bCh cLe cLe (dC (.int 1)) (dB iLen (aCons (dVar 2) aNil)) (dC (.int 400)))))
 (dRet (dC (.bl false)))
 dPass)
 (dSeq (dIfS (bNot (bD (dB iAll (aCons (lD (lLC (l1 vIt (dVar 2)) [6] (gNm 6) bYes (dCall 2 D_is_place (aCons (dVar 0) (aCons (dVar 6) aNil))))) aNil))))
 (dRet (dC (.bl false)))
 dPass)
 (dSeq (dIfS (bOr (bC cNe (d2 vIdx (dVar 2) (dC (.int 0))) (dC (.int 0))) (bC cNe (d2 vIdx (dVar 2) (d1 vNeg (dC (.int 1)))) (dVar 1)))
 (dRet (dC (.bl false)))
 dPass)
 (dSeq (dFor (lB vRg2 (aCons (dC (.int 1)) (aCons (dB iLen (aCons (dVar 2) aNil)) aNil))) (gNm 3)
 (dSeq (dUnp (lD (l1 vSorted (lD (lLst (aCons (d2 vIdx (dVar 2) (d2 vSub (dVar 3) (dC (.int 1)))) (aCons (d2 vIdx (dVar 2) (dVar 3)) aNil)))))) (gTwoL 4 5))
 (dIfS (bOr (bC cEq (dVar 4) (dVar 5)) (bC cNe (d2 vIdx (d2 vIdx (dVar 0) (d2 vSub (dVar 5) (dC (.int 1)))) (dC (.int 0))) (dVar 4)))
 (dRet (dC (.bl false)))
 dPass)))
 (dRet (dC (.bl true)))))))
abbrev L_is_walk_0 : Ev → R Fl :=
 (dSeq (dUnp (lD (l1 vSorted (lD (lLst (aCons (d2 vIdx (dVar 2) (d2 vSub (dVar 3) (dC (.int 1)))) (aCons (d2 vIdx (dVar 2) (dVar 3)) aNil)))))) (gTwoL 4 5))
 (dIfS (bOr (bC cEq (dVar 4) (dVar 5)) (bC cNe (d2 vIdx (d2 vIdx (dVar 0) (d2 vSub (dVar 5) (dC (.int 1)))) (dC (.int 0))) (dVar 4)))
 (dRet (dC (.bl false)))
 dPass))
def D_is_walk : List D → R D := dFn 7 false B_is_walk
def B_judged : Ev → R Fl :=
 (dSeq (dDrop (dCall 3 D_asked_all (aCons (dVar 0) (aCons (dVar 1) (aCons (dVar 2) aNil)))))
 (dSeq (dIfS (bNot (bD (dCall 3 D_is_walk (aCons (dVar 0) (aCons (dVar 1) (aCons (dVar 3) aNil))))))
 dNever
 dPass)
 (dSeq (dSet 4 (sSh (lD (lLC (l1 vIt (dVar 2)) [8] (gNm 8) (bC cNotIn (dVar 8) (dVar 3)) (dVar 8)))))
 (dSeq (dIfS (bC cNe (dVar 4) (lLP aNil))
 (dRetOb (oMake 2 1 (aCons (d2 vIdx (dVar 4) (dC (.int 0))) aNil)))
 dPass)
 (dSeq (dPar 6 7 (sSh (lD (lCall 2 D_gone_of (aCons (dVar 0) (aCons (dVar 3) aNil))))) (sSh (lD (lCall 3 D_must_of (aCons (dVar 0) (aCons (dVar 1) (aCons (dVar 2) aNil)))))))
 (dSeq (dSet 5 (sSh (lD (lLC (lB vRg1 (aCons (dB iLen (aCons (dVar 0) aNil)) aNil)) [9] (gNm 9) (bC cGt (d2 vIdx (dVar 6) (dVar 9)) (d2 vIdx (dVar 7) (dVar 9))) (d2 vAdd (dVar 9) (dC (.int 1)))))))
 (dRetOb (oIf (bC cNe (dVar 5) (lLP aNil)) (oMake 3 1 (aCons (d2 vIdx (dVar 5) (dC (.int 0))) aNil)) (oMake 1 0 aNil)))))))))
def D_judged : List D → R D := dFn 10 true B_judged
def B_split : Ev → R Fl :=
 (dSeq (dDrop (dCall 3 D_asked_all (aCons (dVar 0) (aCons (dVar 1) (aCons (dVar 2) aNil)))))
 (dSeq (dIfS (bC cGt (dB iLen (aCons (dVar 2) aNil)) (dC (.int 8)))
 dNever
 dPass)
 (dSeq (dSet 3 (sSh (dC .non)))
 (dSeq (dFor (lB vRg1 (aCons (d2 vShl (dC (.int 1)) (dB iLen (aCons (dVar 2) aNil))) aNil)) (gNm 4)
 (dSeq (dSet 5 (sNw (lLC (lB vRg1 (aCons (dB iLen (aCons (dVar 2) aNil)) aNil)) [7] (gNm 7) bYes (d2 vAnd (d2 vShr (dVar 4) (d2 vSub (d2 vSub (dB iLen (aCons (dVar 2) aNil)) (dC (.int 1))) (dVar 7))) (dC (.int 1))))))
 (dSeq (dSet 6 (sSh (lD (lLC (l1 vIt (lTup (aCons (dC (.int 0)) (aCons (dC (.int 1)) aNil)))) [8] (gNm 8) bYes (dCall 3 D_least_of (aCons (dVar 0) (aCons (dVar 1) (aCons (lD (lLC (lB vZip (aCons (dVar 2) (aCons (dVar 5) aNil))) [9, 10] (gTwo 9 10) (bC cEq (dVar 10) (dVar 8)) (dVar 9))) aNil))))))))
 (dIfS (bOr (bC cIsN (dVar 3) (dC .non)) (bC cLt (dB iMax (aCons (dVar 6) aNil)) (d2 vIdx (dVar 3) (dC (.int 0)))))
 (dSet 3 (sNwT (dB iMax (aCons (dVar 6) aNil)) 5))
 dPass))))
 (dRetN 3 1)))))
abbrev L_split_0 : Ev → R Fl :=
 (dSeq (dSet 5 (sNw (lLC (lB vRg1 (aCons (dB iLen (aCons (dVar 2) aNil)) aNil)) [7] (gNm 7) bYes (d2 vAnd (d2 vShr (dVar 4) (d2 vSub (d2 vSub (dB iLen (aCons (dVar 2) aNil)) (dC (.int 1))) (dVar 7))) (dC (.int 1))))))
 (dSeq (dSet 6 (sSh (lD (lLC (l1 vIt (lTup (aCons (dC (.int 0)) (aCons (dC (.int 1)) aNil)))) [8] (gNm 8) bYes (dCall 3 D_least_of (aCons (dVar 0) (aCons (dVar 1) (aCons (lD (lLC (lB vZip (aCons (dVar 2) (aCons (dVar 5) aNil))) [9, 10] (gTwo 9 10) (bC cEq (dVar 10) (dVar 8)) (dVar 9))) aNil))))))))
 (dIfS (bOr (bC cIsN (dVar 3) (dC .non)) (bC cLt (dB iMax (aCons (dVar 6) aNil)) (d2 vIdx (dVar 3) (dC (.int 0)))))
 (dSet 3 (sNwT (dB iMax (aCons (dVar 6) aNil)) 5))
 dPass)))
def D_split : List D → R D := dFn 11 true B_split
def B__law_number : Ev → R Fl :=
 (dSeq (dIfS (bC cGe (dVar 0) (d2 vPow (dC (.int 10)) (dC (.int 18))))
 (dRet (d2 vDiv (dVar 0) (d2 vAdd (dC (.int 1)) (d2 vMod (dVar 1) (dC (.int 7))))))
 dPass)
 (dSeq (dSet 3 (sSh (d2 vMod (d2 vAdd (d2 vMul (d2 vAdd (dVar 0) (d2 vMul (dC (.int 977)) (dVar 1))) (dC (.int 48271))) (dVar 2)) (dC (.int 2147483647)))))
 (dSeq (dSet 4 (sSh (d2 vMul (dVar 3) (d2 vAdd (d2 vAdd (dVar 0) (d2 vMul (dC (.int 31)) (dVar 1))) (dC (.int 7))))))
 (dRet (d2 vDiv (d2 vMul (d2 vMul (dVar 4) (d2 vAdd (d2 vAdd (dVar 3) (dVar 0)) (dC (.int 5)))) (d2 vAdd (d2 vMul (dVar 3) (dVar 3)) (dC (.int 11)))) (d2 vAdd (dC (.int 1009)) (dVar 1)))))))
def D__law_number : List D → R D := dFn 5 false B__law_number
def B__law_shop : Ev → R Fl :=
 (dSeq (dSet 3 (sSh (dIf (bC cNe (dVar 0) (lLP aNil)) (dSl (dVar 0) oNo (oSo (dC (.int 63)))) (lD (lLst (aCons (dC (.int 5)) aNil))))))
 (dSeq (dPar 6 7 (sSh (d2 vAdd (dB iAbs (aCons (dB iSum (aCons (dVar 3) aNil)) aNil)) (d2 vMul (dC (.int 7)) (dVar 1)))) (sOw (lLst aNil)))
 (dSeq (dSet 4 (sSh (d2 vMod (dVar 6) (dC (.int 4)))))
 (dSeq (dFor (lB vRg1 (aCons (d2 vMod (d2 vDiv (dVar 6) (dC (.int 4))) (d2 vAdd (dVar 2) (dC (.int 1)))) aNil)) (gNm 5)
 (dSeq (dSet 8 (sSh (d2 vAdd (d2 vIdx (dVar 3) (d2 vMod (d2 vAdd (dVar 5) (dVar 1)) (dB iLen (aCons (dVar 3) aNil)))) (d2 vDiv (dVar 5) (dB iLen (aCons (dVar 3) aNil))))))
 (dSeq (dSet 9 (sSh (d2 vDiv (dB iAbs (aCons (dCall 3 D__law_number (aCons (dVar 8) (aCons (d2 vAdd (dVar 5) (dVar 1)) (aCons (dVar 6) aNil)))) aNil)) (dC (.int 3)))))
 (dSeq (dSet 10 (sSh (d2 vIdx (lTup (aCons (dVar 5) (aCons (dC (.int 0)) (aCons (d2 vMod (d2 vDiv (dVar 9) (dC (.int 9))) (d2 vAdd (dVar 5) (dC (.int 1)))) (aCons (dB iMax2 (aCons (dC (.int 0)) (aCons (d2 vSub (dVar 5) (d2 vMod (d2 vDiv (dVar 9) (dC (.int 9))) (dC (.int 3)))) aNil))) aNil))))) (dVar 4))))
 (dApp 7 (lTup (aCons (dVar 10) (aCons (d2 vAdd (dC (.int 1)) (d2 vMod (dVar 9) (dC (.int 9)))) aNil))))))))
 (dRetO 7)))))
abbrev L__law_shop_0 : Ev → R Fl :=
 (dSeq (dSet 8 (sSh (d2 vAdd (d2 vIdx (dVar 3) (d2 vMod (d2 vAdd (dVar 5) (dVar 1)) (dB iLen (aCons (dVar 3) aNil)))) (d2 vDiv (dVar 5) (dB iLen (aCons (dVar 3) aNil))))))
 (dSeq (dSet 9 (sSh (d2 vDiv (dB iAbs (aCons (dCall 3 D__law_number (aCons (dVar 8) (aCons (d2 vAdd (dVar 5) (dVar 1)) (aCons (dVar 6) aNil)))) aNil)) (dC (.int 3)))))
 (dSeq (dSet 10 (sSh (d2 vIdx (lTup (aCons (dVar 5) (aCons (dC (.int 0)) (aCons (d2 vMod (d2 vDiv (dVar 9) (dC (.int 9))) (d2 vAdd (dVar 5) (dC (.int 1)))) (aCons (dB iMax2 (aCons (dC (.int 0)) (aCons (d2 vSub (dVar 5) (d2 vMod (d2 vDiv (dVar 9) (dC (.int 9))) (dC (.int 3)))) aNil))) aNil))))) (dVar 4))))
 (dApp 7 (lTup (aCons (dVar 10) (aCons (d2 vAdd (dC (.int 1)) (d2 vMod (dVar 9) (dC (.int 9)))) aNil)))))))
def D__law_shop : List D → R D := dFn 11 true B__law_shop
def B__law_some : Ev → R Fl :=
 (dSeq (dSet 3 (sSh (dIf (bC cNe (dVar 0) (lLP aNil)) (dSl (dVar 0) oNo (oSo (dC (.int 63)))) (lD (lLst (aCons (dC (.int 5)) aNil))))))
 (dSeq (dSet 4 (sSh (d2 vAdd (dB iAbs (aCons (dB iSum (aCons (dVar 3) aNil)) aNil)) (d2 vMul (dC (.int 11)) (dVar 1)))))
 (dSeq (dPar 6 7 (sSh (d2 vIdx (lTup (aCons (dC (.int 1)) (aCons (dC (.int 3)) (aCons (dC (.int 9)) (aCons (d2 vPow (dC (.int 10)) (dC (.int 6))) aNil))))) (d2 vMod (d2 vDiv (dVar 4) (dC (.int 7))) (dC (.int 4))))) (sOw (lLst aNil)))
 (dSeq (dFor (lB vRg1 (aCons (d2 vAdd (dB iLen (aCons (dVar 2) aNil)) (dC (.int 1))) aNil)) (gNm 5)
 (dSeq (dSet 8 (sSh (d2 vDiv (dB iAbs (aCons (dCall 3 D__law_number (aCons (d2 vAdd (d2 vIdx (dVar 3) (d2 vMod (d2 vAdd (dVar 5) (dVar 1)) (dB iLen (aCons (dVar 3) aNil)))) (dVar 5)) (aCons (d2 vAdd (dVar 5) (dC (.int 5))) (aCons (dVar 4) aNil)))) aNil)) (dC (.int 3)))))
 (dIfS (bC cEq (d2 vMod (d2 vMod (dVar 8) (d2 vPow (dC (.int 10)) (dC (.int 6)))) (dVar 6)) (dC (.int 0)))
 (dApp 7 (dVar 5))
 dPass)))
 (dRet (lTup (aCons (d2 vMod (d2 vDiv (dVar 4) (dC (.int 31))) (d2 vAdd (dB iLen (aCons (dVar 2) aNil)) (dC (.int 1)))) (aCons (dPk 7) aNil))))))))
abbrev L__law_some_0 : Ev → R Fl :=
 (dSeq (dSet 8 (sSh (d2 vDiv (dB iAbs (aCons (dCall 3 D__law_number (aCons (d2 vAdd (d2 vIdx (dVar 3) (d2 vMod (d2 vAdd (dVar 5) (dVar 1)) (dB iLen (aCons (dVar 3) aNil)))) (dVar 5)) (aCons (d2 vAdd (dVar 5) (dC (.int 5))) (aCons (dVar 4) aNil)))) aNil)) (dC (.int 3)))))
 (dIfS (bC cEq (d2 vMod (d2 vMod (dVar 8) (d2 vPow (dC (.int 10)) (dC (.int 6)))) (dVar 6)) (dC (.int 0)))
 (dApp 7 (dVar 5))
 dPass))
def D__law_some : List D → R D := dFn 9 false B__law_some
def B__law_name : Ev → R Fl :=
 (dSeq (dSet 1 (sSh (dC (.str ""))))
 (dSeq (dFor (lB vRg1 (aCons (d2 vAdd (dC (.int 1)) (d2 vMod (dVar 0) (dC (.int 4)))) aNil)) (gNm 2)
 (dSet 1 (sSh (d2 vAdd (dVar 1) (d2 vIdx (dC (.str "abcdefghijklmnopqrstuvwxyz")) (d2 vMod (d2 vDiv (d2 vDiv (dVar 0) (dC (.int 4))) (d2 vIdx (lTup (aCons (dC (.int 1)) (aCons (dC (.int 26)) (aCons (dC (.int 676)) (aCons (dC (.int 17576)) aNil))))) (dVar 2))) (dC (.int 26))))))))
 (dRet (dVar 1))))
abbrev L__law_name_0 : Ev → R Fl :=
 (dSet 1 (sSh (d2 vAdd (dVar 1) (d2 vIdx (dC (.str "abcdefghijklmnopqrstuvwxyz")) (d2 vMod (d2 vDiv (d2 vDiv (dVar 0) (dC (.int 4))) (d2 vIdx (lTup (aCons (dC (.int 1)) (aCons (dC (.int 26)) (aCons (dC (.int 676)) (aCons (dC (.int 17576)) aNil))))) (dVar 2))) (dC (.int 26)))))))
def D__law_name : List D → R D := dFn 3 false B__law_name
def B__law_words : Ev → R Fl :=
 (dSeq (dSet 3 (sSh (dIf (bC cNe (dVar 0) (lLP aNil)) (dSl (dVar 0) oNo (oSo (dC (.int 63)))) (lD (lLst (aCons (dC (.int 5)) aNil))))))
 (dSeq (dPar 5 6 (sSh (d2 vAdd (dB iAbs (aCons (dB iSum (aCons (dVar 3) aNil)) aNil)) (d2 vMul (dC (.int 7)) (dVar 1)))) sOd0)
 (dSeq (dFor (lB vRg1 (aCons (d2 vMod (dVar 5) (d2 vAdd (dVar 2) (dC (.int 1)))) aNil)) (gNm 4)
 (dSeq (dSet 7 (sSh (d2 vAdd (d2 vIdx (dVar 3) (d2 vMod (d2 vAdd (dVar 4) (dVar 1)) (dB iLen (aCons (dVar 3) aNil)))) (d2 vDiv (dVar 4) (dB iLen (aCons (dVar 3) aNil))))))
 (dSeq (dSet 8 (sSh (d2 vDiv (dB iAbs (aCons (dCall 3 D__law_number (aCons (dVar 7) (aCons (d2 vAdd (dVar 4) (dVar 1)) (aCons (dVar 5) aNil)))) aNil)) (dC (.int 3)))))
 (dSeq (dSet 9 (sSh (lTup (aCons (dC (.str "want")) (aCons (d2 vMod (d2 vDiv (dVar 8) (dC (.int 8))) (dC (.int 4))) (aCons (d2 vMod (d2 vDiv (dVar 8) (dC (.int 32))) (d2 vIdx (lTup (aCons (dC (.int 3)) (aCons (dC (.int 61)) aNil))) (d2 vMod (d2 vDiv (dVar 5) (dC (.int 41))) (dC (.int 2))))) aNil))))))
 (dSeq (dIfS (bC cGt (d2 vMod (dVar 8) (dC (.int 8))) (dC (.int 5)))
 (dSet 9 (sSh (d2 vAdd (lTup (aCons (dC (.str "strike")) aNil)) (dSl (dVar 9) (oSo (dC (.int 1))) oNo))))
 (dIfS (bC cGt (d2 vMod (dVar 8) (dC (.int 8))) (dC (.int 2)))
 (dSet 9 (sSh (d2 vAdd (lTup (aCons (dC (.str "got")) aNil)) (dSl (dVar 9) (oSo (dC (.int 1))) oNo))))
 dPass))
 (dSeq (dSet 10 (sSh (d2 vDiv (dVar 8) (dC (.int 2048)))))
 (dSeq (dSet 11 (sSh (dIf (bC cGt (d2 vMod (d2 vDiv (dVar 10) (dC (.int 5))) (dC (.int 4))) (dC (.int 0))) (d2 vIdx (lTup (aCons (dC (.str "a")) (aCons (dC (.str "b")) (aCons (dC (.str "ab")) (aCons (dC (.str "milk")) (aCons (dC (.str "zzzz")) aNil)))))) (d2 vMod (dVar 10) (dC (.int 5)))) (dCall 1 D__law_name (aCons (d2 vDiv (dVar 10) (dC (.int 20))) aNil)))))
 (dSeq (dSet 12 (sSh (lTup (aCons (dVar 11) (aCons (d2 vMod (d2 vDiv (dVar 10) (dC (.int 100))) (d2 vIdx (lTup (aCons (dC (.int 2)) (aCons (dC (.int 100)) aNil))) (d2 vMod (d2 vDiv (dVar 10) (dC (.int 10000))) (dC (.int 2))))) (aCons (d2 vAdd (dC (.int 1)) (d2 vMod (d2 vDiv (dVar 10) (dC (.int 20000))) (dC (.int 9)))) aNil))))))
 (dPutD 6 (dVar 9) (dIf (bC cEq (d2 vIdx (dVar 9) (dC (.int 0))) (dC (.str "strike"))) (dVar 9) (d2 vAdd (dVar 9) (dVar 12))))))))))))
 (dRetF (lVals 6 9)))))
abbrev L__law_words_0 : Ev → R Fl :=
 (dSeq (dSet 7 (sSh (d2 vAdd (d2 vIdx (dVar 3) (d2 vMod (d2 vAdd (dVar 4) (dVar 1)) (dB iLen (aCons (dVar 3) aNil)))) (d2 vDiv (dVar 4) (dB iLen (aCons (dVar 3) aNil))))))
 (dSeq (dSet 8 (sSh (d2 vDiv (dB iAbs (aCons (dCall 3 D__law_number (aCons (dVar 7) (aCons (d2 vAdd (dVar 4) (dVar 1)) (aCons (dVar 5) aNil)))) aNil)) (dC (.int 3)))))
 (dSeq (dSet 9 (sSh (lTup (aCons (dC (.str "want")) (aCons (d2 vMod (d2 vDiv (dVar 8) (dC (.int 8))) (dC (.int 4))) (aCons (d2 vMod (d2 vDiv (dVar 8) (dC (.int 32))) (d2 vIdx (lTup (aCons (dC (.int 3)) (aCons (dC (.int 61)) aNil))) (d2 vMod (d2 vDiv (dVar 5) (dC (.int 41))) (dC (.int 2))))) aNil))))))
 (dSeq (dIfS (bC cGt (d2 vMod (dVar 8) (dC (.int 8))) (dC (.int 5)))
 (dSet 9 (sSh (d2 vAdd (lTup (aCons (dC (.str "strike")) aNil)) (dSl (dVar 9) (oSo (dC (.int 1))) oNo))))
 (dIfS (bC cGt (d2 vMod (dVar 8) (dC (.int 8))) (dC (.int 2)))
 (dSet 9 (sSh (d2 vAdd (lTup (aCons (dC (.str "got")) aNil)) (dSl (dVar 9) (oSo (dC (.int 1))) oNo))))
 dPass))
 (dSeq (dSet 10 (sSh (d2 vDiv (dVar 8) (dC (.int 2048)))))
 (dSeq (dSet 11 (sSh (dIf (bC cGt (d2 vMod (d2 vDiv (dVar 10) (dC (.int 5))) (dC (.int 4))) (dC (.int 0))) (d2 vIdx (lTup (aCons (dC (.str "a")) (aCons (dC (.str "b")) (aCons (dC (.str "ab")) (aCons (dC (.str "milk")) (aCons (dC (.str "zzzz")) aNil)))))) (d2 vMod (dVar 10) (dC (.int 5)))) (dCall 1 D__law_name (aCons (d2 vDiv (dVar 10) (dC (.int 20))) aNil)))))
 (dSeq (dSet 12 (sSh (lTup (aCons (dVar 11) (aCons (d2 vMod (d2 vDiv (dVar 10) (dC (.int 100))) (d2 vIdx (lTup (aCons (dC (.int 2)) (aCons (dC (.int 100)) aNil))) (d2 vMod (d2 vDiv (dVar 10) (dC (.int 10000))) (dC (.int 2))))) (aCons (d2 vAdd (dC (.int 1)) (d2 vMod (d2 vDiv (dVar 10) (dC (.int 20000))) (dC (.int 9)))) aNil))))))
 (dPutD 6 (dVar 9) (dIf (bC cEq (d2 vIdx (dVar 9) (dC (.int 0))) (dC (.str "strike"))) (dVar 9) (d2 vAdd (dVar 9) (dVar 12)))))))))))
def D__law_words : List D → R D := dFn 13 true B__law_words
def B__law_plain (gr : List D → R D) : Ev → R Fl :=
 (dSeq (dIfS (bOr (bD (d1 (vIsi "list") (dVar 0))) (bD (d1 (vIsi "tuple") (dVar 0))))
 (dRet (dB iAll (aCons (lD (lLC (l1 vIt (dVar 0)) [1] (gNm 1) bYes (dCall 1 gr (aCons (dVar 1) aNil)))) aNil)))
 dPass)
 (dRet (dOr (bV (bC cIsN (dVar 0) (dC .non))) (dOr (d1 (vIsi "str") (dVar 0)) (dAnd (d1 (vIsi "int") (dVar 0)) (dNot (d1 (vIsi "bool") (dVar 0))))))))
def D__law_plain : Nat → List D → R D
  | 0 => fun _ => .st
  | n + 1 => dFn 2 false (B__law_plain (D__law_plain n))
def B__law_truths : Ev → R Fl :=
 (dRet (dB iAll (aCons (lD (lLC (l1 vIt (dVar 0)) [1] (gNm 1) bYes (d1 (vIsi "bool") (dVar 1)))) aNil)))
def D__law_truths : List D → R D := dFn 2 false B__law_truths
def B_Shortest_shows : Ev → R Fl :=
 (dRet (dAnd (dB iAll (aCons (lD (lLC (l1 vIt (dVar 3)) [5] (gNm 5) bYes (bV (bC cIn (dVar 5) (dVar 4))))) aNil)) (bV (bC cEq (lD (lCall 2 D_gone_of (aCons (dVar 1) (aCons (dVar 4) aNil)))) (lD (lCall 3 D_must_of (aCons (dVar 1) (aCons (dVar 2) (aCons (dVar 3) aNil)))))))))
def D_Shortest_shows : List D → R D := dFn 6 false B_Shortest_shows
def B_Missed_shows : Ev → R Fl :=
 (dRet (dAnd (bV (bC cIn (dFld [(2, 0), (3, 0)] (dVar 0)) (dVar 3))) (bV (bC cNotIn (dFld [(2, 0), (3, 0)] (dVar 0)) (dVar 4)))))
def D_Missed_shows : List D → R D := dFn 5 false B_Missed_shows
def B_Longer_shows : Ev → R Fl :=
 (dSeq (dIfS (bOr (bNot (bD (dB iAll (aCons (lD (lLC (l1 vIt (dVar 3)) [5] (gNm 5) bYes (bV (bC cIn (dVar 5) (dVar 4))))) aNil)))) (bNot (bCh cLe cLe (dC (.int 1)) (dFld [(2, 0), (3, 0)] (dVar 0)) (dB iLen (aCons (dVar 1) aNil)))))
 (dRet (dC (.bl false)))
 dPass)
 (dRet (bV (bC cGt (d2 vIdx (lD (lCall 2 D_gone_of (aCons (dVar 1) (aCons (dVar 4) aNil)))) (d2 vSub (dFld [(2, 0), (3, 0)] (dVar 0)) (dC (.int 1)))) (d2 vIdx (lD (lCall 3 D_must_of (aCons (dVar 1) (aCons (dVar 2) (aCons (dVar 3) aNil))))) (d2 vSub (dFld [(2, 0), (3, 0)] (dVar 0)) (dC (.int 1))))))))
def D_Longer_shows : List D → R D := dFn 6 false B_Longer_shows
def B__law_shop_right : Ev → R Fl :=
 (dSeq (dSet 3 (sSh (lD (lCall 3 D_way (aCons (dVar 0) (aCons (dVar 1) (aCons (dVar 2) aNil)))))))
 (dSeq (dPar 5 6 (sOw (lLst (aCons (lD (lCall 3 D_must (aCons (dVar 0) (aCons (dVar 1) (aCons (dVar 2) aNil))))) (aCons (dCall 3 D_least (aCons (dVar 0) (aCons (dVar 1) (aCons (dVar 2) aNil)))) (aCons (dVar 3) (aCons (lD (lCall 3 D_split (aCons (dVar 0) (aCons (dVar 1) (aCons (dSl (dVar 2) oNo (oSo (dC (.int 8)))) aNil))))) aNil)))))) (sSh (lD (lLst aNil))))
 (dSeq (dFor (l1 vIt (lD (lLst (aCons (dVar 2) (aCons (lD (l1 vLRg1 (d2 vAdd (dB iLen (aCons (dVar 0) aNil)) (dC (.int 1))))) aNil))))) (gNm 4)
 (dSeq (dSet 7 (sSh (oD (oCall 4 D_judged (aCons (dVar 0) (aCons (dVar 1) (aCons (dVar 4) (aCons (dVar 3) aNil))))))))
 (dSeq (dIfS (bNot (bD (dIsC [(0, false), (1, true), (2, false), (3, false)] (dVar 7))))
 (dApp 5 (dFld [(2, 0), (3, 0)] (dVar 7)))
 dPass)
 (dSet 6 (sSh (d2 vAdd (dVar 6) (lD (lLC (l1 vIt (lD (lLst (aCons (dVar 7) (aCons (oD (oMake 2 1 (aCons (dC (.int 0)) aNil))) (aCons (oD (oMake 3 1 (aCons (dC (.int 1)) aNil))) (aCons (oD (oMake 1 0 aNil)) aNil))))))) [8] (gNm 8) bYes (dMeth 4 [(1, D_Shortest_shows), (2, D_Missed_shows), (3, D_Longer_shows)] (dVar 8) (aCons (dVar 0) (aCons (dVar 1) (aCons (dVar 4) (aCons (dVar 3) aNil)))))))))))))
 (dSeq (dIfS (bNot (bD (dCall 1 (D__law_plain 6) (aCons (dPk 5) aNil))))
 (dRet (dC (.bl false)))
 dPass)
 (dRet (dCall 1 D__law_truths (aCons (dVar 6) aNil)))))))
abbrev L__law_shop_right_0 : Ev → R Fl :=
 (dSeq (dSet 7 (sSh (oD (oCall 4 D_judged (aCons (dVar 0) (aCons (dVar 1) (aCons (dVar 4) (aCons (dVar 3) aNil))))))))
 (dSeq (dIfS (bNot (bD (dIsC [(0, false), (1, true), (2, false), (3, false)] (dVar 7))))
 (dApp 5 (dFld [(2, 0), (3, 0)] (dVar 7)))
 dPass)
 (dSet 6 (sSh (d2 vAdd (dVar 6) (lD (lLC (l1 vIt (lD (lLst (aCons (dVar 7) (aCons (oD (oMake 2 1 (aCons (dC (.int 0)) aNil))) (aCons (oD (oMake 3 1 (aCons (dC (.int 1)) aNil))) (aCons (oD (oMake 1 0 aNil)) aNil))))))) [8] (gNm 8) bYes (dMeth 4 [(1, D_Shortest_shows), (2, D_Missed_shows), (3, D_Longer_shows)] (dVar 8) (aCons (dVar 0) (aCons (dVar 1) (aCons (dVar 4) (aCons (dVar 3) aNil))))))))))))
def D__law_shop_right : List D → R D := dFn 9 false B__law_shop_right
def B2_Pad___init__ : Y2 :=
 (ySeq (yIf (xLT [] (bOr (bNot (bD (dCall 1 D_is_whole (aCons (dVar 1) aNil)))) (bNot (bCh cLe cLt (dC (.int 0)) (dVar 1) (dC (.int 4))))))
 yNever
 yPass)
 (ySeq (yFldN 5 6 (xVar 0) (xL [] (dVar 1)))
 (yFldN 6 4 (xVar 0) (xF [] (lLst aNil)))))
def D2_Pad___init__ : List D → Mem → RX D := xFn 2 B2_Pad___init__
def B2_Pad_next_number : Y2 :=
 (ySeq (ySet 2 (xL [0] (d2 vAdd (dB iMax (aCons (d2 vAdd (lLP (aCons (d1 vNeg (dC (.int 1))) aNil)) (lD (lLC (l1 vIt (dFld [(4, 1)] (dVar 0))) [3] (gNm 3) (bC cEq (dSl (dVar 3) oNo (oSo (dC (.int 2)))) (lTup (aCons (dVar 1) (aCons (dFld [(4, 0)] (dVar 0)) aNil)))) (d2 vIdx (dVar 3) (dC (.int 2)))))) aNil)) (dC (.int 1)))))
 (ySeq (yIf (xLT [] (bC cGt (dVar 2) (dC (.int 60))))
 yNever
 yPass)
 (yRet (xL [] (dVar 2)))))
def D2_Pad_next_number : List D → Mem → RX D := xFn 4 B2_Pad_next_number
def B2_Pad_put : Y2 :=
 (ySeq (yIf (xLT [0] (bC cGe (dB iLen (aCons (dFld [(4, 1)] (dVar 0)) aNil)) (dC (.int 40))))
 yNever
 yPass)
 (yDrop (xApp' (xFld 4 1 (xVar 0)) (xL [] (dVar 1)))))
def D2_Pad_put : List D → Mem → RX D := xFn 2 B2_Pad_put
def B2_Pad_want : Y2 :=
 (ySeq (yIf (xLT [] (bNot (bD (dCall 2 D_is_thing (aCons (dVar 1) (aCons (dVar 2) aNil))))))
 yNever
 yPass)
 (ySeq (yIf (xLT [] (bNot (bD (dCall 1 D_is_many (aCons (dVar 3) aNil)))))
 yNever
 yPass)
 (ySeq (ySet 4 (xMeth 4 1 D2_Pad_next_number (xVar 0) (xCons (xL [] (dC (.str "want"))) xNil)))
 (ySeq (yDrop (xMeth 4 1 D2_Pad_put (xVar 0) (xCons (xL [0] (lTup (aCons (dC (.str "want")) (aCons (dFld [(4, 0)] (dVar 0)) (aCons (dVar 4) (aCons (dVar 1) (aCons (dVar 2) (aCons (dVar 3) aNil)))))))) xNil)))
 (yRet (xL [] (dVar 4)))))))
def D2_Pad_want : List D → Mem → RX D := xFn 5 B2_Pad_want
def B2_Pad_got : Y2 :=
 (ySeq (yIf (xLT [] (bNot (bD (dCall 2 D_is_thing (aCons (dVar 1) (aCons (dVar 2) aNil))))))
 yNever
 yPass)
 (ySeq (yIf (xLT [] (bNot (bD (dCall 1 D_is_many (aCons (dVar 3) aNil)))))
 yNever
 yPass)
 (ySeq (ySet 4 (xL [0] (dGetE (dCall 1 D_counts_of (aCons (dFld [(4, 1)] (dVar 0)) aNil)) (lTup (aCons (dVar 1) (aCons (dVar 2) aNil))) (dC (.int 0)))))
 (ySeq (yIf (xLT [] (bC cGt (dVar 3) (dVar 4)))
 yNever
 yPass)
 (ySeq (yDrop (xMeth 4 1 D2_Pad_put (xVar 0) (xCons (xTup (xCons (xL [] (dC (.str "got"))) (xCons (xL [0] (dFld [(4, 0)] (dVar 0))) (xCons (xMeth 4 1 D2_Pad_next_number (xVar 0) (xCons (xL [] (dC (.str "got"))) xNil)) (xCons (xL [] (dVar 1)) (xCons (xL [] (dVar 2)) (xCons (xL [] (dVar 3)) xNil))))))) xNil)))
 (yRet (xL [] (d2 vSub (dVar 4) (dVar 3)))))))))
def D2_Pad_got : List D → Mem → RX D := xFn 5 B2_Pad_got
def B2_Pad_words : Y2 :=
 (yRet (xFD [0] (l1 vSorted (dFld [(4, 1)] (dVar 0)))))
def D2_Pad_words : List D → Mem → RX D := xFn 1 B2_Pad_words
def B2_Pad_hear : Y2 :=
 (ySeq (yDrop (xL [] (dCall 1 D_asked_words (aCons (dVar 1) aNil))))
 (ySeq (ySet 2 (xL [0] (dB iLen (aCons (dFld [(4, 1)] (dVar 0)) aNil))))
 (ySeq (yFld 4 1 (xVar 0) (xF [0] (lCall 2 D_joined_of (aCons (dFld [(4, 1)] (dVar 0)) (aCons (dVar 1) aNil)))))
 (yRet (xL [0] (d2 vSub (dB iLen (aCons (dFld [(4, 1)] (dVar 0)) aNil)) (dVar 2)))))))
def D2_Pad_hear : List D → Mem → RX D := xFn 3 B2_Pad_hear
def B2__law_words_right : Y2 :=
 (ySeq (yPar 2 4 (xFD [] (lLst (aCons (lD (lCall 1 D_left (aCons (dVar 0) aNil))) (aCons (lD (lCall 1 D_over (aCons (dVar 0) aNil))) (aCons (lD (lCall 1 D_places_left (aCons (dVar 0) aNil))) (aCons (lD (lCall 2 D_joined (aCons (dVar 0) (aCons (lD (lLst aNil)) aNil)))) aNil)))))) (xMake 5 1 D2_Pad___init__ (xCons (xL [] (d2 vMod (dVar 1) (dC (.int 4)))) xNil)))
 (ySeq (ySet 2 (xCat (xL [] (dVar 2)) (xLst (xCons (xMeth 4 3 D2_Pad_want (xVar 4) (xCons (xL [] (dC (.str "a"))) (xCons (xL [] (dC (.int 1))) (xCons (xL [] (dC (.int 3))) xNil)))) (xCons (xMeth 4 3 D2_Pad_got (xVar 4) (xCons (xL [] (dC (.str "a"))) (xCons (xL [] (dC (.int 1))) (xCons (xL [] (dC (.int 2))) xNil)))) (xCons (xMeth 4 3 D2_Pad_want (xVar 4) (xCons (xL [] (dC (.str "b"))) (xCons (xL [] (d2 vMod (dVar 1) (dC (.int 100)))) (xCons (xL [] (dC (.int 1))) xNil)))) (xCons (xMeth0 4 D2_Pad_words (xVar 4)) xNil)))))))
 (ySeq (ySet 2 (xCat (xL [] (dVar 2)) (xLst (xCons (xMeth 4 1 D2_Pad_hear (xVar 4) (xCons (xFD [] (lLst aNil)) xNil)) xNil))))
 (ySeq (ySet 3 (xMake 5 1 D2_Pad___init__ (xCons (xL [] (d2 vMod (d2 vAdd (dVar 1) (dC (.int 1))) (dC (.int 4)))) xNil)))
 (ySeq (ySet 2 (xCat (xL [] (dVar 2)) (xLst (xCons (xMeth 4 1 D2_Pad_hear (xVar 3) (xCons (xMeth0 4 D2_Pad_words (xVar 4)) xNil)) (xCons (xMeth 4 1 D2_Pad_hear (xVar 3) (xCons (xRep (xMeth0 4 D2_Pad_words (xVar 4)) (xL [] (dC (.int 3)))) xNil)) (xCons (xFdL 1 [] D_left (xCons (xMeth0 4 D2_Pad_words (xVar 4)) xNil)) xNil))))))
 (ySeq (ySet 2 (xCat (xL [] (dVar 2)) (xLst (xCons (xFdL 1 [] D_places_left (xCons (xMeth0 4 D2_Pad_words (xVar 4)) xNil)) xNil))))
 (ySeq (yIf (xLT [] (bNot (bD (dCall 1 (D__law_plain 6) (aCons (dVar 2) aNil)))))
 (yRet (xL [] (dC (.bl false))))
 yPass)
 (yRet (xBi iAll (xCons (xLC (xIt (xCat (xFD [] (l2 vCat (lD (lCall 1 D_left (aCons (dVar 0) aNil))) (lD (lCall 1 D_over (aCons (dVar 0) aNil))))) (xMeth0 4 D2_Pad_words (xVar 4)))) [5] (hNm 5) xYes (xL [] (d1 (vIsi "tuple") (dVar 5)))) xNil))))))))))
def D2__law_words_right : List D → Mem → RX D := xFn 6 B2__law_words_right
def B_law : Ev → R Fl :=
 (dSeq (dSet 1 (sSh (dB iAbs (aCons (dB iSum (aCons (dSl (dVar 0) oNo (oSo (dC (.int 63)))) aNil)) aNil))))
 (dSeq (dFor (l1 vIt (lD (lLst (aCons (dC (.int 0)) (aCons (dC (.int 1)) (aCons (dC (.int 3)) aNil)))))) (gNm 2)
 (dSeq (dSet 3 (sSh (lD (lCall 3 D__law_shop (aCons (dVar 0) (aCons (dVar 2) (aCons (dC (.int 6)) aNil)))))))
 (dSeq (dUnp (dCall 3 D__law_some (aCons (dVar 0) (aCons (dVar 2) (aCons (dVar 3) aNil)))) (gTwo 4 5))
 (dIfS (bOr (bNot (bD (dCall 3 D__law_shop_right (aCons (dVar 3) (aCons (dVar 4) (aCons (dVar 5) aNil)))))) (bNot (bD (dCall 2 (xOut D2__law_words_right) (aCons (lD (lCall 3 D__law_words (aCons (dVar 0) (aCons (dVar 2) (aCons (dC (.int 12)) aNil))))) (aCons (d2 vDiv (dVar 1) (dC (.int 3))) aNil))))))
 (dRet (dC (.bl false)))
 dPass))))
 (dRet (dAnd (dCall 3 D__law_shop_right (aCons (lLP (aCons (lTup (aCons (dC (.int 0)) (aCons (dC (.int 1)) aNil))) aNil)) (aCons (dC (.int 1)) (aCons (lLP (aCons (dC (.int 1)) aNil)) aNil)))) (dCall 3 D__law_shop_right (aCons (lLP aNil) (aCons (dC (.int 0)) (aCons (lLP aNil) aNil))))))))
abbrev L_law_0 : Ev → R Fl :=
 (dSeq (dSet 3 (sSh (lD (lCall 3 D__law_shop (aCons (dVar 0) (aCons (dVar 2) (aCons (dC (.int 6)) aNil)))))))
 (dSeq (dUnp (dCall 3 D__law_some (aCons (dVar 0) (aCons (dVar 2) (aCons (dVar 3) aNil)))) (gTwo 4 5))
 (dIfS (bOr (bNot (bD (dCall 3 D__law_shop_right (aCons (dVar 3) (aCons (dVar 4) (aCons (dVar 5) aNil)))))) (bNot (bD (dCall 2 (xOut D2__law_words_right) (aCons (lD (lCall 3 D__law_words (aCons (dVar 0) (aCons (dVar 2) (aCons (dC (.int 12)) aNil))))) (aCons (d2 vDiv (dVar 1) (dC (.int 3))) aNil))))))
 (dRet (dC (.bl false)))
 dPass)))
def D_law : List D → R D := dFn 6 false B_law
def B2_Pad_strike : Y2 :=
 (ySeq (ySet 3 (xFD [0] (lLC (l1 vIt (dFld [(4, 1)] (dVar 0))) [4] (gNm 4) (bC cEq (d2 vIdx (dVar 4) (dC (.int 0))) (dC (.str "want"))) (dSl (dVar 4) (oSo (dC (.int 1))) (oSo (dC (.int 3)))))))
 (ySeq (yIf (xLT [] (bOr (bNot (bD (dCall 1 D_is_whole (aCons (dVar 1) aNil)))) (bOr (bNot (bD (dCall 1 D_is_whole (aCons (dVar 2) aNil)))) (bC cNotIn (lTup (aCons (dVar 1) (aCons (dVar 2) aNil))) (dVar 3)))))
 yNever
 yPass)
 (ySeq (yIf (xLT [0] (bC cIn (lTup (aCons (dC (.str "strike")) (aCons (dVar 1) (aCons (dVar 2) aNil)))) (dFld [(4, 1)] (dVar 0))))
 yNever
 yPass)
 (yDrop (xMeth 4 1 D2_Pad_put (xVar 0) (xCons (xL [] (lTup (aCons (dC (.str "strike")) (aCons (dVar 1) (aCons (dVar 2) aNil))))) xNil))))))
def D2_Pad_strike : List D → Mem → RX D := xFn 5 B2_Pad_strike
end
end T_k12
/-! MS: what the defs of the shops answer. -/
namespace T_k12
open PySem L2 PL
abbrev Shop := List (Nat × Nat)
@[simp] def eP (p : Nat × Nat) : D := .tup [.int (p.1 : Nat), .int (p.2 : Nat)]
@[simp] def eI (p : Nat) : D := .int (p : Nat)
abbrev eS (s : Shop) : D := .lst (s.map eP)
abbrev eN (ps : List Nat) : D := .lst (ps.map eI)
theorem intsD_eI (ps : List Nat) : intsD (ps.map eI) = some (ps.map fun (p : Nat) => (p : Int)) := intsD_of _ _
structure VS (s : Shop) : Prop where
  len : s.length ≤ 99
  at_ : ∀ (i : Nat) (p : Nat × Nat), s[i]? = some p → p.1 ≤ i ∧ 1 ≤ p.2 ∧ p.2 ≤ 9
structure VP (n : Nat) (ps : List Nat) : Prop where
  up : ps.Pairwise (· < ·)
  le : ∀ p ∈ ps, p ≤ n
theorem up_len : ∀ (ps : List Nat) (lo n : Nat), ps.Pairwise (· < ·) → (∀ p ∈ ps, lo ≤ p ∧ p ≤ n) → ps.length + lo ≤ n + 1 ∨ ps = []
  | [], _, _, _, _ => .inr rfl
  | p :: ps, lo, n, h, hl => by
    left
    have h' := List.pairwise_cons.mp h
    have hp := hl p List.mem_cons_self
    rcases up_len ps (p + 1) n h'.2 (fun q hq => ⟨h'.1 q hq, (hl q (List.mem_cons_of_mem _ hq)).2⟩) with z | z
    · simp only [List.length_cons]; omega
    · subst z; simp; omega
theorem VP.len {n : Nat} {ps : List Nat} (h : VP n ps) : ps.length ≤ n + 1 := by
  rcases up_len ps 0 n h.up fun p hp => ⟨Nat.zero_le _, h.le p hp⟩ with z | z
  · omega
  · subst z; simp
@[simp] theorem is_whole_int (i : Int) : D_is_whole [.int i] = .ok (.bl true) := by
  simp [D_is_whole, B_is_whole]
theorem is_stretch_ok (a b p : Int) : D_is_stretch [.tup [.int a, .int b], .int p] = .ok (.bl (decide (0 ≤ a) && (decide (a < p) && (decide (1 ≤ b) && decide (b ≤ 9))))) := by
  simp [D_is_stretch, B_is_stretch]
  by_cases h1 : 0 ≤ a <;> by_cases h2 : a < p <;> simp [h1, h2]
theorem asked_shop_ok {s : Shop} (h : VS s) : D_asked_shop [eS s] = .ok .non := by
  have hl := h.len
  have h1 : ∀ ρ0, lcG (gTwo 1 2) bYes (dCall 2 D_is_stretch (aCons (dVar 2) (aCons (d2 vAdd (dVar 1) (dC (.int 1))) aNil))) [ρ0, .no, .no] (enumD 0 (s.map eP)) = .ok (s.zipIdx.map fun _ => D.bl true) := by
    intro ρ0
    rw [enumD_map]
    refine lcG_map _ _ _ fun x hx => ⟨_, rfl, ?_⟩
    have hv := h.at_ x.2 x.1 (List.mem_zipIdx_iff_getElem?.mp hx)
    simp [is_stretch_ok]
    omega
  have e1 : ¬ (100 : Int) ≤ s.length := by omega
  have e2 := lineOk_s (n := s.length) (by omega)
  simp [D_asked_shop, B_asked_shop, h1, e1, e2, enum_len, boolsD_of]
theorem is_place_ok (s : Shop) (p : Int) : D_is_place [eS s, .int p] = .ok (.bl (decide (0 ≤ p) && decide (p ≤ s.length))) := by
  simp [D_is_place, B_is_place]
theorem asked_till_ok (s : Shop) {p : Nat} (h : p ≤ s.length) : D_asked_till [eS s, eI p] = .ok .non := by
  simp [D_asked_till, B_asked_till, is_place_ok, h]
theorem places_h1 {s : Shop} {ps : List Nat} (h : VP s.length ps) : lcG (gNm 3) bYes (dCall 2 D_is_place (aCons (dVar 0) (aCons (dVar 3) aNil))) [.sh (eS s), .sh (eN ps), .no, .no] (ps.map eI) = .ok (ps.map fun _ => D.bl true) := by
  refine lcG_map _ _ _ fun x hx => ⟨_, rfl, ?_⟩
  have := h.le x hx
  simp [is_place_ok, this]
theorem places_h2 {s : Shop} {ps : List Nat} (h : VP s.length ps) : lcG (gNm 2) bYes (bV (bC cLt (d2 vIdx (dVar 1) (d2 vSub (dVar 2) (dC (.int 1)))) (d2 vIdx (dVar 1) (dVar 2)))) [.sh (eS s), .sh (eN ps), .no, .no] (rangeD 1 1 (ps.length - 1)) = .ok ((List.range (ps.length - 1)).map fun _ => D.bl true) := by
  refine lcG_map _ _ _ fun x hx => ⟨_, rfl, ?_⟩
  have hx := List.mem_range.mp hx
  have a1 : ps[x]? = some ps[x] := List.getElem?_eq_getElem (by omega)
  have a2 : ps[1 + x]? = some ps[1 + x] := List.getElem?_eq_getElem (by omega)
  have a3 : ps[x] < ps[1 + x] := List.pairwise_iff_getElem.mp h.up _ _ _ _ (by omega)
  have e1 : ((1 : Int) + x * 1 - 1) = ((x : Nat) : Int) := by omega
  have e2 : ((1 : Int) + x * 1) = ((1 + x : Nat) : Int) := by omega
  simp [-Int.mul_one, e1]
  simp [-Int.mul_one, e2, -Int.natCast_add, atI_n, a1, a2, a3]
theorem asked_places_ok {s : Shop} (hs : VS s) {ps : List Nat} (h : VP s.length ps) : D_asked_places [eS s, eN ps] = .ok .non := by
  have hl := hs.len
  have hlen := h.len
  have e1 := lineOk_s (n := ps.length) (by omega)
  have e2 := lineOk_s (n := ps.length - 1) (by omega)
  have e3 := inRg_n (n := ps.length) (by omega)
  have e5 : ((ps.length : Int) - 1).toNat = ps.length - 1 := by omega
  simp [D_asked_places, B_asked_places, places_h1 h, e1, boolsD_of, e3, e5, range_len, e2, places_h2 h]
/-! ### what lies on the way up -/
def up (s : Shop) : Nat → List Nat
  | 0 => []
  | p + 1 => (p + 1) :: up s (min (s.getD p (0, 0)).1 p)
termination_by p => p
decreasing_by omega
theorem up_zero (s : Shop) : up s 0 = [] := by rw [up]
theorem up_succ (s : Shop) (p : Nat) : up s (p + 1) = (p + 1) :: up s (min (s.getD p (0, 0)).1 p) := by rw [up]
theorem up_at {s : Shop} (hs : VS s) {p : Nat} {x : Nat × Nat} (h : s[p]? = some x) : up s (p + 1) = (p + 1) :: up s x.1 := by
  rw [up_succ, List.getD_eq_getElem?_getD, h]
  have := (hs.at_ _ _ h).1
  simp only [Option.getD_some]
  rw [Nat.min_eq_left this]
theorem up_le (s : Shop) : ∀ (p j : Nat), j ∈ up s p → 1 ≤ j ∧ j ≤ p := by
  intro p
  induction p using Nat.strongRecOn with
  | _ p ih =>
    intro j hj
    cases p with
    | zero => rw [up_zero] at hj; simp at hj
    | succ p =>
      rw [up_succ] at hj
      rcases List.mem_cons.mp hj with rfl | hj
      · omega
      · have := ih _ (by omega) j hj; omega
theorem up_self (s : Shop) {p : Nat} (h : 1 ≤ p) : p ∈ up s p := by
  obtain ⟨q, rfl⟩ : ∃ q, p = q + 1 := ⟨p - 1, by omega⟩
  rw [up_succ]
  exact List.mem_cons_self
/-- whether one of ps is at j or beyond it -/
def onW (s : Shop) (ps : List Nat) (j : Nat) : Bool := ps.any fun p => (up s p).contains j
theorem onW_iff {s : Shop} {ps : List Nat} {j : Nat} : onW s ps j = true ↔ ∃ p ∈ ps, j ∈ up s p := by
  unfold onW
  rw [List.any_eq_true]
  simp
/-- how often the stretch to place j must be gone -/
def mustAt (s : Shop) (t : Nat) (ps : List Nat) (j : Nat) : Int := if onW s [t] j then 1 else if onW s ps j then 2 else 0
def mustM (s : Shop) (t : Nat) (ps : List Nat) : List Int := (List.range s.length).map fun i => mustAt s t ps (i + 1)
def leastM (s : Shop) (t : Nat) (ps : List Nat) : Int := (((List.range s.length).map fun i => mustAt s t ps (i + 1) * ((s.getD i (0, 0)).2 : Int))).sum

theorem up_sub (s : Shop) : ∀ (p m j : Nat), m ∈ up s p → j ∈ up s m → j ∈ up s p := by
  intro p
  induction p using Nat.strongRecOn with
  | _ p ih =>
    intro m j hm hj
    cases p with
    | zero => rw [up_zero] at hm; simp at hm
    | succ p =>
      rw [up_succ] at hm
      rcases List.mem_cons.mp hm with rfl | hm
      · exact hj
      · rw [up_succ]
        exact List.mem_cons_of_mem _ (ih _ (by omega) m j hm hj)
theorem up_par {s : Shop} (hs : VS s) {p : Nat} {x : Nat × Nat} (h : s[p]? = some x) (hx : 1 ≤ x.1) : x.1 ∈ up s (p + 1) := by
  rw [up_at hs h]
  exact List.mem_cons_of_mem _ (up_self s hx)
/-! ### beyond -/
def downs : Nat → List Nat
  | 0 => []
  | n + 1 => (n + 1) :: downs n
theorem downs_eq (n : Nat) : rangeD (n : Int) (-1) n = (downs n).map eI := by
  induction n with
  | zero => rfl
  | succ n ih =>
    unfold rangeD at ih ⊢
    rw [List.range_succ_eq_map, List.map_cons, List.map_map, downs, List.map_cons, ← ih]
    congr 1
    refine List.map_congr_left fun k _ => ?_
    simp only [Function.comp, Nat.succ_eq_add_one]
    congr 1
    push_cast
    omega
theorem set_true {bs : List Bool} {i j : Nat} : (bs.set i true)[j]? = some true ↔ (i = j ∧ i < bs.length) ∨ bs[j]? = some true := by
  rw [List.getElem?_set]
  by_cases h : i = j
  · subst h
    by_cases h' : i < bs.length
    · simp [h']
    · simp [h', List.getElem?_eq_none (Nat.le_of_not_lt h')]
  · simp [h]
theorem map_setB (bs : List Bool) (i : Nat) : (bs.map D.bl).set i (.bl true) = (bs.set i true).map D.bl := by
  rw [List.map_set]
theorem beyond_l1 {s : Shop} {ps : List Nat} (hp : ∀ p ∈ ps, p ≤ s.length) : ∃ (bs : List Bool) (j' : Sl), fo (gNm 3) (dSetI 2 (dVar 3) (dC (.bl true))) (ps.map eI) [.sh (eS s), .sh (eN ps), .ow ((List.replicate (s.length + 1) false).map D.bl), .no] = .ok (.nx [.sh (eS s), .sh (eN ps), .ow (bs.map D.bl), j']) ∧ bs.length = s.length + 1 ∧ (∀ j : Nat, bs[j]? = some true ↔ j ∈ ps) := by
  obtain ⟨bs, j', h, h1, h2, h3, h4⟩ := fo_inv (g := gNm 3) (b := dSetI 2 (dVar 3) (dC (.bl true))) (α := List Bool) (J := Sl) (fun bs j => [.sh (eS s), .sh (eN ps), .ow (bs.map D.bl), j]) eI
    (fun r bs => bs.length = s.length + 1 ∧ (∀ p ∈ r, p ∈ ps) ∧ (∀ j : Nat, bs[j]? = some true → j ∈ ps) ∧ (∀ j ∈ ps, j ∈ r ∨ bs[j]? = some true)) (by
      intro x r bs j ⟨h1, h2, h3, h4⟩
      have hx := h2 x List.mem_cons_self
      have hx' := hp x hx
      refine ⟨_, bs.set x true, .sh (eI x), rfl, .inl ?_, by simpa using h1, fun p h => h2 p (List.mem_cons_of_mem _ h), ?_, ?_⟩
      · simp [ixN_n, h1, show x < s.length + 1 by omega]
      · intro j hj
        rcases set_true.mp hj with ⟨rfl, _⟩ | hj
        · exact hx
        · exact h3 j hj
      · intro j hj
        rw [set_true]
        rcases h4 j hj with h | h
        · rcases List.mem_cons.mp h with rfl | h
          · exact .inr (.inl ⟨rfl, by omega⟩)
          · exact .inl h
        · exact .inr (.inr h)) ps (List.replicate (s.length + 1) false) .no ⟨by simp, fun p h => h, by
          intro j hj
          rw [List.getElem?_replicate] at hj
          split at hj <;> simp at hj, fun j h => .inl h⟩
  exact ⟨bs, j', h, h1, fun j => ⟨h3 j, fun hj => (h4 j hj).resolve_left (by simp)⟩⟩
theorem beyond_l2 {s : Shop} (hs : VS s) {ps : List Nat} (bs : List Bool) (j' : Sl) (hl : bs.length = s.length + 1) (h0 : ∀ j : Nat, bs[j]? = some true ↔ j ∈ ps) :
    ∃ (bs2 : List Bool) (j2 : Sl), fo (gNm 3) (dIfS (bD (d2 vIdx (dPk 2) (dVar 3))) (dSetI 2 (d2 vIdx (d2 vIdx (dVar 0) (d2 vSub (dVar 3) (dC (.int 1)))) (dC (.int 0))) (dC (.bl true))) dPass) ((downs s.length).map eI) [.sh (eS s), .sh (eN ps), .ow (bs.map D.bl), j'] = .ok (.nx [.sh (eS s), .sh (eN ps), .ow (bs2.map D.bl), j2]) ∧ bs2.length = s.length + 1 ∧ ∀ j, 1 ≤ j → (bs2[j]? = some true ↔ onW s ps j = true) := by
  obtain ⟨bs2, j2, h, q, hq, h1, h2, h3, h4, h5⟩ := fo_inv (g := gNm 3) (b := dIfS (bD (d2 vIdx (dPk 2) (dVar 3))) (dSetI 2 (d2 vIdx (d2 vIdx (dVar 0) (d2 vSub (dVar 3) (dC (.int 1)))) (dC (.int 0))) (dC (.bl true))) dPass) (α := List Bool) (J := Sl) (fun bs j => [.sh (eS s), .sh (eN ps), .ow (bs.map D.bl), j]) eI
    (fun r bs => ∃ q, r = downs q ∧ q ≤ s.length ∧ bs.length = s.length + 1 ∧ (∀ j : Nat, 1 ≤ j → bs[j]? = some true → onW s ps j = true) ∧ (∀ j ∈ ps, bs[j]? = some true) ∧ (∀ m x, q ≤ m → s[m]? = some x → bs[m + 1]? = some true → bs[x.1]? = some true)) (by
      intro x r bs j ⟨q, hq, h1, h2, h3, h4, h5⟩
      obtain _ | q := q
      · simp [downs] at hq
      · simp only [downs, List.cons.injEq] at hq
        obtain ⟨rfl, rfl⟩ := hq
        have hq : q < s.length := by omega
        have a1 : s[q]? = some s[q] := List.getElem?_eq_getElem hq
        have a2 : bs[q + 1]? = some bs[q + 1] := List.getElem?_eq_getElem (by omega)
        have e1 : (((q + 1 : Nat) : Int) - 1) = (q : Int) := by omega
        have hx := (hs.at_ q _ a1).1
        have a3 : s[q].1 < s.length + 1 := by omega
        cases hb : bs[q + 1] with
        | false =>
          refine ⟨_, bs, .sh (eI (q + 1)), rfl, .inl ?_, q, rfl, by omega, h2, h3, h4, ?_⟩
          · simp [-Int.natCast_add, atI_n, a2, hb]
          · intro m y hm hy hmb
            rcases Nat.lt_or_ge q m with h | h
            · exact h5 m y h hy hmb
            · obtain rfl : m = q := by omega
              rw [a2, hb] at hmb
              simp at hmb
        | true =>
          refine ⟨_, bs.set s[q].1 true, .sh (eI (q + 1)), rfl, .inl ?_, q, rfl, by omega, by simpa using h2, ?_, ?_, ?_⟩
          · simp [-Int.natCast_add, atI_n, a2, hb, e1, a1, ixN_n, h2, a3]
          · intro j hj hjb
            rcases set_true.mp hjb with ⟨rfl, _⟩ | hjb
            · have := h3 (q + 1) (by omega) (by rw [a2, hb])
              obtain ⟨p, hp, hpu⟩ := onW_iff.mp this
              exact onW_iff.mpr ⟨p, hp, up_sub s _ _ _ hpu (up_par hs a1 hj)⟩
            · exact h3 j hj hjb
          · intro j hj
            exact set_true.mpr (.inr (h4 j hj))
          · intro m y hm hy hmb
            rw [set_true] at hmb ⊢
            rcases hmb with ⟨hmb, _⟩ | hmb
            · omega
            · rcases Nat.lt_or_ge q m with h | h
              · exact .inr (h5 m y h hy hmb)
              · obtain rfl : m = q := by omega
                rw [a1] at hy
                obtain rfl := Option.some.inj hy
                exact .inl ⟨rfl, by omega⟩) (downs s.length) bs j' ⟨s.length, rfl, Nat.le_refl _, hl, fun j hj hb => onW_iff.mpr ⟨j, (h0 j).mp hb, up_self s hj⟩, fun j hj => (h0 j).mpr hj, by
              intro m x hm hx
              rw [List.getElem?_eq_none hm] at hx
              simp at hx⟩
  refine ⟨bs2, j2, h, h2, fun j hj => ⟨h3 j hj, fun hon => ?_⟩⟩
  obtain rfl : q = 0 := by
    cases q with
    | zero => rfl
    | succ q => simp [downs] at hq
  obtain ⟨p, hp, hpu⟩ := onW_iff.mp hon
  have go : ∀ (p : Nat), bs2[p]? = some true → ∀ j ∈ up s p, bs2[j]? = some true := by
    intro p
    induction p using Nat.strongRecOn with
    | _ p ih =>
      intro hb j hj
      cases p with
      | zero => rw [up_zero] at hj; simp at hj
      | succ p =>
        have hlen := (List.getElem?_eq_some_iff.mp hb).1
        have a1 : s[p]? = some s[p] := List.getElem?_eq_getElem (by omega)
        rw [up_at hs a1] at hj
        rcases List.mem_cons.mp hj with rfl | hj
        · exact hb
        · exact ih _ (by have := (hs.at_ p _ a1).1; omega) (h5 p _ (Nat.zero_le _) a1 hb) j hj
  exact go p (h4 p hp) j hpu
theorem beyond_ok {s : Shop} (hs : VS s) {ps : List Nat} (hp : ∀ p ∈ ps, p ≤ s.length) : ∃ bs : List Bool, D_beyond [eS s, eN ps] = .ok (.lst (bs.map D.bl)) ∧ bs.length = s.length + 1 ∧ ∀ j, 1 ≤ j → j ≤ s.length → (bs[j]? = some (onW s ps j)) := by
  have hl := hs.len
  obtain ⟨bs, j1, l1, h1, h2⟩ := beyond_l1 hp
  obtain ⟨bs2, j2, l2, h3, h4⟩ := beyond_l2 hs bs j1 h1 h2
  refine ⟨bs2, ?_, h3, ?_⟩
  · have e1 := lineOk_s (n := s.length) (by omega)
    have e2 := inRg_n (n := s.length) (by omega)
    have e3 := repOk_s (n := 1) (k := (s.length : Int) + 1) (by omega) (by omega) (by omega)
    rw [← downs_eq] at l2
    rw [List.map_replicate] at l1
    simp [D_beyond, B_beyond, e1, e2, e3, range_len]
    rw [l1]
    simp [e1, e2, range_len]
    rw [l2]
    simp
  · intro j hj hj'
    have a : bs2[j]? = some bs2[j] := List.getElem?_eq_getElem (by omega)
    have := h4 j hj
    rw [a] at this ⊢
    congr 1
    rw [Bool.eq_iff_iff, ← this]
    simp
/-! ### must, least -/
theorem must_of_ok {s : Shop} (hs : VS s) {t : Nat} (ht : t ≤ s.length) {ps : List Nat} (hp : ∀ p ∈ ps, p ≤ s.length) : D_must_of [eS s, eI t, eN ps] = .ok (.lst ((mustM s t ps).map D.int)) := by
  obtain ⟨bs, h1, h2, h3⟩ := beyond_ok hs hp
  obtain ⟨cs, g1, g2, g3⟩ := beyond_ok hs (ps := [t]) (by simpa using ht)
  have hl := hs.len
  have e1 := lineOk_s (n := s.length) (by omega)
  have e2 := inRg_n (n := s.length) (by omega)
  simp only [eN, List.map_cons, List.map_nil, eI] at g1
  simp [D_must_of, B_must_of, h1, g1, e1, e2, range_len]
  rw [rangeD_map, lcG_map (fun k : Nat => D.int k) (fun i => D.int (mustAt s t ps (i + 1))) _ ?_]
  · simp [mustM]
  · intro x hx
    refine ⟨_, rfl, ?_⟩
    have hx := List.mem_range.mp hx
    have a1 := h3 (x + 1) (by omega) (by omega)
    have a2 := g3 (x + 1) (by omega) (by omega)
    have e : ((x : Int) + 1) = ((x + 1 : Nat) : Int) := by omega
    simp [-Int.natCast_add, e, atI_n, a1, a2, mustAt]
theorem must_ok {s : Shop} (hs : VS s) {t : Nat} (ht : t ≤ s.length) {ps : List Nat} (hp : VP s.length ps) : D_must [eS s, eI t, eN ps] = .ok (.lst ((mustM s t ps).map D.int)) := by
  have h1 := asked_shop_ok hs
  have h2 := asked_till_ok s ht
  have h3 := asked_places_ok hs hp
  have h4 := must_of_ok hs ht hp.le
  simp only [eI] at h2 h4
  simp [D_must, B_must, h1, h2, h3, h4]
theorem mustM_len (s : Shop) (t : Nat) (ps : List Nat) : (mustM s t ps).length = s.length := by simp [mustM]
theorem mustM_at {s : Shop} {t : Nat} {ps : List Nat} {i : Nat} (h : i < s.length) : (mustM s t ps)[i]? = some (mustAt s t ps (i + 1)) := by simp [mustM, h]
theorem zipIdx_range {α : Type} (f : Nat → α) (n : Nat) : ((List.range n).map f).zipIdx = (List.range n).map fun i => (f i, i) := by
  apply List.ext_getElem?
  intro i
  by_cases h : i < n <;> simp [h, List.getElem?_zipIdx]
theorem mustAt_rng (s : Shop) (t : Nat) (ps : List Nat) (j : Nat) : 0 ≤ mustAt s t ps j ∧ mustAt s t ps j ≤ 2 := by
  unfold mustAt
  split
  · decide
  · split <;> decide
theorem least_of_ok {s : Shop} (hs : VS s) {t : Nat} (ht : t ≤ s.length) {ps : List Nat} (hp : ∀ p ∈ ps, p ≤ s.length) : D_least_of [eS s, eI t, eN ps] = .ok (.int (leastM s t ps)) := by
  have h4 := must_of_ok hs ht hp
  have hl := hs.len
  have e1 := lineOk_s (n := s.length) (by omega)
  simp only [eI] at h4
  simp [D_least_of, B_least_of, h4, enum_len, mustM_len, e1]
  rw [enumD_map, mustM, zipIdx_range, List.map_map, lcG_map ((fun p : Int × Nat => D.tup [.int (p.2 : Nat), .int p.1]) ∘ fun i => (mustAt s t ps (i + 1), i)) (fun i => D.int (mustAt s t ps (i + 1) * ((s.getD i (0, 0)).2 : Int))) _ ?_]
  · simp [intsD_of, leastM]
  · intro x hx
    refine ⟨_, rfl, ?_⟩
    have hx := List.mem_range.mp hx
    have a1 : s[x]? = some s[x] := List.getElem?_eq_getElem hx
    have b := mustAt_rng s t ps (x + 1)
    have c := hs.at_ x _ a1
    have e2 : mulOk (mustAt s t ps (x + 1)) (s[x].2 : Int) = true := mulOk_s (by omega) (by omega) (by omega) (by omega)
    simp [atI_n, a1, e2, List.getD_eq_getElem?_getD]
theorem least_ok {s : Shop} (hs : VS s) {t : Nat} (ht : t ≤ s.length) {ps : List Nat} (hp : VP s.length ps) : D_least [eS s, eI t, eN ps] = .ok (.int (leastM s t ps)) := by
  have h1 := asked_shop_ok hs
  have h2 := asked_till_ok s ht
  have h3 := asked_places_ok hs hp
  have h4 := least_of_ok hs ht hp.le
  simp only [eI] at h2 h4
  simp [D_least, B_least, h1, h2, h3, h4]
end T_k12
/-! ML: what the law's own makers answer: numbers, places, the way up. -/
namespace T_k12
open PySem L2 PL
theorem number_ok {c w : Int} {K a : Nat} (hc : Bd K c) (hw : Bd K w) (ha : a ≤ 100000) (hK : K ≤ 2000000) : ∃ z : Int, D__law_number [.int c, .int a, .int w] = .ok (.int z) := by
  have p0 : powOk 10 18 = true := powOk_s (by decide) (by decide) (by decide)
  have v1 : divOk (1 + (a : Int) % 7) = true := divOk_s (by omega) (by omega)
  have v2 : divOk (1009 + (a : Int)) = true := divOk_s (by omega) (by omega)
  have hc := hc.mono (show K ≤ K + 70 by omega)
  have hw := hw.mono (show K ≤ K + 200 by omega)
  have m1 : mulOk 977 (a : Int) = true := mulOk_s (by omega) (by omega) (by omega) (by omega)
  have b1 : Bd (K + 71) (c + 977 * a) := hc.add' ((Bd.s (i := 977) (by decide) (by decide)).mul (.nat (n := a) (by omega))) (by omega) (by omega)
  have m2 : mulOk (c + 977 * (a : Int)) 48271 = true := mulOk_b b1 (.s (by decide) (by decide)) (by omega)
  have m3 : mulOk 31 (a : Int) = true := mulOk_s (by omega) (by omega) (by omega) (by omega)
  have b2 : Bd (K + 72) (c + 31 * (a : Int) + 7) := ((hc.add' ((Bd.s (i := 31) (by decide) (by decide)).mul (.nat (n := a) (by omega))) (by omega) (by omega) : Bd (K + 71) (c + 31 * (a : Int)))).add' (.s (by decide) (by decide)) (by omega) (by omega)
  by_cases h18 : 1000000000000000000 ≤ c
  · simp [D__law_number, B__law_number, p0, v1, h18]
  · simp [D__law_number, B__law_number, p0, h18, m1, m2, m3]
    have hb : Bd 32 (((c + 977 * (a : Int)) * 48271 + w) % 2147483647) := .lt (by
      have := Int.emod_nonneg ((c + 977 * (a : Int)) * 48271 + w) (b := 2147483647) (by decide)
      have := Int.emod_lt_of_pos ((c + 977 * (a : Int)) * 48271 + w) (b := 2147483647) (by decide)
      omega)
    revert hb
    generalize ((c + 977 * (a : Int)) * 48271 + w) % 2147483647 = b
    intro hb
    have m4 : mulOk b (c + 31 * (a : Int) + 7) = true := mulOk_b hb b2 (by omega)
    have b5 : Bd (K + 72) (b + c + 5) := ((hb.add' hc (by omega) (by omega) : Bd (K + 71) (b + c))).add' (.s (by decide) (by decide)) (by omega) (by omega)
    have m5 : mulOk (b * (c + 31 * (a : Int) + 7)) (b + c + 5) = true := mulOk_b (hb.mul b2) b5 (by omega)
    have m6 : mulOk b b = true := mulOk_b hb hb (by omega)
    have b7 : Bd 65 (b * b + 11) := (hb.mul hb).add' (.s (by decide) (by decide)) (by omega) (by omega)
    have m7 : mulOk (b * (c + 31 * (a : Int) + 7) * (b + c + 5)) (b * b + 11) = true := mulOk_b ((hb.mul b2).mul b5) b7 (by omega)
    simp [m4, m5, m6, m7, v2]
/-! ### the way up -/
/-! ### items of the script -/
structure Cells (cs : List Int) : Prop where
  pos : 0 < cs.length
  le : cs.length ≤ 63
  bd : ∀ z ∈ cs, Bd 1048576 z
theorem Cells.sum {cs : List Int} (h : Cells cs) : Bd 1048700 cs.sum := by
  have go : ∀ (n : Nat) (cs : List Int), cs.length ≤ n → (∀ z ∈ cs, Bd 1048576 z) → Bd (1048576 + n) cs.sum := by
    intro n
    induction n with
    | zero => intro cs h _; obtain rfl : cs = [] := List.eq_nil_of_length_eq_zero (by omega); exact (Bd.s (i := 0) (by decide) (by decide)).mono (by omega)
    | succ n ih =>
      intro cs h hb
      cases cs with
      | nil => exact (Bd.s (i := 0) (by decide) (by decide)).mono (by omega)
      | cons c cs =>
        rw [List.sum_cons]
        exact (hb c List.mem_cons_self).add' (ih cs (by simp at h; omega) fun z hz => hb z (List.mem_cons_of_mem _ hz)) (by omega) (by omega)
  exact (go 63 cs h.le h.bd).mono (by omega)
def cellsOf (ns : List Int) : List Int := if ns = [] then [5] else ns
theorem cells_of {ns : List Int} (hl : ns.length ≤ 63) (hb : ∀ z ∈ ns, Builtin.Int.intBits z ≤ 1048576) : Cells (cellsOf ns) := by
  unfold cellsOf
  split
  · exact ⟨by decide, by decide, fun z hz => by
      obtain rfl : z = 5 := by simpa using hz
      exact (Bd.s (by decide) (by decide)).mono (by omega)⟩
  · rename_i h
    exact ⟨List.length_pos_iff.mpr h, hl, fun z hz => ⟨hb z hz⟩⟩
theorem cells_sl {ns : List Int} (hl : ns.length ≤ 63) : cutL ns none (some 63) = ns := cut_whole ⟨rfl, by
  unfold HT.sIx
  simp
  omega⟩
theorem cell_at {cs : List Int} (h : Cells cs) (i : Int) : ∃ c, Bd 1048576 c ∧ atI (cs.map D.int) (i % (cs.length : Int)) = some (.int c) := by
  have h0 := h.pos
  have h1 := Int.emod_nonneg i (b := (cs.length : Int)) (by omega)
  have h2 := Int.emod_lt_of_pos i (b := (cs.length : Int)) (by omega)
  obtain ⟨k, hk⟩ := Int.eq_ofNat_of_zero_le h1
  rw [hk] at h2 ⊢
  have hk' : k < cs.length := by omega
  exact ⟨cs[k], h.bd _ (List.getElem_mem _), by rw [atI_n]; simp [hk']⟩
theorem abs_le {k : Nat} {i : Int} (h : Bd k i) : Bd k (if i < 0 then -i else i) := by
  split
  · exact h.neg
  · exact h
theorem abs_pos (i : Int) : 0 ≤ if i < 0 then -i else i := by split <;> omega
theorem cEq_eS (s s' : Shop) : cEq (.lst (s.map eP)) (.lst (s'.map eP)) = some (decide (s = s')) := cEq_en (α := List (Nat × Nat)) (by decide) s s'
theorem cEq_eN (s s' : List Nat) : cEq (.lst (s.map eI)) (.lst (s'.map eI)) = some (decide (s = s')) := cEq_en (α := List Nat) (by decide) s s'
end T_k12
/-! MA: the shop and the places that the law makes. -/
namespace T_k12
open PySem L2 PL
theorem range'_cons {a n : Nat} : List.range' a (n + 1) = a :: List.range' (a + 1) n := rfl
theorem VS.snoc {s : Shop} (h : VS s) {q : Nat × Nat} (hl : s.length < 99) (h1 : q.1 ≤ s.length) (h2 : 1 ≤ q.2) (h3 : q.2 ≤ 9) : VS (s ++ [q]) := ⟨by simp; omega, fun i p hp => by
  by_cases hi : i < s.length
  · rw [List.getElem?_append_left hi] at hp
    exact h.at_ i p hp
  · rw [List.getElem?_append_right (by omega)] at hp
    have := (List.getElem?_eq_some_iff.mp hp).1
    obtain rfl : i = s.length := by simp at this; omega
    simp at hp
    subst hp
    exact ⟨h1, h2, h3⟩⟩
theorem kind_at {k : Int} (h0 : 0 ≤ k) (h : k < 4) (a b c d : Int) : atI [D.int a, .int b, .int c, .int d] k = some (.int (if k = 0 then a else if k = 1 then b else if k = 2 then c else d)) := by
  have : k = 0 ∨ k = 1 ∨ k = 2 ∨ k = 3 := by omega
  rcases this with rfl | rfl | rfl | rfl <;> rfl
theorem cell_num {cs : List Int} (hC : Cells cs) {w : Int} (hw : Bd 1049000 w) {x : Nat} (hx : x ≤ 100) {i : Int} {a : Nat} (ha : a ≤ 1000) : ∃ c z : Int, atI (cs.map D.int) (i % (cs.length : Int)) = some (.int c) ∧ D__law_number [.int (c + (x : Int) / (cs.length : Int)), .int a, .int w] = .ok (.int z) := by
  obtain ⟨c, hc, ec⟩ := cell_at hC i
  have hpos := hC.pos
  have : Bd 32 ((x : Int) / (cs.length : Int)) := by
    have h1 := Int.ediv_le_self (cs.length : Int) (show (0 : Int) ≤ x by omega)
    have h2 := Int.ediv_nonneg (show (0 : Int) ≤ x by omega) (show (0 : Int) ≤ cs.length by omega)
    exact .s (by omega) (by omega)
  obtain ⟨z, hz⟩ := number_ok (K := 1049000) (a := a) (hc.add' this (by omega) (by omega)) hw (by omega) (by omega)
  exact ⟨c, z, ec, hz⟩
theorem abs3 (z : Int) : 0 ≤ (if z < 0 then -z else z) / 3 := by
  have := abs_pos z
  omega
theorem shop_ok {ns : List Int} (hl : ns.length ≤ 63) (hb : ∀ z ∈ ns, Builtin.Int.intBits z ≤ 1048576) {by' most : Nat} (hby : by' ≤ 100) (hm : most ≤ 60) : ∃ s : Shop, D__law_shop [.scr ns, .int by', .int most] = .ok (eS s) ∧ VS s ∧ s.length ≤ most := by
  have hC := cells_of hl hb
  have e0 : (if ns = [] then R.ok (D.lst [D.int 5]) else R.ok (D.lst (ns.map D.int))) = R.ok (D.lst ((cellsOf ns).map D.int)) := by
    unfold cellsOf
    split <;> rfl
  have hS := abs_le hC.sum
  have hS0 := abs_pos (cellsOf ns).sum
  have hpos := hC.pos
  have m1 : mulOk 7 (by' : Int) = true := mulOk_s (by decide) (by decide) (by omega) (by omega)
  have v4 : divOk 4 = true := divOk_s (by decide) (by decide)
  have v3 : divOk 3 = true := divOk_s (by decide) (by decide)
  have v9 : divOk 9 = true := divOk_s (by decide) (by decide)
  have vl : divOk ((cellsOf ns).length : Int) = true := divOk_s (by omega) (by have := hC.le; omega)
  have hmost : (0 : Int) < (most : Int) + 1 := by omega
  simp [D__law_shop, B__law_shop, cells_sl hl]
  rw [e0]
  simp [m1, v4, hmost]
  have hw : Bd 1049000 ((if (cellsOf ns).sum < 0 then -(cellsOf ns).sum else (cellsOf ns).sum) + 7 * (by' : Int)) := hS.add' (.s (i := 7 * (by' : Int)) (by omega) (by omega)) (by omega) (by omega)
  have hw0 : 0 ≤ (if (cellsOf ns).sum < 0 then -(cellsOf ns).sum else (cellsOf ns).sum) + 7 * (by' : Int) := by omega
  revert hw hw0
  generalize (if (cellsOf ns).sum < 0 then -(cellsOf ns).sum else (cellsOf ns).sum) + 7 * (by' : Int) = w
  intro hw hw0
  have hm0 := Int.emod_nonneg (w / 4) (b := (most : Int) + 1) (by omega)
  have hm1 := Int.emod_lt_of_pos (w / 4) hmost
  revert hm0 hm1
  generalize w / 4 % ((most : Int) + 1) = m
  intro hm0 hm1
  have e1 : inRg m = true := inRg_s (by omega) (by omega)
  have e2 := lineOk_s (n := m.toNat) (by omega)
  simp [e1, e2, range_len]
  have k0 := Int.emod_nonneg w (b := 4) (by decide)
  have k1 := Int.emod_lt_of_pos w (b := 4) (by decide)
  revert k0 k1
  generalize w % 4 = k
  intro k0 k1
  generalize cellsOf ns = cs at *
  rw [rangeD_map]
  obtain ⟨s', j', h1, h2, h3, h4⟩ := fo_inv (g := gNm 5) (b := L__law_shop_0) (α := Shop) (J := Sl × Sl × Sl × Sl) (fun s j => [.sh (.scr ns), .sh (.int by'), .sh (.int most), .sh (.lst (cs.map D.int)), .sh (.int k), j.1, .sh (.int w), .ow (s.map eP), j.2.1, j.2.2.1, j.2.2.2]) (fun k : Nat => D.int k)
    (fun r s => VS s ∧ s.length + r.length = m.toNat ∧ r = List.range' s.length r.length) (by
      intro x r s j ⟨g1, g2, g3⟩
      have g3 : x = s.length ∧ r = List.range' (s.length + 1) r.length := by simpa [List.length_cons, List.range'_succ] using g3
      obtain ⟨hx, hr⟩ := g3
      simp only [List.length_cons] at g2
      obtain ⟨c, z, ec, hz⟩ := cell_num hC hw (x := x) (by omega) (i := (x : Int) + by') (a := x + by') (by omega)
      obtain ⟨q, eq, hq⟩ : ∃ q : Int, (if z < 0 then -z else z) / 3 = q ∧ 0 ≤ q := ⟨_, rfl, abs3 z⟩
      rw [Int.natCast_add] at hz
      have hx1 : (0 : Int) < (x : Int) + 1 := by omega
      have hlt := ltLine_s (n := s.length) (by omega)
      have hpl : ∃ n : Nat, (if k = 0 then (x : Int) else if k = 1 then 0 else if k = 2 then q / 9 % ((x : Int) + 1) else if q / 9 % 3 < (x : Int) then (x : Int) - q / 9 % 3 else 0) = (n : Int) ∧ n ≤ x := by
        have a1 := Int.emod_nonneg (q / 9) (b := (x : Int) + 1) (by omega)
        have a2 := Int.emod_lt_of_pos (q / 9) hx1
        split
        · exact ⟨x, rfl, by omega⟩
        · split
          · exact ⟨0, rfl, by omega⟩
          · split
            · exact ⟨(q / 9 % ((x : Int) + 1)).toNat, by omega, by omega⟩
            · split
              · exact ⟨((x : Int) - q / 9 % 3).toNat, by omega, by omega⟩
              · exact ⟨0, rfl, by omega⟩
      obtain ⟨n, en, hn⟩ := hpl
      have hln : ∃ l : Nat, 1 + q % 9 = (l : Int) ∧ 1 ≤ l ∧ l ≤ 9 := ⟨(1 + q % 9).toNat, by omega, by omega, by omega⟩
      obtain ⟨l, el, hl1, hl2⟩ := hln
      refine ⟨_, s ++ [(n, l)], (.sh (.int x), .sh (.int (c + (x : Int) / (cs.length : Int))), .sh (.int q), .sh (.int n)), rfl, .inl ?_, g1.snoc (by omega) (by simp; omega) hl1 hl2, by simp; omega, by simpa using hr⟩
      simp [ec, hz, hpos, vl, v3, v9, hx1, hlt, kind_at k0 k1, eq, en, el]
      ) (List.range m.toNat) [] (.no, .no, .no, .no) ⟨⟨by simp, fun i p h => by simp at h⟩, by simp, by simp [List.range_eq_range']⟩
  refine ⟨s', ?_, h2, by simp at h3; omega⟩
  simp only [List.map_nil] at h1
  rw [h1]
  simp
/-! ### some places -/
theorem some_ok {ns : List Int} (hl : ns.length ≤ 63) (hb : ∀ z ∈ ns, Builtin.Int.intBits z ≤ 1048576) {by' : Nat} (hby : by' ≤ 100) (s : Shop) (hs : s.length ≤ 99) : ∃ (t : Nat) (ps : List Nat), D__law_some [.scr ns, .int by', eS s] = .ok (.tup [eI t, eN ps]) ∧ t ≤ s.length ∧ VP s.length ps := by
  have hC := cells_of hl hb
  have e0 : (if ns = [] then R.ok (D.lst [D.int 5]) else R.ok (D.lst (ns.map D.int))) = R.ok (D.lst ((cellsOf ns).map D.int)) := by
    unfold cellsOf
    split <;> rfl
  have hS := abs_le hC.sum
  have hS0 := abs_pos (cellsOf ns).sum
  have hpos := hC.pos
  have m1 : mulOk 11 (by' : Int) = true := mulOk_s (by decide) (by decide) (by omega) (by omega)
  have v7 : divOk 7 = true := divOk_s (by decide) (by decide)
  have v3 : divOk 3 = true := divOk_s (by decide) (by decide)
  have v31 : divOk 31 = true := divOk_s (by decide) (by decide)
  have p6 : powOk 10 6 = true := powOk_s (by decide) (by decide) (by decide)
  simp [D__law_some, B__law_some, cells_sl hl]
  rw [e0]
  simp [m1, v7, p6]
  have hw : Bd 1049000 ((if (cellsOf ns).sum < 0 then -(cellsOf ns).sum else (cellsOf ns).sum) + 11 * (by' : Int)) := hS.add' (.s (i := 11 * (by' : Int)) (by omega) (by omega)) (by omega) (by omega)
  have hw0 : 0 ≤ (if (cellsOf ns).sum < 0 then -(cellsOf ns).sum else (cellsOf ns).sum) + 11 * (by' : Int) := by omega
  revert hw hw0
  generalize (if (cellsOf ns).sum < 0 then -(cellsOf ns).sum else (cellsOf ns).sum) + 11 * (by' : Int) = w
  intro hw hw0
  have k0 := Int.emod_nonneg (w / 7) (b := 4) (by decide)
  have k1 := Int.emod_lt_of_pos (w / 7) (b := 4) (by decide)
  have e1 : inRg ((s.length : Int) + 1) = true := inRg_s (by omega) (by omega)
  have e2 := lineOk_s (n := s.length + 1) (by omega)
  have e3 : ((s.length : Int) + 1).toNat = s.length + 1 := by omega
  have hwide : ∃ wd : Int, atI [D.int 1, .int 3, .int 9, .int 1000000] (w / 7 % 4) = some (.int wd) ∧ 0 < wd := ⟨_, kind_at k0 k1 1 3 9 1000000, by (repeat' split) <;> decide⟩
  obtain ⟨wd, ewd, hwd⟩ := hwide
  simp [ewd, e1, e2, e3, range_len]
  generalize cellsOf ns = cs at *
  rw [rangeD_map]
  obtain ⟨ps, j', h1, a, h4, h5, h6, h7, h8⟩ := fo_inv (g := gNm 5) (b := L__law_some_0) (α := List Nat) (J := Sl × Sl) (fun ps j => [.sh (.scr ns), .sh (.int by'), .sh (eS s), .sh (.lst (cs.map D.int)), .sh (.int w), j.1, .sh (.int wd), .ow (ps.map eI), j.2]) (fun k : Nat => D.int k)
    (fun r ps => ∃ a, r = List.range' a r.length ∧ a + r.length = s.length + 1 ∧ ps.Pairwise (· < ·) ∧ (∀ p ∈ ps, p < a) ∧ ps.length ≤ a) (by
      intro x r ps j ⟨a, g1, g2, g3, g4, g5⟩
      have g1 : x = a ∧ r = List.range' (a + 1) r.length := by simpa [List.length_cons, List.range'_succ] using g1
      obtain ⟨rfl, hr⟩ := g1
      simp only [List.length_cons] at g2
      have hlt := ltLine_s (n := ps.length) (by omega)
      obtain ⟨c, hc, ec⟩ := cell_at hC ((x : Int) + by')
      have hcx : Bd 1049000 (c + (x : Int)) := hc.add' (Bd.nat (n := x) (by omega)) (by omega) (by omega)
      obtain ⟨z, hz⟩ := number_ok (a := x + 5) hcx hw (by omega) (by omega)
      have e5 : ((x + 5 : Nat) : Int) = (x : Int) + 5 := by omega
      rw [e5] at hz
      by_cases hq : ((if z < 0 then -z else z) / 3 % 1000000 % wd = 0)
      · refine ⟨_, ps ++ [x], (.sh (.int x), .sh (.int ((if z < 0 then -z else z) / 3))), rfl, .inl ?_, x + 1, hr, by omega, ?_, ?_, by simp; omega⟩
        · simp [ec, hz, hpos, v3, p6, hwd, hq, hlt]
        · rw [List.pairwise_append]
          exact ⟨g3, by simp, fun p hp q hq => by obtain rfl : q = x := by simpa using hq
                                                  exact g4 p hp⟩
        · intro p hp
          rcases List.mem_append.mp hp with hp | hp
          · have := g4 p hp; omega
          · have : p = x := by simpa using hp
            omega
      · refine ⟨_, ps, (.sh (.int x), .sh (.int ((if z < 0 then -z else z) / 3))), rfl, .inl ?_, x + 1, hr, by omega, g3, fun p hp => by have := g4 p hp; omega, by omega⟩
        simp [ec, hz, hpos, v3, p6, hwd, hq]
      ) (List.range (s.length + 1)) [] (.no, .no) ⟨0, by simp [List.range_eq_range'], by simp, .nil, by simp, by simp⟩
  have h1 := h1
  rw [List.map_nil] at h1
  rw [h1]
  simp only [List.length_nil] at h5
  have t0 := Int.emod_nonneg (w / 31) (b := (s.length : Int) + 1) (by omega)
  have t1 := Int.emod_lt_of_pos (w / 31) (b := (s.length : Int) + 1) (by omega)
  refine ⟨(w / 31 % ((s.length : Int) + 1)).toNat, ps, ?_, by omega, ⟨h6, fun p hp => by have := h7 p hp; omega⟩⟩
  have e6 : (0 : Int) < (s.length : Int) + 1 := by omega
  have e7 := lineOk_s (n := ps.length) (by omega)
  simp [v31, e6, e7]
  omega
end T_k12
/-! MB: the law's own account of what must be gone. -/
namespace T_k12
open PySem L2 PL
def putAll (v : Int) (qs : List Nat) (xs : List Int) : List Int := qs.foldl (fun xs q => xs.set (q - 1) v) xs
theorem putAll_len (v : Int) : ∀ (qs : List Nat) (xs : List Int), (putAll v qs xs).length = xs.length
  | [], _ => rfl
  | q :: qs, xs => by
    show (putAll v qs (xs.set (q - 1) v)).length = _
    rw [putAll_len v qs, List.length_set]
theorem putAll_at (v : Int) : ∀ (qs : List Nat) (xs : List Int), (∀ q ∈ qs, 1 ≤ q) → ∀ i, i < xs.length → (putAll v qs xs)[i]? = if (i + 1) ∈ qs then some v else xs[i]?
  | [], _, _, _, _ => by simp [putAll]
  | q :: qs, xs, h, i, hi => by
    show (putAll v qs (xs.set (q - 1) v))[i]? = _
    rw [putAll_at v qs _ (fun q hq => h q (List.mem_cons_of_mem _ hq)) i (by simpa using hi), List.getElem?_set]
    have := h q List.mem_cons_self
    by_cases h1 : i + 1 ∈ qs
    · simp [h1]
    · by_cases h2 : i + 1 = q
      · subst h2
        simp [hi]
      · have h3 : ¬ q - 1 = i := by omega
        simp [h1, h2, h3]
theorem put_loop {s : Shop} {b : Ev → R Fl} {d0 d1 d2 : D} {v : Int} {qs : List Nat} {xs : List Int} {a j : Sl} (hb : b = dSetI 3 (PL.d2 vSub (dVar 5) (dC (.int 1))) (dC (.int v))) (hx : xs.length = s.length) (hq : ∀ q ∈ qs, 1 ≤ q ∧ q ≤ s.length) :
    ∃ j', fo (gNm 5) b (qs.map eI) [.sh d0, .sh d1, .sh d2, .ow (xs.map D.int), a, j] = .ok (.nx [.sh d0, .sh d1, .sh d2, .ow ((putAll v qs xs).map D.int), a, j']) := by
  subst hb
  exact fo_fold (α := List Int) (J := Sl) (fun xs j => [.sh d0, .sh d1, .sh d2, .ow (xs.map D.int), a, j]) (fun xs q => xs.set (q - 1) v) eI (fun xs r => xs.length = s.length ∧ ∀ q ∈ r, 1 ≤ q ∧ q ≤ s.length) (by
    intro xs j x r ⟨h1, h2⟩
    have hx := h2 x List.mem_cons_self
    refine ⟨_, .sh (eI x), rfl, .inl ?_, by simpa using h1, fun q hq => h2 q (List.mem_cons_of_mem _ hq)⟩
    have e1 : ((x : Int) - 1) = ((x - 1 : Nat) : Int) := by omega
    simp [e1, ixN_n, h1, show x - 1 < s.length by omega]) qs xs j ⟨hx, hq⟩
def putUps (s : Shop) (ps : List Nat) (xs : List Int) : List Int := ps.foldl (fun xs p => putAll 2 (up s p) xs) xs
theorem putUps_len (s : Shop) : ∀ (ps : List Nat) (xs : List Int), (putUps s ps xs).length = xs.length
  | [], _ => rfl
  | p :: ps, xs => by
    show (putUps s ps (putAll 2 (up s p) xs)).length = _
    rw [putUps_len s ps, putAll_len]
theorem putUps_at (s : Shop) : ∀ (ps : List Nat) (xs : List Int) (i : Nat), i < xs.length → (putUps s ps xs)[i]? = if onW s ps (i + 1) = true then some 2 else xs[i]?
  | [], _, _, _ => by simp [putUps, onW]
  | p :: ps, xs, i, hi => by
    show (putUps s ps (putAll 2 (up s p) xs))[i]? = _
    rw [putUps_at s ps _ i (by rw [putAll_len]; exact hi), putAll_at 2 _ _ (fun q hq => (up_le s p q hq).1) i hi]
    by_cases h1 : onW s ps (i + 1) = true
    · have : onW s (p :: ps) (i + 1) = true := by
        obtain ⟨q, hq, hj⟩ := onW_iff.mp h1
        exact onW_iff.mpr ⟨q, List.mem_cons_of_mem _ hq, hj⟩
      simp [h1, this]
    · by_cases h2 : i + 1 ∈ up s p
      · have : onW s (p :: ps) (i + 1) = true := onW_iff.mpr ⟨p, List.mem_cons_self, h2⟩
        simp [h1, h2, this]
      · have : ¬ onW s (p :: ps) (i + 1) = true := by
          intro h
          obtain ⟨q, hq, hj⟩ := onW_iff.mp h
          rcases List.mem_cons.mp hq with rfl | hq
          · exact h2 hj
          · exact h1 (onW_iff.mpr ⟨q, hq, hj⟩)
        simp [h1, h2, this]
theorem put_must {s : Shop} {t : Nat} {ps : List Nat} : putAll 1 (up s t) (putUps s ps (List.replicate s.length 0)) = mustM s t ps := by
  apply List.ext_getElem?
  intro i
  by_cases hi : i < s.length
  · rw [putAll_at 1 _ _ (fun q hq => (up_le s t q hq).1) i (by rw [putUps_len]; simpa using hi), putUps_at s ps _ i (by simpa using hi), mustM_at hi]
    unfold mustAt
    have : onW s [t] (i + 1) = true ↔ i + 1 ∈ up s t := by rw [onW_iff]; simp
    rw [List.getElem?_replicate, if_pos hi]
    by_cases h1 : i + 1 ∈ up s t
    · simp [h1, this.mpr h1]
    · have h2 : ¬ onW s [t] (i + 1) = true := fun h => h1 (this.mp h)
      simp [h1, h2]
      split <;> rfl
  · rw [List.getElem?_eq_none (by rw [putAll_len, putUps_len]; simp; omega), List.getElem?_eq_none (by rw [mustM_len]; omega)]
theorem zip_range {s : Shop} {t : Nat} {ps : List Nat} : (mustM s t ps).zip s = (List.range s.length).map fun i => (mustAt s t ps (i + 1), s.getD i (0, 0)) := by
  apply List.ext_getElem?
  intro i
  by_cases h : i < s.length
  · have a1 : s[i]? = some s[i] := List.getElem?_eq_getElem h
    rw [List.getElem?_zip_eq_some (z := (mustAt s t ps (i + 1), s[i])).mpr ⟨mustM_at h, a1⟩]
    simp [h, List.getD_eq_getElem?_getD]
  · rw [List.getElem?_eq_none (by simp [mustM_len]; omega), List.getElem?_eq_none (by simp; omega)]
/-! ### small things -/
theorem asked_all_ok {s : Shop} (hs : VS s) {t : Nat} (ht : t ≤ s.length) {ps : List Nat} (hp : VP s.length ps) : D_asked_all [eS s, eI t, eN ps] = .ok .non := by
  have h1 := asked_shop_ok hs
  have h2 := asked_till_ok s ht
  have h3 := asked_places_ok hs hp
  simp only [eI] at h2
  simp [D_asked_all, B_asked_all, h1, h2, h3]
theorem flatL_ints : ∀ ns : List Int, D.flatL (ns.map D.int) = true
  | [] => rfl
  | n :: ns => by
    have := flatL_ints ns
    simp [D.flatL, D.flat, this]
theorem intsD_append : ∀ (xs ys : List D), intsD (xs ++ ys) = (intsD xs).bind fun a => (intsD ys).map (a ++ ·)
  | [], ys => by simp
  | x :: xs, ys => by
    cases x <;> try rfl
    simp [intsD_append xs ys]
    cases intsD xs <;> simp
    cases intsD ys <;> simp
theorem sum_le {α : Type} (f g : α → Int) : ∀ (xs : List α), (∀ x ∈ xs, f x ≤ g x) → (xs.map f).sum ≤ (xs.map g).sum
  | [], _ => by simp
  | x :: xs, h => by
    have h1 := h x List.mem_cons_self
    have h2 := sum_le f g xs fun y hy => h y (List.mem_cons_of_mem _ hy)
    simp only [List.map_cons, List.sum_cons]
    omega
theorem least_le {s : Shop} {t : Nat} {ps q : List Nat} (h : ∀ k, k ∈ q → k ∈ ps) : leastM s t q ≤ leastM s t ps := by
  unfold leastM
  refine sum_le _ _ _ fun i _ => ?_
  refine Int.mul_le_mul_of_nonneg_right ?_ (by omega)
  unfold mustAt
  by_cases h1 : onW s [t] (i + 1) = true
  · simp [h1]
  · by_cases h2 : onW s q (i + 1) = true
    · have : onW s ps (i + 1) = true := by
        obtain ⟨p, hp, hj⟩ := onW_iff.mp h2
        exact onW_iff.mpr ⟨p, h p hp, hj⟩
      simp [h1, h2, this]
    · simp [h1, h2]
      split <;> decide
theorem VP.tail {n : Nat} {ps : List Nat} (h : VP n ps) : VP n ps.tail := ⟨h.up.tail, fun p hp => h.le p (List.mem_of_mem_tail hp)⟩
theorem VP.nil (n : Nat) : VP n [] := ⟨.nil, by simp⟩
theorem VS.last {s : Shop} (h : VS s) {q : Nat × Nat} (h1 : q.1 = 0) (h2 : 1 ≤ q.2) (h3 : q.2 ≤ 9) : VS (s.set (s.length - 1) q) := ⟨by simpa using h.len, fun i p hp => by
  rw [List.getElem?_set] at hp
  split at hp
  · split at hp
    · obtain rfl := Option.some.inj hp
      omega
    · simp at hp
  · exact h.at_ i p hp⟩
theorem cut_tail {α : Type} (xs : List α) : cutL xs (some 1) none = xs.tail := by
  cases xs with
  | nil => simp [cutL]
  | cons x xs =>
    unfold cutL HT.sIx
    simp
theorem cEq_eS0 (s : Shop) : cEq (.lst (s.map eP)) (.lst []) = some (decide (s = [])) := cEq_eS s []
theorem cEq_eN0 (s : List Nat) : cEq (.lst (s.map eI)) (.lst []) = some (decide (s = [])) := cEq_eN s []
theorem VS.of {s : Shop} (h : s.length ≤ 99) (h' : (s.zipIdx.all fun x => decide (x.1.1 ≤ x.2) && decide (1 ≤ x.1.2) && decide (x.1.2 ≤ 9)) = true) : VS s := ⟨h, fun i p hp => by
  have := List.all_eq_true.mp h' (p, i) (List.mem_zipIdx_iff_getElem?.mpr hp)
  simp at this
  omega⟩
theorem VP.of {n : Nat} {ps : List Nat} (h : ps.Pairwise (· < ·)) (h' : (ps.all fun p => decide (p ≤ n)) = true) : VP n ps := ⟨h, fun p hp => by simpa using List.all_eq_true.mp h' p hp⟩
/-! ### by reckoning -/
def upF : Nat → Shop → Nat → List Nat
  | 0, _, _ => []
  | _ + 1, _, 0 => []
  | f + 1, s, p + 1 => (p + 1) :: upF f s (min (s.getD p (0, 0)).1 p)
theorem up_eq (s : Shop) : ∀ f p : Nat, p ≤ f → up s p = upF f s p := by
  intro f
  induction f with
  | zero => intro p h; obtain rfl : p = 0 := by omega
            rw [up_zero]; rfl
  | succ f ih =>
    intro p h
    cases p with
    | zero => rw [up_zero]; rfl
    | succ p => rw [up_succ, ih _ (by omega)]; rfl
def onC (s : Shop) (ps : List Nat) (j : Nat) : Bool := ps.any fun p => (upF p s p).contains j
theorem on_eq (s : Shop) (ps : List Nat) (j : Nat) : onW s ps j = onC s ps j := by
  unfold onW onC
  congr 1
  funext p
  rw [up_eq s p p (Nat.le_refl _)]
def mustC (s : Shop) (t : Nat) (ps : List Nat) (j : Nat) : Int := if onC s [t] j then 1 else if onC s ps j then 2 else 0
theorem must_eq (s : Shop) (t : Nat) (ps : List Nat) (j : Nat) : mustAt s t ps j = mustC s t ps j := by
  unfold mustAt mustC
  rw [on_eq, on_eq]
def leastC (s : Shop) (t : Nat) (ps : List Nat) : Int := (((List.range s.length).map fun i => mustC s t ps (i + 1) * ((s.getD i (0, 0)).2 : Int))).sum
theorem least_eq (s : Shop) (t : Nat) (ps : List Nat) : leastM s t ps = leastC s t ps := by
  unfold leastM leastC
  simp only [must_eq]
end T_k12
/-! MW: the way. -/
namespace T_k12
open PySem L2 PL
/-- the place ahead of place j -/
def par (s : Shop) (j : Nat) : Nat := (s.getD (j - 1) (0, 0)).1
theorem par_lt {s : Shop} (hs : VS s) {j : Nat} (h : 1 ≤ j) (hj : j ≤ s.length) : par s j < j := by
  have a1 : s[j - 1]? = some s[j - 1] := List.getElem?_eq_getElem (by omega)
  have := (hs.at_ _ _ a1).1
  unfold par
  rw [List.getD_eq_getElem?_getD, a1]
  simp only [Option.getD_some]
  omega
theorem up_step {s : Shop} (hs : VS s) {j : Nat} (h : 1 ≤ j) (hj : j ≤ s.length) : up s j = j :: up s (par s j) := by
  obtain ⟨p, rfl⟩ : ∃ p, j = p + 1 := ⟨j - 1, by omega⟩
  have a1 : s[p]? = some s[p] := List.getElem?_eq_getElem (by omega)
  rw [up_at hs a1]
  unfold par
  rw [List.getD_eq_getElem?_getD, Nat.add_sub_cancel, a1]
  rfl
theorem up_child {s : Shop} (hs : VS s) : ∀ (h p : Nat), h ≤ s.length → (p = 0 ∧ 1 ≤ h) ∨ (p ∈ up s h ∧ p ≠ h) → ∃ c ∈ up s h, par s c = p ∧ 1 ≤ c := by
  intro h
  induction h using Nat.strongRecOn with
  | _ h ih =>
    intro p hh hp
    have h1 : 1 ≤ h := by
      rcases hp with hp | hp
      · exact hp.2
      · have := up_le s h p hp.1; omega
    have hst := up_step hs h1 hh
    have hpl := par_lt hs h1 hh
    by_cases e : par s h = p
    · exact ⟨h, up_self s h1, e, h1⟩
    · have : (p = 0 ∧ 1 ≤ par s h) ∨ (p ∈ up s (par s h) ∧ p ≠ par s h) := by
        rcases hp with hp | hp
        · exact .inl ⟨hp.1, by omega⟩
        · right
          rw [hst] at hp
          rcases List.mem_cons.mp hp.1 with z | z
          · exact absurd z hp.2
          · exact ⟨z, fun y => e y.symm⟩
      obtain ⟨c, hc, h2, h3⟩ := ih _ hpl p (by omega) this
      exact ⟨c, by rw [hst]; exact List.mem_cons_of_mem _ hc, h2, h3⟩
theorem up_inj {s : Shop} (hs : VS s) : ∀ (h c c' : Nat), h ≤ s.length → c ∈ up s h → c' ∈ up s h → par s c = par s c' → c = c' := by
  intro h
  induction h using Nat.strongRecOn with
  | _ h ih =>
    intro c c' hh hc hc' e
    cases h with
    | zero => rw [up_zero] at hc; simp at hc
    | succ p =>
      have hst := up_step hs (j := p + 1) (by omega) hh
      have hpl := par_lt hs (j := p + 1) (by omega) hh
      rw [hst] at hc hc'
      -- whoever is in up (par h) has a lesser place ahead than par h
      have less : ∀ x ∈ up s (par s (p + 1)), par s x < par s (p + 1) := fun x hx => by
        have := up_le s _ x hx
        have := par_lt hs (j := x) this.1 (by omega)
        omega
      rcases List.mem_cons.mp hc with rfl | hc
      · rcases List.mem_cons.mp hc' with rfl | hc'
        · rfl
        · have := less c' hc'; omega
      · rcases List.mem_cons.mp hc' with rfl | hc'
        · have := less c hc; omega
        · exact ih _ hpl c c' (by omega) hc hc' e
/-! ### how often -/
theorem often_one {s : Shop} {t : Nat} {ps : List Nat} {j : Nat} : mustAt s t ps j = 1 ↔ j ∈ up s t := by
  have : onW s [t] j = true ↔ j ∈ up s t := by rw [onW_iff]; simp
  unfold mustAt
  by_cases h : onW s [t] j = true
  · simp [h, this.mp h]
  · rw [if_neg h]
    constructor
    · intro e
      split at e <;> simp at e
    · intro e
      exact absurd (this.mpr e) h
theorem often_par {s : Shop} (hs : VS s) {t : Nat} {ps : List Nat} {j : Nat} (h : 1 ≤ j) (hj : j ≤ s.length) (ho : 1 ≤ mustAt s t ps j) (hp : 1 ≤ par s j) : 1 ≤ mustAt s t ps (par s j) := by
  have hsub : ∀ q : Nat, j ∈ up s q → par s j ∈ up s q := fun q hq => up_sub s q j (par s j) hq (by rw [up_step hs h hj]; exact List.mem_cons_of_mem _ (up_self s hp))
  have hon : ∀ qs : List Nat, onW s qs j = true → onW s qs (par s j) = true := fun qs hq => by
    obtain ⟨q, hq1, hq2⟩ := onW_iff.mp hq
    exact onW_iff.mpr ⟨q, hq1, hsub q hq2⟩
  unfold mustAt at ho ⊢
  by_cases h1 : onW s [t] (par s j) = true
  · simp [h1]
  · by_cases h2 : onW s ps (par s j) = true
    · simp [h1, h2]
    · have h3 : ¬ onW s [t] j = true := fun z => h1 (hon _ z)
      have h4 : ¬ onW s ps j = true := fun z => h2 (hon _ z)
      simp [h3, h4] at ho
/-! ### walks -/
def cntW : List Nat → Nat → Nat
  | a :: b :: w, j => (if max a b = j then 1 else 0) + cntW (b :: w) j
  | _, _ => 0
theorem cnt_snoc : ∀ (w : List Nat) (a b j : Nat), cntW (w ++ [a, b]) j = cntW (w ++ [a]) j + (if max a b = j then 1 else 0)
  | [], a, b, j => by simp [cntW]
  | [x], a, b, j => by simp [cntW]
  | x :: y :: w, a, b, j => by
    have := cnt_snoc (y :: w) a b j
    simp only [List.cons_append] at this ⊢
    simp only [cntW]
    omega
/-- from each place to one next to it -/
def Adj (s : Shop) : List Nat → Prop
  | a :: b :: w => (a ≠ b ∧ par s (max a b) = min a b ∧ max a b ≤ s.length) ∧ Adj s (b :: w)
  | _ => True
theorem adj_snoc (s : Shop) : ∀ (w : List Nat) (a b : Nat), Adj s (w ++ [a]) → (a ≠ b ∧ par s (max a b) = min a b ∧ max a b ≤ s.length) → Adj s (w ++ [a, b])
  | [], a, b, _, h => ⟨h, trivial⟩
  | [x], a, b, h0, h => ⟨h0.1, h, trivial⟩
  | x :: y :: w, a, b, h0, h => ⟨h0.1, adj_snoc s (y :: w) a b h0.2 h⟩
/-! ### the branches -/
def kids (s : Shop) (o : Nat → Int) (m : Int) (p : Nat) : List Nat := (downs s.length).filter fun j => decide (o j = m) && decide (par s j = p)
def init (s : Shop) (o : Nat → Int) (p : Nat) : List Nat := kids s o 1 p ++ kids s o 2 p
theorem mem_downs : ∀ {n j : Nat}, j ∈ downs n ↔ 1 ≤ j ∧ j ≤ n
  | 0, j => by simp [downs]; omega
  | n + 1, j => by
    rw [downs, List.mem_cons, mem_downs]
    omega
theorem downs_nd : ∀ n : Nat, (downs n).Nodup
  | 0 => .nil
  | n + 1 => by
    rw [downs, List.nodup_cons]
    exact ⟨fun h => by have := mem_downs.mp h; omega, downs_nd n⟩
theorem mem_kids {s : Shop} {o : Nat → Int} {m : Int} {p j : Nat} : j ∈ kids s o m p ↔ (1 ≤ j ∧ j ≤ s.length) ∧ o j = m ∧ par s j = p := by
  unfold kids
  rw [List.mem_filter, mem_downs]
  simp
theorem init_nd {s : Shop} {o : Nat → Int} {p : Nat} : (init s o p).Nodup := by
  unfold init
  rw [List.nodup_append]
  refine ⟨(downs_nd _).filter _, (downs_nd _).filter _, fun a ha b hb e => ?_⟩
  subst e
  have h1 := (mem_kids.mp ha).2.1
  have h2 := (mem_kids.mp hb).2.1
  omega
theorem mem_init {s : Shop} {o : Nat → Int} {p j : Nat} : j ∈ init s o p ↔ (1 ≤ j ∧ j ≤ s.length) ∧ (o j = 1 ∨ o j = 2) ∧ par s j = p := by
  unfold init
  rw [List.mem_append, mem_kids, mem_kids]
  constructor
  · rintro (⟨a, b, c⟩ | ⟨a, b, c⟩)
    · exact ⟨a, .inl b, c⟩
    · exact ⟨a, .inr b, c⟩
  · rintro ⟨a, b | b, c⟩
    · exact .inl ⟨a, b, c⟩
    · exact .inr ⟨a, b, c⟩
/-- the state of the walk -/
structure Inv (s : Shop) (t : Nat) (ps : List Nat) (br : Nat → List Nat) (here : Nat) (w : List Nat) : Prop where
  le : here ≤ s.length
  ends : ∃ v, w = v ++ [here]
  head : w.head? = some 0
  adj : Adj s w
  pre : ∀ p, ∃ k, br p = (init s (mustAt s t ps) p).take k
  on : ∀ j ∈ up s here, 1 ≤ mustAt s t ps j ∧ j ∉ br (par s j)
  one : ∀ j, 1 ≤ j → j ≤ s.length → mustAt s t ps j = 1 → j ∉ br (par s j) → j ∈ up s here
  cnt : ∀ j, 1 ≤ j → j ≤ s.length → (cntW w j : Int) = if mustAt s t ps j = 0 then 0 else if j ∈ br (par s j) then 0 else if mustAt s t ps j = 2 ∧ j ∉ up s here then 2 else 1
  seen : ∀ j, 1 ≤ j → j ≤ s.length → 1 ≤ mustAt s t ps j → j ∉ br (par s j) → j ∈ w
  done : ∀ j, 1 ≤ j → j ≤ s.length → mustAt s t ps j = 2 → j ∉ br (par s j) → j ∉ up s here → br j = []
theorem Inv.sub {s : Shop} {t : Nat} {ps : List Nat} {br : Nat → List Nat} {here : Nat} {w : List Nat} (I : Inv s t ps br here w) {p j : Nat} (h : j ∈ br p) : (1 ≤ j ∧ j ≤ s.length) ∧ (mustAt s t ps j = 1 ∨ mustAt s t ps j = 2) ∧ par s j = p := by
  obtain ⟨k, e⟩ := I.pre p
  rw [e] at h
  exact mem_init.mp (List.mem_of_mem_take h)
theorem Inv.start (s : Shop) (t : Nat) (ps : List Nat) : Inv s t ps (init s (mustAt s t ps)) 0 [0] := by
  have hin : ∀ j, 1 ≤ j → j ≤ s.length → 1 ≤ mustAt s t ps j → j ∈ init s (mustAt s t ps) (par s j) := fun j h1 h2 h3 => mem_init.mpr ⟨⟨h1, h2⟩, by have := (mustAt_rng s t ps j).2; omega, rfl⟩
  refine ⟨Nat.zero_le _, ⟨[], rfl⟩, rfl, trivial, fun p => ⟨(init s (mustAt s t ps) p).length, by simp⟩, fun j hj => by rw [up_zero] at hj; simp at hj, fun j h1 h2 h3 h4 => absurd (hin j h1 h2 (by omega)) h4, fun j h1 h2 => ?_, fun j h1 h2 h3 h4 => absurd (hin j h1 h2 h3) h4, fun j h1 h2 h3 h4 => absurd (hin j h1 h2 (by omega)) h4⟩
  have r := mustAt_rng s t ps j
  by_cases h0 : mustAt s t ps j = 0
  · simp [h0, cntW]
  · have := hin j h1 h2 (by omega)
    simp [h0, this, cntW]
theorem Inv.down {s : Shop} (hs : VS s) {t : Nat} {ps : List Nat} {br : Nat → List Nat} {here c : Nat} {w l : List Nat} (I : Inv s t ps br here w) (hb : br here = l ++ [c]) : Inv s t ps (fun p => if p = here then l else br p) c (w ++ [c]) := by
  have hc := I.sub (p := here) (j := c) (by rw [hb]; simp)
  obtain ⟨⟨hc1, hc2⟩, hco, hcp⟩ := hc
  have hup : up s c = c :: up s here := by rw [up_step hs hc1 hc2, hcp]
  have hlt : here < c := by have := par_lt hs hc1 hc2; omega
  have hnd : (l ++ [c]).Nodup := by
    rw [← hb]
    obtain ⟨k, e⟩ := I.pre here
    rw [e]
    exact init_nd.sublist (List.take_sublist _ _)
  have hcl : c ∉ l := fun h => by
    rw [List.nodup_append] at hnd
    exact hnd.2.2 c h c (by simp) rfl
  -- who is still there
  have mem : ∀ j, j ∈ (if par s j = here then l else br (par s j)) ↔ j ∈ br (par s j) ∧ j ≠ c := fun j => by
    by_cases e : par s j = here
    · rw [if_pos e, e, hb]
      constructor
      · intro h
        exact ⟨List.mem_append_left _ h, fun z => hcl (z ▸ h)⟩
      · rintro ⟨h, n⟩
        rcases List.mem_append.mp h with h | h
        · exact h
        · exact absurd (List.mem_singleton.mp h) n
    · rw [if_neg e]
      exact ⟨fun h => ⟨h, fun z => e (by rw [z]; exact hcp)⟩, fun h => h.1⟩
  have hcb : c ∈ br (par s c) := by rw [hcp, hb]; simp
  have hcu : c ∉ up s here := fun h => by have := up_le s here c h; omega
  obtain ⟨v, hv⟩ := I.ends
  have hmax : max here c = c := by omega
  have hmin : min here c = here := by omega
  refine ⟨hc2, ⟨w, rfl⟩, ?_, ?_, fun p => ?_, fun j hj => ?_, fun j h1 h2 h3 h4 => ?_, fun j h1 h2 => ?_, fun j h1 h2 h3 h4 => ?_, fun j h1 h2 h3 h4 h5 => ?_⟩
  · have := I.head
    rw [hv] at this ⊢
    cases v <;> simpa using this
  · rw [hv, List.append_assoc]
    exact adj_snoc s v here c (hv ▸ I.adj) ⟨by omega, by rw [hmax, hmin]; exact hcp, by omega⟩
  · by_cases e : p = here
    · obtain ⟨k, ek⟩ := I.pre here
      refine ⟨l.length, ?_⟩
      show (if p = here then l else br p) = _
      rw [if_pos e, e]
      have h1 : l = (br here).take l.length := by rw [hb]; simp
      have h2 : l.length ≤ k := by
        have := congrArg List.length ek
        rw [hb, List.length_append, List.length_take] at this
        simp at this
        omega
      rw [ek, List.take_take, Nat.min_eq_left h2] at h1
      exact h1
    · show ∃ k, (if p = here then l else br p) = _
      rw [if_neg e]
      exact I.pre p
  · show _ ∧ j ∉ (if par s j = here then l else br (par s j))
    rw [mem]
    rw [hup] at hj
    rcases List.mem_cons.mp hj with rfl | hj
    · exact ⟨by omega, fun h => h.2 rfl⟩
    · exact ⟨(I.on j hj).1, fun h => (I.on j hj).2 h.1⟩
  · have h4 : j ∉ (if par s j = here then l else br (par s j)) := h4
    rw [mem] at h4
    rw [hup]
    by_cases e : j = c
    · rw [e]; exact List.mem_cons_self
    · exact List.mem_cons_of_mem _ (I.one j h1 h2 h3 fun h => h4 ⟨h, e⟩)
  · show _ = if mustAt s t ps j = 0 then 0 else if j ∈ (if par s j = here then l else br (par s j)) then 0 else _
    have h := I.cnt j h1 h2
    rw [hv] at h
    rw [hv, List.append_assoc, List.singleton_append, cnt_snoc, hmax, hup]
    simp only [mem]
    by_cases e : j = c
    · subst e
      have h0 : mustAt s t ps j ≠ 0 := by omega
      rw [if_neg h0, if_pos hcb] at h
      simp [h0]
      omega
    · have e' : c ≠ j := fun z => e z.symm
      simp only [if_neg e', Nat.add_zero, h, List.mem_cons, e, false_or, ne_eq, not_false_eq_true, and_true]
  · have h4 : j ∉ (if par s j = here then l else br (par s j)) := h4
    rw [mem] at h4
    by_cases e : j = c
    · rw [e]; simp
    · exact List.mem_append_left _ (I.seen j h1 h2 h3 fun h => h4 ⟨h, e⟩)
  · have h4 : j ∉ (if par s j = here then l else br (par s j)) := h4
    rw [mem] at h4
    rw [hup, List.mem_cons, not_or] at h5
    have hj := I.done j h1 h2 h3 (fun h => h4 ⟨h, h5.1⟩) h5.2
    show (if j = here then l else br j) = []
    by_cases e : j = here
    · rw [e, hb] at hj
      simp at hj
    · rw [if_neg e]; exact hj
theorem Inv.back {s : Shop} (hs : VS s) {t : Nat} {ps : List Nat} {br : Nat → List Nat} {here : Nat} {w : List Nat} (I : Inv s t ps br here w) (hb : br here = []) (h1 : 1 ≤ here) (h2 : mustAt s t ps here = 2) : Inv s t ps br (par s here) (w ++ [par s here]) := by
  have hup := up_step hs h1 I.le
  have hlt := par_lt hs h1 I.le
  obtain ⟨v, hv⟩ := I.ends
  have hmax : max here (par s here) = here := by omega
  have hmin : min here (par s here) = par s here := by omega
  have hno : here ∉ up s (par s here) := fun h => by have := up_le s _ _ h; omega
  have hon := I.on here (up_self s h1)
  refine ⟨by have := I.le; omega, ⟨w, rfl⟩, ?_, ?_, I.pre, fun j hj => I.on j (by rw [hup]; exact List.mem_cons_of_mem _ hj), fun j g1 g2 g3 g4 => ?_, fun j g1 g2 => ?_, fun j g1 g2 g3 g4 => List.mem_append_left _ (I.seen j g1 g2 g3 g4), fun j g1 g2 g3 g4 g5 => ?_⟩
  · have := I.head
    rw [hv] at this ⊢
    cases v <;> simpa using this
  · rw [hv, List.append_assoc]
    exact adj_snoc s v here _ (hv ▸ I.adj) ⟨by omega, by rw [hmax, hmin], by rw [hmax]; exact I.le⟩
  · have := I.one j g1 g2 g3 g4
    rw [hup] at this
    rcases List.mem_cons.mp this with rfl | h
    · omega
    · exact h
  · have h := I.cnt j g1 g2
    rw [hv] at h
    rw [hv, List.append_assoc, List.singleton_append, cnt_snoc, hmax]
    by_cases e : j = here
    · subst e
      rw [if_neg (by omega), if_neg hon.2, if_neg (fun z => z.2 (up_self s h1))] at h
      rw [if_pos rfl, if_neg (by omega), if_neg hon.2, if_pos ⟨h2, hno⟩]
      omega
    · have e' : here ≠ j := fun z => e z.symm
      rw [if_neg e', Nat.add_zero, h, hup]
      simp only [List.mem_cons, e, false_or]
  · by_cases e : j = here
    · rw [e]; exact hb
    · exact I.done j g1 g2 g3 g4 (by rw [hup, List.mem_cons, not_or]; exact ⟨e, g5⟩)
/-- a walk that comes to all and goes each stretch as often as it must -/
structure WayOk (s : Shop) (t : Nat) (ps w : List Nat) : Prop where
  head : w.head? = some 0
  last : w.getLast? = some t
  adj : Adj s w
  cnt : ∀ j, 1 ≤ j → j ≤ s.length → (cntW w j : Int) = mustAt s t ps j
  all : ∀ p ∈ ps, p ∈ w
theorem one_only {s : Shop} (hs : VS s) {t : Nat} (ht : t ≤ s.length) {ps : List Nat} {c : Nat} (h1 : 1 ≤ c) (h2 : c ≤ s.length) (ho : mustAt s t ps c = 1) : ∃ r, init s (mustAt s t ps) (par s c) = c :: r := by
  have hc : c ∈ kids s (mustAt s t ps) 1 (par s c) := mem_kids.mpr ⟨⟨h1, h2⟩, ho, rfl⟩
  have huniq : ∀ x ∈ kids s (mustAt s t ps) 1 (par s c), x = c := fun x hx => by
    obtain ⟨⟨a, b⟩, d, e⟩ := mem_kids.mp hx
    exact up_inj hs t x c ht (often_one.mp d) (often_one.mp ho) e
  unfold init
  cases hk : kids s (mustAt s t ps) 1 (par s c) with
  | nil => rw [hk] at hc; simp at hc
  | cons x r =>
    rw [hk] at huniq
    rw [huniq x List.mem_cons_self]
    exact ⟨_, rfl⟩
theorem Inv.gone1 {s : Shop} (hs : VS s) {t : Nat} (ht : t ≤ s.length) {ps : List Nat} {br : Nat → List Nat} {here : Nat} {w : List Nat} (I : Inv s t ps br here w) {c : Nat} (h1 : 1 ≤ c) (h2 : c ≤ s.length) (ho : mustAt s t ps c = 1) (hn : c ∉ br (par s c)) : br (par s c) = [] := by
  obtain ⟨k, e⟩ := I.pre (par s c)
  obtain ⟨r, hr⟩ := one_only hs ht h1 h2 ho
  rw [e, hr] at hn ⊢
  cases k with
  | zero => rfl
  | succ k => simp at hn
theorem Inv.fin {s : Shop} (hs : VS s) {t : Nat} (ht : t ≤ s.length) {ps : List Nat} (hp : ∀ p ∈ ps, p ≤ s.length) {br : Nat → List Nat} {here : Nat} {w : List Nat} (I : Inv s t ps br here w) (hb : br here = []) (hn : ¬ (1 ≤ here ∧ mustAt s t ps here = 2)) : WayOk s t ps w := by
  -- if one stands anywhere but at the door, it is on the way to the till
  have hone : 1 ≤ here → mustAt s t ps here = 1 := fun h => by
    have a := (I.on here (up_self s h)).1
    have b := (mustAt_rng s t ps here).2
    have : mustAt s t ps here ≠ 2 := fun z => hn ⟨h, z⟩
    omega
  have hsub : ∀ c, c ∈ up s here → mustAt s t ps c = 1 := fun c hc => by
    have h1 : 1 ≤ here := by have := up_le s _ _ hc; omega
    exact often_one.mpr (up_sub s t here c (often_one.mp (hone h1)) hc)
  -- nothing is left
  have norem : ∀ j, 1 ≤ j → j ≤ s.length → 1 ≤ mustAt s t ps j → j ∉ br (par s j) := by
    intro j
    induction j using Nat.strongRecOn with
    | _ j ih =>
      intro h1 h2 h3 hj
      have hpl := par_lt hs h1 h2
      have key : par s j ≠ here := fun z => by rw [z, hb] at hj; simp at hj
      have hc : ∃ c ∈ up s here, par s c = par s j ∧ 1 ≤ c := by
        refine up_child hs here (par s j) I.le ?_
        by_cases h0 : par s j = 0
        · exact .inl ⟨h0, by omega⟩
        · right
          have hpo := often_par hs h1 h2 h3 (by omega)
          have hpn := ih _ hpl (by omega) (by omega) hpo
          refine ⟨?_, key⟩
          have r := (mustAt_rng s t ps (par s j)).2
          by_cases e1 : mustAt s t ps (par s j) = 1
          · exact I.one _ (by omega) (by omega) e1 hpn
          · by_cases hu : par s j ∈ up s here
            · exact hu
            · have := I.done _ (by omega) (by omega) (by omega) hpn hu
              rw [this] at hj
              simp at hj
      obtain ⟨c, hcu, hcp, hc1⟩ := hc
      have hcl := up_le s _ _ hcu
      have := I.gone1 hs ht hc1 (by have := I.le; omega) (hsub c hcu) (I.on c hcu).2
      rw [hcp] at this
      rw [this] at hj
      simp at hj
  have hht : here = t := by
    by_cases h0 : here = 0
    · by_cases t0 : t = 0
      · omega
      · have o := often_one (ps := ps).mpr (up_self s (show 1 ≤ t by omega))
        have := I.one t (by omega) ht o (norem t (by omega) ht (by omega))
        rw [h0, up_zero] at this
        simp at this
    · have h1 := often_one.mp (hone (by omega))
      have h2 := up_le s _ _ h1
      have o := often_one (ps := ps).mpr (up_self s (show 1 ≤ t by omega))
      have := up_le s _ _ (I.one t (by omega) ht o (norem t (by omega) ht (by omega)))
      omega
  refine ⟨I.head, ?_, I.adj, fun j h1 h2 => ?_, fun p hpp => ?_⟩
  · obtain ⟨v, hv⟩ := I.ends
    rw [hv, ← hht]
    simp
  · rw [I.cnt j h1 h2]
    have r := mustAt_rng s t ps j
    by_cases h0 : mustAt s t ps j = 0
    · rw [if_pos h0, h0]
    · rw [if_neg h0, if_neg (norem j h1 h2 (by omega))]
      by_cases h3 : mustAt s t ps j = 1
      · rw [if_neg (by omega), h3]
      · have hu : j ∉ up s here := fun z => h3 (hsub j z)
        rw [if_pos ⟨by omega, hu⟩]
        omega
  · by_cases h0 : p = 0
    · have := I.head
      rw [h0]
      exact List.mem_of_mem_head? this
    · have ho : 1 ≤ mustAt s t ps p := by
        have : onW s ps p = true := onW_iff.mpr ⟨p, hpp, up_self s (by omega)⟩
        unfold mustAt
        by_cases h : onW s [t] p = true
        · simp [h]
        · simp [h, this]
      exact I.seen p (by omega) (hp p hpp) ho (norem p (by omega) (hp p hpp) ho)
/-! ### its length -/
theorem cnt_len {s : Shop} (hs : VS s) : ∀ (w : List Nat), Adj s w → (∀ j, 1 ≤ j → j ≤ s.length → cntW w j ≤ 2) → w.length ≤ 2 * s.length + 1 := by
  -- the stretches that are gone, one after another
  have go : ∀ (n : Nat) (xs : List Nat), (∀ x ∈ xs, 1 ≤ x ∧ x ≤ n) → (∀ j, 1 ≤ j → j ≤ n → xs.count j ≤ 2) → xs.length ≤ 2 * n := by
    intro n
    induction n with
    | zero =>
      intro xs h _
      cases xs with
      | nil => simp
      | cons x xs => have := h x List.mem_cons_self; omega
    | succ n ih =>
      intro xs h h2
      have hl : xs.length = xs.count (n + 1) + (xs.filter fun x => decide (x ≠ n + 1)).length := by
        have := List.length_eq_countP_add_countP (fun x => x == n + 1) (l := xs)
        rw [this, List.count, List.countP_eq_length_filter (p := fun a => decide ¬(a == n + 1) = true)]
        congr 2
        refine List.filter_congr fun x _ => ?_
        simp
      have := ih (xs.filter fun x => decide (x ≠ n + 1)) (fun x hx => by
        obtain ⟨hx, e⟩ := List.mem_filter.mp hx
        have := h x hx
        have : x ≠ n + 1 := of_decide_eq_true e
        omega) (fun j h1 h3 => Nat.le_trans (List.Sublist.count_le _ List.filter_sublist) (h2 j h1 (by omega)))
      have := h2 (n + 1) (by omega) (by omega)
      omega
  have pairs : ∀ (w : List Nat), Adj s w → ∃ xs : List Nat, xs.length = w.length - 1 ∧ (∀ x ∈ xs, 1 ≤ x ∧ x ≤ s.length) ∧ ∀ j, xs.count j = cntW w j := by
    intro w
    induction w with
    | nil => intro _; exact ⟨[], rfl, by simp, fun j => by simp [cntW]⟩
    | cons a w ih =>
      intro h
      cases w with
      | nil => exact ⟨[], rfl, by simp, fun j => by simp [cntW]⟩
      | cons b w =>
        obtain ⟨xs, h1, h2, h3⟩ := ih h.2
        refine ⟨max a b :: xs, by simp [h1], fun x hx => ?_, fun j => ?_⟩
        · rcases List.mem_cons.mp hx with rfl | hx
          · have := h.1.1
            exact ⟨by omega, h.1.2.2⟩
          · exact h2 x hx
        · rw [List.count_cons, h3, cntW]
          by_cases e : max a b = j
          · simp [e]; omega
          · simp [e]
  intro w h h2
  obtain ⟨xs, h3, h4, h5⟩ := pairs w h
  have := go s.length xs h4 fun j a b => by rw [h5]; exact h2 j a b
  omega
/-! ### the program's way -/
def brL (b : Nat → List Nat) (n : Nat) : List (List D) := (List.range (n + 1)).map fun p => (b p).map eI
@[simp] theorem brL_len (b : Nat → List Nat) (n : Nat) : (brL b n).length = n + 1 := by simp [brL]
theorem brL_at {b : Nat → List Nat} {n q : Nat} (h : q ≤ n) : (brL b n)[q]? = some ((b q).map eI) := by simp [brL, show q < n + 1 by omega]
@[simp] theorem brL_get {b : Nat → List Nat} {n q : Nat} (h : q < (brL b n).length) : (brL b n)[q] = (b q).map eI := by simp [brL]
theorem brL_set {b : Nat → List Nat} {n q : Nat} (x : List Nat) : (brL b n).set q (x.map eI) = brL (fun p => if p = q then x else b p) n := by
  apply List.ext_getElem?
  intro i
  rw [List.getElem?_set]
  by_cases h : i < n + 1
  · by_cases e : q = i
    · subst e
      rw [if_pos rfl, brL_len, if_pos h, brL_at (by omega), if_pos rfl]
    · rw [if_neg e, brL_at (by omega), brL_at (by omega), if_neg (fun z => e z.symm)]
  · rw [List.getElem?_eq_none (l := brL (fun p => if p = q then x else b p) n) (by simp; omega)]
    by_cases e : q = i
    · subst e
      rw [if_pos rfl, brL_len, if_neg h]
    · rw [if_neg e, List.getElem?_eq_none (by simp; omega)]
def addK (s : Shop) (o : Nat → Int) (m : Int) (b : Nat → List Nat) (j : Nat) : Nat → List Nat := fun p => if p = par s j ∧ o j = m then b p ++ [j] else b p
theorem addK_fold (s : Shop) (o : Nat → Int) (m : Int) : ∀ (xs : List Nat) (b : Nat → List Nat) (p : Nat), (xs.foldl (addK s o m) b) p = b p ++ xs.filter fun j => decide (o j = m) && decide (par s j = p)
  | [], b, p => by simp
  | x :: xs, b, p => by
    rw [List.foldl_cons, addK_fold s o m xs]
    unfold addK
    by_cases h1 : o x = m
    · by_cases h2 : par s x = p
      · simp [h1, h2]
      · have h2' : ¬ p = par s x := fun z => h2 z.symm
        simp [h1, h2, h2']
    · simp [h1]
theorem way_l1 {s : Shop} (hs : VS s) {t : Nat} {ps : List Nat} (m : Int) (b : Nat → List Nat) (hb : ∀ p, (b p).length ≤ 99) (a6 a7 a8 a9 : Sl) :
    ∃ j', fo (gNm 6) L_way_1 ((downs s.length).map eI) [.sh (eS s), .sh (eI t), .sh (eN ps), .sh (.lst ((mustM s t ps).map D.int)), .ot (O.ll (brL b s.length)), .sh (.int m), a6, a7, a8, a9] =
      .ok (.nx [.sh (eS s), .sh (eI t), .sh (eN ps), .sh (.lst ((mustM s t ps).map D.int)), .ot (O.ll (brL (fun p => b p ++ kids s (mustAt s t ps) m p) s.length)), .sh (.int m), j', a7, a8, a9]) := by
  have hl := hs.len
  obtain ⟨j', h⟩ := fo_fold (g := gNm 6) (b := L_way_1) (α := Nat → List Nat) (J := Sl) (fun b j => [.sh (eS s), .sh (eI t), .sh (eN ps), .sh (.lst ((mustM s t ps).map D.int)), .ot (O.ll (brL b s.length)), .sh (.int m), j, a7, a8, a9]) (addK s (mustAt s t ps) m) eI (fun b r => (∀ p, (b p).length + r.length ≤ 300) ∧ ∀ j ∈ r, 1 ≤ j ∧ j ≤ s.length) (by
    intro b j x r ⟨h1, h2⟩
    have hx := h2 x List.mem_cons_self
    have a1 : s[x - 1]? = some s[x - 1] := List.getElem?_eq_getElem (by omega)
    have e1 : ((x : Int) - 1) = ((x - 1 : Nat) : Int) := by omega
    have a2 := mustM_at (s := s) (t := t) (ps := ps) (i := x - 1) (by omega)
    rw [show x - 1 + 1 = x by omega] at a2
    have hpar : par s x = s[x - 1].1 := by
      unfold par
      rw [List.getD_eq_getElem?_getD, a1]; rfl
    have hpl := par_lt hs hx.1 hx.2
    have hlt := ltLine_s (n := (b (par s x)).length) (by have := h1 (par s x); simp at this; omega)
    refine ⟨_, .sh (eI x), rfl, .inl ?_, fun p => ?_, fun k hk => h2 k (List.mem_cons_of_mem _ hk)⟩
    · by_cases ho : mustAt s t ps x = m
      · have hset := brL_set (b := b) (n := s.length) (q := par s x) (b (par s x) ++ [x])
        have hadd : (fun p => if p = par s x then b (par s x) ++ [x] else b p) = addK s (mustAt s t ps) m b x := by
          funext p
          unfold addK
          by_cases e : p = par s x
          · simp [e, ho]
          · simp [e]
        rw [hadd, List.map_append] at hset
        have hat := brL_at (b := b) (n := s.length) (q := par s x) (by omega)
        have hix : par s x < s.length + 1 := by omega
        simp only [List.map_cons, List.map_nil, eI] at hset hat
        simp [e1, atI_n, a1, a2, ho, ← hpar, ixN_n, hix, hlt, hset]
      · have hadd : addK s (mustAt s t ps) m b x = b := by
          funext p
          unfold addK
          simp [ho]
        simp [e1, atI_n, a2, ho, hadd]
    · have := h1 p
      simp only [List.length_cons] at this
      unfold addK
      split <;> simp <;> omega) (downs s.length) b a6 ⟨fun p => by
        have := hb p
        have h3 : ∀ n : Nat, (downs n).length = n := by
          intro n
          induction n with
          | zero => rfl
          | succ n ih => simp [downs, ih]
        rw [h3]; omega, fun j hj => mem_downs.mp hj⟩
  refine ⟨j', ?_⟩
  have : (downs s.length).foldl (addK s (mustAt s t ps) m) b = fun p => b p ++ kids s (mustAt s t ps) m p := by
    funext p
    exact addK_fold s _ m _ b p
  rw [this] at h
  exact h
theorem Inv.len {s : Shop} (hs : VS s) {t : Nat} {ps : List Nat} {br : Nat → List Nat} {here : Nat} {w : List Nat} (I : Inv s t ps br here w) : w.length ≤ 2 * s.length + 1 := by
  refine cnt_len hs w I.adj fun j h1 h2 => ?_
  have := I.cnt j h1 h2
  split at this
  · omega
  · split at this
    · omega
    · split at this <;> omega
theorem way_l2 {s : Shop} (hs : VS s) {t : Nat} (ht : t ≤ s.length) {ps : List Nat} (hp : ∀ p ∈ ps, p ≤ s.length) (a5 a6 a9 : Sl) : ∀ (f : Nat) (br : Nat → List Nat) (here : Nat) (w : List Nat), Inv s t ps br here w → 2 * s.length + 2 ≤ w.length + f →
    ∃ w', wh C_way_2 L_way_2 f [.sh (eS s), .sh (eI t), .sh (eN ps), .sh (.lst ((mustM s t ps).map D.int)), .ot (O.ll (brL br s.length)), a5, a6, .sh (eI here), .ow (w.map eI), a9] = .ok (.rt (.lst (w'.map eI))) ∧ WayOk s t ps w' ∧ w'.length ≤ 2 * s.length + 1 := by
  have hl := hs.len
  intro f
  induction f with
  | zero => intro br here w I h; have := I.len hs; omega
  | succ f ih =>
    intro br here w I hf
    have hlen := I.len hs
    have hle := I.le
    have hlt := ltLine_s (n := w.length) (by omega)
    have hix : here < s.length + 1 := by omega
    have hat := brL_at (b := br) hle
    rw [wh_succ]
    by_cases h0 : br here = []
    · by_cases h1 : 1 ≤ here ∧ mustAt s t ps here = 2
      · have I2 := I.back hs h0 h1.1 h1.2
        obtain ⟨w', e, hw⟩ := ih br (par s here) (w ++ [par s here]) I2 (by simp; omega)
        refine ⟨w', ?_, hw⟩
        have a1 : s[here - 1]? = some s[here - 1] := List.getElem?_eq_getElem (by omega)
        have e1 : ((here : Int) - 1) = ((here - 1 : Nat) : Int) := by omega
        have a2 := mustM_at (s := s) (t := t) (ps := ps) (i := here - 1) (by omega)
        rw [show here - 1 + 1 = here by omega] at a2
        have hpar : par s here = s[here - 1].1 := by
          unfold par
          rw [List.getD_eq_getElem?_getD, a1]; rfl
        have hpos : 0 < here := by omega
        have hn := cEq_eN0 []
        simp only [List.map_nil] at hn
        simp only [eI, List.map_append, List.map_cons, List.map_nil] at e
        simp [atI_n, hix, h0, hn, e1, a1, a2, h1.2, ← hpar, hlt, hpos]
        exact e
      · have hw := I.fin hs ht hp h0 h1
        refine ⟨w, ?_, hw, hlen⟩
        have hn := cEq_eN0 []
        simp only [List.map_nil] at hn
        by_cases hpos : 0 < here
        · have e1 : ((here : Int) - 1) = ((here - 1 : Nat) : Int) := by omega
          have a2 := mustM_at (s := s) (t := t) (ps := ps) (i := here - 1) (by omega)
          rw [show here - 1 + 1 = here by omega] at a2
          have ho : ¬ mustAt s t ps here = 2 := fun z => h1 ⟨hpos, z⟩
          simp [atI_n, hix, h0, hn, e1, a2, ho, hpos]
        · simp [atI_n, hix, h0, hn, hpos]
    · obtain ⟨l, c, hb⟩ : ∃ l c, br here = l ++ [c] := ⟨(br here).dropLast, (br here).getLast h0, (List.dropLast_concat_getLast h0).symm⟩
      obtain ⟨w', e, hw⟩ := ih _ c (w ++ [c]) (I.down hs hb) (by simp; omega)
      refine ⟨w', ?_, hw⟩
      have hn := cEq_eN0 (br here)
      have hset := brL_set (b := br) (n := s.length) (q := here) l
      have hla : (br here).getLast? = some c := by rw [hb]; simp
      have hdr : (List.map eI (br here)).dropLast = List.map eI l := by rw [hb]; simp
      simp only [eI, List.map_append, List.map_cons, List.map_nil] at e
      simp [atI_n, hix, eq_false h0, hn, ixN_n, hla, hdr, hset, hlt]
      exact e
theorem way_ok {s : Shop} (hs : VS s) {t : Nat} (ht : t ≤ s.length) {ps : List Nat} (hp : VP s.length ps) : ∃ w, D_way [eS s, eI t, eN ps] = .ok (.lst (w.map eI)) ∧ WayOk s t ps w ∧ w.length ≤ 2 * s.length + 1 := by
  have hl := hs.len
  have h1 := asked_all_ok hs ht hp
  have h2 := must_of_ok hs ht hp.le
  have e1 : inRg ((s.length : Int) + 1) = true := inRg_s (by omega) (by omega)
  have e2 := lineOk_s (n := s.length + 1) (by omega)
  have e3 : ((s.length : Int) + 1).toNat = s.length + 1 := by omega
  have e4 := inRg_n (n := s.length) (by omega)
  have e5 := lineOk_s (n := s.length) (by omega)
  have h0 : List.replicate (s.length + 1) ([] : List D) = brL (fun _ => []) s.length := by
    unfold brL
    simp [List.map_const']
  obtain ⟨ja, l1⟩ := way_l1 hs (t := t) (ps := ps) 1 (fun _ => []) (fun p => by simp) .no .no .no .no
  have hk : ∀ p, (([] : List Nat) ++ kids s (mustAt s t ps) 1 p).length ≤ 99 := fun p => by
    have : ∀ n : Nat, (downs n).length = n := by
      intro n
      induction n with
      | zero => rfl
      | succ n ih => simp [downs, ih]
    have h3 := List.length_filter_le (fun j => decide (mustAt s t ps j = 1) && decide (par s j = p)) (downs s.length)
    rw [this] at h3
    simp only [List.nil_append]
    unfold kids
    omega
  obtain ⟨jb, l2⟩ := way_l1 hs (t := t) (ps := ps) 2 (fun p => [] ++ kids s (mustAt s t ps) 1 p) hk ja .no .no .no
  have hin : (fun p => ([] ++ kids s (mustAt s t ps) 1 p) ++ kids s (mustAt s t ps) 2 p) = init s (mustAt s t ps) := by
    funext p
    simp [init]
  rw [hin] at l2
  obtain ⟨w, l3, hw⟩ := way_l2 hs ht hp.le (.sh (.int 2)) jb .no fuel _ 0 [0] (Inv.start s t ps) (by rw [fuel_eq]; simp; omega)
  refine ⟨w, ?_, hw⟩
  simp only [eI] at h1 h2 l1 l2 l3
  rw [← downs_eq] at l1 l2
  have l3 : wh C_way_2 L_way_2 fuel [.sh (eS s), .sh (.int t), .sh (eN ps), .sh (.lst ((mustM s t ps).map D.int)), .ot (O.ll (brL (init s (mustAt s t ps)) s.length)), .sh (.int 2), jb, .sh (.int 0), .ow [.int 0], .no] = .ok (.rt (.lst (w.map eI))) := l3
  simp [D_way, B_way, h1, h2, e1, e2, e3, range_len, h0, e4, e5]
  rw [l1]
  simp [e4, e5, range_len]
  have hk2 : (fun p => kids s (mustAt s t ps) 1 p) = fun p => [] ++ kids s (mustAt s t ps) 1 p := by
    funext p
    simp
  rw [hk2, l2]
  simp
  rw [l3]
  simp
end T_k12
/-! MX: what the law says of a walk. -/
namespace T_k12
open PySem L2 PL
def okP (s : Shop) (x : Nat × Nat) : Prop := x.1 ≠ x.2 ∧ par s (max x.1 x.2) = min x.1 x.2 ∧ max x.1 x.2 ≤ s.length
theorem adj_pairs (s : Shop) : ∀ w : List Nat, Adj s w → ∀ x ∈ w.zip w.tail, okP s x
  | [], _, x, h => by simp at h
  | [a], _, x, h => by simp at h
  | a :: b :: w, h, x, hx => by
    simp only [List.tail_cons, List.zip_cons_cons] at hx
    rcases List.mem_cons.mp hx with rfl | hx
    · exact h.1
    · exact adj_pairs s (b :: w) h.2 x (by simpa using hx)
def eQ (x : Nat × Nat) : D := .tup [.int (x.1 : Nat), .int (x.2 : Nat)]
theorem zip_walk (w : List Nat) : zipD (w.map eI) (w.map eI).tail = (w.zip w.tail).map eQ := by
  rw [← List.map_tail, zipD_map]
  rfl
theorem max_d (a b : Nat) : (if a < b then (b : Int) else (a : Int)) = ((max a b : Nat) : Int) := by split <;> omega
theorem min_d (a b : Nat) : (if b < a then (b : Int) else (a : Int)) = ((min a b : Nat) : Int) := by split <;> omega
theorem par_at {s : Shop} {j : Nat} (h : 1 ≤ j) (hj : j ≤ s.length) : ∃ q : Nat × Nat, s[j - 1]? = some q ∧ q.1 = par s j := by
  have a1 : s[j - 1]? = some s[j - 1] := List.getElem?_eq_getElem (by omega)
  exact ⟨_, a1, by unfold par; rw [List.getD_eq_getElem?_getD, a1]; rfl⟩
def addG (xs : List Int) (x : Nat × Nat) : List Int := xs.set (max x.1 x.2 - 1) (xs.getD (max x.1 x.2 - 1) 0 + 1)
theorem addG_fold : ∀ (qs : List (Nat × Nat)) (xs : List Int), (∀ x ∈ qs, 1 ≤ max x.1 x.2 ∧ max x.1 x.2 ≤ xs.length) → (qs.foldl addG xs).length = xs.length ∧ ∀ i, i < xs.length → (qs.foldl addG xs)[i]? = some (xs.getD i 0 + (qs.countP fun x => max x.1 x.2 == i + 1))
  | [], xs, _ => ⟨rfl, fun i hi => by simp [List.getD_eq_getElem?_getD, List.getElem?_eq_getElem hi]⟩
  | x :: qs, xs, h => by
    have hx := h x List.mem_cons_self
    have hl : (addG xs x).length = xs.length := by simp [addG]
    obtain ⟨h1, h2⟩ := addG_fold qs (addG xs x) fun y hy => by rw [hl]; exact h y (List.mem_cons_of_mem _ hy)
    rw [List.foldl_cons]
    refine ⟨by rw [h1, hl], fun i hi => ?_⟩
    rw [h2 i (by rw [hl]; exact hi)]
    congr 1
    rw [List.countP_cons]
    unfold addG
    rw [List.getD_eq_getElem?_getD, List.getElem?_set]
    by_cases e : max x.1 x.2 = i + 1
    · have e1 : max x.1 x.2 - 1 = i := by omega
      rw [e1, if_pos rfl, if_pos hi]
      simp [e]
      omega
    · have e1 : ¬ max x.1 x.2 - 1 = i := by omega
      rw [if_neg e1]
      simp [e, List.getD_eq_getElem?_getD]
theorem cnt_pairs : ∀ (w : List Nat) (j : Nat), (w.zip w.tail).countP (fun x => max x.1 x.2 == j) = cntW w j
  | [], j => by simp [cntW]
  | [a], j => by simp [cntW]
  | a :: b :: w, j => by
    have := cnt_pairs (b :: w) j
    simp only [List.tail_cons] at this
    simp only [List.tail_cons, List.zip_cons_cons, List.countP_cons, cntW, this]
    by_cases e : max a b = j
    · simp [e]; omega
    · simp [e]
def goneL (s : Shop) (w : List Nat) : List Int := (List.range s.length).map fun i => (cntW w (i + 1) : Int)
theorem gone_fold {s : Shop} {w : List Nat} (h : Adj s w) : (w.zip w.tail).foldl addG (List.replicate s.length 0) = goneL s w := by
  obtain ⟨h1, h2⟩ := addG_fold (w.zip w.tail) (List.replicate s.length 0) fun x hx => by
    obtain ⟨a, b, c⟩ := adj_pairs s w h x hx
    simp
    omega
  apply List.ext_getElem?
  intro i
  by_cases hi : i < s.length
  · rw [h2 i (by simpa using hi), cnt_pairs]
    simp [goneL, hi, List.getD_eq_getElem?_getD, List.getElem?_replicate]
  · rw [List.getElem?_eq_none (by rw [h1]; simp; omega), List.getElem?_eq_none (by simp [goneL]; omega)]
theorem gone_must {s : Shop} {t : Nat} {ps w : List Nat} (h : WayOk s t ps w) : goneL s w = mustM s t ps := by
  unfold goneL mustM
  exact List.map_congr_left fun i hi => h.cnt (i + 1) (by omega) (by have := List.mem_range.mp hi; omega)
end T_k12
/-! MJ: walks judged. -/
namespace T_k12
open PySem L2 PL
/-! ### lists of whole numbers -/
theorem cIn_ints (j : Int) (xs : List Int) : cIn (.int j) (.lst (xs.map D.int)) = some (decide (j ∈ xs)) := by
  have h1 : D.toPyL (xs.map D.int) = some (xs.map (En.py : Int → PyData)) := toPyL_map xs
  have h2 : (D.int j).toPy = some (En.py j) := En.toPy j
  have h3 : SeqAt.shaped (En.py j) = true := by
    unfold SeqAt.shaped
    rw [En.lay j]
    have := En.depth j
    have : En.dep Int = 0 := rfl
    simp
    omega
  have h4 : SeqAt.shaped (.list (xs.map (En.py : Int → PyData))) = true := by
    have := (En.lay xs)
    have d := En.depth xs
    unfold SeqAt.shaped
    have h : (PyData.list (xs.map (En.py : Int → PyData))) = En.py xs := rfl
    rw [h, this]
    have : En.dep (List Int) = 1 := rfl
    simp
    omega
  unfold cIn
  simp only [h1, h2, h3, h4]
  simp only [Bool.and_self, if_true, Option.some.injEq]
  rw [Bool.eq_iff_iff, List.any_eq_true]
  constructor
  · rintro ⟨x, hx, e⟩
    obtain ⟨y, hy, rfl⟩ := List.mem_map.mp hx
    rw [En.eqv] at e
    have := of_decide_eq_true e
    subst this
    exact decide_eq_true hy
  · intro e
    exact ⟨_, List.mem_map.mpr ⟨j, of_decide_eq_true e, rfl⟩, by rw [En.eqv]; exact decide_eq_true rfl⟩
def zN (w : List Nat) : List Int := w.map fun (p : Nat) => (p : Int)
theorem eN_z (w : List Nat) : w.map eI = (zN w).map D.int := by
  unfold zN
  rw [List.map_map]
  rfl
theorem mem_zN {p : Nat} {w : List Nat} : (p : Int) ∈ zN w ↔ p ∈ w := by
  unfold zN
  rw [List.mem_map]
  constructor
  · rintro ⟨q, hq, e⟩
    have : q = p := by omega
    exact this ▸ hq
  · exact fun h => ⟨p, h, rfl⟩
theorem cIn_z (j : Int) (w : List Nat) : cIn (.int j) (.lst (w.map eI)) = some (decide (j ∈ zN w)) := by rw [eN_z, cIn_ints]
theorem cIn_n (p : Nat) (w : List Nat) : cIn (.int p) (.lst (w.map eI)) = some (decide (p ∈ w)) := by
  rw [cIn_z]
  congr 1
  rw [Bool.eq_iff_iff, decide_eq_true_eq, decide_eq_true_eq]
  exact mem_zN
theorem sortOk_ints (xs : List Int) : SortOk (xs.map D.int) := by
  have e : (xs.map D.int).map pyOf = xs.map PyData.int := by
    rw [List.map_map]
    refine List.map_congr_left fun w _ => ?_
    simp [pyOf, D.toPy]
  refine ⟨fun d hd => ?_, ?_, ?_, fun d hd => ?_⟩
  · obtain ⟨w, _, rfl⟩ := List.mem_map.mp hd
    simp [pyOf, D.toPy]
  · rw [e]
    exact W.AllAlike.of fun b b' => by simp [W.alike]
  · rw [e]
    exact W.Sortable.others fun b => ⟨(fun z => nomatch z), fun xs z => nomatch z⟩
  · obtain ⟨w, _, rfl⟩ := List.mem_map.mp hd
    simp [pyOf, D.toPy, PyData.depth]
theorem leD_int (a b : Int) : leD (.int a) (.int b) = decide (a ≤ b) := by
  show (!W.dataLt (pyOf _) (pyOf _)) = _
  have : ∀ i : Int, pyOf (.int i) = .int i := fun i => by simp [pyOf, D.toPy]
  rw [this, this, W.dataLt_int, W.not_lt_int]
theorem sort_ints (xs : List Int) : (xs.map D.int).mergeSort leD = (isort xs).map D.int :=
  (List.map_mergeSort (r := fun a b : Int => decide (a ≤ b)) (fun a _ b _ => (leD_int a b).symm)).symm
theorem isort_two (a b : Nat) : isort [(a : Int), (b : Int)] = [((min a b : Nat) : Int), ((max a b : Nat) : Int)] := by
  refine sorted_one (isort_perm _ |>.trans ?_) (isort_sorted _) ?_
  · rcases Nat.le_total a b with h | h
    · rw [Nat.min_eq_left h, Nat.max_eq_right h]
    · rw [Nat.min_eq_right h, Nat.max_eq_left h]
      exact .swap _ _ _
  · simp
    omega
theorem sort_two (a b : Nat) : vSorted (.lst [.int (a : Int), .int (b : Int)]) = .ok [.int ((min a b : Nat) : Int), .int ((max a b : Nat) : Int)] := by
  have h1 := sortB_of (sortOk_ints [(a : Int), (b : Int)])
  have h2 := sort_ints [(a : Int), (b : Int)]
  rw [isort_two] at h2
  simp only [List.map_cons, List.map_nil] at h1 h2
  unfold vSorted
  simp only [h1, R.when_true, h2]
theorem range1 (n : Nat) : rangeD 1 1 n = (List.range' 1 n).map eI := by
  unfold rangeD
  rw [List.range'_eq_map_range, List.map_map]
  refine List.map_congr_left fun k _ => ?_
  simp only [Function.comp, eI]
  congr 1
  omega
theorem zip_tail (w : List Nat) : (List.range' 1 (w.length - 1)).map (fun i => (w.getD (i - 1) 0, w.getD i 0)) = w.zip w.tail := by
  apply List.ext_getElem?
  intro i
  by_cases h : i < w.length - 1
  · have a1 : w[i]? = some w[i] := List.getElem?_eq_getElem (by omega)
    have a2 : w[1 + i]? = some w[1 + i] := List.getElem?_eq_getElem (by omega)
    have a3 : w[i + 1]? = some w[1 + i] := by rw [Nat.add_comm]; exact a2
    rw [List.getElem?_map, List.getElem?_range' h]
    simp only [Option.map_some, Nat.one_mul, List.getD_eq_getElem?_getD, a2, Nat.add_sub_cancel_left, a1]
    rw [show (w.zip w.tail)[i]? = some (w[i], w[1 + i]) from List.getElem?_zip_eq_some.mpr ⟨a1, by rw [List.getElem?_tail]; exact a3⟩]
    rfl
  · rw [List.getElem?_eq_none (by simp; omega), List.getElem?_eq_none (by simp; omega)]
/-! ### a walk from the door to the till -/
structure Wk (s : Shop) (t : Nat) (w : List Nat) : Prop where
  head : w.head? = some 0
  last : w.getLast? = some t
  adj : Adj s w
  len : w.length ≤ 400
theorem WayOk.wk {s : Shop} {t : Nat} {ps w : List Nat} (h : WayOk s t ps w) (hl : w.length ≤ 400) : Wk s t w := ⟨h.head, h.last, h.adj, hl⟩
theorem adj_le {s : Shop} : ∀ (w : List Nat) (a : Nat), Adj s (a :: w) → a ≤ s.length → ∀ x ∈ a :: w, x ≤ s.length
  | [], a, _, h, x, hx => by rw [List.mem_singleton.mp hx]; exact h
  | b :: w, a, h, ha, x, hx => by
    rcases List.mem_cons.mp hx with rfl | hx
    · exact ha
    · exact adj_le w b h.2 (by have := h.1.2.2; omega) x hx
theorem Wk.cons {s : Shop} {t : Nat} {w : List Nat} (h : Wk s t w) : ∃ r, w = 0 :: r := by
  cases w with
  | nil => have := h.head; simp at this
  | cons a r => have := h.head; simp at this; exact ⟨r, by rw [this]⟩
theorem Wk.le {s : Shop} {t : Nat} {w : List Nat} (h : Wk s t w) : ∀ x ∈ w, x ≤ s.length := by
  obtain ⟨r, rfl⟩ := h.cons
  exact adj_le r 0 h.adj (Nat.zero_le _)
theorem pairs_at {s : Shop} {w : List Nat} (h : Adj s w) {i : Nat} (h1 : 1 ≤ i) (h2 : i < w.length) : okP s (w.getD (i - 1) 0, w.getD i 0) := by
  refine adj_pairs s w h _ ?_
  rw [← zip_tail]
  exact List.mem_map.mpr ⟨i, List.mem_range'_1.mpr ⟨h1, by omega⟩, rfl⟩
/-- inside the part beyond stretch j -/
def insd (s : Shop) (j x : Nat) : Bool := decide (j ∈ up s x)
theorem insd_step {s : Shop} (hs : VS s) {a b j : Nat} (h : a ≠ b ∧ par s (max a b) = min a b ∧ max a b ≤ s.length) : if max a b = j then insd s j a ≠ insd s j b else insd s j a = insd s j b := by
  obtain ⟨h1, h2, h3⟩ := h
  have hm : 1 ≤ max a b := by omega
  have hu := up_step hs hm h3
  have hn : max a b ∉ up s (par s (max a b)) := fun z => by
    have := up_le s _ _ z
    have := par_lt hs hm h3
    omega
  rw [h2] at hu hn
  have key : ∀ c m : Nat, up s c = c :: up s m → c ∉ up s m → if c = j then insd s j c ≠ insd s j m else insd s j c = insd s j m := by
    intro c m hu hn
    unfold insd
    rw [hu]
    by_cases e : c = j
    · subst e
      simp [hn]
    · have e' : ¬ j = c := fun z => e z.symm
      simp [e, e']
  have := key _ _ hu hn
  rcases Nat.lt_or_ge a b with z | z
  · rw [Nat.max_eq_right (by omega), Nat.min_eq_left (by omega)] at this
    rw [Nat.max_eq_right (by omega)]
    by_cases e : b = j
    · rw [if_pos e] at this ⊢; exact fun y => this y.symm
    · rw [if_neg e] at this ⊢; exact this.symm
  · rw [Nat.max_eq_left (by omega), Nat.min_eq_right (by omega)] at this
    rw [Nat.max_eq_left (by omega)]
    exact this
theorem cnt_par {s : Shop} (hs : VS s) (j : Nat) : ∀ (w : List Nat) (a t : Nat), Adj s (a :: w) → (a :: w).getLast? = some t → ((cntW (a :: w) j % 2 = 1 ↔ insd s j a ≠ insd s j t) ∧ (cntW (a :: w) j = 0 → ∀ x ∈ a :: w, insd s j x = insd s j a))
  | [], a, t, _, hl => by
    simp at hl
    subst hl
    simp [cntW]
  | b :: w, a, t, h, hl => by
    obtain ⟨i1, i2⟩ := cnt_par hs j w b t h.2 (by rw [List.getLast?_cons_cons] at hl; exact hl)
    have st := insd_step hs (j := j) h.1
    rw [cntW]
    by_cases e : max a b = j
    · rw [if_pos e] at st ⊢
      refine ⟨?_, fun z => by omega⟩
      have : (1 + cntW (b :: w) j) % 2 = 1 ↔ ¬ (cntW (b :: w) j % 2 = 1) := by omega
      rw [this, i1]
      revert st
      cases insd s j a <;> cases insd s j b <;> cases insd s j t <;> simp
    · rw [if_neg e] at st ⊢
      rw [Nat.zero_add]
      refine ⟨by rw [i1, st], fun z x hx => ?_⟩
      rcases List.mem_cons.mp hx with rfl | hx
      · rfl
      · rw [i2 z x hx, st]
def allIn (ps w : List Nat) : Bool := decide (∀ p ∈ ps, p ∈ w)
theorem must_low {s : Shop} (hs : VS s) {t : Nat} {ps w : List Nat} (h : Wk s t w) (ha : allIn ps w = true) {j : Nat} : mustAt s t ps j ≤ cntW w j := by
  have ha := of_decide_eq_true ha
  obtain ⟨r, rfl⟩ := h.cons
  obtain ⟨i1, i2⟩ := cnt_par hs j r 0 t h.adj h.last
  have h0 : insd s j 0 = false := by simp [insd, up_zero]
  rw [h0] at i1 i2
  unfold mustAt
  by_cases h1 : onW s [t] j = true
  · rw [if_pos h1]
    obtain ⟨q, hq, hj⟩ := onW_iff.mp h1
    rw [List.mem_singleton.mp hq] at hj
    have : cntW (0 :: r) j % 2 = 1 := i1.mpr (by simp [insd, hj])
    omega
  · rw [if_neg h1]
    by_cases h2 : onW s ps j = true
    · rw [if_pos h2]
      obtain ⟨q, hq, hj⟩ := onW_iff.mp h2
      have hne : cntW (0 :: r) j ≠ 0 := fun z => by
        have := i2 z q (ha q hq)
        simp [insd, hj] at this
      have heven : ¬ cntW (0 :: r) j % 2 = 1 := fun z => by
        have := i1.mp z
        apply h1
        refine onW_iff.mpr ⟨t, by simp, ?_⟩
        simp [insd] at this
        exact this
      omega
    · rw [if_neg h2]
      omega
/-! ### what is told of a walk -/
def isMore (s : Shop) (t : Nat) (ps w : List Nat) (j : Nat) : Bool := decide (mustAt s t ps j < cntW w j)
def moreL (s : Shop) (t : Nat) (ps w : List Nat) : List Nat := ((List.range s.length).filter fun i => isMore s t ps w (i + 1)).map (· + 1)
def missL (ps w : List Nat) : List Nat := ps.filter fun p => !decide (p ∈ w)
theorem miss_nil {ps w : List Nat} : missL ps w = [] ↔ allIn ps w = true := by
  unfold missL allIn
  rw [List.filter_eq_nil_iff, decide_eq_true_eq]
  simp
theorem more_nil {s : Shop} (hs : VS s) {t : Nat} {ps w : List Nat} (h : Wk s t w) (ha : allIn ps w = true) : moreL s t ps w = [] ↔ goneL s w = mustM s t ps := by
  unfold moreL goneL mustM
  rw [List.map_eq_nil_iff, List.filter_eq_nil_iff, List.map_inj_left]
  constructor
  · intro q i hi
    have h1 := q i hi
    have h2 := must_low hs h ha (j := i + 1)
    simp [isMore] at h1
    omega
  · intro q i hi
    have := q i hi
    simp [isMore]
    omega
/-- the own word of each answer: 1 Shortest, 2 Missed, 3 Longer -/
def shortB (s : Shop) (t : Nat) (ps w : List Nat) : Bool := allIn ps w && decide (goneL s w = mustM s t ps)
def missB (ps w : List Nat) (j : Int) : Bool := decide (j ∈ zN ps) && !decide (j ∈ zN w)
def longB (s : Shop) (t : Nat) (ps w : List Nat) (j : Int) : Bool := allIn ps w && (decide (1 ≤ j) && (decide (j ≤ s.length) && isMore s t ps w j.toNat))
theorem all_map (ps w : List Nat) : (ps.map fun p => decide (p ∈ w)).all id = allIn ps w := by
  unfold allIn
  rw [Bool.eq_iff_iff, List.all_map, List.all_eq_true, decide_eq_true_eq]
  simp
theorem any_map (ps w : List Nat) : (ps.map fun p => !decide (p ∈ w)).any id = !allIn ps w := by
  rw [← all_map, List.not_all_eq_any_not]
  simp only [List.any_map]
  rfl
theorem in_comp {ρ : Ev} {ps w : List Nat} {i k : Nat} (hi : i < ρ.length) (hk : k ≠ i) (h : ρ[k]? = some (.sh (eN w))) : lcG (gNm i) bYes (bV (bC cIn (dVar i) (dVar k))) ρ (ps.map eI) = .ok (ps.map fun p => D.bl (decide (p ∈ w))) := by
  rw [lcG_map eI (fun p => D.bl (decide (p ∈ w))) ps ?_]
  intro x hx
  refine ⟨_, rfl, ?_⟩
  have g : (ρ.set i (.sh (eI x)))[i]? = some (.sh (eI x)) := List.getElem?_set_self hi
  have g6 : (ρ.set i (.sh (eI x)))[k]? = some (.sh (eN w)) := by rw [List.getElem?_set_ne (Ne.symm hk)]; exact h
  have hin := cIn_n x w
  simp only [eI] at g g6
  simp [g, g6, hin]
theorem out_comp {ρ : Ev} {ps w : List Nat} {i k : Nat} (hi : i < ρ.length) (hk : k ≠ i) (h : ρ[k]? = some (.sh (eN w))) : lcG (gNm i) bYes (bV (bC cNotIn (dVar i) (dVar k))) ρ (ps.map eI) = .ok (ps.map fun p => D.bl (!decide (p ∈ w))) := by
  rw [lcG_map eI (fun p => D.bl (!decide (p ∈ w))) ps ?_]
  intro x hx
  refine ⟨_, rfl, ?_⟩
  have g : (ρ.set i (.sh (eI x)))[i]? = some (.sh (eI x)) := List.getElem?_set_self hi
  have g6 : (ρ.set i (.sh (eI x)))[k]? = some (.sh (eN w)) := by rw [List.getElem?_set_ne (Ne.symm hk)]; exact h
  have hin := cIn_n x w
  simp only [eI] at g g6
  simp [g, g6, hin]
theorem goneL_len (s : Shop) (w : List Nat) : (goneL s w).length = s.length := by simp [goneL]
theorem goneL_at {s : Shop} {w : List Nat} {i : Nat} (h : i < s.length) : (goneL s w)[i]? = some (cntW w (i + 1) : Int) := by simp [goneL, h]
theorem isMore_int {s : Shop} {t : Nat} {ps w : List Nat} {j : Nat} : decide (mustAt s t ps j < (cntW w j : Int)) = isMore s t ps w j := rfl
theorem gone_of_ok {s : Shop} (hs : VS s) {w : List Nat} (h : Adj s w) (hl : w.length ≤ 400) : D_gone_of [eS s, eN w] = .ok (.lst ((goneL s w).map D.int)) := by
  have hsl := hs.len
  have e3 := repOk_s (n := 1) (k := (s.length : Int)) (by omega) (by omega) (by omega)
  have i1 := inRg_n (n := w.length) (by omega)
  have t1 : ((w.length : Int) - 1).toNat = w.length - 1 := by omega
  obtain ⟨⟨ja, jb⟩, hf⟩ := fo_fold (g := gNm 3) (b := L_gone_of_0) (α := List Int) (J := Sl × Sl) (fun xs j => [.sh (eS s), .sh (eN w), .ow (xs.map D.int), j.1, j.2]) (fun xs i => addG xs (w.getD (i - 1) 0, w.getD i 0)) eI (fun xs r => xs.length = s.length ∧ ∀ i ∈ r, 1 ≤ i ∧ i < w.length) (by
    intro xs j x r ⟨hxl, hr⟩
    obtain ⟨g1, g2⟩ := hr x List.mem_cons_self
    obtain ⟨h1, h2, h3⟩ := pairs_at h g1 g2
    have b1 : w[x - 1]? = some (w.getD (x - 1) 0) := by rw [List.getD_eq_getElem?_getD, List.getElem?_eq_getElem (by omega)]; rfl
    have b2 : w[x]? = some (w.getD x 0) := by rw [List.getD_eq_getElem?_getD, List.getElem?_eq_getElem (by omega)]; rfl
    have e1 : (x : Int) - 1 = ((x - 1 : Nat) : Int) := by omega
    simp only at h1 h2 h3
    revert h1 h2 h3 b1 b2
    generalize w.getD (x - 1) 0 = a
    generalize w.getD x 0 = b
    intro h1 h2 h3 b1 b2
    have m1 := max_d a b
    have hm : 1 ≤ max a b := by omega
    refine ⟨_, (.sh (eI x), .sh (.int ((max a b : Nat) : Int))), rfl, .inl ?_, by simp [addG, hxl], fun y hy => hr y (List.mem_cons_of_mem _ hy)⟩
    have hadd : (addG xs (a, b)).map D.int = (xs.map D.int).set (max a b - 1) (.int (xs.getD (max a b - 1) 0 + 1)) := by
      unfold addG
      rw [List.map_set]
    rw [hadd]
    clear hadd
    revert h3 m1 hm
    generalize max a b = M
    intro h3 m1 hm
    have e2 : (M : Int) - 1 = ((M - 1 : Nat) : Int) := by omega
    have a1 : xs[M - 1]? = some xs[M - 1] := List.getElem?_eq_getElem (by omega)
    have hix : M - 1 < s.length := by omega
    simp [e1, b1, b2, m1, e2, atI_n, a1, ixN_n, hxl, hix, List.getD_eq_getElem?_getD]) (List.range' 1 (w.length - 1)) (List.replicate s.length 0) (.no, .no) ⟨by simp, fun i hi => by have := List.mem_range'_1.mp hi; omega⟩
  have hfold : (List.range' 1 (w.length - 1)).foldl (fun xs i => addG xs (w.getD (i - 1) 0, w.getD i 0)) (List.replicate s.length 0) = goneL s w := by
    rw [← gone_fold h, ← zip_tail, List.foldl_map]
  rw [hfold, List.map_replicate] at hf
  simp [D_gone_of, B_gone_of, e3, i1, t1, range1]
  rw [hf]
  simp
theorem is_walk_ok {s : Shop} (hs : VS s) {t : Nat} {w : List Nat} (h : Wk s t w) : D_is_walk [eS s, eI t, eN w] = .ok (.bl true) := by
  have hsl := hs.len
  have hl := h.len
  have hle := h.le
  have hne : w ≠ [] := by obtain ⟨r, rfl⟩ := h.cons; simp
  have hpos : 0 < w.length := List.length_pos_iff.mpr hne
  have h0 : w[0]? = some 0 := by have := h.head; rwa [List.head?_eq_getElem?] at this
  have l1 := lineOk_s (n := w.length) (by omega)
  have i1 := inRg_n (n := w.length) (by omega)
  have t1 : ((w.length : Int) - 1).toNat = w.length - 1 := by omega
  have q1 : (1 : Int) ≤ (w.length : Int) := by omega
  have q2 : (w.length : Int) ≤ 400 := by omega
  have hpl : ∀ ρ : Ev, 6 < ρ.length → ρ[0]? = some (.sh (eS s)) → lcG (gNm 6) bYes (dCall 2 D_is_place (aCons (dVar 0) (aCons (dVar 6) aNil))) ρ (w.map eI) = .ok (w.map fun _ => D.bl true) := by
    intro ρ hρ hr0
    rw [lcG_map eI (fun _ => D.bl true) w ?_]
    intro x hx
    refine ⟨_, rfl, ?_⟩
    have g : (ρ.set 6 (.sh (eI x)))[6]? = some (.sh (eI x)) := List.getElem?_set_self hρ
    have g0 : (ρ.set 6 (.sh (eI x)))[0]? = some (.sh (eS s)) := by rw [List.getElem?_set_ne (by decide)]; exact hr0
    have hp := is_place_ok s (x : Int)
    have hx' := hle x hx
    have z1 : (0 : Int) ≤ (x : Int) := by omega
    have z2 : (x : Int) ≤ (s.length : Int) := by omega
    simp only [decide_eq_true z1, decide_eq_true z2, Bool.and_self] at hp
    simp only [eI] at g
    simp [g, hr0, hp]
  have hb : boolsD (w.map fun _ => D.bl true) = some (w.map fun _ => true) := boolsD_of (fun _ => true) w
  have hall : (w.map fun _ => true).all id = true := by simp
  obtain ⟨⟨ja, jb, jc⟩, hf⟩ := fo_fold (g := gNm 3) (b := L_is_walk_0) (α := Unit) (J := Sl × Sl × Sl) (fun _ j => [.sh (eS s), .sh (eI t), .sh (eN w), j.1, j.2.1, j.2.2, .no]) (fun _ _ => ()) eI (fun _ r => ∀ i ∈ r, 1 ≤ i ∧ i < w.length) (by
    intro _ j x r hr
    obtain ⟨g1, g2⟩ := hr x List.mem_cons_self
    obtain ⟨h1, h2, h3⟩ := pairs_at h.adj g1 g2
    have b1 : w[x - 1]? = some (w.getD (x - 1) 0) := by rw [List.getD_eq_getElem?_getD, List.getElem?_eq_getElem (by omega)]; rfl
    have b2 : w[x]? = some (w.getD x 0) := by rw [List.getD_eq_getElem?_getD, List.getElem?_eq_getElem (by omega)]; rfl
    have e1 : (x : Int) - 1 = ((x - 1 : Nat) : Int) := by omega
    simp only at h1 h2 h3
    revert h1 h2 h3 b1 b2
    generalize w.getD (x - 1) 0 = a
    generalize w.getD x 0 = b
    intro h1 h2 h3 b1 b2
    have hsrt := sort_two a b
    have hm : 1 ≤ max a b := by omega
    have hne : ¬ min a b = max a b := by omega
    refine ⟨_, (.sh (eI x), .sh (.int ((min a b : Nat) : Int)), .sh (.int ((max a b : Nat) : Int))), rfl, .inl ?_, fun y hy => hr y (List.mem_cons_of_mem _ hy)⟩
    revert h2 h3 hm hne hsrt
    generalize max a b = M
    generalize min a b = N
    intro h2 h3 hsrt hm hne
    obtain ⟨q, a1, a2⟩ := par_at hm h3
    have e2 : (M : Int) - 1 = ((M - 1 : Nat) : Int) := by omega
    have e3 : ¬ (N : Int) = (M : Int) := by omega
    rw [h2] at a2
    unfold vSorted at hsrt
    simp [e1, b1, b2, atI_n, hsrt, e2, e3, a1, a2, hne]) (List.range' 1 (w.length - 1)) () (.no, .no, .no) (fun i hi => by have := List.mem_range'_1.mp hi; omega)
  simp only [eI] at hf
  simp [D_is_walk, B_is_walk, q1, q2, l1, hpl, hb, h0, h.last, i1, t1, range1]
  rw [hf]
  simp
/-- what is told -/
def ansD (s : Shop) (t : Nat) (ps w : List Nat) : D := match missL ps w with
  | p :: _ => .ob 2 [.int p]
  | [] => match moreL s t ps w with
    | j :: _ => .ob 3 [.int j]
    | [] => .ob 1 []
theorem cEq_nil (xs : List Nat) : cEq (.lst (xs.map eI)) (.lst []) = some (decide (xs = [])) := cEq_eN0 xs
theorem judged_ok {s : Shop} (hs : VS s) {t : Nat} (ht : t ≤ s.length) {ps w : List Nat} (hp : VP s.length ps) (h : Wk s t w) : D_judged [eS s, eI t, eN ps, eN w] = .ok (ansD s t ps w) := by
  have hsl := hs.len
  have hpl := hp.len
  have m1 := asked_all_ok hs ht hp
  have m2 := is_walk_ok hs h
  have m3 := gone_of_ok hs h.adj h.len
  have m4 := must_of_ok hs ht hp.le
  have l1 := lineOk_s (n := ps.length) (by omega)
  have l2 := lineOk_s (n := s.length) (by omega)
  have i1 := inRg_n (n := s.length) (by omega)
  have hmiss : ∀ ρ : Ev, 8 < ρ.length → ρ[3]? = some (.sh (eN w)) → lcG (gNm 8) (bC cNotIn (dVar 8) (dVar 3)) (dVar 8) ρ (ps.map eI) = .ok ((missL ps w).map eI) := by
    intro ρ hρ h3
    rw [lcG_filter eI (fun p => !decide (p ∈ w)) eI ps ?_]
    · rfl
    · intro x hx
      refine ⟨_, rfl, ?_, fun _ => ?_⟩
      · have g : (ρ.set 8 (.sh (eI x)))[8]? = some (.sh (eI x)) := List.getElem?_set_self hρ
        have g3 : (ρ.set 8 (.sh (eI x)))[3]? = some (.sh (eN w)) := by rw [List.getElem?_set_ne (by decide)]; exact h3
        have hin := cIn_n x w
        simp only [eI] at g g3
        simp [g, g3, hin]
      · have g : (ρ.set 8 (.sh (eI x)))[8]? = some (.sh (eI x)) := List.getElem?_set_self hρ
        simp only [eI] at g
        simp [g]
  have hmore : ∀ ρ : Ev, 9 < ρ.length → ρ[6]? = some (.sh (.lst ((goneL s w).map D.int))) → ρ[7]? = some (.sh (.lst ((mustM s t ps).map D.int))) →
      lcG (gNm 9) (bC cGt (d2 vIdx (dVar 6) (dVar 9)) (d2 vIdx (dVar 7) (dVar 9))) (d2 vAdd (dVar 9) (dC (.int 1))) ρ ((List.range s.length).map fun k => D.int (k : Nat)) = .ok ((moreL s t ps w).map eI) := by
    intro ρ hρ h6 h7
    rw [lcG_filter (fun k : Nat => D.int (k : Nat)) (fun i => isMore s t ps w (i + 1)) (fun i => eI (i + 1)) _ ?_]
    · unfold moreL
      rw [List.map_map]
      rfl
    · intro x hx
      have hx := List.mem_range.mp hx
      have a1 := goneL_at (s := s) (w := w) hx
      have a2 := mustM_at (s := s) (t := t) (ps := ps) hx
      refine ⟨_, rfl, ?_, fun _ => ?_⟩
      · have g : (ρ.set 9 (.sh (.int (x : Nat))))[9]? = some (.sh (.int (x : Nat))) := List.getElem?_set_self hρ
        have g6 : (ρ.set 9 (.sh (.int (x : Nat))))[6]? = some (.sh (.lst ((goneL s w).map D.int))) := by rw [List.getElem?_set_ne (by decide)]; exact h6
        have g7 : (ρ.set 9 (.sh (.int (x : Nat))))[7]? = some (.sh (.lst ((mustM s t ps).map D.int))) := by rw [List.getElem?_set_ne (by decide)]; exact h7
        simp [g, g6, g7, atI_n, a1, a2, isMore_int]
      · have g : (ρ.set 9 (.sh (.int (x : Nat))))[9]? = some (.sh (.int (x : Nat))) := List.getElem?_set_self hρ
        simp [g]
  have c1 := cEq_nil (missL ps w)
  have c2 := cEq_nil (moreL s t ps w)
  have hlm : (missL ps w).length ≤ ps.length := List.length_filter_le _ _
  simp only [eI] at m1 m2 m4
  unfold ansD
  cases e1 : missL ps w with
  | cons p r =>
    rw [e1] at hmiss c1
    simp [D_judged, B_judged, m1, m2, l1, hmiss, c1] at c1 ⊢
    simp [c1]
  | nil =>
    rw [e1] at hmiss c1
    cases e2 : moreL s t ps w with
    | cons j r =>
      rw [e2] at hmore c2
      simp at c1 c2
      simp [D_judged, B_judged, m1, m2, m3, m4, l1, l2, i1, hmiss, rangeD_map, hmore, c1, c2]
    | nil =>
      rw [e2] at hmore c2
      simp at c1 c2
      simp [D_judged, B_judged, m1, m2, m3, m4, l1, l2, i1, hmiss, rangeD_map, hmore, c1, c2]
theorem short_ok {s : Shop} (hs : VS s) {t : Nat} (ht : t ≤ s.length) {ps w : List Nat} (hp : ∀ p ∈ ps, p ≤ s.length) (hpl : ps.length ≤ 1000) (h : Adj s w) (hl : w.length ≤ 400) : D_Shortest_shows [.ob 1 [], eS s, eI t, eN ps, eN w] = .ok (.bl (shortB s t ps w)) := by
  have m3 := gone_of_ok hs h hl
  have m4 := must_of_ok hs ht hp
  have l1 := lineOk_s (n := ps.length) (by omega)
  have c1 := cEq_ints (goneL s w) (mustM s t ps)
  have b1 := boolsD_of (fun p => decide (p ∈ w)) ps
  have a1 := all_map ps w
  simp only [eI] at m4
  unfold shortB
  have hc := in_comp (ρ := [.sh (.ob 1 []), .sh (eS s), .sh (.int (t : Nat)), .sh (eN ps), .sh (eN w), .no]) (ps := ps) (w := w) (i := 5) (k := 4) (Nat.lt_succ_self 5) (by decide) rfl
  cases ha : allIn ps w with
  | true =>
    rw [ha] at a1
    simp [D_Shortest_shows, B_Shortest_shows, hc, b1, a1, l1, m3, m4, c1]
  | false =>
    rw [ha] at a1
    simp [D_Shortest_shows, B_Shortest_shows, hc, b1, a1, l1]
theorem miss_ok {s t : D} {ps w : List Nat} (j : Int) : D_Missed_shows [.ob 2 [.int j], s, t, eN ps, eN w] = .ok (.bl (missB ps w j)) := by
  have c1 := cIn_z j ps
  have c2 := cIn_z j w
  unfold missB
  cases h1 : decide (j ∈ zN ps) with
  | true =>
    rw [h1] at c1
    simp [D_Missed_shows, B_Missed_shows, c1, c2]
  | false =>
    rw [h1] at c1
    simp [D_Missed_shows, B_Missed_shows, c1]
end T_k12
/-! MK: answers, and what the law tells of them. -/
namespace T_k12
open PySem L2 PL
inductive An where
  | sh | mi (j : Int) | lo (j : Int)
@[simp] def aD : An → D
  | .sh => .ob 1 []
  | .mi j => .ob 2 [.int j]
  | .lo j => .ob 3 [.int j]
@[simp] def tellB (s : Shop) (t : Nat) (ps w : List Nat) : An → Bool
  | .sh => shortB s t ps w
  | .mi j => missB ps w j
  | .lo j => longB s t ps w j
def ansA (s : Shop) (t : Nat) (ps w : List Nat) : An := match missL ps w with
  | p :: _ => .mi p
  | [] => match moreL s t ps w with
    | j :: _ => .lo j
    | [] => .sh
theorem ansD_A (s : Shop) (t : Nat) (ps w : List Nat) : ansD s t ps w = aD (ansA s t ps w) := by
  unfold ansD ansA
  cases missL ps w with
  | cons p r => rfl
  | nil => cases moreL s t ps w with
    | cons j r => rfl
    | nil => rfl
def moreB (s : Shop) (t : Nat) (ps w : List Nat) : Bool := (List.range s.length).any fun i => isMore s t ps w (i + 1)
theorem moreB_iff {s : Shop} {t : Nat} {ps w : List Nat} : moreB s t ps w = false ↔ moreL s t ps w = [] := by
  unfold moreB moreL
  rw [List.map_eq_nil_iff, List.filter_eq_nil_iff, List.any_eq_false]
def kindS (s : Shop) (t : Nat) (ps w : List Nat) : Str := if allIn ps w = true then (if moreB s t ps w = true then "longer" else "shortest") else "missed"
/-- the three ways -/
theorem ans_ways (s : Shop) (t : Nat) (ps w : List Nat) : (∃ p, ansA s t ps w = .mi (p : Nat) ∧ allIn ps w = false ∧ p ∈ ps ∧ p ∉ w) ∨ (∃ j, ansA s t ps w = .lo (j : Nat) ∧ allIn ps w = true ∧ moreB s t ps w = true ∧ 1 ≤ j ∧ j ≤ s.length ∧ isMore s t ps w j = true) ∨
    (ansA s t ps w = .sh ∧ allIn ps w = true ∧ moreB s t ps w = false ∧ moreL s t ps w = []) := by
  unfold ansA
  cases e1 : missL ps w with
  | cons p r =>
    left
    have hp : p ∈ missL ps w := by rw [e1]; simp
    unfold missL at hp
    obtain ⟨h1, h2⟩ := List.mem_filter.mp hp
    refine ⟨p, rfl, ?_, h1, by simpa using h2⟩
    rw [Bool.eq_false_iff]
    intro z
    rw [miss_nil.mpr z] at e1
    cases e1
  | nil =>
    right
    have ha := miss_nil.mp e1
    cases e2 : moreL s t ps w with
    | cons j r =>
      left
      have hj : j ∈ moreL s t ps w := by rw [e2]; simp
      unfold moreL at hj
      obtain ⟨i, hi, rfl⟩ := List.mem_map.mp hj
      obtain ⟨h1, h2⟩ := List.mem_filter.mp hi
      have h1 := List.mem_range.mp h1
      refine ⟨i + 1, rfl, ha, ?_, by omega, by omega, h2⟩
      cases eb : moreB s t ps w with
      | true => rfl
      | false => rw [moreB_iff.mp eb] at e2; cases e2
    | nil => exact .inr ⟨rfl, ha, moreB_iff.mpr e2, rfl⟩
theorem ans_true {s : Shop} (hs : VS s) {t : Nat} {ps w : List Nat} (h : Wk s t w) : tellB s t ps w (ansA s t ps w) = true := by
  rcases ans_ways s t ps w with ⟨p, e, _, h1, h2⟩ | ⟨j, e, h1, _, h2, h3, h4⟩ | ⟨e, h1, _, h2⟩
  · rw [e]
    have a : (p : Int) ∈ zN ps := mem_zN.mpr h1
    have b : ¬ (p : Int) ∈ zN w := fun z => h2 (mem_zN.mp z)
    simp [missB, a, b]
  · rw [e]
    have a : (1 : Int) ≤ (j : Int) := by omega
    have b : (j : Int) ≤ (s.length : Int) := by omega
    simp only [tellB, longB, h1, decide_eq_true a, decide_eq_true b, Int.toNat_natCast, h4, Bool.and_self]
  · rw [e]
    simp only [tellB, shortB, h1, (more_nil hs h h1).mp h2, decide_true, Bool.and_self]
theorem short_kind {s : Shop} (hs : VS s) {t : Nat} {ps w : List Nat} (h : Wk s t w) : decide (kindS s t ps w = "shortest") = shortB s t ps w := by
  unfold kindS shortB
  have n1 : ¬ ("missed" : Str) = "shortest" := by decide
  have n2 : ¬ ("longer" : Str) = "shortest" := by decide
  cases ha : allIn ps w with
  | false => simp [n1]
  | true =>
    cases hm : moreB s t ps w with
    | false =>
      have := (more_nil hs h ha).mp (moreB_iff.mp hm)
      simp [this]
    | true =>
      have : ¬ goneL s w = mustM s t ps := fun z => by
        rw [moreB_iff.mpr ((more_nil hs h ha).mpr z)] at hm
        cases hm
      simp [this, n2]
theorem cEq_str (x y : Str) (hx : PyData.strOk x = true) (hy : PyData.strOk y = true) : cEq (.str x) (.str y) = some (decide (x = y)) := by
  have e : (x == y) = decide (x = y) := by
    rw [Bool.eq_iff_iff, decide_eq_true_eq]
    exact ⟨fun z => eq_of_beq z, fun z => by rw [z]; exact beq_self_eq_true _⟩
  unfold cEq
  simp [D.toPy, SeqAt.shaped, PyData.canLay0, hx, hy, PyData.depth, PyData.eqv, e]
theorem long_at {s : Shop} {t : Nat} {ps w : List Nat} {j : Int} (h1 : 1 ≤ j) (h2 : j ≤ s.length) : ∃ m : Nat, j - 1 = (m : Int) ∧ m < s.length ∧ j.toNat = m + 1 := ⟨(j - 1).toNat, by omega, by omega, by omega⟩
theorem long_ok {s : Shop} (hs : VS s) {t : Nat} (ht : t ≤ s.length) {ps w : List Nat} (hp : ∀ p ∈ ps, p ≤ s.length) (hpl : ps.length ≤ 1000) (h : Adj s w) (hl : w.length ≤ 400) (j : Int) : D_Longer_shows [.ob 3 [.int j], eS s, eI t, eN ps, eN w] = .ok (.bl (longB s t ps w j)) := by
  have m3 := gone_of_ok hs h hl
  have m4 := must_of_ok hs ht hp
  have l1 := lineOk_s (n := ps.length) (by omega)
  have b1 := boolsD_of (fun p => decide (p ∈ w)) ps
  have a1 := all_map ps w
  simp only [eI] at m4
  have hc := in_comp (ρ := [.sh (.ob 3 [.int j]), .sh (eS s), .sh (.int (t : Nat)), .sh (eN ps), .sh (eN w), .no]) (ps := ps) (w := w) (i := 5) (k := 4) (Nat.lt_succ_self 5) (by decide) rfl
  unfold longB
  cases ha : allIn ps w with
  | false =>
    rw [ha] at a1
    simp [D_Longer_shows, B_Longer_shows, hc, b1, a1, l1]
  | true =>
    rw [ha] at a1
    by_cases h1 : 1 ≤ j
    · by_cases h2 : j ≤ s.length
      · obtain ⟨m, e1, e2, e3⟩ := long_at (t := t) (ps := ps) (w := w) h1 h2
        have g1 := goneL_at (w := w) e2
        have g2 := mustM_at (t := t) (ps := ps) e2
        simp [D_Longer_shows, B_Longer_shows, List.lookup, hc, b1, a1, l1, h1, h2, m3, m4, e1, atI_n, g1, g2, e3, isMore_int]
      · simp [D_Longer_shows, B_Longer_shows, List.lookup, hc, b1, a1, l1, h1, h2]
    · simp [D_Longer_shows, B_Longer_shows, List.lookup, hc, b1, a1, l1, h1]
end T_k12
/-! MN: the own word of an answer; walks with ways to and fro. -/
namespace T_k12
open PySem L2 PL
theorem meth_ok {s : Shop} (hs : VS s) {t : Nat} (ht : t ≤ s.length) {ps w : List Nat} (hp : ∀ p ∈ ps, p ≤ s.length) (hpl : ps.length ≤ 1000) (h : Adj s w) (hl : w.length ≤ 400) (a : An) :
    ∃ g c xs, aD a = .ob c xs ∧ [(1, D_Shortest_shows), (2, D_Missed_shows), (3, D_Longer_shows)].lookup c = some g ∧ g [aD a, eS s, eI t, eN ps, eN w] = .ok (.bl (tellB s t ps w a)) := by
  cases a with
  | sh => exact ⟨_, 1, [], rfl, rfl, short_ok hs ht hp hpl h hl⟩
  | mi j => exact ⟨_, 2, _, rfl, rfl, miss_ok j⟩
  | lo j => exact ⟨_, 3, _, rfl, rfl, long_ok hs ht hp hpl h hl j⟩
theorem meth_at {s : Shop} (hs : VS s) {t : Nat} (ht : t ≤ s.length) {ps w : List Nat} (hp : ∀ p ∈ ps, p ≤ s.length) (hpl : ps.length ≤ 1000) (h : Adj s w) (hl : w.length ≤ 400) (a : An) {fo : Ev → R D} {fs : Ev → R (List D)} {ρ : Ev}
    (h1 : fo ρ = .ok (aD a)) (h2 : fs ρ = .ok [eS s, eI t, eN ps, eN w]) : dMeth 4 [(1, D_Shortest_shows), (2, D_Missed_shows), (3, D_Longer_shows)] fo fs ρ = .ok (.bl (tellB s t ps w a)) := by
  obtain ⟨g, c, xs, e1, e2, e3⟩ := meth_ok hs ht hp hpl h hl a
  unfold dMeth
  rw [h1, e1]
  rw [e1] at e3
  simp only [noex_ok, R.bind_ok, e2, R.of_some, h2, List.length_cons, List.length_nil, if_true, e3]
/-! ### a way to and fro -/
theorem cut_to {α : Type} (xs : List α) (k : Nat) : cutL xs none (some (k : Int)) = xs.take k := by
  unfold cutL
  rw [HT.sIx_none, HT.sIx_nat]
  simp [List.take_eq_take_iff]
theorem cut_from {α : Type} (xs : List α) (k : Nat) : cutL xs (some (k : Int)) none = xs.drop k := by
  unfold cutL
  rw [HT.sIx_none, HT.sIx_nat]
  rcases Nat.le_total k xs.length with h | h
  · rw [Nat.min_eq_left h, List.take_of_length_le (by simp)]
  · rw [Nat.min_eq_right h, List.drop_of_length_le h, List.drop_of_length_le (Nat.le_refl _)]
    simp
def det (w : List Nat) (k o h : Nat) : List Nat := w.take (k + 1) ++ ([o, h] ++ w.drop (k + 1))
def okE (s : Shop) (a b : Nat) : Prop := a ≠ b ∧ par s (max a b) = min a b ∧ max a b ≤ s.length
theorem okE.symm {s : Shop} {a b : Nat} (h : okE s a b) : okE s b a := ⟨h.1.symm, by rw [Nat.max_comm, Nat.min_comm]; exact h.2.1, by rw [Nat.max_comm]; exact h.2.2⟩
theorem det_ok {s : Shop} {o h : Nat} (e : okE s h o) : ∀ (w : List Nat) (k : Nat), w[k]? = some h → Adj s w → Adj s (det w k o h) ∧ (det w k o h).head? = w.head? ∧ (det w k o h).getLast? = w.getLast? ∧ (det w k o h).length = w.length + 2
  | [], k, hk, _ => by simp at hk
  | a :: w, 0, hk, ha => by
    simp at hk
    subst hk
    have e1 : det (a :: w) 0 o a = a :: o :: a :: w := rfl
    rw [e1]
    exact ⟨⟨e, e.symm, ha⟩, rfl, by rw [List.getLast?_cons_cons, List.getLast?_cons_cons], by simp⟩
  | a :: [], k + 1, hk, _ => by simp at hk
  | a :: b :: w, k + 1, hk, ha => by
    obtain ⟨i1, i2, i3, i4⟩ := det_ok e (b :: w) k (by simpa using hk) ha.2
    have e1 : det (a :: b :: w) (k + 1) o h = a :: det (b :: w) k o h := rfl
    rw [e1]
    cases ed : det (b :: w) k o h with
    | nil => rw [ed] at i4; simp at i4
    | cons c r =>
      rw [ed] at i1 i2 i3 i4
      simp at i2
      subst i2
      exact ⟨⟨ha.1, i1⟩, rfl, by rw [List.getLast?_cons_cons, i3, List.getLast?_cons_cons], by simp only [List.length_cons] at i4 ⊢; omega⟩
theorem Wk.det {s : Shop} {t : Nat} {w : List Nat} (hw : Wk s t w) {k o h : Nat} (hk : w[k]? = some h) (e : okE s h o) (hl : w.length ≤ 398) : Wk s t (det w k o h) := by
  obtain ⟨i1, i2, i3, i4⟩ := det_ok e w k hk hw.adj
  exact ⟨i2.trans hw.head, i3.trans hw.last, i1, by omega⟩
/-- there and all the way back -/
theorem adj_rev {s : Shop} : ∀ (w : List Nat) (a : Nat) (r : List Nat), Adj s (a :: w) → Adj s (a :: r) → Adj s ((w.reverse ++ [a]) ++ r)
  | [], a, r, _, h => h
  | b :: w, a, r, h, h2 => by
    have := adj_rev w b (a :: r) h.2 ⟨okE.symm h.1, h2⟩
    simpa using this
theorem adj_back {s : Shop} : ∀ (w r : List Nat) (b : Nat), Adj s (w ++ [b]) → Adj s (b :: r) → Adj s (w ++ b :: r)
  | [], r, b, _, h => h
  | [a], r, b, h, h2 => ⟨h.1, h2⟩
  | a :: c :: w, r, b, h, h2 => ⟨h.1, adj_back (c :: w) r b h.2 h2⟩
theorem Wk.back {s : Shop} {t : Nat} {w : List Nat} (h : Wk s t w) (hl : w.length ≤ 200) : Wk s 0 (w ++ w.reverse.drop 1) := by
  obtain ⟨l, c, hw⟩ : ∃ l c, w = l ++ [c] := by
    obtain ⟨r, rfl⟩ := h.cons
    exact ⟨_, _, (List.dropLast_concat_getLast (l := 0 :: r) (by simp)).symm⟩
  have hr : w.reverse = c :: l.reverse := by rw [hw]; simp
  obtain ⟨r, hr0⟩ := h.cons
  have hadjr : Adj s w.reverse := by
    have := adj_rev r 0 [] (by rw [← hr0]; exact h.adj) trivial
    rw [hr0, List.reverse_cons]
    simpa using this
  have hd : w.reverse.drop 1 = l.reverse := by rw [hr]; rfl
  rw [hd]
  refine ⟨by rw [hr0]; rfl, ?_, ?_, by rw [List.length_append]; have := congrArg List.length hw; simp at this ⊢; omega⟩
  · cases l with
    | nil =>
      rw [hw] at hr0
      simp at hr0
      rw [hw, hr0.1]
      simp
    | cons a l =>
      rw [hw] at hr0
      simp at hr0
      rw [hr0.1]
      simp
  · rw [hw, List.append_assoc]
    exact adj_back l l.reverse c (by rw [← hw]; exact h.adj) (by rw [← hr]; exact hadjr)
theorem kid_ok {s : Shop} (hs : VS s) {h o : Nat} (h1 : 1 ≤ o) (h2 : o ≤ s.length) (e : par s o = h) : okE s h o := by
  have := par_lt hs h1 h2
  rw [e] at this
  exact ⟨by omega, by rw [Nat.max_eq_right (by omega), Nat.min_eq_left (by omega)]; exact e, by rw [Nat.max_eq_right (by omega)]; exact h2⟩
theorem idx_range (s : Shop) : s.zipIdx = (List.range s.length).map fun i => (s.getD i (0, 0), i) := by
  apply List.ext_getElem?
  intro i
  by_cases h : i < s.length
  · simp [h, List.getElem?_eq_getElem h, List.getD_eq_getElem?_getD]
  · simp [h]
/-- the places next to one -/
def besideL (s : Shop) (h : Nat) : List Nat := (((List.range s.length).filter fun i => decide (par s (i + 1) = h)).map (· + 1)) ++ (if 0 < h then [par s h] else [])
theorem beside_ok {s : Shop} (hs : VS s) {h o : Nat} (hh : h ≤ s.length) (ho : o ∈ besideL s h) : okE s h o := by
  unfold besideL at ho
  rcases List.mem_append.mp ho with ho | ho
  · obtain ⟨i, hi, rfl⟩ := List.mem_map.mp ho
    obtain ⟨h1, h2⟩ := List.mem_filter.mp hi
    have h1 := List.mem_range.mp h1
    exact kid_ok hs (by omega) (by omega) (of_decide_eq_true h2)
  · split at ho
    · rename_i hp
      rw [List.mem_singleton.mp ho]
      exact (kid_ok hs hp hh rfl).symm
    · simp at ho
theorem seq_nx {f g : Ev → R Fl} {ρ ρ1 : Ev} (h : f ρ = .ok (.nx ρ1)) : dSeq f g ρ = g ρ1 := by
  simp [h]
theorem kind_str (s : Shop) (t : Nat) (ps w : List Nat) : PyData.strOk (kindS s t ps w) = true := by
  unfold kindS
  split
  · split <;> decide +kernel
  · decide +kernel
theorem cut_last {α : Type} (xs : List α) : cutL xs none (some (-1)) = xs.dropLast := by
  have e : HT.sIx xs.length xs.length (some (-1)) = xs.length - 1 := by
    simp [HT.sIx]
    omega
  unfold cutL
  rw [HT.sIx_none, e, List.dropLast_eq_take]
  simp
theorem VS.dropLast {s : Shop} (h : VS s) : VS s.dropLast := ⟨by have := h.len; simp; omega, fun i p hp => by
  rw [List.dropLast_eq_take, List.getElem?_take] at hp
  split at hp
  · exact h.at_ i p hp
  · cases hp⟩
theorem for_at {it : Ev → R (List D)} {g : D → Ev → Option Ev} {b : Ev → R Fl} {ρ : Ev} {xs : List D} (h : it ρ = .ok xs) : dFor it g b ρ = fo g b xs ρ := by
  unfold dFor
  rw [h]
  rfl
theorem tail_eI (n : Nat) : ((List.range (n + 1)).map eI).tail = (List.range' 1 n).map eI := by
  rw [List.range_eq_range']
  rfl
theorem VP.range (n : Nat) : VP n (List.range (n + 1)) := ⟨List.pairwise_lt_range, fun p hp => by have := List.mem_range.mp hp; omega⟩
end T_k12
/-! MD: splitting places between two. -/
namespace T_k12
open PySem L2 PL
/-! ### all lists of noughts and ones -/
def tgt : Nat → List (List Int)
  | 0 => [[]]
  | n + 1 => (tgt n).map (0 :: ·) ++ (tgt n).map (1 :: ·)
def rowsN : Nat → List (List Int)
  | 0 => [[]]
  | n + 1 => (rowsN n).map (· ++ [0]) ++ (rowsN n).map (· ++ [1])
theorem tgt_mem : ∀ (n : Nat) (w : List Int), w ∈ tgt n ↔ w.length = n ∧ ∀ x ∈ w, x = 0 ∨ x = 1
  | 0, w => by simp [tgt]; intro h; subst h; simp
  | n + 1, w => by
    simp only [tgt, List.mem_append, List.mem_map]
    constructor
    · rintro (⟨v, hv, rfl⟩ | ⟨v, hv, rfl⟩) <;> have := (tgt_mem n v).mp hv <;> simp <;> exact this
    · rintro ⟨h1, h2⟩
      cases w with
      | nil => simp at h1
      | cons x v =>
        have hv : v ∈ tgt n := (tgt_mem n v).mpr ⟨by simpa using h1, fun y hy => h2 y (List.mem_cons_of_mem _ hy)⟩
        rcases h2 x List.mem_cons_self with rfl | rfl
        · exact .inl ⟨v, hv, rfl⟩
        · exact .inr ⟨v, hv, rfl⟩
theorem rows_mem : ∀ (n : Nat) (w : List Int), w ∈ rowsN n ↔ w.length = n ∧ ∀ x ∈ w, x = 0 ∨ x = 1
  | 0, w => by simp [rowsN]; intro h; subst h; simp
  | n + 1, w => by
    simp only [rowsN, List.mem_append, List.mem_map]
    constructor
    · rintro (⟨v, hv, rfl⟩ | ⟨v, hv, rfl⟩)
      · have := (rows_mem n v).mp hv
        exact ⟨by simp [this.1], fun x hx => by
          rcases List.mem_append.mp hx with hx | hx
          · exact this.2 x hx
          · left; simpa using hx⟩
      · have := (rows_mem n v).mp hv
        exact ⟨by simp [this.1], fun x hx => by
          rcases List.mem_append.mp hx with hx | hx
          · exact this.2 x hx
          · right; simpa using hx⟩
    · rintro ⟨h1, h2⟩
      have hne : w ≠ [] := fun e => by subst e; simp at h1
      have hw := List.dropLast_concat_getLast hne
      have hv : w.dropLast ∈ rowsN n := (rows_mem n _).mpr ⟨by simp [h1], fun y hy => h2 y ((List.dropLast_sublist w).subset hy)⟩
      rcases h2 _ (List.getLast_mem hne) with e | e
      · exact .inl ⟨_, hv, by rw [← e]; exact hw⟩
      · exact .inr ⟨_, hv, by rw [← e]; exact hw⟩
theorem tgt_up : ∀ n : Nat, (tgt n).Pairwise (· < ·)
  | 0 => by simp [tgt]
  | n + 1 => by
    simp only [tgt]
    rw [List.pairwise_append]
    refine ⟨?_, ?_, ?_⟩
    · rw [List.pairwise_map]
      exact (tgt_up n).imp fun h => List.cons_lt_cons_iff.mpr (.inr ⟨rfl, h⟩)
    · rw [List.pairwise_map]
      exact (tgt_up n).imp fun h => List.cons_lt_cons_iff.mpr (.inr ⟨rfl, h⟩)
    · intro a ha b hb
      obtain ⟨v, _, rfl⟩ := List.mem_map.mp ha
      obtain ⟨u, _, rfl⟩ := List.mem_map.mp hb
      exact List.cons_lt_cons_iff.mpr (.inl (by decide))
theorem rows_nodup : ∀ n : Nat, (rowsN n).Nodup
  | 0 => by simp [rowsN]
  | n + 1 => by
    simp only [rowsN]
    rw [List.nodup_append]
    refine ⟨(rows_nodup n).map _ fun a b h => by simpa using h, (rows_nodup n).map _ fun a b h => by simpa using h, ?_⟩
    intro a ha b hb e
    subst e
    obtain ⟨v, _, rfl⟩ := List.mem_map.mp ha
    obtain ⟨u, _, h⟩ := List.mem_map.mp hb
    have := (List.append_inj' h rfl).2
    simp at this
theorem lt_irr (x : List Int) : ¬ x < x := List.lt_irrefl x
theorem tgt_perm (n : Nat) : (rowsN n).Perm (tgt n) := by
  refine (List.perm_ext_iff_of_nodup (rows_nodup n) ?_).mpr fun w => by rw [rows_mem, tgt_mem]
  exact (tgt_up n).imp fun {a b} h e => by subst e; exact lt_irr _ h
theorem leD_ints (xs ys : List Int) : leD (.lst (xs.map D.int)) (.lst (ys.map D.int)) = decide (xs ≤ ys) := by
  have e : ∀ zs : List Int, pyOf (.lst (zs.map D.int)) = .list (zs.map PyData.int) := fun zs => by
    unfold pyOf
    have := (inferInstance : En (List Int)).toPy zs
    have h2 : D.toPy (.lst (zs.map D.int)) = some (.list (zs.map PyData.int)) := this
    rw [h2]; rfl
  show (!W.dataLt (pyOf _) (pyOf _)) = _
  rw [e, e, W.dataLt_list]
  have := W.dataLt_ints ys xs
  unfold W.rowLt at this
  rw [this]
  by_cases h : ys < xs
  · simp [h]
  · have : xs ≤ ys := h
    simp [h]
    exact this
theorem sort_rows (n : Nat) : ((rowsN n).map fun w => D.lst (w.map D.int)).mergeSort leD = (tgt n).map fun w => D.lst (w.map D.int) := by
  rw [← List.map_mergeSort (r := fun x y : List Int => decide (x ≤ y)) (fun a _ b _ => (leD_ints a b).symm)]
  congr 1
  refine List.Perm.eq_of_pairwise (le := fun x y : List Int => x ≤ y) (fun a b _ _ h1 h2 => List.le_antisymm h1 h2) ?_ ?_ ((List.mergeSort_perm _ _).trans (tgt_perm n))
  · have := List.pairwise_mergeSort (le := fun x y : List Int => decide (x ≤ y)) (fun a b c h1 h2 => by
      have h1 := of_decide_eq_true h1
      have h2 := of_decide_eq_true h2
      exact decide_eq_true (List.le_trans h1 h2)) (fun a b => by
      rcases List.le_total a b with h | h
      · simp [h]
      · simp [h]) (rowsN n)
    exact this.imp fun h => of_decide_eq_true h
  · exact (tgt_up n).imp fun h => List.le_of_lt h
/-! ### who goes where, by a number's bits -/
def whoN (n m : Nat) : List Int := (List.range n).map fun a => ((m / 2 ^ (n - 1 - a) % 2 : Nat) : Int)
theorem who_lo (n m : Nat) (h : m < 2 ^ n) : whoN (n + 1) m = 0 :: whoN n m := by
  unfold whoN
  rw [List.range_succ_eq_map, List.map_cons, List.map_map]
  congr 1
  · simp only [Nat.add_sub_cancel, Nat.sub_zero]
    rw [Nat.div_eq_of_lt h]; rfl
  · refine List.map_congr_left fun a ha => ?_
    simp only [Function.comp, Nat.succ_eq_add_one]
    congr 4
    omega
theorem who_hi (n m : Nat) (h : m < 2 ^ n) : whoN (n + 1) (2 ^ n + m) = 1 :: whoN n m := by
  unfold whoN
  rw [List.range_succ_eq_map, List.map_cons, List.map_map]
  congr 1
  · simp only [Nat.add_sub_cancel, Nat.sub_zero]
    rw [Nat.add_div_left _ (by exact Nat.two_pow_pos n), Nat.div_eq_of_lt h]; rfl
  · refine List.map_congr_left fun a ha => ?_
    have ha := List.mem_range.mp ha
    simp only [Function.comp, Nat.succ_eq_add_one]
    have e1 : n + 1 - 1 - (a + 1) = n - 1 - a := by omega
    rw [e1]
    have e2 : 2 ^ n = 2 ^ (n - 1 - a) * (2 * 2 ^ a) := by
      rw [← Nat.pow_succ', ← Nat.pow_add]
      congr 1
      omega
    rw [e2, Nat.add_comm, Nat.add_mul_div_left _ _ (Nat.two_pow_pos _), Nat.add_mul_mod_self_left]
theorem who_all : ∀ n : Nat, (List.range (2 ^ n)).map (whoN n) = tgt n
  | 0 => by simp [tgt, whoN]
  | n + 1 => by
    rw [Nat.pow_succ, Nat.mul_two, List.range_add, List.map_append, List.map_map, tgt, ← who_all n, List.map_map, List.map_map]
    congr 1
    · exact List.map_congr_left fun m hm => who_lo n m (List.mem_range.mp hm)
    · exact List.map_congr_left fun m hm => who_hi n m (List.mem_range.mp hm)
/-! ### the best split -/
def selP (ps : List Nat) (w : List Int) (h : Int) : List Nat := ((ps.zip w).filter fun x => decide (x.2 = h)).map (·.1)
theorem sel_sub {ps : List Nat} {w : List Int} {h : Int} : (selP ps w h).Sublist ps := by
  unfold selP
  refine (List.Sublist.map _ List.filter_sublist).trans ?_
  have : ∀ (ps : List Nat) (w : List Int), ((ps.zip w).map (·.1)).Sublist ps := by
    intro ps
    induction ps with
    | nil => intro w; simp
    | cons p ps ih => intro w; cases w with
      | nil => simp
      | cons x w => simpa using ih w
  exact this ps w
theorem VP.sub {n : Nat} {ps qs : List Nat} (h : VP n ps) (s : qs.Sublist ps) : VP n qs := ⟨h.up.sublist s, fun p hp => h.le p (s.subset hp)⟩
def farOf (s : Shop) (t : Nat) (ps : List Nat) (w : List Int) : Int := if leastM s t (selP ps w 1) > leastM s t (selP ps w 0) then leastM s t (selP ps w 1) else leastM s t (selP ps w 0)
def stepB (s : Shop) (t : Nat) (ps : List Nat) (b : Option (Int × List Int)) (w : List Int) : Option (Int × List Int) := match b with
  | none => some (farOf s t ps w, w)
  | some (f, v) => if farOf s t ps w < f then some (farOf s t ps w, w) else some (f, v)
def bestB (s : Shop) (t : Nat) (ps : List Nat) : Option (Int × List Int) := (tgt ps.length).foldl (stepB s t ps) none
theorem step_some (s : Shop) (t : Nat) (ps : List Nat) : ∀ (ws : List (List Int)) (b : Int × List Int), ∃ r, ws.foldl (stepB s t ps) (some b) = some r ∧ (r = b ∨ r.2 ∈ ws)
  | [], b => ⟨b, rfl, .inl rfl⟩
  | w :: ws, (f, v) => by
    by_cases h : farOf s t ps w < f
    · obtain ⟨r, h1, h2⟩ := step_some s t ps ws (farOf s t ps w, w)
      refine ⟨r, by simp only [List.foldl_cons, stepB, if_pos h]; exact h1, .inr ?_⟩
      rcases h2 with rfl | h2
      · exact List.mem_cons_self
      · exact List.mem_cons_of_mem _ h2
    · obtain ⟨r, h1, h2⟩ := step_some s t ps ws (f, v)
      refine ⟨r, by simp only [List.foldl_cons, stepB, if_neg h]; exact h1, ?_⟩
      rcases h2 with rfl | h2
      · exact .inl rfl
      · exact .inr (List.mem_cons_of_mem _ h2)
theorem tgt_ne (n : Nat) : ∃ w ws, tgt n = w :: ws := by
  cases h : tgt n with
  | nil =>
    have : List.replicate n (0 : Int) ∈ tgt n := (tgt_mem n _).mpr ⟨by simp, fun x hx => .inl (List.eq_of_mem_replicate hx)⟩
    rw [h] at this
    simp at this
  | cons w ws => exact ⟨w, ws, rfl⟩
theorem best_some (s : Shop) (t : Nat) (ps : List Nat) : ∃ f w, bestB s t ps = some (f, w) ∧ w.length = ps.length ∧ ∀ x ∈ w, x = 0 ∨ x = 1 := by
  obtain ⟨w, ws, h⟩ := tgt_ne ps.length
  unfold bestB
  rw [h, List.foldl_cons]
  obtain ⟨r, h1, h2⟩ := step_some s t ps ws (farOf s t ps w, w)
  have hm : r.2 ∈ tgt ps.length := by
    rw [h]
    rcases h2 with rfl | h2
    · exact List.mem_cons_self
    · exact List.mem_cons_of_mem _ h2
  exact ⟨r.1, r.2, h1, (tgt_mem _ _).mp hm⟩
theorem sel_ok (k i j : Nat) (ρ : Ev) (t : Ev → R Bool) (e : Ev → R D) (ps : List Nat) (w : List Int) (h : Int) (ht : ∀ (p : Nat) (x : Int), ∃ ρ1, gTwo i j (.tup [eI p, .int x]) ρ = some ρ1 ∧ t ρ1 = .ok (decide (x = h)) ∧ e ρ1 = .ok (eI p)) :
    lcG (gTwo i j) t e ρ (zipD (ps.map eI) (w.map D.int)) = .ok ((selP ps w h).map eI) := by
  rw [zipD_map, lcG_filter _ (fun x : Nat × Int => decide (x.2 = h)) (fun x => eI x.1) _ ?_]
  · unfold selP
    rw [List.map_map]
    rfl
  · intro x hx
    obtain ⟨ρ1, h1, h2, h3⟩ := ht x.1 x.2
    exact ⟨ρ1, h1, h2, fun _ => h3⟩
def encB (f : D → Sl) : Option (Int × List Int) → Sl
  | none => .sh .non
  | some (x, w) => f (.tup [.int x, .lst (w.map D.int)])
theorem split_ok {s : Shop} (hs : VS s) {t : Nat} (ht : t ≤ s.length) {ps : List Nat} (hp : VP s.length ps) (h8 : ps.length ≤ 8) {f : Int} {w : List Int} (hb : bestB s t ps = some (f, w)) : D_split [eS s, eI t, eN ps] = .ok (.lst (w.map D.int)) := by
  have hl := hs.len
  have h1 := asked_all_ok hs ht hp
  have e1 := inRg_n (n := ps.length) (by omega)
  have e2 := lineOk_s (n := ps.length) (by omega)
  have hpow : 2 ^ ps.length ≤ 256 := Nat.le_trans (Nat.pow_le_pow_right (n := 2) (by decide) h8) (by decide)
  have e3 : powOk 1 (ps.length : Int) = true := powOk_s (by omega) (by omega) (by decide)
  have e4 : inRg (2 ^ ps.length : Int) = true := by
    have := inRg_n (n := 2 ^ ps.length) (by omega)
    simpa using this
  have e5 : ((2 : Int) ^ ps.length).toNat = 2 ^ ps.length := by
    rw [show ((2 : Int) ^ ps.length) = ((2 ^ ps.length : Nat) : Int) by simp]
    rfl
  have e6 := lineOk_s (n := 2 ^ ps.length) (by omega)
  have e8 : ¬ (8 : Int) < ps.length := by omega
  simp only [eI] at h1
  simp [D_split, B_split, h1, e1, e2, e3, e4, e5, e6, e8, range_len]
  rw [rangeD_map]
  obtain ⟨j', hf⟩ := fo_fold (g := gNm 4) (b := L_split_0) (α := Option (Int × List Int)) (J := Sl × Sl × Sl) (fun b j => [.sh (eS s), .sh (eI t), .sh (eN ps), encB Sl.nw b, j.1, j.2.1, j.2.2, .no, .no, .no, .no]) (fun b m => stepB s t ps b (whoN ps.length m)) (fun k : Nat => D.int k) (fun b r => ∀ m ∈ r, m < 2 ^ ps.length) (by
    intro b j m r hm
    have hmm := hm m List.mem_cons_self
    have hwl : (whoN ps.length m).length = ps.length := by simp [whoN]
    have hw : ∀ (ρ : Ev), ρ[7]? = some .no → ρ[4]? = some (.sh (.int (m : Nat))) → ρ[2]? = some (.sh (eN ps)) → lcG (gNm 7) bYes (d2 vAnd (d2 vShr (dVar 4) (d2 vSub (d2 vSub (dB iLen (aCons (dVar 2) aNil)) (dC (.int 1))) (dVar 7))) (dC (.int 1))) ρ (rangeD 0 1 ps.length) = .ok ((whoN ps.length m).map D.int) := by
      intro ρ r7 r4 r2
      rw [rangeD_map, lcG_map (fun k : Nat => D.int k) (fun a => D.int ((m / 2 ^ (ps.length - 1 - a) % 2 : Nat) : Int)) _ ?_]
      · simp [whoN]
      · intro a ha
        have ha := List.mem_range.mp ha
        refine ⟨_, rfl, ?_⟩
        have g4 : (ρ.set 7 (.sh (.int (a : Nat))))[4]? = some (.sh (.int (m : Nat))) := by rw [List.getElem?_set_ne (by decide)]; exact r4
        have g2 : (ρ.set 7 (.sh (.int (a : Nat))))[2]? = some (.sh (eN ps)) := by rw [List.getElem?_set_ne (by decide)]; exact r2
        have g7 : (ρ.set 7 (.sh (.int (a : Nat))))[7]? = some (.sh (.int (a : Nat))) := List.getElem?_set_self (List.getElem?_eq_some_iff.mp r7).1
        have q1 : (a : Int) ≤ (ps.length : Int) - 1 := by omega
        have q2 : ((ps.length : Int) - 1 - a).toNat = ps.length - 1 - a := by omega
        simp [g4, g2, g7, q1, q2, PyProof.Rows.bitAnd_m1]
    have hz := lineOk_s (n := min ps.length (whoN ps.length m).length) (by omega)
    have hsel : ∀ (ρ : Ev) (h : Int), ρ[8]? = some (.sh (.int h)) → 10 < ρ.length → lcG (gTwo 9 10) (bC cEq (dVar 10) (dVar 8)) (dVar 9) ρ (zipD (ps.map eI) ((whoN ps.length m).map D.int)) = .ok ((selP ps (whoN ps.length m) h).map eI) := by
      intro ρ h r8 rl
      refine sel_ok 0 9 10 ρ _ _ ps _ h fun p x => ⟨_, rfl, ?_, ?_⟩
      · have g8 : ((ρ.set 9 (.sh (eI p))).set 10 (.sh (.int x)))[8]? = some (.sh (.int h)) := by rw [List.getElem?_set_ne (by decide), List.getElem?_set_ne (by decide)]; exact r8
        have g10 : ((ρ.set 9 (.sh (eI p))).set 10 (.sh (.int x)))[10]? = some (.sh (.int x)) := List.getElem?_set_self (by simpa using rl)
        simp only [eI] at g8 g10
        simp [g8, g10]
      · have g9 : ((ρ.set 9 (.sh (eI p))).set 10 (.sh (.int x)))[9]? = some (.sh (eI p)) := by rw [List.getElem?_set_ne (by decide)]; exact List.getElem?_set_self (by omega)
        simp only [eI] at g9
        simp [g9]
    have l0 := least_of_ok hs ht (hp.sub (sel_sub (w := whoN ps.length m) (h := 0))).le
    have l1 := least_of_ok hs ht (hp.sub (sel_sub (w := whoN ps.length m) (h := 1))).le
    simp only [eI] at l0 l1
    refine ⟨_, (.sh (.int m), .nw (.lst ((whoN ps.length m).map D.int)), .sh (.lst [.int (leastM s t (selP ps (whoN ps.length m) 0)), .int (leastM s t (selP ps (whoN ps.length m) 1))])), rfl, .inl ?_, fun k hk => hm k (List.mem_cons_of_mem _ hk)⟩
    have hmax : maxL [leastM s t (selP ps (whoN ps.length m) 0), leastM s t (selP ps (whoN ps.length m) 1)] = some (farOf s t ps (whoN ps.length m)) := by
      unfold farOf maxL
      simp only [List.foldl_cons, List.foldl_nil]
      congr 1
      rw [Int.max_def]
      split <;> split <;> omega
    cases b with
    | none => simp [e1, e2, range_len, hw, flatL_ints, hz, zipD_len, hsel, l0, l1, hmax, encB, stepB, D.flat]
    | some q =>
      obtain ⟨f0, v⟩ := q
      by_cases hlt : farOf s t ps (whoN ps.length m) < f0
      · simp [e1, e2, range_len, hw, flatL_ints, hz, zipD_len, hsel, l0, l1, hmax, encB, stepB, D.flat, hlt]
      · simp [e1, e2, range_len, hw, flatL_ints, hz, zipD_len, hsel, l0, l1, hmax, encB, stepB, D.flat, hlt]) (List.range (2 ^ ps.length)) none (.no, .no, .no) (fun m hm => List.mem_range.mp hm)
  have hbest : (List.range (2 ^ ps.length)).foldl (fun b m => stepB s t ps b (whoN ps.length m)) none = some (f, w) := by
    rw [← hb, bestB, ← who_all, List.foldl_map]
  rw [hbest] at hf
  simp only [eI, encB] at hf
  rw [hf]
  simp [flatL_ints]
def eR (w : List Int) : D := .lst (w.map D.int)
theorem pyOf_row (w : List Int) : pyOf (eR w) = .list (w.map PyData.int) := by
  unfold pyOf
  have := (inferInstance : En (List Int)).toPy w
  have h2 : D.toPy (.lst (w.map D.int)) = some (.list (w.map PyData.int)) := this
  unfold eR
  rw [h2]; rfl
theorem sortOk_rows (ws : List (List Int)) : SortOk (ws.map eR) := by
  have e : (ws.map eR).map pyOf = ws.map fun w => PyData.list (w.map PyData.int) := by
    rw [List.map_map]
    exact List.map_congr_left fun w _ => pyOf_row w
  refine ⟨fun d hd => ?_, ?_, ?_, fun d hd => ?_⟩
  · obtain ⟨w, _, rfl⟩ := List.mem_map.mp hd
    rw [pyOf_row]
    exact (inferInstance : En (List Int)).toPy w
  · rw [e]
    exact W.AllAlike.of fun b b' => by
      show W.alike (.list _) (.list _) = true
      simp only [W.alike]
      exact W.alike_ints b b'
  · rw [e]
    exact W.Sortable.others fun b => ⟨(fun z => nomatch z), fun xs z => nomatch z⟩
  · obtain ⟨w, _, rfl⟩ := List.mem_map.mp hd
    rw [pyOf_row]
    have := W.depth_ints w
    simp [PyData.depth, this]
theorem rows_len : ∀ n : Nat, (rowsN n).length = 2 ^ n
  | 0 => rfl
  | n + 1 => by simp [rowsN, rows_len n, Nat.pow_succ, Nat.mul_two]
/-! ### by reckoning -/
def farC (s : Shop) (t : Nat) (ps : List Nat) (w : List Int) : Int := if leastC s t (selP ps w 1) > leastC s t (selP ps w 0) then leastC s t (selP ps w 1) else leastC s t (selP ps w 0)
def stepC (s : Shop) (t : Nat) (ps : List Nat) (b : Option (Int × List Int)) (w : List Int) : Option (Int × List Int) := match b with
  | none => some (farC s t ps w, w)
  | some (f, v) => if farC s t ps w < f then some (farC s t ps w, w) else some (f, v)
theorem best_eq (s : Shop) (t : Nat) (ps : List Nat) : bestB s t ps = (tgt ps.length).foldl (stepC s t ps) none := by
  have h : stepB s t ps = stepC s t ps := by
    funext b w
    unfold stepB stepC farOf farC
    simp only [least_eq]
  unfold bestB
  rw [h]
end T_k12
/-! MQ: words. -/
namespace T_k12
open PySem L2 PL
abbrev LET : Str := "abcdefghijklmnopqrstuvwxyz"
theorem whole_int (i : Int) : D_is_whole [.int i] = .ok (.bl true) := by
  simp [D_is_whole, B_is_whole]
structure NmOk (x : Str) : Prop where
  lo : 1 ≤ x.cps.size
  hi : x.cps.size ≤ 4
  ch : ∀ c ∈ x.cps.toList, 97 ≤ c ∧ c ≤ 122
theorem in_let {c : Nat} (h : 97 ≤ c ∧ c ≤ 122) : cIn (.str ⟨#[c]⟩) (.str LET) = some true := by
  have := (by decide +kernel : ∀ k ∈ List.range 26, cIn (.str ⟨#[97 + k]⟩) (.str LET) = some true) (c - 97) (by simp; omega)
  rwa [show 97 + (c - 97) = c by omega] at this
theorem is_name_ok {x : Str} (h : NmOk x) : D_is_name [.str x] = .ok (.bl true) := by
  have h0 := h.lo
  have h1 := h.hi
  have hl : x.length = x.cps.size := rfl
  have e1 : lineOk x.length = true := lineOk_s (by omega)
  have e2 : lineOk x.cps.size = true := lineOk_s (by omega)
  have hc : lcG (gNm 1) bYes (bV (bC cIn (dVar 1) (dC (.str LET)))) [.sh (.str x), .no] (x.cps.toList.map fun c => D.str ⟨#[c]⟩) = .ok (x.cps.toList.map fun _ => D.bl true) :=
    lcG_map (fun c => D.str ⟨#[c]⟩) (fun _ => D.bl true) _ fun c hc => ⟨_, rfl, by simp [in_let (h.ch c hc)]⟩
  have e3 : (1 : Int) ≤ x.length := by omega
  have e4 : (x.length : Int) ≤ 4 := by omega
  simp [D_is_name, B_is_name, e1, e2, e3, e4, hc, boolsD_of]
/-- a word: want (0), got (1) or strike (2) -/
structure Wd where
  k : Nat
  h : Nat
  n : Nat
  x : Str
  p : Nat
  m : Nat
deriving DecidableEq
@[simp] def kS (k : Nat) : Str := if k = 0 then "want" else if k = 1 then "got" else "strike"
def Wd.d (w : Wd) : D := if w.k = 2 then .tup [.str (kS w.k), .int w.h, .int w.n] else .tup [.str (kS w.k), .int w.h, .int w.n, .str w.x, .int w.p, .int w.m]
structure Wd.Ok (w : Wd) : Prop where
  k : w.k ≤ 2
  h : w.h < 4
  n : w.n ≤ 60
  st : w.k = 2 → w.x = "" ∧ w.p = 0 ∧ w.m = 0
  nm : w.k ≠ 2 → NmOk w.x
  p : w.k ≠ 2 → w.p < 100
  m : w.k ≠ 2 → 1 ≤ w.m ∧ w.m ≤ 9
theorem is_thing_ok {x : Str} {p : Nat} (h : NmOk x) (hp : p < 100) : D_is_thing [.str x, .int p] = .ok (.bl true) := by
  have : (p : Int) < 100 := by omega
  simp [D_is_thing, B_is_thing, is_name_ok h, whole_int, this]
theorem is_many_ok {m : Nat} (h : 1 ≤ m ∧ m ≤ 9) : D_is_many [.int m] = .ok (.bl true) := by
  have e1 : (1 : Int) ≤ m := by omega
  have e2 : (m : Int) ≤ 9 := by omega
  simp [D_is_many, B_is_many, whole_int, e1, e2]
theorem at3 {α : Type} (xs : List α) : atI xs 3 = xs[3]? := atI_n xs 3
theorem at4 {α : Type} (xs : List α) : atI xs 4 = xs[4]? := atI_n xs 4
theorem at5 {α : Type} (xs : List α) : atI xs 5 = xs[5]? := atI_n xs 5
theorem is_word_ok {w : Wd} (h : w.Ok) : D_is_word [w.d] = .ok (.bl true) := by
  have h1 : (w.h : Int) < 4 := by have := h.h; omega
  have h2 : (w.n : Int) ≤ 60 := by have := h.n; omega
  have s1 : cEq (.str "strike") (.str "strike") = some true := by decide +kernel
  have n3 : cNotIn (.int 3) (.tup [.int 3, .int 6]) = some false := by decide +kernel
  have n6 : cNotIn (.int 6) (.tup [.int 3, .int 6]) = some false := by decide +kernel
  have k0 : cIn (.str "want") (.tup [.str "want", .str "got"]) = some true := by decide +kernel
  have k1 : cIn (.str "got") (.tup [.str "want", .str "got"]) = some true := by decide +kernel
  have c3 : ∀ a b c : D, cutL [a, b, c] (some 1) (some 3) = [b, c] := fun _ _ _ => rfl
  have c6 : ∀ a b c d e f : D, cutL [a, b, c, d, e, f] (some 1) (some 3) = [b, c] := fun _ _ _ _ _ _ => rfl
  by_cases hk : w.k = 2
  · simp [D_is_word, B_is_word, Wd.d, hk, n3, s1, h1, h2, whole_int, c3, -cNotIn]
  · have hk' : w.k = 0 ∨ w.k = 1 := by have := h.k; omega
    rcases hk' with hk' | hk' <;> simp [D_is_word, B_is_word, Wd.d, hk', n6, k0, k1, h1, h2, whole_int, c6, at3, at4, at5, is_thing_ok (h.nm hk) (h.p hk), is_many_ok (h.m hk), -cNotIn]
theorem asked_words_ok {ws : List Wd} (h : ∀ w ∈ ws, w.Ok) (hl : ws.length ≤ 40) : D_asked_words [.lst (ws.map Wd.d)] = .ok .non := by
  have hc : lcG (gNm 1) bYes (dCall 1 D_is_word (aCons (dVar 1) aNil)) [.sh (.lst (ws.map Wd.d)), .no] (ws.map Wd.d) = .ok (ws.map fun _ => D.bl true) :=
    lcG_map Wd.d (fun _ => D.bl true) _ fun w hw => ⟨_, rfl, by simp [is_word_ok (h w hw)]⟩
  have e1 : ¬ (40 : Int) < ws.length := by omega
  have e2 := lineOk_s (n := ws.length) (by omega)
  simp [D_asked_words, B_asked_words, hc, e1, e2, boolsD_of]
/-! ### words as data -/
def Wd.py (w : Wd) : PyData := if w.k = 2 then .tuple [.str (kS w.k), .int w.h, .int w.n] else .tuple [.str (kS w.k), .int w.h, .int w.n, .str w.x, .int w.p, .int w.m]
theorem Wd.toPy (w : Wd) : w.d.toPy = some w.py := by
  unfold Wd.d Wd.py
  split <;> simp [D.toPy, D.toPyL]
theorem nm_str {x : Str} (h : NmOk x) : PyData.strOk x = true := by
  unfold PyData.strOk
  rw [Array.all_eq_true]
  intro i hi
  have := h.ch x.cps[i] (by simp)
  simp
  omega
theorem kS_ok (k : Nat) : PyData.strOk (kS k) = true := by
  unfold kS
  split
  · decide +kernel
  · split <;> decide +kernel
theorem kS_inj {k l : Nat} (hk : k ≤ 2) (hl : l ≤ 2) : kS k = kS l ↔ k = l := by
  have h : ∀ a ∈ List.range 3, ∀ b ∈ List.range 3, kS a = kS b ↔ a = b := by decide +kernel
  exact h k (by simp; omega) l (by simp; omega)
theorem Wd.shaped {w : Wd} (h : w.Ok) : SeqAt.shaped w.py = true := by
  unfold Wd.py
  split
  · simp [SeqAt.shaped, PyData.canLay0, PyData.canLayAll0, PyData.depth, PyData.depthAll, kS_ok, -kS]
  · rename_i hk
    simp [SeqAt.shaped, PyData.canLay0, PyData.canLayAll0, PyData.depth, PyData.depthAll, kS_ok, nm_str (h.nm hk), -kS]
theorem str_beq (x y : Str) : (x == y) = decide (x = y) := by
  rw [Bool.eq_iff_iff, decide_eq_true_eq]
  exact ⟨fun z => eq_of_beq z, fun z => by rw [z]; exact beq_self_eq_true _⟩
theorem Wd.eqv {w v : Wd} (h : w.Ok) (h' : v.Ok) : PyData.eqv w.py v.py = decide (w = v) := by
  obtain ⟨k, a, n, x, p, m⟩ := w
  obtain ⟨l, b, n', y, q, m'⟩ := v
  have e := kS_inj h.k h'.k
  have s1 := h.st
  have s2 := h'.st
  dsimp only at e s1 s2
  unfold Wd.py
  dsimp only
  by_cases hk : k = 2 <;> by_cases hl : l = 2
  · obtain ⟨x1, x2, x3⟩ := s1 hk
    obtain ⟨y1, y2, y3⟩ := s2 hl
    subst hk hl x1 x2 x3 y1 y2 y3
    simp [PyData.eqv, PyData.eqvAll, Bool.beq_eq_decide_eq, -kS, Int.ofNat_inj]
  · have : ¬ k = l := by omega
    simp [hk, hl, PyData.eqv, PyData.eqvAll]
    omega
  · have : ¬ k = l := by omega
    simp [hk, hl, PyData.eqv, PyData.eqvAll]
  · rw [if_neg hk, if_neg hl]
    simp only [PyData.eqv, PyData.eqvAll, str_beq, e, Wd.mk.injEq, Bool.and_true]
    simp [Bool.beq_eq_decide_eq, Int.ofNat_inj]
/-! ### a dict of words -/
def Wd.key (w : Wd) : List Key := [.inr (kS w.k), .inl w.h, .inl w.n]
theorem Wd.key_iff {w v : Wd} (h : w.Ok) (h' : v.Ok) : w.key = v.key ↔ w.k = v.k ∧ w.h = v.h ∧ w.n = v.n := by
  unfold Wd.key
  rw [List.cons.injEq, List.cons.injEq, List.cons.injEq]
  simp only [Sum.inr.injEq, Sum.inl.injEq, kS_inj h.k h'.k, Int.ofNat_inj, and_true]
theorem cEq_wd {w v : Wd} (h : w.Ok) (h' : v.Ok) : cEq w.d v.d = some (decide (w = v)) := by
  unfold cEq
  rw [Wd.toPy, Wd.toPy]
  simp [Wd.shaped h, Wd.shaped h', Wd.eqv h h']
def Wd.kd (w : Wd) : D := .tup [.str (kS w.k), .int w.h, .int w.n]
theorem Wd.cut (w : Wd) : vSl none (some 3) w.d = .ok w.kd := by
  have c3 : ∀ a b c : D, cutL [a, b, c] none (some 3) = [a, b, c] := fun _ _ _ => rfl
  have c6 : ∀ a b c d e f : D, cutL [a, b, c, d, e, f] none (some 3) = [a, b, c] := fun _ _ _ _ _ _ => rfl
  unfold Wd.d Wd.kd
  split <;> simp [c3, c6, -kS]
theorem Wd.keyD (w : Wd) : PL.keyD w.kd = some w.key := rfl
theorem Wd.dKey (w : Wd) : PL.dKey w.key = w.kd := rfl
theorem getK_map {α : Type} (f : α → List Key) (g : α → D) (k : List Key) : ∀ xs : List α, getK (xs.map f) (xs.map g) k = (xs.find? fun x => decide (f x = k)).map g
  | [] => rfl
  | x :: xs => by
    unfold getK
    rw [List.map_cons, List.map_cons, List.zip_cons_cons, List.find?_cons, List.find?_cons]
    by_cases e : f x = k
    · simp [e]
    · simp only [e, decide_false]
      exact getK_map f g k xs
theorem find_here {α : Type} (f : α → List Key) {w : α} : ∀ {acc : List α}, w ∈ acc → (∀ v ∈ acc, f v = f w → v = w) → (acc.find? fun x => decide (f x = f w)) = some w
  | a :: acc, hw, hc => by
    rw [List.find?_cons]
    by_cases e : f a = f w
    · have := hc a List.mem_cons_self e
      subst this
      simp
    · simp only [e, decide_false]
      rcases List.mem_cons.mp hw with rfl | hw
      · exact absurd rfl e
      · exact find_here f hw fun v hv => hc v (List.mem_cons_of_mem _ hv)
theorem put_here {α : Type} (f : α → List Key) (g : α → D) {w : α} {acc : List α} (hw : w ∈ acc) (hc : ∀ v ∈ acc, f v = f w → v = w) : putKs (acc.map f) (f w) = acc.map f ∧ putXs (acc.map f) (acc.map g) (f w) (g w) = acc.map g := by
  have hh : hasK (acc.map f) (f w) = true := hasK_iff.mpr (List.mem_map_of_mem hw)
  unfold putKs putXs
  rw [if_pos hh, if_pos hh]
  refine ⟨rfl, ?_⟩
  clear hh hw
  induction acc with
  | nil => rfl
  | cons a acc ih =>
    rw [List.map_cons, List.map_cons, List.zipWith_cons_cons, ih fun v hv => hc v (List.mem_cons_of_mem _ hv)]
    by_cases e : f a = f w
    · rw [if_pos e, hc a List.mem_cons_self e]
    · rw [if_neg e]
theorem put_there {α : Type} (f : α → List Key) (g : α → D) {w : α} {acc : List α} (hn : ∀ v ∈ acc, f v ≠ f w) : putKs (acc.map f) (f w) = (acc ++ [w]).map f ∧ putXs (acc.map f) (acc.map g) (f w) (g w) = (acc ++ [w]).map g := by
  have hh : ¬ hasK (acc.map f) (f w) = true := fun z => by
    obtain ⟨v, hv, e⟩ := List.mem_map.mp (hasK_iff.mp z)
    exact hn v hv e
  unfold putKs putXs
  rw [if_neg hh, if_neg hh, List.map_append, List.map_append]
  exact ⟨rfl, rfl⟩
/-! ### joined -/
/-- one after another, each once -/
def once (acc : List Wd) : List Wd → List Wd
  | [] => acc
  | w :: ws => once (if w ∈ acc then acc else acc ++ [w]) ws
/-- a word of a kind, a hand and a number -/
def Cons (ws : List Wd) : Prop := ∀ w ∈ ws, ∀ v ∈ ws, w.key = v.key → w = v
theorem join_one {acc : List Wd} {w : Wd} (ok : ∀ v ∈ w :: acc, v.Ok) (hc : Cons (w :: acc)) (hl : acc.length ≤ 1000) (a b s : Sl) :
    L_joined_of_0 [a, b, .od (acc.map Wd.key) (acc.map Wd.d), .sh w.d, s] = .ok (.nx [a, b, .od ((if w ∈ acc then acc else acc ++ [w]).map Wd.key) ((if w ∈ acc then acc else acc ++ [w]).map Wd.d), .sh w.d, s]) := by
  have e1 := cEq_wd (ok w List.mem_cons_self) (ok w List.mem_cons_self)
  have e2 := ltLine_s (n := acc.length) (by omega)
  by_cases hw : w ∈ acc
  · have hc' : ∀ v ∈ acc, v.key = w.key → v = w := fun v hv e => hc v (List.mem_cons_of_mem _ hv) w List.mem_cons_self e
    obtain ⟨p1, p2⟩ := put_here Wd.key Wd.d hw hc'
    simp [-vSl, Wd.cut, Wd.keyD, getK_map, find_here Wd.key hw hc', e1, e2, p1, p2, hw]
  · have hn : ∀ v ∈ acc, v.key ≠ w.key := fun v hv e => hw (by rw [← hc v (List.mem_cons_of_mem _ hv) w List.mem_cons_self e]; exact hv)
    obtain ⟨p1, p2⟩ := put_there Wd.key Wd.d hn
    have hf : (acc.find? fun x => decide (x.key = w.key)) = none := by
      rw [List.find?_eq_none]
      intro v hv
      simp [hn v hv]
    simp [-vSl, Wd.cut, Wd.keyD, getK_map, hf, e1, e2, p1, p2, hw]
theorem Cons.mono {ws vs : List Wd} (h : Cons ws) (l : ∀ v ∈ vs, v ∈ ws) : Cons vs := fun w hw v hv e => h w (l w hw) v (l v hv) e
theorem once_len : ∀ (ws acc : List Wd), (once acc ws).length ≤ acc.length + ws.length
  | [], _ => Nat.le_refl _
  | w :: ws, acc => by
    unfold once
    have := once_len ws (if w ∈ acc then acc else acc ++ [w])
    split at this <;> rename_i h <;> simp [h] at this ⊢ <;> omega
theorem once_mem : ∀ (ws acc : List Wd) (v : Wd), v ∈ once acc ws ↔ v ∈ acc ∨ v ∈ ws
  | [], acc, v => by simp [once]
  | w :: ws, acc, v => by
    unfold once
    rw [once_mem ws]
    by_cases h : w ∈ acc
    · rw [if_pos h, List.mem_cons]
      constructor
      · rintro (z | z)
        · exact .inl z
        · exact .inr (.inr z)
      · rintro (z | rfl | z)
        · exact .inl z
        · exact .inl h
        · exact .inr z
    · rw [if_neg h, List.mem_append, List.mem_singleton, List.mem_cons]
      constructor
      · rintro ((z | z) | z)
        · exact .inl z
        · exact .inr (.inl z)
        · exact .inr (.inr z)
      · rintro (z | z | z)
        · exact .inl (.inl z)
        · exact .inl (.inr z)
        · exact .inr z
theorem once_nodup : ∀ (ws acc : List Wd), acc.Nodup → (once acc ws).Nodup
  | [], _, h => h
  | w :: ws, acc, h => by
    unfold once
    refine once_nodup ws _ ?_
    split
    · exact h
    · rename_i n
      rw [List.nodup_append]
      exact ⟨h, by simp, fun a ha b hb => by
        rw [List.mem_singleton] at hb
        subst hb
        exact fun z => n (by subst z; exact ha)⟩
theorem join_all : ∀ (ws acc : List Wd), (∀ v ∈ acc ++ ws, v.Ok) → Cons (acc ++ ws) → acc.length + ws.length ≤ 1000 → ∀ a b s : Sl, ∃ s' : Sl,
    fo (gNm 3) L_joined_of_0 (ws.map Wd.d) [a, b, .od (acc.map Wd.key) (acc.map Wd.d), s, .no] = .ok (.nx [a, b, .od ((once acc ws).map Wd.key) ((once acc ws).map Wd.d), s', .no])
  | [], acc, _, _, _, a, b, s => ⟨s, rfl⟩
  | w :: ws, acc, ok, hc, hl, a, b, s => by
    have l1 : ∀ v ∈ w :: acc, v ∈ acc ++ w :: ws := fun v hv => by
      rcases List.mem_cons.mp hv with rfl | hv
      · simp
      · exact List.mem_append_left _ hv
    have l2 : ∀ v ∈ (if w ∈ acc then acc else acc ++ [w]) ++ ws, v ∈ acc ++ w :: ws := fun v hv => by
      rw [List.mem_append] at hv
      rw [List.mem_append, List.mem_cons]
      rcases hv with hv | hv
      · split at hv
        · exact .inl hv
        · rw [List.mem_append, List.mem_singleton] at hv
          rcases hv with hv | hv
          · exact .inl hv
          · exact .inr (.inl hv)
      · exact .inr (.inr hv)
    have h1 := join_one (acc := acc) (w := w) (fun v hv => ok v (l1 v hv)) (hc.mono l1) (by simp at hl; omega) a b .no
    obtain ⟨s', h2⟩ := join_all ws (if w ∈ acc then acc else acc ++ [w]) (fun v hv => ok v (l2 v hv)) (hc.mono l2) (by split <;> simp at hl ⊢ <;> omega) a b (.sh w.d)
    refine ⟨s', ?_⟩
    rw [List.map_cons, fo_one (ρ1 := [a, b, .od (acc.map Wd.key) (acc.map Wd.d), .sh w.d, .no]) rfl h1]
    exact h2
/-! ### in order -/
theorem Wd.kdPy (w : Wd) : pyOf w.kd = .tuple [.str (kS w.k), .int w.h, .int w.n] := by
  simp [pyOf, Wd.kd, D.toPy, D.toPyL]
theorem Wd.dPy (w : Wd) : pyOf w.d = w.py := by
  unfold pyOf
  rw [Wd.toPy]
  rfl
def srt (ws : List Wd) : List Wd := ws.mergeSort fun w v => leD w.kd v.kd
theorem srt_perm (ws : List Wd) : (srt ws).Perm ws := List.mergeSort_perm _ _
theorem sortOk_kd (ws : List Wd) : SortOk (ws.map Wd.kd) where
  py d hd := by
    obtain ⟨w, _, rfl⟩ := List.mem_map.mp hd
    rw [Wd.kdPy]
    simp [Wd.kd, D.toPy, D.toPyL]
  alike := by
    rw [List.map_map]
    refine PySem.W.AllAlike.of fun w v => ?_
    show PySem.W.alike (pyOf w.kd) (pyOf v.kd) = true
    rw [Wd.kdPy, Wd.kdPy]
    simp [PySem.W.alike, PySem.W.alikeAll]
  sort := by
    rw [List.map_map]
    refine PySem.W.Sortable.tuples fun w => ⟨_, _, Wd.kdPy w⟩
  dep d hd := by
    obtain ⟨w, _, rfl⟩ := List.mem_map.mp hd
    rw [Wd.kdPy]
    simp [PyData.depth, PyData.depthAll]
theorem sort_kd (ws : List Wd) : vSorted (.lst (ws.map Wd.kd)) = .ok ((srt ws).map Wd.kd) := by
  unfold vSorted srt
  simp only [sortB_of (sortOk_kd ws), R.when_true]
  rw [List.map_mergeSort (r := fun w v : Wd => leD w.kd v.kd) (s := leD) (f := Wd.kd) fun a _ b _ => rfl]
theorem leD_wd {w v : Wd} (h : w.Ok) (h' : v.Ok) (hn : w.key ≠ v.key) : leD w.d v.d = leD w.kd v.kd := by
  rw [leD_eq, leD_eq, Wd.dPy, Wd.dPy, Wd.kdPy, Wd.kdPy]
  have hk := (not_congr (Wd.key_iff h h')).mp hn
  have ha : PySem.W.alikeAll [.str (kS v.k), .int v.h, .int v.n] [.str (kS w.k), .int w.h, .int w.n] = true := by
    simp [PySem.W.alike, PySem.W.alikeAll]
  have he : PyData.eqvAll [.str (kS v.k), .int v.h, .int v.n] [.str (kS w.k), .int w.h, .int w.n] = false := by
    simp only [PyData.eqvAll, PyData.eqv, str_beq, kS_inj h'.k h.k, Bool.and_true]
    simp only [Bool.beq_eq_decide_eq, Int.ofNat_inj]
    simp
    omega
  have e : ∀ u : Wd, ∃ r, u.py = .tuple ([.str (kS u.k), .int u.h, .int u.n] ++ r) := fun u => by
    unfold Wd.py
    split
    · exact ⟨[], rfl⟩
    · exact ⟨_, rfl⟩
  obtain ⟨r1, e1⟩ := e w
  obtain ⟨r2, e2⟩ := e v
  rw [e1, e2, dataLt_pre (xs := [.str (kS v.k), .int v.h, .int v.n]) (ys := [.str (kS w.k), .int w.h, .int w.n]) rfl ha he]
theorem alike_wd (w v : Wd) : PySem.W.alike (pyOf w.d) (pyOf v.d) = true := by
  rw [Wd.dPy, Wd.dPy]
  unfold Wd.py
  split <;> split <;> simp [PySem.W.alike, PySem.W.alikeAll]
theorem sortOk_d (ws : List Wd) : SortOk (ws.map Wd.d) where
  py d hd := by
    obtain ⟨w, _, rfl⟩ := List.mem_map.mp hd
    rw [Wd.toPy, Wd.dPy]
  alike := by
    rw [List.map_map]
    exact PySem.W.AllAlike.of fun w v => alike_wd w v
  sort := by
    rw [List.map_map]
    refine PySem.W.Sortable.tuples fun w => ?_
    show ∃ x r, pyOf w.d = _
    rw [Wd.dPy]
    unfold Wd.py
    split <;> exact ⟨_, _, rfl⟩
  dep d hd := by
    obtain ⟨w, _, rfl⟩ := List.mem_map.mp hd
    rw [Wd.dPy]
    unfold Wd.py
    split <;> simp [PyData.depth, PyData.depthAll]
theorem sort_d {ws : List Wd} (ok : ∀ w ∈ ws, w.Ok) (hc : Cons ws) : vSorted (.lst (ws.map Wd.d)) = .ok ((srt ws).map Wd.d) := by
  unfold vSorted srt
  simp only [sortB_of (sortOk_d ws), R.when_true]
  rw [List.map_mergeSort (r := fun w v : Wd => leD w.kd v.kd) (s := leD) (f := Wd.d) fun a ha b hb => ?_]
  by_cases e : a.key = b.key
  · have := hc a ha b hb e
    subst this
    have t1 := leD_total a.d a.d
    have t2 := leD_total a.kd a.kd
    rw [Bool.or_self] at t1 t2
    rw [t1, t2]
  · exact (leD_wd (ok a ha) (ok b hb) e).symm
theorem sq_nx {f g : Ev → R Fl} {ρ ρ' : Ev} (h : f ρ = .ok (.nx ρ')) : dSeq f g ρ = g ρ' := by simp [dSeq, h]
theorem sq_ex {f g : Ev → R Fl} {ρ : Ev} {c : Nat} (h : f ρ = .ex c) : dSeq f g ρ = .ex c := by simp [dSeq, h]
theorem get_in {ws : List Wd} {w : Wd} (hw : w ∈ ws) (hc : Cons ws) : getK (ws.map Wd.key) (ws.map Wd.d) w.key = some w.d := by
  rw [getK_map, find_here Wd.key hw fun v hv e => hc v hv w hw e]
  rfl
theorem words_add {one other : List Wd} {a b c : Sl} (hl : one.length + other.length ≤ 1000) : l1 vIt (d2 vAdd (dVar 0) (dVar 1)) [.sh (.lst (one.map Wd.d)), .sh (.lst (other.map Wd.d)), a, b, c] = .ok ((one ++ other).map Wd.d) := by
  have e := lineOk_s (n := one.length + other.length) (by omega)
  simp [e]
theorem once_cons {ws : List Wd} (h : Cons ws) : Cons (once [] ws) := h.mono fun v hv => by simpa using (once_mem ws [] v).mp hv
theorem joined_of_ok {one other : List Wd} (ok : ∀ v ∈ one ++ other, v.Ok) (hc : Cons (one ++ other)) (hl : one.length + other.length ≤ 1000) (hn : (once [] (one ++ other)).length ≤ 40) :
    D_joined_of [.lst (one.map Wd.d), .lst (other.map Wd.d)] = .ok (.lst ((srt (once [] (one ++ other))).map Wd.d)) := by
  obtain ⟨s', hf⟩ := join_all (one ++ other) [] (by simpa using ok) (by simpa using hc) (by simp; omega) (.sh (.lst (one.map Wd.d))) (.sh (.lst (other.map Wd.d))) .no
  have hc2 := once_cons hc
  generalize once [] (one ++ other) = acc at *
  have s1 : dSet 2 sOd0 [.sh (.lst (one.map Wd.d)), .sh (.lst (other.map Wd.d)), .no, .no, .no] = .ok (.nx [.sh (.lst (one.map Wd.d)), .sh (.lst (other.map Wd.d)), .od [] [], .no, .no]) := rfl
  have s2 : dFor (l1 vIt (d2 vAdd (dVar 0) (dVar 1))) (gNm 3) L_joined_of_0 [.sh (.lst (one.map Wd.d)), .sh (.lst (other.map Wd.d)), .od [] [], .no, .no] = .ok (.nx [.sh (.lst (one.map Wd.d)), .sh (.lst (other.map Wd.d)), .od (acc.map Wd.key) (acc.map Wd.d), s', .no]) := by
    unfold dFor
    rw [words_add hl]
    exact hf
  have e1 : ¬ (40 : Int) < acc.length := by omega
  have s3 : dIfS (bC cGt (dB iLenD (aCons (dPk 2) aNil)) (dC (.int 40))) dNever dPass [.sh (.lst (one.map Wd.d)), .sh (.lst (other.map Wd.d)), .od (acc.map Wd.key) (acc.map Wd.d), s', .no] = .ok (.nx [.sh (.lst (one.map Wd.d)), .sh (.lst (other.map Wd.d)), .od (acc.map Wd.key) (acc.map Wd.d), s', .no]) := by
    simp [e1]
  have hk : (acc.map Wd.key).map dKey = acc.map Wd.kd := by rw [List.map_map]; rfl
  have hlen : lineOk ((srt acc).map Wd.kd).length = true := lineOk_s (by rw [List.length_map, (srt_perm acc).length_eq]; omega)
  have hg : lcG (gNm 4) bYes (dGetD 2 (dVar 4)) [.sh (.lst (one.map Wd.d)), .sh (.lst (other.map Wd.d)), .od (acc.map Wd.key) (acc.map Wd.d), s', .no] ((srt acc).map Wd.kd) = .ok ((srt acc).map Wd.d) :=
    lcG_map Wd.kd Wd.d _ fun w hw => ⟨_, rfl, by simp [Wd.keyD, get_in ((srt_perm acc).mem_iff.mp hw) hc2]⟩
  have s4 : dRetF (lLC (l1 vIt (lD (l1 vSorted (lD (l1 vKeys (dPk 2)))))) [4] (gNm 4) bYes (dGetD 2 (dVar 4))) [.sh (.lst (one.map Wd.d)), .sh (.lst (other.map Wd.d)), .od (acc.map Wd.key) (acc.map Wd.d), s', .no] = .ok (.rt (.lst ((srt acc).map Wd.d))) := by
    simp only [dRetF, lLC, l1, lD, dPk, vKeys, R.bind_ok, List.getElem?_cons_succ, List.getElem?_cons_zero, hk, sort_kd, vIt, hlen, R.when_true, wipeE, List.set_cons_succ, List.set_cons_zero, hg]
  unfold D_joined_of dFn B_joined_of
  show (dSeq _ _ [.sh (.lst (one.map Wd.d)), .sh (.lst (other.map Wd.d)), .no, .no, .no] >>= _) = _
  rw [sq_nx s1, sq_nx s2, sq_nx s3, s4]
  rfl
end T_k12
/-! MR: counts of things. -/
namespace T_k12
open PySem L2 PL
abbrev Th := Str × Nat
def tKey (t : Th) : List Key := [.inr t.1, .inl t.2]
def tD (t : Th) : D := .tup [.str t.1, .int t.2]
theorem tKeyD (t : Th) : PL.keyD (tD t) = some (tKey t) := rfl
theorem tDKey (t : Th) : dKey (tKey t) = tD t := rfl
theorem tKey_inj {s t : Th} : tKey s = tKey t ↔ s = t := by
  unfold tKey
  simp [Prod.ext_iff, Int.ofNat_inj]
abbrev Cn := List (Th × Int)
def Cn.at_ (c : Cn) (t : Th) : Int := ((c.find? fun p => decide (p.1 = t)).map (·.2)).getD 0
def Cn.put (c : Cn) (t : Th) (v : Int) : Cn := if t ∈ c.map (·.1) then c.map (fun p => if p.1 = t then (t, v) else p) else c ++ [(t, v)]
abbrev Cn.ks (c : Cn) : List (List Key) := c.map fun p => tKey p.1
abbrev Cn.ds (c : Cn) : List D := c.map fun p => D.int p.2
theorem cn_find (c : Cn) (t : Th) : getK c.ks c.ds (tKey t) = (c.find? fun p => decide (p.1 = t)).map fun p => D.int p.2 := by
  rw [getK_map]
  simp only [tKey_inj]
theorem cn_get (c : Cn) (t : Th) : (getK c.ks c.ds (tKey t)).getD (.int 0) = .int (c.at_ t) := by
  rw [cn_find]
  unfold Cn.at_
  cases c.find? fun p => decide (p.1 = t) <;> rfl
theorem cn_has (c : Cn) (t : Th) : hasK c.ks (tKey t) = decide (t ∈ c.map (·.1)) := by
  rw [Bool.eq_iff_iff, hasK_iff, decide_eq_true_eq, List.mem_map, List.mem_map]
  constructor
  · rintro ⟨p, hp, e⟩
    exact ⟨p, hp, tKey_inj.mp e⟩
  · rintro ⟨p, hp, e⟩
    exact ⟨p, hp, tKey_inj.mpr e⟩
theorem cn_put (c : Cn) (t : Th) (v : Int) : putKs c.ks (tKey t) = (c.put t v).ks ∧ putXs c.ks c.ds (tKey t) (.int v) = (c.put t v).ds := by
  unfold putKs putXs Cn.put
  rw [cn_has]
  by_cases h : t ∈ c.map (·.1)
  · rw [if_pos (decide_eq_true h), if_pos (decide_eq_true h), if_pos h]
    clear h
    induction c with
    | nil => exact ⟨rfl, rfl⟩
    | cons p c ih =>
      obtain ⟨i1, i2⟩ := ih
      refine ⟨?_, ?_⟩
      · show tKey p.1 :: Cn.ks c = tKey (if p.1 = t then (t, v) else p).1 :: Cn.ks (c.map fun p => if p.1 = t then (t, v) else p)
        rw [← i1]
        by_cases e : p.1 = t
        · rw [if_pos e, e]
        · rw [if_neg e]
      · show List.zipWith _ (tKey p.1 :: Cn.ks c) (D.int p.2 :: Cn.ds c) = D.int (if p.1 = t then (t, v) else p).2 :: Cn.ds (c.map fun p => if p.1 = t then (t, v) else p)
        rw [List.zipWith_cons_cons, i2]
        by_cases e : p.1 = t
        · rw [if_pos e, if_pos (tKey_inj.mpr e)]
        · rw [if_neg e, if_neg fun z => e (tKey_inj.mp z)]
  · simp only [h, decide_false, Bool.false_eq_true, ↓reduceIte]
    exact ⟨by simp, by simp⟩
theorem put_keys (c : Cn) (t : Th) (v : Int) : (c.put t v).map (·.1) = if t ∈ c.map (·.1) then c.map (·.1) else c.map (·.1) ++ [t] := by
  unfold Cn.put
  split
  · rw [List.map_map]
    refine List.map_congr_left fun p _ => ?_
    show (if p.1 = t then (t, v) else p).1 = p.1
    split
    · rename_i e
      exact e.symm
    · rfl
  · simp
theorem at_put (c : Cn) (t s : Th) (v : Int) : (c.put t v).at_ s = if s = t then v else c.at_ s := by
  unfold Cn.put
  by_cases h : t ∈ c.map (·.1)
  · rw [if_pos h]
    unfold Cn.at_
    induction c with
    | nil => simp at h
    | cons p c ih =>
      rw [List.map_cons, List.find?_cons, List.find?_cons]
      by_cases e : p.1 = t
      · rw [if_pos e]
        by_cases es : t = s
        · subst es
          simp
        · have es' : ¬ s = t := fun z => es z.symm
          simp only [es, e, decide_false, if_neg es']
          by_cases hc : t ∈ c.map (·.1)
          · have := ih hc
            rw [if_neg es'] at this
            exact this
          · congr 2
            congr 1
            have : c.map (fun p => if p.1 = t then (t, v) else p) = c := by
              conv => rhs; rw [← List.map_id c]
              refine List.map_congr_left fun q hq => ?_
              rw [if_neg fun z => hc (by rw [← z]; exact List.mem_map_of_mem hq)]
              rfl
            rw [this]
      · rw [if_neg e]
        have hc : t ∈ c.map (·.1) := by
          rcases List.mem_cons.mp h with z | z
          · exact absurd z.symm e
          · exact z
        by_cases es : p.1 = s
        · have : ¬ s = t := fun z => e (es.trans z)
          simp [es, this]
        · simp only [es, decide_false]
          exact ih hc
  · rw [if_neg h]
    unfold Cn.at_
    rw [List.find?_append]
    by_cases es : s = t
    · subst es
      have : (c.find? fun p => decide (p.1 = s)) = none := by
        rw [List.find?_eq_none]
        intro p hp
        have : ¬ p.1 = s := fun z => h (by rw [← z]; exact List.mem_map_of_mem hp)
        simp [this]
      simp [this]
    · have : ¬ t = s := fun z => es z.symm
      rw [if_neg es]
      cases c.find? fun p => decide (p.1 = s) <;> simp [this]
/-! ### is a word among words -/
theorem toPyL_wd (ws : List Wd) : D.toPyL (ws.map Wd.d) = some (ws.map Wd.py) := by
  induction ws with
  | nil => simp [D.toPyL]
  | cons w ws ih => simp [D.toPyL, Wd.toPy, ih]
theorem wd_lay {w : Wd} (h : w.Ok) : w.py.canLay0 = true ∧ w.py.depth ≤ 1 := by
  unfold Wd.py
  split
  · simp [PyData.canLay0, PyData.canLayAll0, PyData.depth, PyData.depthAll, kS_ok, -kS]
  · rename_i hk
    simp [PyData.canLay0, PyData.canLayAll0, PyData.depth, PyData.depthAll, kS_ok, nm_str (h.nm hk), -kS]
theorem wds_lay : ∀ {ws : List Wd}, (∀ w ∈ ws, w.Ok) → PyData.canLayAll0 (ws.map Wd.py) = true ∧ PyData.depthAll (ws.map Wd.py) ≤ 1
  | [], _ => by simp [PyData.canLayAll0, PyData.depthAll]
  | w :: ws, h => by
    obtain ⟨a1, a2⟩ := wd_lay (h w List.mem_cons_self)
    obtain ⟨b1, b2⟩ := wds_lay fun v hv => h v (List.mem_cons_of_mem _ hv)
    simp [PyData.canLayAll0, PyData.depthAll, a1, b1]
    omega
theorem wds_shaped {ws : List Wd} (h : ∀ w ∈ ws, w.Ok) : SeqAt.shaped (.list (ws.map Wd.py)) = true := by
  obtain ⟨b1, b2⟩ := wds_lay h
  simp [SeqAt.shaped, PyData.canLay0, PyData.depth, b1]
  omega
theorem cIn_wd {w : Wd} {ws : List Wd} (hw : w.Ok) (h : ∀ v ∈ ws, v.Ok) : cIn w.d (.lst (ws.map Wd.d)) = some (decide (w ∈ ws)) := by
  unfold cIn
  dsimp only
  rw [Wd.toPy, toPyL_wd]
  simp only [Wd.shaped hw, wds_shaped h, Bool.and_self, ↓reduceIte]
  congr 1
  rw [Bool.eq_iff_iff, List.any_eq_true, decide_eq_true_eq]
  constructor
  · rintro ⟨z, hz, e⟩
    obtain ⟨v, hv, rfl⟩ := List.mem_map.mp hz
    rw [Wd.eqv (h v hv) hw, decide_eq_true_eq] at e
    rw [← e]; exact hv
  · intro hm
    exact ⟨_, List.mem_map_of_mem hm, by rw [Wd.eqv hw hw]; simp⟩
/-- the strike of a word -/
def Wd.st_ (w : Wd) : Wd := ⟨2, w.h, w.n, "", 0, 0⟩
theorem st_ok {w : Wd} (h : w.Ok) : w.st_.Ok := ⟨Nat.le_refl _, h.h, h.n, fun _ => ⟨rfl, rfl, rfl⟩, fun z => absurd rfl z, fun z => absurd rfl z, fun z => absurd rfl z⟩
theorem st_d (w : Wd) : w.st_.d = .tup [.str "strike", .int w.h, .int w.n] := by
  simp [Wd.d, Wd.st_]
abbrev Wd.th (w : Wd) : Th := (w.x, w.p)
theorem Wd.cut35 {w : Wd} (h : w.k ≠ 2) : vSl (some 3) (some 5) w.d = .ok (tD w.th) := by
  have c6 : ∀ a b c d e f : D, cutL [a, b, c, d, e, f] (some 3) (some 5) = [d, e] := fun _ _ _ _ _ _ => rfl
  unfold Wd.d tD
  rw [if_neg h]
  simp [c6]
theorem Wd.cut35s {w : Wd} (h : w.k = 2) : vSl (some 3) (some 5) w.d = .ok (.tup []) := by
  have c3 : ∀ a b c : D, cutL [a, b, c] (some 3) (some 5) = [] := fun _ _ _ => rfl
  unfold Wd.d
  rw [if_pos h]
  simp [c3]
theorem Wd.at0 (w : Wd) : vIdx w.d (.int 0) = .ok (.str (kS w.k)) := by
  unfold Wd.d
  split <;> simp [-kS]
theorem Wd.at1 (w : Wd) : vIdx w.d (.int 1) = .ok (.int w.h) := by
  unfold Wd.d
  split <;> simp [-kS]
theorem Wd.at2 (w : Wd) : vIdx w.d (.int 2) = .ok (.int w.n) := by
  unfold Wd.d
  split <;> simp [-kS]
theorem Wd.at5_ {w : Wd} (h : w.k ≠ 2) : vIdx w.d (.int 5) = .ok (.int w.m) := by
  unfold Wd.d
  rw [if_neg h]
  simp [at5, -kS]
theorem cEq_kS {k l : Nat} (hk : k ≤ 2) (hl : l ≤ 2) : cEq (.str (kS k)) (.str (kS l)) = some (decide (k = l)) := by
  have h : ∀ a ∈ List.range 3, ∀ b ∈ List.range 3, cEq (.str (kS a)) (.str (kS b)) = some (decide (a = b)) := by decide +kernel
  exact h k (by simp; omega) l (by simp; omega)
/-- what a word adds -/
def dl (ws : List Wd) (w : Wd) : Option Int := if w.k = 1 then some (-(w.m : Int)) else if w.k = 0 ∧ w.st_ ∉ ws then some w.m else none
def stp (ws : List Wd) (c : Cn) (w : Wd) : Cn := match dl ws w with
  | some z => c.put w.th (c.at_ w.th + z)
  | none => c
theorem count_one {ws : List Wd} {c : Cn} {w : Wd} (h : ∀ v ∈ ws, v.Ok) (hw : w.Ok) (hl : c.length ≤ 1000) (s : Sl) :
    L_counts_of_0 [.sh (.lst (ws.map Wd.d)), .od c.ks c.ds, .sh w.d] = .ok (.nx [.sh (.lst (ws.map Wd.d)), .od (stp ws c w).ks (stp ws c w).ds, .sh w.d]) := by
  have e2 := ltLine_s (n := c.length) (by omega)
  have g1 := cEq_kS hw.k (show 1 ≤ 2 by omega)
  have g0 := cEq_kS hw.k (show 0 ≤ 2 by omega)
  have gs : cIn (.tup [.str "strike", .int w.h, .int w.n]) (.lst (ws.map Wd.d)) = some (decide (w.st_ ∈ ws)) := by rw [← st_d]; exact cIn_wd (st_ok hw) h
  have k1 : kS 1 = "got" := rfl
  have k0 : kS 0 = "want" := rfl
  rw [k1] at g1
  rw [k0] at g0
  unfold stp dl
  have hk : w.k = 0 ∨ w.k = 1 ∨ w.k = 2 := by have := hw.k; omega
  rcases hk with hk | hk | hk <;> rw [hk] at g0 g1
  · have hk2 : w.k ≠ 2 := by omega
    obtain ⟨p1, p2⟩ := cn_put c w.th (c.at_ w.th + w.m)
    by_cases hs : w.st_ ∈ ws
    · simp [-vSl, -vIdx, -kS, Wd.at0, Wd.at1, Wd.at2, g0, g1, gs, hk, hs]
    · simp [-vSl, -vIdx, -kS, Wd.at0, Wd.at1, Wd.at2, Wd.at5_ hk2, Wd.cut35 hk2, tKeyD, cn_get, g0, g1, gs, hk, hs, e2, p1, p2]
  · have hk2 : w.k ≠ 2 := by omega
    obtain ⟨p1, p2⟩ := cn_put c w.th (c.at_ w.th + -w.m)
    simp [-vSl, -vIdx, -kS, Wd.at0, Wd.at1, Wd.at2, Wd.at5_ hk2, Wd.cut35 hk2, tKeyD, cn_get, g0, g1, gs, hk, e2, p1, p2, Int.sub_eq_add_neg]
  · simp [-vSl, -vIdx, -kS, Wd.at0, Wd.at1, Wd.at2, g0, g1, gs, hk]
theorem put_len (c : Cn) (t : Th) (v : Int) : (c.put t v).length ≤ c.length + 1 := by
  unfold Cn.put
  split <;> simp
theorem stp_len (ws : List Wd) (c : Cn) (w : Wd) : (stp ws c w).length ≤ c.length + 1 := by
  unfold stp
  split
  · exact put_len _ _ _
  · omega
theorem count_all {ws : List Wd} (h : ∀ v ∈ ws, v.Ok) : ∀ (l : List Wd) (c : Cn), (∀ v ∈ l, v.Ok) → c.length + l.length ≤ 1000 → ∀ s : Sl, ∃ s' : Sl,
    fo (gNm 2) L_counts_of_0 (l.map Wd.d) [.sh (.lst (ws.map Wd.d)), .od c.ks c.ds, s] = .ok (.nx [.sh (.lst (ws.map Wd.d)), .od (Cn.ks (l.foldl (stp ws) c)) (Cn.ds (l.foldl (stp ws) c)), s'])
  | [], c, _, _, s => ⟨s, rfl⟩
  | w :: l, c, ok, hl, s => by
    have h1 := count_one (c := c) h (ok w List.mem_cons_self) (by simp at hl; omega) s
    have := stp_len ws c w
    obtain ⟨s', h2⟩ := count_all h l (stp ws c w) (fun v hv => ok v (List.mem_cons_of_mem _ hv)) (by simp at hl; omega) (.sh w.d)
    refine ⟨s', ?_⟩
    rw [List.map_cons, fo_one (ρ1 := [.sh (.lst (ws.map Wd.d)), .od c.ks c.ds, .sh w.d]) rfl h1]
    exact h2
/-- the counts of words -/
def cnt (ws l : List Wd) : Cn := l.foldl (stp ws) []
theorem counts_of_ok {ws : List Wd} (ok : ∀ v ∈ ws, v.Ok) (hc : Cons ws) (hl : ws.length ≤ 40) : D_counts_of [.lst (ws.map Wd.d)] = .ok (.dct (Cn.ks (cnt ws (srt (once [] ws)))) (Cn.ds (cnt ws (srt (once [] ws))))) := by
  have hn : (once [] ws).length ≤ 40 := by
    have := once_len ws []
    simp at this
    omega
  have hj := joined_of_ok (one := ws) (other := []) (by simpa using ok) (by simpa using hc) (by simp; omega) (by simpa using hn)
  rw [List.append_nil, List.map_nil] at hj
  have hp := srt_perm (once [] ws)
  obtain ⟨s', hf⟩ := count_all ok (srt (once [] ws)) [] (fun v hv => ok v (by simpa using (once_mem ws [] v).mp (hp.mem_iff.mp hv))) (by rw [hp.length_eq]; simp; omega) .no
  have s1 : dSet 1 sOd0 [.sh (.lst (ws.map Wd.d)), .no, .no] = .ok (.nx [.sh (.lst (ws.map Wd.d)), .od [] [], .no]) := rfl
  have s2 : dFor (l1 vIt (lD (lCall 2 D_joined_of (aCons (dVar 0) (aCons (lD (lLst aNil)) aNil))))) (gNm 2) L_counts_of_0 [.sh (.lst (ws.map Wd.d)), .od [] [], .no] = .ok (.nx [.sh (.lst (ws.map Wd.d)), .od (Cn.ks (cnt ws (srt (once [] ws)))) (Cn.ds (cnt ws (srt (once [] ws)))), s']) := by
    have e : l1 vIt (lD (lCall 2 D_joined_of (aCons (dVar 0) (aCons (lD (lLst aNil)) aNil)))) [.sh (.lst (ws.map Wd.d)), .od [] [], .no] = .ok ((srt (once [] ws)).map Wd.d) := by
      simp [hj]
    unfold dFor
    rw [e]
    exact hf
  unfold D_counts_of dFn B_counts_of
  show (dSeq _ _ [.sh (.lst (ws.map Wd.d)), .no, .no] >>= _) = _
  rw [sq_nx s1, sq_nx s2]
  rfl
theorem Wd.cut13 (w : Wd) : vSl (some 1) (some 3) w.d = .ok (.tup [.int w.h, .int w.n]) := by
  have c3 : ∀ a b c : D, cutL [a, b, c] (some 1) (some 3) = [b, c] := fun _ _ _ => rfl
  have c6 : ∀ a b c d e f : D, cutL [a, b, c, d, e, f] (some 1) (some 3) = [b, c] := fun _ _ _ _ _ _ => rfl
  unfold Wd.d
  split <;> simp [c3, c6, -kS]
/-! ### the order of the words is of no matter -/
theorem stp_at (ws : List Wd) (c : Cn) (w : Wd) (t : Th) : (stp ws c w).at_ t = c.at_ t + (if t = w.th then (dl ws w).getD 0 else 0) := by
  unfold stp
  cases e : dl ws w with
  | none =>
    show c.at_ t = _
    simp
  | some z =>
    show (c.put w.th (c.at_ w.th + z)).at_ t = _
    rw [at_put]
    by_cases h : t = w.th
    · rw [if_pos h, if_pos h, h]
      rfl
    · rw [if_neg h, if_neg h]
      omega
theorem cnt_at (ws : List Wd) (t : Th) : ∀ (l : List Wd) (c : Cn), (l.foldl (stp ws) c).at_ t = c.at_ t + (l.map fun w => if t = w.th then (dl ws w).getD 0 else 0).sum
  | [], c => by simp
  | w :: l, c => by
    rw [List.foldl_cons, cnt_at ws t l, stp_at, List.map_cons, List.sum_cons]
    omega
theorem stp_mem (ws : List Wd) (c : Cn) (w : Wd) (t : Th) : t ∈ (stp ws c w).map (·.1) ↔ t ∈ c.map (·.1) ∨ (t = w.th ∧ dl ws w ≠ none) := by
  unfold stp
  cases e : dl ws w with
  | none =>
    show t ∈ c.map (·.1) ↔ _
    simp
  | some z =>
    show t ∈ (c.put w.th (c.at_ w.th + z)).map (·.1) ↔ _
    rw [put_keys]
    by_cases h : w.th ∈ c.map (·.1)
    · rw [if_pos h]
      exact ⟨.inl, fun q => q.elim id fun q => by rw [q.1]; exact h⟩
    · rw [if_neg h, List.mem_append, List.mem_singleton]
      exact ⟨fun q => q.elim .inl fun q => .inr ⟨q, fun y => nomatch y⟩, fun q => q.elim .inl fun q => .inr q.1⟩
theorem cnt_mem (ws : List Wd) (t : Th) : ∀ (l : List Wd) (c : Cn), t ∈ (l.foldl (stp ws) c).map (·.1) ↔ t ∈ c.map (·.1) ∨ ∃ w ∈ l, t = w.th ∧ dl ws w ≠ none
  | [], c => by simp
  | w :: l, c => by
    rw [List.foldl_cons, cnt_mem ws t l, stp_mem]
    simp only [List.mem_cons, exists_eq_or_imp]
    exact or_assoc
theorem cnt_nodup (ws : List Wd) : ∀ (l : List Wd) (c : Cn), (c.map (·.1)).Nodup → ((l.foldl (stp ws) c).map (·.1)).Nodup
  | [], _, h => h
  | w :: l, c, h => by
    rw [List.foldl_cons]
    refine cnt_nodup ws l _ ?_
    unfold stp
    split
    · rw [put_keys]
      split
      · exact h
      · rename_i n
        rw [List.nodup_append]
        exact ⟨h, by simp, fun a ha b hb => by
          rw [List.mem_singleton] at hb
          subst hb
          exact fun z => n (by rw [← z]; exact ha)⟩
    · exact h
theorem sum_perm {l l' : List Int} (p : l.Perm l') : l.sum = l'.sum := by
  induction p with
  | nil => rfl
  | cons x _ ih => rw [List.sum_cons, List.sum_cons, ih]
  | swap x y l =>
    simp only [List.sum_cons]
    omega
  | trans _ _ i1 i2 => rw [i1, i2]
theorem cnt_at_perm (ws : List Wd) {l l' : List Wd} (p : l.Perm l') (t : Th) : (cnt ws l).at_ t = (cnt ws l').at_ t := by
  unfold cnt
  rw [cnt_at, cnt_at, sum_perm (p.map _)]
theorem cnt_keys_perm (ws : List Wd) {l l' : List Wd} (p : l.Perm l') : ((cnt ws l).map (·.1)).Perm ((cnt ws l').map (·.1)) := by
  refine (List.perm_ext_iff_of_nodup (cnt_nodup ws l [] (by simp)) (cnt_nodup ws l' [] (by simp))).mpr fun t => ?_
  rw [cnt_mem, cnt_mem]
  simp only [p.mem_iff]
/-! ### things in order -/
theorem tD_py (t : Th) : pyOf (tD t) = .tuple [.str t.1, .int t.2] := by
  simp [pyOf, tD, D.toPy, D.toPyL]
theorem tD_inj {s t : Th} (h : tD s = tD t) : s = t := by
  obtain ⟨a, b⟩ := s
  obtain ⟨c, d⟩ := t
  unfold tD at h
  simp at h
  exact Prod.ext h.1 (by have := h.2; show b = d; omega)
theorem sortOk_t (ts : List Th) : SortOk (ts.map tD) where
  py d hd := by
    obtain ⟨t, _, rfl⟩ := List.mem_map.mp hd
    rw [tD_py]
    simp [tD, D.toPy, D.toPyL]
  alike := by
    rw [List.map_map]
    refine PySem.W.AllAlike.of fun s t => ?_
    show PySem.W.alike (pyOf (tD s)) (pyOf (tD t)) = true
    rw [tD_py, tD_py]
    simp [PySem.W.alike, PySem.W.alikeAll]
  sort := by
    rw [List.map_map]
    exact PySem.W.Sortable.tuples fun t => ⟨_, _, tD_py t⟩
  dep d hd := by
    obtain ⟨t, _, rfl⟩ := List.mem_map.mp hd
    rw [tD_py]
    simp [PyData.depth, PyData.depthAll]
theorem apart_t (ts : List Th) : Apart (ts.map tD) where
  al a ha b hb := by
    obtain ⟨s, _, rfl⟩ := List.mem_map.mp ha
    obtain ⟨t, _, rfl⟩ := List.mem_map.mp hb
    rw [tD_py, tD_py]
    simp [PySem.W.alike, PySem.W.alikeAll]
  inj a ha b hb h := by
    obtain ⟨s, _, rfl⟩ := List.mem_map.mp ha
    obtain ⟨t, _, rfl⟩ := List.mem_map.mp hb
    rw [tD_py, tD_py] at h
    simp only [PyData.eqv, PyData.eqvAll, str_beq, Bool.and_true, Bool.and_eq_true, decide_eq_true_eq] at h
    have h2 : (s.2 : Int) = t.2 := by simpa using h.2
    have : s = t := Prod.ext h.1 (by omega)
    rw [this]
def tsrt (ts : List Th) : List Th := ts.mergeSort fun s t => leD (tD s) (tD t)
theorem tsrt_map (ts : List Th) : (ts.map tD).mergeSort leD = (tsrt ts).map tD := (List.map_mergeSort (r := fun s t : Th => leD (tD s) (tD t)) (s := leD) (f := tD) fun a _ b _ => rfl).symm
theorem sort_t (ts : List Th) : vSorted (.lst (ts.map tD)) = .ok ((tsrt ts).map tD) := by
  unfold vSorted
  simp only [sortB_of (sortOk_t ts), R.when_true, tsrt_map]
theorem tsrt_p (ts : List Th) : (tsrt ts).Perm ts := List.mergeSort_perm _ _
theorem tsrt_perm {ts ts' : List Th} (p : ts.Perm ts') : tsrt ts = tsrt ts' := by
  have h := sort_perm (apart_t ts) (p.symm.map tD)
  rw [tsrt_map, tsrt_map] at h
  exact (List.map_inj_right fun _ _ e => tD_inj e).mp h
/-- the rows of counts: those that p takes, told by f -/
def rowsD (p : Int → Bool) (f : Int → Int) (c : Cn) : List D := ((tsrt (c.map (·.1))).filter fun t => p (c.at_ t)).map fun t => .tup [.str t.1, .int t.2, .int (f (c.at_ t))]
theorem rows_perm (p : Int → Bool) (f : Int → Int) (ws : List Wd) {l l' : List Wd} (h : l.Perm l') : rowsD p f (cnt ws l) = rowsD p f (cnt ws l') := by
  unfold rowsD
  rw [tsrt_perm (cnt_keys_perm ws h)]
  simp only [cnt_at_perm ws h]
theorem vget {c : Cn} {t : Th} (h : t ∈ c.map (·.1)) : vGetK (.dct c.ks c.ds) (tD t) = .ok (.int (c.at_ t)) := by
  have e := cn_find c t
  unfold Cn.at_
  cases ef : c.find? fun p => decide (p.1 = t) with
  | none =>
    obtain ⟨p, hp, e⟩ := List.mem_map.mp h
    have := List.find?_eq_none.mp ef p hp
    simp [e] at this
  | some p =>
    rw [ef] at e
    simp [tKeyD, e]
theorem keys_t (c : Cn) : c.ks.map dKey = (c.map (·.1)).map tD := by
  unfold Cn.ks
  rw [List.map_map, List.map_map]
  rfl
theorem cn_len (ws : List Wd) : ∀ (l : List Wd) (c : Cn), (l.foldl (stp ws) c).length ≤ c.length + l.length
  | [], c => by simp
  | w :: l, c => by
    have h1 := cn_len ws l (stp ws c w)
    have h2 := stp_len ws c w
    rw [List.foldl_cons, List.length_cons]
    omega
abbrev cPos (i : Int) : Bool := decide (0 < i)
abbrev cNeg (i : Int) : Bool := decide (i < 0)
theorem left_rows {c : Cn} (hl : c.length ≤ 1000) (a : Sl) : lcG (gNm 2) (bC cGt (d2 vGetK (dVar 1) (dVar 2)) (dC (.int 0))) (d2 vAdd (dVar 2) (lTup (aCons (d2 vGetK (dVar 1) (dVar 2)) aNil))) [a, .sh (.dct c.ks c.ds), .no] ((tsrt (c.map (·.1))).map tD) = .ok (rowsD cPos id c) := by
  unfold rowsD
  refine lcG_filter tD (fun t => cPos (c.at_ t)) (fun t => .tup [.str t.1, .int t.2, .int (id (c.at_ t))]) _ fun t ht => ⟨_, rfl, ?_, fun _ => ?_⟩
  · have e := vget ((tsrt_p _).mem_iff.mp ht)
    simp [-vGetK, e]
  · have e := vget ((tsrt_p _).mem_iff.mp ht)
    simp [-vGetK, e, tD]
    simp [tD] at e
    simp [e]
theorem left_ok {ws : List Wd} (ok : ∀ v ∈ ws, v.Ok) (hc : Cons ws) (hl : ws.length ≤ 40) : D_left [.lst (ws.map Wd.d)] = .ok (.lst (rowsD cPos id (cnt ws (once [] ws)))) := by
  have hk := counts_of_ok ok hc hl
  have hn := once_len ws []
  simp at hn
  have hcl := cn_len ws (srt (once [] ws)) []
  rw [(srt_perm _).length_eq] at hcl
  simp at hcl
  rw [← rows_perm cPos id ws (srt_perm (once [] ws))]
  change (cnt ws (srt (once [] ws))).length ≤ _ at hcl
  generalize cnt ws (srt (once [] ws)) = c at *
  have ha := asked_words_ok ok hl
  have s1 : dDrop (dCall 1 D_asked_words (aCons (dVar 0) aNil)) [.sh (.lst (ws.map Wd.d)), .no, .no] = .ok (.nx [.sh (.lst (ws.map Wd.d)), .no, .no]) := by simp [ha]
  have s2 : dSet 1 (sSh (dCall 1 D_counts_of (aCons (dVar 0) aNil))) [.sh (.lst (ws.map Wd.d)), .no, .no] = .ok (.nx [.sh (.lst (ws.map Wd.d)), .sh (.dct c.ks c.ds), .no]) := by simp [hk]
  have hlen : lineOk ((tsrt (c.map (·.1))).map tD).length = true := lineOk_s (by rw [List.length_map, (tsrt_p _).length_eq, List.length_map]; omega)
  have s3 : dRetF (lLC (l1 vIt (lD (l1 vSorted (lD (l1 vKeys (dVar 1)))))) [2] (gNm 2) (bC cGt (d2 vGetK (dVar 1) (dVar 2)) (dC (.int 0))) (d2 vAdd (dVar 2) (lTup (aCons (d2 vGetK (dVar 1) (dVar 2)) aNil)))) [.sh (.lst (ws.map Wd.d)), .sh (.dct c.ks c.ds), .no] = .ok (.rt (.lst (rowsD cPos id c))) := by
    simp only [dRetF, lLC, l1, lD, dVar, vKeys, R.bind_ok, List.getElem?_cons_succ, List.getElem?_cons_zero, keys_t, sort_t, vIt, hlen, R.when_true, wipeE, List.set_cons_succ, List.set_cons_zero]
    rw [left_rows (by omega)]
    rfl
  unfold D_left dFn B_left
  show (dSeq _ _ [.sh (.lst (ws.map Wd.d)), .no, .no] >>= _) = _
  rw [sq_nx s1, sq_nx s2, s3]
  rfl
theorem over_rows {c : Cn} (hl : c.length ≤ 1000) (a : Sl) : lcG (gNm 2) (bC cLt (d2 vGetK (dVar 1) (dVar 2)) (dC (.int 0))) (d2 vAdd (dVar 2) (lTup (aCons (d1 vNeg (d2 vGetK (dVar 1) (dVar 2))) aNil))) [a, .sh (.dct c.ks c.ds), .no] ((tsrt (c.map (·.1))).map tD) = .ok (rowsD cNeg (fun i => -i) c) := by
  unfold rowsD
  refine lcG_filter tD (fun t => cNeg (c.at_ t)) (fun t => .tup [.str t.1, .int t.2, .int (-(c.at_ t))]) _ fun t ht => ⟨_, rfl, ?_, fun _ => ?_⟩
  · have e := vget ((tsrt_p _).mem_iff.mp ht)
    simp [-vGetK, e]
  · have e := vget ((tsrt_p _).mem_iff.mp ht)
    simp [-vGetK, e, tD]
    simp [tD] at e
    simp [e]
theorem over_ok {ws : List Wd} (ok : ∀ v ∈ ws, v.Ok) (hc : Cons ws) (hl : ws.length ≤ 40) : D_over [.lst (ws.map Wd.d)] = .ok (.lst (rowsD cNeg (fun i => -i) (cnt ws (once [] ws)))) := by
  have hk := counts_of_ok ok hc hl
  have hn := once_len ws []
  simp at hn
  have hcl := cn_len ws (srt (once [] ws)) []
  rw [(srt_perm _).length_eq] at hcl
  simp at hcl
  rw [← rows_perm cNeg (fun i => -i) ws (srt_perm (once [] ws))]
  change (cnt ws (srt (once [] ws))).length ≤ _ at hcl
  generalize cnt ws (srt (once [] ws)) = c at *
  have ha := asked_words_ok ok hl
  have s1 : dDrop (dCall 1 D_asked_words (aCons (dVar 0) aNil)) [.sh (.lst (ws.map Wd.d)), .no, .no] = .ok (.nx [.sh (.lst (ws.map Wd.d)), .no, .no]) := by simp [ha]
  have s2 : dSet 1 (sSh (dCall 1 D_counts_of (aCons (dVar 0) aNil))) [.sh (.lst (ws.map Wd.d)), .no, .no] = .ok (.nx [.sh (.lst (ws.map Wd.d)), .sh (.dct c.ks c.ds), .no]) := by simp [hk]
  have hlen : lineOk ((tsrt (c.map (·.1))).map tD).length = true := lineOk_s (by rw [List.length_map, (tsrt_p _).length_eq, List.length_map]; omega)
  have s3 : dRetF (lLC (l1 vIt (lD (l1 vSorted (lD (l1 vKeys (dVar 1)))))) [2] (gNm 2) (bC cLt (d2 vGetK (dVar 1) (dVar 2)) (dC (.int 0))) (d2 vAdd (dVar 2) (lTup (aCons (d1 vNeg (d2 vGetK (dVar 1) (dVar 2))) aNil)))) [.sh (.lst (ws.map Wd.d)), .sh (.dct c.ks c.ds), .no] = .ok (.rt (.lst (rowsD cNeg (fun i => -i) c))) := by
    simp only [dRetF, lLC, l1, lD, dVar, vKeys, R.bind_ok, List.getElem?_cons_succ, List.getElem?_cons_zero, keys_t, sort_t, vIt, hlen, R.when_true, wipeE, List.set_cons_succ, List.set_cons_zero]
    rw [over_rows (by omega)]
    rfl
  unfold D_over dFn B_over
  show (dSeq _ _ [.sh (.lst (ws.map Wd.d)), .no, .no] >>= _) = _
  rw [sq_nx s1, sq_nx s2, s3]
  rfl
/-! ### places -/
def rowsT (p : Int → Bool) (c : Cn) : List Th := (tsrt (c.map (·.1))).filter fun t => p (c.at_ t)
theorem rowsD_eq (p : Int → Bool) (f : Int → Int) (c : Cn) : rowsD p f c = (rowsT p c).map fun t => .tup [.str t.1, .int t.2, .int (f (c.at_ t))] := rfl
theorem rowsT_len (p : Int → Bool) (c : Cn) : (rowsT p c).length ≤ c.length := by
  unfold rowsT
  refine Nat.le_trans (List.length_filter_le _ _) ?_
  rw [(tsrt_p _).length_eq, List.length_map]
  exact Nat.le_refl _
/-- the places of rows, each once, in order -/
def plc (ts : List Th) : List D := (sset (ts.map fun t => (t.2 : Int))).map .int
theorem places_left_ok {ws : List Wd} (ok : ∀ v ∈ ws, v.Ok) (hc : Cons ws) (hl : ws.length ≤ 40) : D_places_left [.lst (ws.map Wd.d)] = .ok (.lst (plc (rowsT cPos (cnt ws (once [] ws))))) := by
  have hk := left_ok ok hc hl
  have hn := once_len ws []
  simp at hn
  have hcl := cn_len ws (once [] ws) []
  simp at hcl
  change (cnt ws (once [] ws)).length ≤ _ at hcl
  generalize cnt ws (once [] ws) = c at *
  have hr := rowsT_len cPos c
  have e1 : lineOk (rowsD cPos id c).length = true := lineOk_s (by rw [rowsD_eq, List.length_map]; omega)
  have hg : lcG (gNm 1) bYes (d2 vIdx (dVar 1) (dC (.int 1))) [.sh (.lst (ws.map Wd.d)), .no] (rowsD cPos id c) = .ok ((rowsT cPos c).map fun t => D.int (t.2 : Int)) := by
    rw [rowsD_eq]
    exact lcG_map _ _ _ fun t ht => ⟨_, rfl, by simp⟩
  have e2 : (rowsT cPos c).length < 64 := by omega
  have e3 : intsD ((rowsT cPos c).map fun t => D.int (t.2 : Int)) = some ((rowsT cPos c).map fun t => (t.2 : Int)) := intsD_of _ _
  simp [D_places_left, B_places_left, hk, e1, hg, e3, e2, plc]
/-! ### words in order, one way only -/
theorem srt_pw (ws : List Wd) : (srt ws).Pairwise fun a b : Wd => leD a.kd b.kd = true :=
  List.pairwise_mergeSort (le := fun a b : Wd => leD a.kd b.kd) (fun a b c => leD_trans a.kd b.kd c.kd) (fun a b => leD_total a.kd b.kd) ws
theorem srt_one {ws vs : List Wd} (ok : ∀ w ∈ ws, w.Ok) (hc : Cons ws) (p : vs.Perm ws) : srt ws = srt vs := by
  refine List.Perm.eq_of_pairwise (le := fun a b : Wd => leD a.kd b.kd = true) (fun a b ha hb h1 h2 => ?_) (srt_pw ws) (srt_pw vs) ((srt_perm ws).trans (p.symm.trans (srt_perm vs).symm))
  have ha' := (srt_perm ws).mem_iff.mp ha
  have hb' := p.mem_iff.mp ((srt_perm vs).mem_iff.mp hb)
  refine hc a ha' b hb' ((Wd.key_iff (ok a ha') (ok b hb')).mpr ?_)
  have e := leD_anti (by rw [Wd.kdPy, Wd.kdPy]; simp [PySem.W.alike, PySem.W.alikeAll]) h1 h2
  rw [Wd.kdPy, Wd.kdPy] at e
  simp only [PyData.eqv, PyData.eqvAll, str_beq, kS_inj (ok a ha').k (ok b hb').k, Bool.and_true, Bool.and_eq_true, decide_eq_true_eq, beq_iff_eq] at e
  exact ⟨e.1, by have := e.2.1; omega, by have := e.2.2; omega⟩
end T_k12
/-! MT: the law's own words. -/
namespace T_k12
open PySem L2 PL
theorem let_at {j : Nat} (h : j < 26) : vIdx (.str LET) (.int j) = .ok (.str ⟨#[97 + j]⟩) := by
  have e : lineOk LET.length = true := lineOk_s (by decide +kernel)
  have l : ∀ k ∈ List.range 26, (atI LET.cps.toList (k : Int)) = some (97 + k) := by decide +kernel
  have := l j (by simp; omega)
  simp [e, this]
structure NmP (k : Nat) (s : Str) : Prop where
  len : s.cps.size = k
  ch : ∀ c ∈ s.cps.toList, 97 ≤ c ∧ c ≤ 122
theorem NmP.snoc {k j : Nat} {s : Str} (h : NmP k s) (hj : j < 26) : NmP (k + 1) (s ++ (⟨#[97 + j]⟩ : Str)) := by
  have e : (s ++ (⟨#[97 + j]⟩ : Str)).cps = s.cps ++ #[97 + j] := rfl
  refine ⟨by rw [e, Array.size_append, h.len]; rfl, fun c hc => ?_⟩
  rw [e, Array.toList_append, List.mem_append] at hc
  rcases hc with hc | hc
  · exact h.ch c hc
  · simp at hc
    omega
theorem name_one {n k : Nat} (hk : k < 4) {s : Str} (h : NmP k s) : ∃ s', NmP (k + 1) s' ∧ L__law_name_0 [.sh (.int n), .sh (.str s), .sh (.int k)] = .ok (.nx [.sh (.int n), .sh (.str s'), .sh (.int k)]) := by
  have d4 := divOk_s (j := 4) (by decide) (by decide)
  have hl : s.length = k := h.len
  have go : ∀ (q : Nat), divOk (q : Int) = true → vIdx (.tup [.int 1, .int 26, .int 676, .int 17576]) (.int k) = .ok (.int (q : Int)) → ∃ s', NmP (k + 1) s' ∧ L__law_name_0 [.sh (.int n), .sh (.str s), .sh (.int k)] = .ok (.nx [.sh (.int n), .sh (.str s'), .sh (.int k)]) := by
    intro q hq hv
    have hj : n / 4 / q % 26 < 26 := Nat.mod_lt _ (by decide)
    have e1 : ((n : Int) / 4 / (q : Int)) % 26 = ((n / 4 / q % 26 : Nat) : Int) := by simp
    have hi := let_at hj
    rw [← e1] at hi
    have e2 : lineOk (s.length + (⟨#[97 + n / 4 / q % 26]⟩ : Str).length) = true := lineOk_s (by
      have : (⟨#[97 + n / 4 / q % 26]⟩ : Str).length = 1 := rfl
      omega)
    refine ⟨_, h.snoc hj, ?_⟩
    simp [-vIdx, hv, d4, hq, hi, e2]
  have hk' : k = 0 ∨ k = 1 ∨ k = 2 ∨ k = 3 := by omega
  rcases hk' with rfl | rfl | rfl | rfl
  · exact go 1 (divOk_s (by decide) (by decide)) (by simp)
  · exact go 26 (divOk_s (by decide) (by decide)) (by simp)
  · exact go 676 (divOk_s (by decide) (by decide)) (by simp)
  · exact go 17576 (divOk_s (by decide) (by decide)) (by simp [at3])
theorem name_all {n : Nat} : ∀ (m k : Nat) (s : Str), m + k ≤ 4 → NmP k s → ∀ a : Sl, ∃ s' b, NmP (m + k) s' ∧ fo (gNm 2) L__law_name_0 ((List.range' k m).map fun j => D.int (j : Nat)) [.sh (.int n), .sh (.str s), a] = .ok (.nx [.sh (.int n), .sh (.str s'), b])
  | 0, k, s, _, h, a => ⟨s, a, by rwa [Nat.zero_add], rfl⟩
  | m + 1, k, s, hl, h, a => by
    obtain ⟨s1, h1, e1⟩ := name_one (n := n) (k := k) (by omega) h
    obtain ⟨s2, b, h2, e2⟩ := name_all m (k + 1) s1 (by omega) h1 (.sh (.int k))
    refine ⟨s2, b, by rwa [show m + 1 + k = m + (k + 1) by omega], ?_⟩
    rw [List.range'_succ, List.map_cons, fo_one (ρ1 := [.sh (.int n), .sh (.str s), .sh (.int k)]) rfl e1]
    exact e2
theorem law_name_ok (n : Nat) : ∃ x, NmOk x ∧ D__law_name [.int n] = .ok (.str x) := by
  have hm : n % 4 < 4 := Nat.mod_lt _ (by decide)
  obtain ⟨x, b, hx, hf⟩ := name_all (n := n) (1 + n % 4) 0 "" (by omega) ⟨rfl, fun c hc => by
    have e : (Str.ofString "").cps.toList = [] := by decide +kernel
    rw [e] at hc
    simp at hc⟩ .no
  refine ⟨x, ⟨by have := hx.len; omega, by have := hx.len; omega, hx.ch⟩, ?_⟩
  have s1 : dSet 1 (sSh (dC (.str ""))) [.sh (.int n), .no, .no] = .ok (.nx [.sh (.int n), .sh (.str ""), .no]) := rfl
  have s2 : dFor (lB vRg1 (aCons (d2 vAdd (dC (.int 1)) (d2 vMod (dVar 0) (dC (.int 4)))) aNil)) (gNm 2) L__law_name_0 [.sh (.int n), .sh (.str ""), .no] = .ok (.nx [.sh (.int n), .sh (.str x), b]) := by
    have e0 : (1 : Int) + (n : Int) % 4 = ((1 + n % 4 : Nat) : Int) := by omega
    have e1 := inRg_n (n := 1 + n % 4) (by omega)
    have e : lB vRg1 (aCons (d2 vAdd (dC (.int 1)) (d2 vMod (dVar 0) (dC (.int 4)))) aNil) [.sh (.int n), .sh (.str ""), .no] = .ok ((List.range' 0 (1 + n % 4)).map fun j => D.int (j : Nat)) := by
      simp [-Int.natCast_add, e0, e1, rangeD_map, List.range_eq_range']
    unfold dFor
    rw [e]
    exact hf
  unfold D__law_name dFn B__law_name
  show (dSeq _ _ [.sh (.int n), .no, .no] >>= _) = _
  rw [sq_nx s1, sq_nx s2]
  rfl
theorem pool_at {j : Nat} (h : j < 5) : ∃ x, NmOk x ∧ vIdx (.tup [.str "a", .str "b", .str "ab", .str "milk", .str "zzzz"]) (.int j) = .ok (.str x) := by
  have hj : j = 0 ∨ j = 1 ∨ j = 2 ∨ j = 3 ∨ j = 4 := by omega
  rcases hj with rfl | rfl | rfl | rfl | rfl
  · exact ⟨"a", ⟨by decide +kernel, by decide +kernel, by decide +kernel⟩, rfl⟩
  · exact ⟨"b", ⟨by decide +kernel, by decide +kernel, by decide +kernel⟩, rfl⟩
  · exact ⟨"ab", ⟨by decide +kernel, by decide +kernel, by decide +kernel⟩, rfl⟩
  · exact ⟨"milk", ⟨by decide +kernel, by decide +kernel, by decide +kernel⟩, rfl⟩
  · exact ⟨"zzzz", ⟨by decide +kernel, by decide +kernel, by decide +kernel⟩, rfl⟩
theorem two_at (a b : Int) (i : Nat) : ∃ c, (c = a ∨ c = b) ∧ vIdx (.tup [.int a, .int b]) (.int ((i : Int) % 2)) = .ok (.int c) := by
  have h : i % 2 = 0 ∨ i % 2 = 1 := by omega
  rcases h with h | h
  · have e : (i : Int) % 2 = 0 := by omega
    exact ⟨a, .inl rfl, by rw [e]; rfl⟩
  · have e : (i : Int) % 2 = 1 := by omega
    exact ⟨b, .inr rfl, by rw [e]; rfl⟩
/-- put by its key -/
def putW (acc : List Wd) (w : Wd) : List Wd := if hasK (acc.map Wd.key) w.key = true then acc.map (fun v => if v.key = w.key then w else v) else acc ++ [w]
theorem putW_eq (acc : List Wd) (w : Wd) : putKs (acc.map Wd.key) w.key = (putW acc w).map Wd.key ∧ putXs (acc.map Wd.key) (acc.map Wd.d) w.key w.d = (putW acc w).map Wd.d := by
  unfold putW
  by_cases hh : hasK (acc.map Wd.key) w.key = true
  · unfold putKs putXs
    rw [if_pos hh, if_pos hh, if_pos hh]
    clear hh
    induction acc with
    | nil => exact ⟨rfl, rfl⟩
    | cons a acc ih =>
      obtain ⟨i1, i2⟩ := ih
      simp only [List.map_cons, List.zipWith_cons_cons] at i1 i2 ⊢
      rw [← i1, i2]
      by_cases e : a.key = w.key
      · simp [e]
      · simp [e]
  · rw [if_neg hh]
    exact put_there Wd.key Wd.d fun v hv e => hh (hasK_iff.mpr (by rw [← e]; exact List.mem_map_of_mem hv))
theorem putW_keys (acc : List Wd) (w : Wd) : (putW acc w).map Wd.key = if hasK (acc.map Wd.key) w.key = true then acc.map Wd.key else acc.map Wd.key ++ [w.key] := by
  rw [← (putW_eq acc w).1]
  rfl
structure WsOk (n : Nat) (ws : List Wd) : Prop where
  ok : ∀ w ∈ ws, w.Ok
  nd : (ws.map Wd.key).Nodup
  len : ws.length ≤ n
theorem WsOk.put {n : Nat} {acc : List Wd} {w : Wd} (h : WsOk n acc) (hw : w.Ok) : WsOk (n + 1) (putW acc w) := by
  refine ⟨fun v hv => ?_, ?_, ?_⟩
  · unfold putW at hv
    split at hv
    · obtain ⟨u, hu, rfl⟩ := List.mem_map.mp hv
      split
      · exact hw
      · exact h.ok u hu
    · rw [List.mem_append, List.mem_singleton] at hv
      rcases hv with hv | rfl
      · exact h.ok v hv
      · exact hw
  · rw [putW_keys]
    split
    · exact h.nd
    · rename_i n
      rw [List.nodup_append]
      exact ⟨h.nd, by simp, fun a ha b hb => by
        rw [List.mem_singleton] at hb
        subst hb
        exact fun z => n (hasK_iff.mpr (by rw [← z]; exact ha))⟩
  · have := h.len
    unfold putW
    split <;> simp <;> omega
theorem word_one {ns cs : List Int} {B M x w n : Nat} {c z : Int} (acc : List Wd) (hacc : acc.length ≤ 1000) (hpos : 0 < cs.length) (hcl : cs.length ≤ 63)
    (ec : atI (cs.map D.int) (((x : Int) + B) % (cs.length : Int)) = some (.int c)) (hz : D__law_number [.int (c + (x : Int) / (cs.length : Int)), .int ((x : Int) + B), .int w] = .ok (.int z))
    (hn : (if z < 0 then -z else z) / 3 = (n : Int)) (s7 s8 s9 s10 s11 s12 : Sl) :
    ∃ wd : Wd, wd.Ok ∧ ∃ t7 t8 t9 t10 t11 t12 : Sl, L__law_words_0 [.sh (.scr ns), .sh (.int B), .sh (.int M), .sh (.lst (cs.map D.int)), .sh (.int x), .sh (.int w), .od (acc.map Wd.key) (acc.map Wd.d), s7, s8, s9, s10, s11, s12]
      = .ok (.nx [.sh (.scr ns), .sh (.int B), .sh (.int M), .sh (.lst (cs.map D.int)), .sh (.int x), .sh (.int w), .od ((putW acc wd).map Wd.key) ((putW acc wd).map Wd.d), t7, t8, t9, t10, t11, t12]) := by
  have vl : divOk (cs.length : Int) = true := divOk_s (by omega) (by omega)
  have hpos' : (0 : Int) < cs.length := by omega
  have v3 := divOk_s (j := 3) (by decide) (by decide)
  have v5 := divOk_s (j := 5) (by decide) (by decide)
  have v8 := divOk_s (j := 8) (by decide) (by decide)
  have v20 := divOk_s (j := 20) (by decide) (by decide)
  have v32 := divOk_s (j := 32) (by decide) (by decide)
  have v41 := divOk_s (j := 41) (by decide) (by decide)
  have v100 := divOk_s (j := 100) (by decide) (by decide)
  have v2048 := divOk_s (j := 2048) (by decide) (by decide)
  have v10000 := divOk_s (j := 10000) (by decide) (by decide)
  have v20000 := divOk_s (j := 20000) (by decide) (by decide)
  obtain ⟨c1, q1, e1, p1, b1⟩ : ∃ c1 : Nat, ∃ q1 : Int, vIdx (.tup [.int 3, .int 61]) (.int ((w : Int) / 41 % 2)) = .ok (.int c1) ∧ 0 < c1 ∧ c1 ≤ 61 := by
    obtain ⟨a, ha, e⟩ := two_at 3 61 (w / 41)
    rw [Int.natCast_ediv] at e
    rcases ha with rfl | rfl
    · exact ⟨3, 0, e, by decide, by decide⟩
    · exact ⟨61, 0, e, by decide, by decide⟩
  obtain ⟨q, eq⟩ : ∃ q : Nat, n / 2048 = q := ⟨_, rfl⟩
  obtain ⟨c2, q2, e2, p2, b2⟩ : ∃ c2 : Nat, ∃ q2 : Int, vIdx (.tup [.int 2, .int 100]) (.int ((q : Int) / 10000 % 2)) = .ok (.int c2) ∧ 0 < c2 ∧ c2 ≤ 100 := by
    obtain ⟨a, ha, e⟩ := two_at 2 100 (q / 10000)
    rw [Int.natCast_ediv] at e
    rcases ha with rfl | rfl
    · exact ⟨2, 0, e, by decide, by decide⟩
    · exact ⟨100, 0, e, by decide, by decide⟩
  obtain ⟨xn, hxn, en⟩ : ∃ xn, NmOk xn ∧ ∀ ρ : Ev, ρ[10]? = some (.sh (.int (q : Int))) → dIf (bC cGt (d2 vMod (d2 vDiv (dVar 10) (dC (.int 5))) (dC (.int 4))) (dC (.int 0))) (d2 vIdx (lTup (aCons (dC (.str "a")) (aCons (dC (.str "b")) (aCons (dC (.str "ab")) (aCons (dC (.str "milk")) (aCons (dC (.str "zzzz")) aNil)))))) (d2 vMod (dVar 10) (dC (.int 5)))) (dCall 1 D__law_name (aCons (d2 vDiv (dVar 10) (dC (.int 20))) aNil)) ρ = .ok (.str xn) := by
    by_cases hq : 0 < q / 5 % 4
    · obtain ⟨xn, h1, h2⟩ := pool_at (j := q % 5) (Nat.mod_lt _ (by decide))
      rw [Int.natCast_emod] at h2
      change vIdx _ (.int ((q : Int) % 5)) = _ at h2
      have hq' : (0 : Int) < (q : Int) / 5 % 4 := by omega
      exact ⟨xn, h1, fun ρ h => by simp [-vIdx, h, v5, hq', h2]⟩
    · obtain ⟨xn, h1, h2⟩ := law_name_ok (q / 20)
      rw [Int.natCast_ediv] at h2
      change D__law_name [.int ((q : Int) / 20)] = _ at h2
      have hq' : ¬ (0 : Int) < (q : Int) / 5 % 4 := by omega
      exact ⟨xn, h1, fun ρ h => by simp [-vIdx, h, v5, v20, hq', h2]⟩
  obtain ⟨hh, ehh, lhh⟩ : ∃ h : Nat, (n : Int) / 8 % 4 = (h : Int) ∧ h < 4 := ⟨n / 8 % 4, by simp, Nat.mod_lt _ (by decide)⟩
  obtain ⟨hm, ehm, lhm⟩ : ∃ m : Nat, (n : Int) / 32 % (c1 : Int) = (m : Int) ∧ m ≤ 60 := ⟨n / 32 % c1, by simp, by have := Nat.mod_lt (n / 32) p1; omega⟩
  obtain ⟨pp, epp, lpp⟩ : ∃ p : Nat, (q : Int) / 100 % (c2 : Int) = (p : Int) ∧ p < 100 := ⟨q / 100 % c2, by simp, by have := Nat.mod_lt (q / 100) p2; omega⟩
  obtain ⟨mm, emm, lmm⟩ : ∃ m : Nat, 1 + (q : Int) / 20000 % 9 = (m : Int) ∧ 1 ≤ m ∧ m ≤ 9 := ⟨1 + q / 20000 % 9, by simp, by omega, by omega⟩
  have cp1 : (0 : Int) < c1 := by omega
  have cp2 : (0 : Int) < c2 := by omega
  have en' := en [.sh (.scr ns), .sh (.int B), .sh (.int M), .sh (.lst (cs.map D.int)), .sh (.int x), .sh (.int w), .od (acc.map Wd.key) (acc.map Wd.d), .sh (.int (c + (x : Int) / (cs.length : Int))), .sh (.int n)]
  have s1 : dSet 7 (sSh (d2 vAdd (d2 vIdx (dVar 3) (d2 vMod (d2 vAdd (dVar 4) (dVar 1)) (dB iLen (aCons (dVar 3) aNil)))) (d2 vDiv (dVar 4) (dB iLen (aCons (dVar 3) aNil))))) [.sh (.scr ns), .sh (.int B), .sh (.int M), .sh (.lst (cs.map D.int)), .sh (.int x), .sh (.int w), .od (acc.map Wd.key) (acc.map Wd.d), s7, s8, s9, s10, s11, s12]
      = .ok (.nx [.sh (.scr ns), .sh (.int B), .sh (.int M), .sh (.lst (cs.map D.int)), .sh (.int x), .sh (.int w), .od (acc.map Wd.key) (acc.map Wd.d), .sh (.int (c + (x : Int) / (cs.length : Int))), s8, s9, s10, s11, s12]) := by simp [ec, vl, hpos]
  have s2 : dSet 8 (sSh (d2 vDiv (dB iAbs (aCons (dCall 3 D__law_number (aCons (dVar 7) (aCons (d2 vAdd (dVar 4) (dVar 1)) (aCons (dVar 5) aNil)))) aNil)) (dC (.int 3)))) [.sh (.scr ns), .sh (.int B), .sh (.int M), .sh (.lst (cs.map D.int)), .sh (.int x), .sh (.int w), .od (acc.map Wd.key) (acc.map Wd.d), .sh (.int (c + (x : Int) / (cs.length : Int))), s8, s9, s10, s11, s12]
      = .ok (.nx [.sh (.scr ns), .sh (.int B), .sh (.int M), .sh (.lst (cs.map D.int)), .sh (.int x), .sh (.int w), .od (acc.map Wd.key) (acc.map Wd.d), .sh (.int (c + (x : Int) / (cs.length : Int))), .sh (.int n), s9, s10, s11, s12]) := by simp [hz, v3, hn]
  generalize hA : Sl.sh (.int (c + (x : Int) / (cs.length : Int))) = A at s1 s2
  have s3 : dSet 9 (sSh (lTup (aCons (dC (.str "want")) (aCons (d2 vMod (d2 vDiv (dVar 8) (dC (.int 8))) (dC (.int 4))) (aCons (d2 vMod (d2 vDiv (dVar 8) (dC (.int 32))) (d2 vIdx (lTup (aCons (dC (.int 3)) (aCons (dC (.int 61)) aNil))) (d2 vMod (d2 vDiv (dVar 5) (dC (.int 41))) (dC (.int 2))))) aNil))))) [.sh (.scr ns), .sh (.int B), .sh (.int M), .sh (.lst (cs.map D.int)), .sh (.int x), .sh (.int w), .od (acc.map Wd.key) (acc.map Wd.d), A, .sh (.int n), s9, s10, s11, s12]
      = .ok (.nx [.sh (.scr ns), .sh (.int B), .sh (.int M), .sh (.lst (cs.map D.int)), .sh (.int x), .sh (.int w), .od (acc.map Wd.key) (acc.map Wd.d), A, .sh (.int n), .sh (.tup [.str "want", .int hh, .int hm]), s10, s11, s12]) := by simp [-vIdx, e1, v8, v32, v41, cp1, p1, ehh, ehm]
  obtain ⟨k, hk, s4⟩ : ∃ k : Nat, k ≤ 2 ∧ dIfS (bC cGt (d2 vMod (dVar 8) (dC (.int 8))) (dC (.int 5)))
        (dSet 9 (sSh (d2 vAdd (lTup (aCons (dC (.str "strike")) aNil)) (dSl (dVar 9) (oSo (dC (.int 1))) oNo))))
        (dIfS (bC cGt (d2 vMod (dVar 8) (dC (.int 8))) (dC (.int 2)))
        (dSet 9 (sSh (d2 vAdd (lTup (aCons (dC (.str "got")) aNil)) (dSl (dVar 9) (oSo (dC (.int 1))) oNo))))
        dPass) [.sh (.scr ns), .sh (.int B), .sh (.int M), .sh (.lst (cs.map D.int)), .sh (.int x), .sh (.int w), .od (acc.map Wd.key) (acc.map Wd.d), A, .sh (.int n), .sh (.tup [.str "want", .int hh, .int hm]), s10, s11, s12]
      = .ok (.nx [.sh (.scr ns), .sh (.int B), .sh (.int M), .sh (.lst (cs.map D.int)), .sh (.int x), .sh (.int w), .od (acc.map Wd.key) (acc.map Wd.d), A, .sh (.int n), .sh (.tup [.str (kS k), .int hh, .int hm]), s10, s11, s12]) := by
    have c3 : ∀ a b c : D, cutL [a, b, c] (some 1) none = [b, c] := fun _ _ _ => rfl
    by_cases g1 : (5 : Int) < (n : Int) % 8
    · exact ⟨2, by decide, by simp [g1, c3]⟩
    · by_cases g2 : (2 : Int) < (n : Int) % 8
      · exact ⟨1, by decide, by simp [g1, g2, c3]⟩
      · exact ⟨0, by decide, by simp [g1, g2]⟩
  have s5 : dSet 10 (sSh (d2 vDiv (dVar 8) (dC (.int 2048)))) [.sh (.scr ns), .sh (.int B), .sh (.int M), .sh (.lst (cs.map D.int)), .sh (.int x), .sh (.int w), .od (acc.map Wd.key) (acc.map Wd.d), A, .sh (.int n), .sh (.tup [.str (kS k), .int hh, .int hm]), s10, s11, s12]
      = .ok (.nx [.sh (.scr ns), .sh (.int B), .sh (.int M), .sh (.lst (cs.map D.int)), .sh (.int x), .sh (.int w), .od (acc.map Wd.key) (acc.map Wd.d), A, .sh (.int n), .sh (.tup [.str (kS k), .int hh, .int hm]), .sh (.int q), s11, s12]) := by
    have : (n : Int) / 2048 = q := by rw [← eq]; simp
    simp [-kS, v2048, this]
  have s6 := en [.sh (.scr ns), .sh (.int B), .sh (.int M), .sh (.lst (cs.map D.int)), .sh (.int x), .sh (.int w), .od (acc.map Wd.key) (acc.map Wd.d), A, .sh (.int n), .sh (.tup [.str (kS k), .int hh, .int hm]), .sh (.int q), s11, s12] rfl
  have s6' := fun {f : Ev → R D} {ρ : Ev} {d : D} (h : f ρ = .ok d) => (show dSet 11 (sSh f) ρ = .ok (.nx (ρ.set 11 (.sh d))) by simp [h])
  have s7' : dSet 12 (sSh (lTup (aCons (dVar 11) (aCons (d2 vMod (d2 vDiv (dVar 10) (dC (.int 100))) (d2 vIdx (lTup (aCons (dC (.int 2)) (aCons (dC (.int 100)) aNil))) (d2 vMod (d2 vDiv (dVar 10) (dC (.int 10000))) (dC (.int 2))))) (aCons (d2 vAdd (dC (.int 1)) (d2 vMod (d2 vDiv (dVar 10) (dC (.int 20000))) (dC (.int 9)))) aNil))))) [.sh (.scr ns), .sh (.int B), .sh (.int M), .sh (.lst (cs.map D.int)), .sh (.int x), .sh (.int w), .od (acc.map Wd.key) (acc.map Wd.d), A, .sh (.int n), .sh (.tup [.str (kS k), .int hh, .int hm]), .sh (.int q), .sh (.str xn), s12]
      = .ok (.nx [.sh (.scr ns), .sh (.int B), .sh (.int M), .sh (.lst (cs.map D.int)), .sh (.int x), .sh (.int w), .od (acc.map Wd.key) (acc.map Wd.d), A, .sh (.int n), .sh (.tup [.str (kS k), .int hh, .int hm]), .sh (.int q), .sh (.str xn), .sh (.tup [.str xn, .int pp, .int mm])]) := by simp [-vIdx, -kS, e2, v100, v10000, v20000, cp2, p2, epp, emm]
  have e3 := ltLine_s (n := acc.length) (by omega)
  have g2 := cEq_kS hk (show 2 ≤ 2 by omega)
  rw [show kS 2 = ("strike" : Str) from rfl] at g2
  obtain ⟨wd, ow, kw, dw⟩ : ∃ wd : Wd, wd.Ok ∧ PL.keyD (.tup [.str (kS k), .int hh, .int hm]) = some wd.key ∧ dIf (bC cEq (d2 vIdx (dVar 9) (dC (.int 0))) (dC (.str "strike"))) (dVar 9) (d2 vAdd (dVar 9) (dVar 12)) [.sh (.scr ns), .sh (.int B), .sh (.int M), .sh (.lst (cs.map D.int)), .sh (.int x), .sh (.int w), .od (acc.map Wd.key) (acc.map Wd.d), A, .sh (.int n), .sh (.tup [.str (kS k), .int hh, .int hm]), .sh (.int q), .sh (.str xn), .sh (.tup [.str xn, .int pp, .int mm])] = .ok wd.d := by
    by_cases h2 : k = 2
    · subst h2
      refine ⟨⟨2, hh, hm, "", 0, 0⟩, ⟨Nat.le_refl 2, lhh, lhm, fun _ => ⟨rfl, rfl, rfl⟩, fun z => absurd rfl z, fun z => absurd rfl z, fun z => absurd rfl z⟩, rfl, ?_⟩
      simp [-kS, g2, Wd.d]
    · refine ⟨⟨k, hh, hm, xn, pp, mm⟩, ⟨hk, lhh, lhm, fun z => absurd z h2, fun _ => hxn, fun _ => lpp, fun _ => lmm⟩, rfl, ?_⟩
      simp [-kS, g2, h2, Wd.d]
  obtain ⟨u1, u2⟩ := putW_eq acc wd
  refine ⟨wd, ow, A, .sh (.int n), .sh (.tup [.str (kS k), .int hh, .int hm]), .sh (.int q), .sh (.str xn), .sh (.tup [.str xn, .int pp, .int mm]), ?_⟩
  show dSeq _ _ _ = _
  rw [sq_nx s1, sq_nx s2, sq_nx s3, sq_nx s4, sq_nx s5, sq_nx (s6' s6)]
  simp only [List.set_cons_succ, List.set_cons_zero]
  rw [sq_nx s7']
  unfold dPutD
  rw [dw]
  simp [-kS, kw, e3, u1, u2]
theorem words_ok {ns : List Int} (hl : ns.length ≤ 63) (hb : ∀ z ∈ ns, Builtin.Int.intBits z ≤ 1048576) {B M : Nat} (hB : B ≤ 100) (hM : M ≤ 60) : ∃ ws : List Wd, D__law_words [.scr ns, .int B, .int M] = .ok (.lst (ws.map Wd.d)) ∧ WsOk M ws := by
  have hC := cells_of hl hb
  have hS := abs_le hC.sum
  have hS0 := abs_pos (cellsOf ns).sum
  have hpos := hC.pos
  have m1 : mulOk 7 (B : Int) = true := mulOk_s (by decide) (by decide) (by omega) (by omega)
  have s1 : dSet 3 (sSh (dIf (bC cNe (dVar 0) (lLP aNil)) (dSl (dVar 0) oNo (oSo (dC (.int 63)))) (lD (lLst (aCons (dC (.int 5)) aNil))))) [.sh (.scr ns), .sh (.int B), .sh (.int M), .no, .no, .no, .no, .no, .no, .no, .no, .no, .no]
      = .ok (.nx [.sh (.scr ns), .sh (.int B), .sh (.int M), .sh (.lst ((cellsOf ns).map D.int)), .no, .no, .no, .no, .no, .no, .no, .no, .no]) := by
    by_cases h : ns = []
    · subst h
      simp [cellsOf]
    · simp [h, cells_sl hl, cellsOf]
  have hw : Bd 1049000 ((if (cellsOf ns).sum < 0 then -(cellsOf ns).sum else (cellsOf ns).sum) + 7 * (B : Int)) := hS.add' (.s (i := 7 * (B : Int)) (by omega) (by omega)) (by omega) (by omega)
  obtain ⟨w, ew⟩ : ∃ w : Nat, (if (cellsOf ns).sum < 0 then -(cellsOf ns).sum else (cellsOf ns).sum) + 7 * (B : Int) = (w : Int) := ⟨((if (cellsOf ns).sum < 0 then -(cellsOf ns).sum else (cellsOf ns).sum) + 7 * (B : Int)).toNat, by omega⟩
  rw [ew] at hw
  have s2 : dPar 5 6 (sSh (d2 vAdd (dB iAbs (aCons (dB iSum (aCons (dVar 3) aNil)) aNil)) (d2 vMul (dC (.int 7)) (dVar 1)))) sOd0 [.sh (.scr ns), .sh (.int B), .sh (.int M), .sh (.lst ((cellsOf ns).map D.int)), .no, .no, .no, .no, .no, .no, .no, .no, .no]
      = .ok (.nx [.sh (.scr ns), .sh (.int B), .sh (.int M), .sh (.lst ((cellsOf ns).map D.int)), .no, .sh (.int w), .od [] [], .no, .no, .no, .no, .no, .no]) := by simp [m1, ew]
  have hml : w % (M + 1) ≤ M := Nat.lt_succ_iff.mp (Nat.mod_lt w (Nat.succ_pos M))
  obtain ⟨ws, j', hf, a, h1, h2, h3⟩ := fo_inv (g := gNm 4) (b := L__law_words_0) (α := List Wd) (J := Sl × Sl × Sl × Sl × Sl × Sl × Sl) (fun acc j => [.sh (.scr ns), .sh (.int B), .sh (.int M), .sh (.lst ((cellsOf ns).map D.int)), j.1, .sh (.int w), .od (acc.map Wd.key) (acc.map Wd.d), j.2.1, j.2.2.1, j.2.2.2.1, j.2.2.2.2.1, j.2.2.2.2.2.1, j.2.2.2.2.2.2]) (fun k : Nat => D.int k)
    (fun r acc => ∃ a, r = List.range' a r.length ∧ a + r.length = w % (M + 1) ∧ WsOk a acc) (by
      intro x r acc j ⟨a, g1, g2, g3⟩
      have g1 : x = a ∧ r = List.range' (a + 1) r.length := by simpa [List.length_cons, List.range'_succ] using g1
      obtain ⟨rfl, hr⟩ := g1
      simp only [List.length_cons] at g2
      have hal := g3.len
      obtain ⟨c, z, ec, hz⟩ := cell_num hC hw (x := x) (by omega) (i := (x : Int) + B) (a := x + B) (by omega)
      rw [Int.natCast_add] at hz
      obtain ⟨n, en⟩ : ∃ n : Nat, (if z < 0 then -z else z) / 3 = (n : Int) := ⟨((if z < 0 then -z else z) / 3).toNat, by have := abs3 z; omega⟩
      obtain ⟨wd, ow, t7, t8, t9, t10, t11, t12, e⟩ := word_one (ns := ns) (M := M) acc (by omega) hpos hC.le ec hz en j.2.1 j.2.2.1 j.2.2.2.1 j.2.2.2.2.1 j.2.2.2.2.2.1 j.2.2.2.2.2.2
      exact ⟨_, putW acc wd, (.sh (.int x), t7, t8, t9, t10, t11, t12), rfl, .inl e, x + 1, hr, by omega, g3.put ow⟩) (List.range (w % (M + 1))) [] (.no, .no, .no, .no, .no, .no, .no) ⟨0, by simp [List.range_eq_range'], by simp, ⟨by simp, by simp, by simp⟩⟩
  have hwl := h3.len
  simp only [List.length_nil] at h2
  refine ⟨ws, ?_, ⟨h3.ok, h3.nd, by omega⟩⟩
  have s3 : dFor (lB vRg1 (aCons (d2 vMod (dVar 5) (d2 vAdd (dVar 2) (dC (.int 1)))) aNil)) (gNm 4) L__law_words_0 [.sh (.scr ns), .sh (.int B), .sh (.int M), .sh (.lst ((cellsOf ns).map D.int)), .no, .sh (.int w), .od [] [], .no, .no, .no, .no, .no, .no]
      = .ok (.nx [.sh (.scr ns), .sh (.int B), .sh (.int M), .sh (.lst ((cellsOf ns).map D.int)), j'.1, .sh (.int w), .od (ws.map Wd.key) (ws.map Wd.d), j'.2.1, j'.2.2.1, j'.2.2.2.1, j'.2.2.2.2.1, j'.2.2.2.2.2.1, j'.2.2.2.2.2.2]) := by
    have e0 : (w : Int) % ((M : Int) + 1) = ((w % (M + 1) : Nat) : Int) := by simp
    have e1 := inRg_n (n := w % (M + 1)) (by omega)
    have e2 : (0 : Int) < (M : Int) + 1 := by omega
    have e : lB vRg1 (aCons (d2 vMod (dVar 5) (d2 vAdd (dVar 2) (dC (.int 1)))) aNil) [.sh (.scr ns), .sh (.int B), .sh (.int M), .sh (.lst ((cellsOf ns).map D.int)), .no, .sh (.int w), .od [] [], .no, .no, .no, .no, .no, .no] = .ok ((List.range (w % (M + 1))).map fun k => D.int (k : Nat)) := by
      simp [-Int.natCast_emod, e0, e1, e2, rangeD_map]
    unfold dFor
    rw [e]
    exact hf
  have ev : valsOk 13 9 (ws.map Wd.key) = true := shut_of ⟨by decide, h3.nd, by rw [List.length_map]; omega⟩
  unfold D__law_words dFn B__law_words
  show (dSeq _ _ [.sh (.scr ns), .sh (.int B), .sh (.int M), .no, .no, .no, .no, .no, .no, .no, .no, .no, .no] >>= _) = _
  rw [sq_nx s1, sq_nx s2, sq_nx s3]
  simp [ev]
end T_k12
/-! MU: what is told of words, held against the law's own counts. -/
namespace T_k12
open PySem L2 PL
theorem cEq_refl {d : D} {p : PyData} (h : d.toPy = some p) (hs : SeqAt.shaped p = true) (he : PyData.eqv p p = true) : cEq d d = some true := by
  unfold cEq
  rw [h]
  simp [hs, he]
abbrev rw3 (f : Th → Int) (t : Th) : D := .tup [.str t.1, .int t.2, .int (f t)]
abbrev rw3P (f : Th → Int) (t : Th) : PyData := .tuple [.str t.1, .int t.2, .int (f t)]
theorem rows_toPy (f : Th → Int) (ts : List Th) : D.toPyL (ts.map (rw3 f)) = some (ts.map (rw3P f)) := by
  induction ts with
  | nil => simp [D.toPyL]
  | cons t ts ih => simp [D.toPyL, D.toPy, ih]
theorem rows_lay (f : Th → Int) : ∀ {ts : List Th}, (∀ t ∈ ts, PyData.strOk t.1 = true) → PyData.canLayAll0 (ts.map (rw3P f)) = true ∧ PyData.depthAll (ts.map (rw3P f)) ≤ 1
  | [], _ => by simp [PyData.canLayAll0, PyData.depthAll]
  | t :: ts, h => by
    have h1 := h t List.mem_cons_self
    obtain ⟨b1, b2⟩ := rows_lay f fun v hv => h v (List.mem_cons_of_mem _ hv)
    simp [PyData.canLayAll0, PyData.canLay0, PyData.depthAll, PyData.depth, h1, b1]
    omega
theorem rows_eqv (f : Th → Int) (ts : List Th) : PyData.eqvAll (ts.map (rw3P f)) (ts.map (rw3P f)) = true := by
  induction ts with
  | nil => simp [PyData.eqvAll]
  | cons t ts ih => simp [PyData.eqvAll, PyData.eqv, str_beq, ih]
theorem cEq_rows {ts : List Th} (f : Th → Int) (h : ∀ t ∈ ts, PyData.strOk t.1 = true) : cEq (.lst (ts.map (rw3 f))) (.lst (ts.map (rw3 f))) = some true := by
  refine cEq_refl (p := .list (ts.map (rw3P f))) (by simp [D.toPy, rows_toPy]) ?_ (by simp only [PyData.eqv, rows_eqv])
  obtain ⟨b1, b2⟩ := rows_lay f h
  simp [SeqAt.shaped, PyData.canLay0, PyData.depth, b1]
  omega
theorem rows_strs {ws l : List Wd} (ok : ∀ w ∈ l, w.Ok) (p : Int → Bool) : ∀ t ∈ rowsT p (cnt ws l), PyData.strOk t.1 = true := by
  intro t ht
  unfold rowsT at ht
  rw [List.mem_filter] at ht
  have h1 := (tsrt_p ((cnt ws l).map (·.1))).mem_iff.mp ht.1
  obtain ⟨w, hw, rfl, hd⟩ := ((cnt_mem ws t l []).mp h1).resolve_left (by simp)
  refine nm_str ((ok w hw).nm fun hk => hd ?_)
  unfold dl
  rw [hk]
  rfl
theorem cEq_rowsD {ws l : List Wd} (ok : ∀ w ∈ l, w.Ok) (p : Int → Bool) (f : Int → Int) : cEq (.lst (rowsD p f (cnt ws l))) (.lst (rowsD p f (cnt ws l))) = some true :=
  cEq_rows (fun t => f ((cnt ws l).at_ t)) (rows_strs ok p)
theorem eqvAll_wd : ∀ {ws vs : List Wd}, (∀ w ∈ ws, w.Ok) → (∀ w ∈ vs, w.Ok) → PyData.eqvAll (ws.map Wd.py) (vs.map Wd.py) = decide (ws = vs)
  | [], [], _, _ => by simp [PyData.eqvAll]
  | [], _ :: _, _, _ => by simp [PyData.eqvAll]
  | _ :: _, [], _, _ => by simp [PyData.eqvAll]
  | w :: ws, v :: vs, h1, h2 => by
    have := eqvAll_wd (fun u hu => h1 u (List.mem_cons_of_mem _ hu)) fun u hu => h2 u (List.mem_cons_of_mem _ hu)
    simp [PyData.eqvAll, this, Wd.eqv (h1 w List.mem_cons_self) (h2 v List.mem_cons_self)]
theorem cEq_wds {ws vs : List Wd} (h1 : ∀ w ∈ ws, w.Ok) (h2 : ∀ w ∈ vs, w.Ok) : cEq (.lst (ws.map Wd.d)) (.lst (vs.map Wd.d)) = some (decide (ws = vs)) := by
  unfold cEq
  simp [D.toPy, toPyL_wd, wds_shaped h1, wds_shaped h2, PyData.eqv, eqvAll_wd h1 h2]
/-! ### the law's own rows -/
section
variable {i j : Nat} {c : Cn} {ρ : Ev}
theorem due_rows (hi : ρ[i]? = some (.sh (.dct c.ks c.ds))) (hj : j < ρ.length) (hij : i ≠ j) : lcG (gNm j) (bC cGt (d2 vGetK (dVar i) (dVar j)) (dC (.int 0))) (d2 vAdd (dVar j) (lTup (aCons (d2 vGetK (dVar i) (dVar j)) aNil))) ρ ((tsrt (c.map (·.1))).map tD) = .ok (rowsD cPos id c) := by
  unfold rowsD
  refine lcG_filter tD (fun t => cPos (c.at_ t)) (fun t => .tup [.str t.1, .int t.2, .int (id (c.at_ t))]) _ fun t ht => ⟨_, rfl, ?_, fun _ => ?_⟩
  · have e := vget ((tsrt_p _).mem_iff.mp ht)
    have e1 : (ρ.set j (.sh (tD t)))[i]? = some (.sh (.dct c.ks c.ds)) := by rw [List.getElem?_set_ne (Ne.symm hij), hi]
    have e2 : (ρ.set j (.sh (tD t)))[j]? = some (.sh (tD t)) := by rw [List.getElem?_set_self hj]
    simp [-vGetK, e, e1, e2]
  · have e := vget ((tsrt_p _).mem_iff.mp ht)
    have e1 : (ρ.set j (.sh (tD t)))[i]? = some (.sh (.dct c.ks c.ds)) := by rw [List.getElem?_set_ne (Ne.symm hij), hi]
    have e2 : (ρ.set j (.sh (tD t)))[j]? = some (.sh (tD t)) := by rw [List.getElem?_set_self hj]
    simp [-vGetK, e, e1, e2]
    simp [tD]
theorem much_rows (hi : ρ[i]? = some (.sh (.dct c.ks c.ds))) (hj : j < ρ.length) (hij : i ≠ j) : lcG (gNm j) (bC cLt (d2 vGetK (dVar i) (dVar j)) (dC (.int 0))) (d2 vAdd (dVar j) (lTup (aCons (d1 vNeg (d2 vGetK (dVar i) (dVar j))) aNil))) ρ ((tsrt (c.map (·.1))).map tD) = .ok (rowsD cNeg (fun i => -i) c) := by
  unfold rowsD
  refine lcG_filter tD (fun t => cNeg (c.at_ t)) (fun t => .tup [.str t.1, .int t.2, .int (-(c.at_ t))]) _ fun t ht => ⟨_, rfl, ?_, fun _ => ?_⟩
  · have e := vget ((tsrt_p _).mem_iff.mp ht)
    have e1 : (ρ.set j (.sh (tD t)))[i]? = some (.sh (.dct c.ks c.ds)) := by rw [List.getElem?_set_ne (Ne.symm hij), hi]
    have e2 : (ρ.set j (.sh (tD t)))[j]? = some (.sh (tD t)) := by rw [List.getElem?_set_self hj]
    simp [-vGetK, e, e1, e2]
  · have e := vget ((tsrt_p _).mem_iff.mp ht)
    have e1 : (ρ.set j (.sh (tD t)))[i]? = some (.sh (.dct c.ks c.ds)) := by rw [List.getElem?_set_ne (Ne.symm hij), hi]
    have e2 : (ρ.set j (.sh (tD t)))[j]? = some (.sh (tD t)) := by rw [List.getElem?_set_self hj]
    simp [-vGetK, e, e1, e2]
    simp [tD]
theorem due_all {vs : List Nat} (hv : vs = [j]) (hk : ρ[i]? = some (.sh (.dct c.ks c.ds))) (hj : j < ρ.length) (hij : i ≠ j) (hl : c.length ≤ 1000) :
    lLC (l1 vIt (lD (l1 vSorted (lD (l1 vKeys (dVar i)))))) vs (gNm j) (bC cGt (d2 vGetK (dVar i) (dVar j)) (dC (.int 0))) (d2 vAdd (dVar j) (lTup (aCons (d2 vGetK (dVar i) (dVar j)) aNil))) ρ = .ok (rowsD cPos id c) := by
  subst hv
  have hlen : lineOk ((tsrt (c.map (·.1))).map tD).length = true := lineOk_s (by rw [List.length_map, (tsrt_p _).length_eq, List.length_map]; omega)
  simp only [lLC, l1, lD, dVar, hk, vKeys, R.bind_ok, keys_t, sort_t, vIt, hlen, R.when_true, wipeE]
  exact due_rows (by rw [List.getElem?_set_ne (Ne.symm hij), hk]) (by simpa using hj) hij
theorem much_all {vs : List Nat} (hv : vs = [j]) (hk : ρ[i]? = some (.sh (.dct c.ks c.ds))) (hj : j < ρ.length) (hij : i ≠ j) (hl : c.length ≤ 1000) :
    lLC (l1 vIt (lD (l1 vSorted (lD (l1 vKeys (dVar i)))))) vs (gNm j) (bC cLt (d2 vGetK (dVar i) (dVar j)) (dC (.int 0))) (d2 vAdd (dVar j) (lTup (aCons (d1 vNeg (d2 vGetK (dVar i) (dVar j))) aNil))) ρ = .ok (rowsD cNeg (fun i => -i) c) := by
  subst hv
  have hlen : lineOk ((tsrt (c.map (·.1))).map tD).length = true := lineOk_s (by rw [List.length_map, (tsrt_p _).length_eq, List.length_map]; omega)
  simp only [lLC, l1, lD, dVar, hk, vKeys, R.bind_ok, keys_t, sort_t, vIt, hlen, R.when_true, wipeE]
  exact much_rows (by rw [List.getElem?_set_ne (Ne.symm hij), hk]) (by simpa using hj) hij
end
theorem sins_len (k : Int) : ∀ l : List Int, (sins k l).length ≤ l.length + 1
  | [] => by simp [sins]
  | a :: l => by
    have := sins_len k l
    unfold sins
    split
    · simp
    · split <;> simp
      omega
theorem sset_len : ∀ ns : List Int, (sset ns).length ≤ ns.length
  | [] => by simp [sset]
  | a :: l => by
    have h1 := sset_len l
    have h2 := sins_len a (sset l)
    show (sins a (sset l)).length ≤ _
    simp
    omega
end T_k12
/-! MP: pads. -/
namespace T_k12
open PySem L2 PL
theorem cons_pw : ∀ {ws : List Wd}, (ws.map Wd.key).Nodup → Cons ws
  | [], _ => fun _ h => by simp at h
  | a :: ws, h => by
    rw [List.map_cons, List.nodup_cons] at h
    have ih := cons_pw h.2
    intro w hw v hv e
    rcases List.mem_cons.mp hw with hw | hw
    · rcases List.mem_cons.mp hv with hv | hv
      · rw [hw, hv]
      · exact absurd (by rw [← hw, e]; exact List.mem_map_of_mem hv) h.1
    · rcases List.mem_cons.mp hv with hv | hv
      · exact absurd (by rw [← hv, ← e]; exact List.mem_map_of_mem hw) h.1
      · exact ih w hw v hv e
theorem cons_of {n : Nat} {ws : List Wd} (h : WsOk n ws) : Cons ws := cons_pw h.nd
theorem nd_of {n : Nat} {ws : List Wd} (h : WsOk n ws) : ws.Nodup := (List.pairwise_map.mp h.nd).imp fun h e => h (by rw [e])
structure PadAt (M : Mem) (n l hd : Nat) (ws : List Wd) : Prop where
  ob : M[n]? = some (.ob 4 [.int hd, .ptr l])
  ls : M[l]? = some (.lst (ws.map Wd.d))
theorem PadAt.ne {M : Mem} {n l hd : Nat} {ws : List Wd} (P : PadAt M n l hd ws) : n ≠ l := fun e => by
  have := P.ob
  rw [e, P.ls] at this
  exact nomatch this
theorem PadAt.n_lt {M : Mem} {n l hd : Nat} {ws : List Wd} (P : PadAt M n l hd ws) : n < M.length := (List.getElem?_eq_some_iff.mp P.ob).1
theorem PadAt.l_lt {M : Mem} {n l hd : Nat} {ws : List Wd} (P : PadAt M n l hd ws) : l < M.length := (List.getElem?_eq_some_iff.mp P.ls).1
theorem deep_wd (k : Nat) (M : Mem) (w : Wd) : deep k M w.d = w.d := deep_id fun n => by unfold Wd.d; split <;> exact D.noConfusion
theorem PadAt.deep {M : Mem} {n l hd : Nat} {ws : List Wd} (P : PadAt M n l hd ws) : deep 3 M (.ptr n) = .ob 4 [.int hd, .lst (ws.map Wd.d)] := by
  have e : (PL.deep 1 M ∘ Wd.d) = Wd.d := by funext w; exact deep_wd 1 M w
  simp [PL.deep, P.ob, P.ls, e]
theorem wd_flat (w : Wd) : w.d.flat = true := by
  unfold Wd.d
  split <;> simp [D.flat, D.flatL]
theorem wds_flat (ws : List Wd) : D.flatL (ws.map Wd.d) = true := by
  induction ws with
  | nil => rfl
  | cons w ws ih => simp [D.flatL, wd_flat, ih]
theorem PadAt.cell {M : Mem} {n l hd : Nat} {ws : List Wd} (P : PadAt M n l hd ws) : cellO M (.ptr n) = some (n, 4, [.int hd, .ptr l]) := by simp [cellO, P.ob]
theorem PadAt.list {M : Mem} {n l hd : Nat} {ws : List Wd} (P : PadAt M n l hd ws) : cellL M (.ptr l) = some (l, ws.map Wd.d) := by simp [cellL, P.ls]
theorem yq_nx {f g : Y2} {ρ ρ' : E2} {M M' : Mem} (h : f ρ M = .ok (.nx ρ') M') : ySeq f g ρ M = g ρ' M' := by simp [ySeq, h]
/-- what another pad keeps -/
theorem PadAt.set {M : Mem} {n l hd : Nat} {ws : List Wd} (P : PadAt M n l hd ws) {i : Nat} {c : Cell} (h1 : i ≠ n) (h2 : i ≠ l) : PadAt (M.set i c) n l hd ws := ⟨by rw [List.getElem?_set_ne h1]; exact P.ob, by rw [List.getElem?_set_ne h2]; exact P.ls⟩
theorem PadAt.more {M : Mem} {n l hd : Nat} {ws : List Wd} (P : PadAt M n l hd ws) {N : Mem} : PadAt (M ++ N) n l hd ws := ⟨by rw [List.getElem?_append_left P.n_lt]; exact P.ob, by rw [List.getElem?_append_left P.l_lt]; exact P.ls⟩
theorem PadAt.put {M : Mem} {n l hd : Nat} {ws : List Wd} (P : PadAt M n l hd ws) (vs : List Wd) : PadAt (M.set l (.lst (vs.map Wd.d))) n l hd vs := ⟨by rw [List.getElem?_set_ne P.ne.symm]; exact P.ob, by rw [List.getElem?_set_self P.l_lt]⟩
theorem put_ok {M : Mem} {n l hd : Nat} {ws : List Wd} (P : PadAt M n l hd ws) (hl : ws.length < 40) (w : Wd) : D2_Pad_put [.ptr n, w.d] M = .ok .non (M.set l (.lst ((ws ++ [w]).map Wd.d))) := by
  have e1 : ¬ (40 : Int) ≤ ws.length := by omega
  have e2 := ltLine_s (n := ws.length) (by omega)
  simp [D2_Pad_put, B2_Pad_put, vwF, P.deep, P.cell, P.list, kindL, List.lookup, e1, e2]
def nxt (ws : List Wd) (k h : Nat) : Nat := (ws.filter fun w => decide (w.k = k ∧ w.h = h)).foldl (fun m w => max m (w.n + 1)) 0
theorem nxt_max (vs : List Wd) : ∀ m : Nat, (vs.map fun w => (w.n : Int)).foldl max ((m : Int) - 1) = ((vs.foldl (fun m w => max m (w.n + 1)) m : Nat) : Int) - 1 := by
  induction vs with
  | nil => intro m; rfl
  | cons w vs ih =>
    intro m
    rw [List.map_cons, List.foldl_cons, List.foldl_cons, ← ih]
    congr 1
    omega
theorem Wd.cut2 (w : Wd) : vSl none (some 2) w.d = .ok (.tup [.str (kS w.k), .int w.h]) := by
  have c3 : ∀ a b c : D, cutL [a, b, c] none (some 2) = [a, b] := fun _ _ _ => rfl
  have c6 : ∀ a b c d e f : D, cutL [a, b, c, d, e, f] none (some 2) = [a, b] := fun _ _ _ _ _ _ => rfl
  unfold Wd.d
  split <;> simp [c3, c6, -kS]
theorem cEq_two {k h k' h' : Nat} (hk : k ≤ 2) (hk' : k' ≤ 2) : cEq (.tup [.str (kS k), .int h]) (.tup [.str (kS k'), .int h']) = some (decide (k = k' ∧ h = h')) := by
  have e := kS_inj hk hk'
  have e1 := kS_ok k
  have e2 := kS_ok k'
  generalize kS k = x at *
  generalize kS k' = y at *
  unfold cEq
  simp [D.toPy, D.toPyL, SeqAt.shaped, PyData.canLay0, PyData.canLayAll0, PyData.depth, PyData.depthAll, PyData.eqv, PyData.eqvAll, str_beq, e1, e2, e, Bool.beq_eq_decide_eq, Int.ofNat_inj]
theorem next_ok {M : Mem} {n l hd : Nat} {ws : List Wd} (P : PadAt M n l hd ws) (ok : ∀ w ∈ ws, w.Ok) (hl : ws.length ≤ 40) {k : Nat} (hk : k ≤ 2) (h60 : nxt ws k hd ≤ 60) : D2_Pad_next_number [.ptr n, .str (kS k)] M = .ok (.int (nxt ws k hd : Nat)) M := by
  have hf : ∀ a b : Sl, lcG (gNm 3) (bC cEq (dSl (dVar 3) oNo (oSo (dC (.int 2)))) (lTup (aCons (dVar 1) (aCons (dFld [(4, 0)] (dVar 0)) aNil)))) (d2 vIdx (dVar 3) (dC (.int 2))) [.sh (.ob 4 [.int hd, .lst (ws.map Wd.d)]), .sh (.str (kS k)), a, b] (ws.map Wd.d) = .ok ((ws.filter fun w => decide (w.k = k ∧ w.h = hd)).map fun w => D.int w.n) := fun a b =>
    lcG_filter Wd.d _ _ _ fun w hw => ⟨_, rfl, by simp [-vSl, -kS, Wd.cut2, cEq_two (ok w hw).k hk, List.lookup], fun _ => by simp [-vIdx, Wd.at2]⟩
  have e1 := lineOk_s (n := ws.length) (by omega)
  have hi : intsD ((ws.filter fun w => decide (w.k = k ∧ w.h = hd)).map fun w => D.int w.n) = some ((ws.filter fun w => decide (w.k = k ∧ w.h = hd)).map fun w => (w.n : Int)) := intsD_of _ _
  have hm := nxt_max (ws.filter fun w => decide (w.k = k ∧ w.h = hd)) 0
  have e2 : lineOk (1 + (ws.filter fun w => decide (w.k = k ∧ w.h = hd)).length) = true := lineOk_s (by have := List.length_filter_le (fun w => decide (w.k = k ∧ w.h = hd)) ws; omega)
  unfold nxt at h60 ⊢
  generalize ws.filter (fun w => decide (w.k = k ∧ w.h = hd)) = fs at *
  have e3 : ¬ (60 : Int) < ((fs.foldl (fun m w => max m (w.n + 1)) 0 : Nat) : Int) := by omega
  generalize fs.foldl (fun m w => max m (w.n + 1)) 0 = N at *
  have hm : List.foldl max (-1 : Int) (fs.map fun w => (w.n : Int)) = (N : Int) - 1 := hm
  have hi' : intsD (D.int (-1) :: fs.map fun w => D.int w.n) = some ((-1 : Int) :: fs.map fun w => (w.n : Int)) := by simp [intsD, hi]
  have e4 : (N : Int) - 1 + 1 = N := by omega
  simp [D2_Pad_next_number, B2_Pad_next_number, vwF, P.deep, List.lookup, e1, e2, e3, e4, -kS, hf, hi', maxL, hm]
theorem init_ok {M : Mem} {h : Nat} (hh : h < 4) {fs : X2 (List D)} {ρ : E2} (hf : fs ρ M = .ok [.int (h : Nat)] M) : xMake 5 1 D2_Pad___init__ fs ρ M = .ok (.ptr M.length) ((M ++ [.ob 4 [.int h, .ptr (M.length + 1)]]) ++ [.lst []]) := by
  have e1 : (0 : Int) ≤ h := by omega
  have e2 : (h : Int) < 4 := by omega
  simp [hf, D2_Pad___init__, B2_Pad___init__, vwF, whole_int, e2, cellO, cellL]
theorem init_at (M : Mem) (h : Nat) : PadAt ((M ++ [.ob 4 [.int h, .ptr (M.length + 1)]]) ++ [.lst []]) M.length (M.length + 1) h [] := ⟨by simp, by simp⟩
theorem want_ok {M : Mem} {n l hd : Nat} {ws : List Wd} (P : PadAt M n l hd ws) (ok : ∀ w ∈ ws, w.Ok) (hl : ws.length < 40) (h60 : nxt ws 0 hd ≤ 60) {x : Str} {p m : Nat} (hx : NmOk x) (hp : p < 100) (hm : 1 ≤ m ∧ m ≤ 9) :
    D2_Pad_want [.ptr n, .str x, .int p, .int m] M = .ok (.int (nxt ws 0 hd : Nat)) (M.set l (.lst ((ws ++ [(⟨0, hd, nxt ws 0 hd, x, p, m⟩ : Wd)]).map Wd.d))) := by
  have h1 := next_ok P ok (by omega) (k := 0) (by decide) h60
  have h2 := put_ok P hl ⟨0, hd, nxt ws 0 hd, x, p, m⟩
  generalize nxt ws 0 hd = N at *
  have e1 : Wd.d ⟨0, hd, N, x, p, m⟩ = .tup [.str "want", .int hd, .int N, .str x, .int p, .int m] := rfl
  rw [e1] at h2
  have e2 : kS 0 = "want" := rfl
  rw [e2] at h1
  have hf := fun ns => okL_flat (vs := ns) (M := M) (d := .tup [.str "want", .int hd, .int N, .str x, .int p, .int m]) (by simp [D.flat, D.flatL])
  simp [D2_Pad_want, B2_Pad_want, vwF, P.deep, P.cell, List.lookup, is_thing_ok hx hp, is_many_ok hm, h1, h2, hf]
theorem words_at_ok {M : Mem} {n l hd : Nat} {ws : List Wd} (P : PadAt M n l hd ws) (ok : ∀ w ∈ ws, w.Ok) (hc : Cons ws) : D2_Pad_words [.ptr n] M = .ok (.lst ((srt ws).map Wd.d)) M := by
  have h1 := sort_d ok hc
  have h2 := okLs_flat (vs := vids [0] M [some (.ptr n)]) (M := M) (wds_flat (srt ws))
  simp [-vSorted, D2_Pad_words, B2_Pad_words, vwF, P.deep, List.lookup, h1, h2]
theorem got_ok {M : Mem} {n l hd : Nat} {ws : List Wd} (P : PadAt M n l hd ws) (ok : ∀ w ∈ ws, w.Ok) (hc : Cons ws) (hl : ws.length < 40) (h60 : nxt ws 1 hd ≤ 60) {x : Str} {p m : Nat} (hx : NmOk x) (hp : p < 100) (hm : 1 ≤ m ∧ m ≤ 9) (hh : (m : Int) ≤ (cnt ws (srt (once [] ws))).at_ (x, p)) :
    D2_Pad_got [.ptr n, .str x, .int p, .int m] M = .ok (.int ((cnt ws (srt (once [] ws))).at_ (x, p) - m)) (M.set l (.lst ((ws ++ [(⟨1, hd, nxt ws 1 hd, x, p, m⟩ : Wd)]).map Wd.d))) := by
  have h1 := next_ok P ok (by omega) (k := 1) (by decide) h60
  have h2 := put_ok P hl ⟨1, hd, nxt ws 1 hd, x, p, m⟩
  generalize nxt ws 1 hd = N at *
  have e1 : Wd.d ⟨1, hd, N, x, p, m⟩ = .tup [.str "got", .int hd, .int N, .str x, .int p, .int m] := rfl
  rw [e1] at h2
  have e2 : kS 1 = "got" := rfl
  rw [e2] at h1
  have h3 := counts_of_ok ok hc (by omega)
  generalize cnt ws (srt (once [] ws)) = c at *
  have h4 := cn_get c (x, p)
  have h5 : PL.keyD (.tup [.str x, .int p]) = some (tKey (x, p)) := rfl
  generalize c.at_ (x, p) = A at *
  have e3 : ¬ A < (m : Int) := by omega
  have e6 : lineOk 6 = true := lineOk_s (by decide)
  simp [D2_Pad_got, B2_Pad_got, vwF, P.deep, P.cell, List.lookup, is_thing_ok hx hp, is_many_ok hm, h1, h2, h3, h4, h5, e3, e6]
theorem hear_ok {M : Mem} {n l hd : Nat} {ws vs : List Wd} (P : PadAt M n l hd ws) (ok : ∀ w ∈ ws ++ vs, w.Ok) (hc : Cons (ws ++ vs)) (h1 : ws.length ≤ 40) (h2 : vs.length ≤ 40) (hn : (once [] (ws ++ vs)).length ≤ 40) :
    D2_Pad_hear [.ptr n, .lst (vs.map Wd.d)] M = .ok (.int (((once [] (ws ++ vs)).length : Int) - ws.length)) ((M ++ [Cell.lst ((srt (once [] (ws ++ vs))).map Wd.d)]).set n (Cell.ob 4 [.int hd, .ptr M.length])) ∧ PadAt ((M ++ [Cell.lst ((srt (once [] (ws ++ vs))).map Wd.d)]).set n (Cell.ob 4 [.int hd, .ptr M.length])) n M.length hd (srt (once [] (ws ++ vs))) := by
  have ha := asked_words_ok (ws := vs) (fun w hw => ok w (List.mem_append_right _ hw)) h2
  have hj := joined_of_ok ok hc (by omega) hn
  have hsl := (srt_perm (once [] (ws ++ vs))).length_eq
  generalize srt (once [] (ws ++ vs)) = us at *
  rw [← hsl]
  have hf := fun ns => okLs_flat (vs := ns) (M := M) (wds_flat us)
  have hnl := P.n_lt
  have P2 : PadAt ((M ++ [Cell.lst (us.map Wd.d)]).set n (Cell.ob 4 [.int hd, .ptr M.length])) n M.length hd us := ⟨by rw [List.getElem?_set_self (by simp; omega)], by rw [List.getElem?_set_ne (by omega)]; simp⟩
  refine ⟨?_, P2⟩
  have hcl : cellO (M ++ [Cell.lst (us.map Wd.d)]) (.ptr n) = some (n, 4, [.int hd, .ptr l]) := (P.more).cell
  have hd2 := P2.deep
  simp [D2_Pad_hear, B2_Pad_hear, vwF, P.deep, List.lookup, ha, hj, hf, hcl, hd2]
end T_k12
/-! M_k12: numbers and truths. -/
namespace T_k12
open PySem L2 PL
@[simp] theorem kit_il : kitB "int" "list" = some false := by decide +kernel
@[simp] theorem kit_it : kitB "int" "tuple" = some false := by decide +kernel
@[simp] theorem kit_sl : kitB "str" "list" = some false := by decide +kernel
@[simp] theorem kit_st : kitB "str" "tuple" = some false := by decide +kernel
@[simp] theorem kit_nl : kitB "NoneType" "list" = some false := by decide +kernel
@[simp] theorem kit_nt : kitB "NoneType" "tuple" = some false := by decide +kernel
/-- whole numbers, texts, none, and lists and tuples of such -/
def Pl : Nat → D → Prop
  | _, .int _ => True
  | _, .str _ => True
  | _, .non => True
  | n + 1, .lst xs => xs.length ≤ 1000 ∧ ∀ x ∈ xs, Pl n x
  | n + 1, .tup xs => xs.length ≤ 1000 ∧ ∀ x ∈ xs, Pl n x
  | _, _ => False
theorem bools_rep (n : Nat) : boolsD (List.replicate n (D.bl true)) = some (List.replicate n true) := by
  have := boolsD_of (fun _ => true) (List.range n)
  rwa [List.map_const', List.map_const', List.length_range] at this
theorem plain_ok : ∀ (n : Nat) (d : D), Pl n d → D__law_plain (n + 1) [d] = .ok (.bl true) := by
  have seq : ∀ (n : Nat) (d : Sl) (xs : List D), (∀ x ∈ xs, D__law_plain n [x] = .ok (.bl true)) → lcG (gNm 1) bYes (dCall 1 (D__law_plain n) (aCons (dVar 1) aNil)) [d, .no] xs = .ok ((List.replicate xs.length true).map D.bl) := by
    intro n d xs h
    have := lcG_map (g := gNm 1) (e := dCall 1 (D__law_plain n) (aCons (dVar 1) aNil)) (ρ := [d, .no]) id (fun _ => D.bl true) xs fun x hx => ⟨_, rfl, by simp [h x hx]⟩
    rw [List.map_id] at this
    rw [this, List.map_replicate]
    congr 1
    exact List.map_const' ..
  intro n
  induction n with
  | zero =>
    intro d h
    cases d <;> simp [Pl, D__law_plain, B__law_plain] at h ⊢
  | succ n ih =>
    intro d h
    cases d with
    | lst xs =>
      obtain ⟨h1, h2⟩ := h
      have e1 := lineOk_s (n := xs.length) (by omega)
      have e2 := seq (n + 1) (.sh (.lst xs)) xs fun x hx => ih x (h2 x hx)
      rw [D__law_plain]
      simp [B__law_plain, e1, e2, bools_rep]
    | tup xs =>
      obtain ⟨h1, h2⟩ := h
      have e1 := lineOk_s (n := xs.length) (by omega)
      have e2 := seq (n + 1) (.sh (.tup xs)) xs fun x hx => ih x (h2 x hx)
      rw [D__law_plain]
      simp [B__law_plain, e1, e2, bools_rep]
    | int i => simp [D__law_plain, B__law_plain]
    | str i => simp [D__law_plain, B__law_plain]
    | non => simp [D__law_plain, B__law_plain]
    | _ => exact h.elim
theorem truths_ok (bs : List Bool) (hl : bs.length ≤ 1000) : D__law_truths [.lst (bs.map D.bl)] = .ok (.bl true) := by
  have e1 := lineOk_s (n := bs.length) (by omega)
  have := lcG_map (g := gNm 1) (e := d1 (vIsi "bool") (dVar 1)) (ρ := [.sh (.lst (bs.map D.bl)), .no]) D.bl (fun _ => D.bl true) bs fun x hx => ⟨_, rfl, by simp⟩
  have e3 : bs.map (fun _ => D.bl true) = (List.replicate bs.length true).map D.bl := by rw [List.map_replicate]; exact List.map_const' ..
  rw [e3] at this
  simp [D__law_truths, B__law_truths, e1, this, bools_rep]
theorem turn_ok {s : Shop} (hs : VS s) (hn : s.length ≤ 60) {t : Nat} (ht : t ≤ s.length) {w : List Nat} (hw : Wk s t w) {qs : List Nat} (hq : VP s.length qs) (xs : List D) (bs : List Bool) (hx : xs.length ≤ 100) (hb : bs.length ≤ 100) (ps : D) (a7 a8 : Sl) :
    ∃ (ys : List D) (cs : List Bool) (b7 : Sl), ys.length ≤ 1 ∧ (∀ y ∈ ys, ∃ i, y = .int i) ∧ cs.length = 4 ∧
      L__law_shop_right_0 [.sh (eS s), .sh (eI t), .sh ps, .sh (eN w), .sh (eN qs), .ow xs, .sh (.lst (bs.map D.bl)), a7, a8] = .ok (.nx [.sh (eS s), .sh (eI t), .sh ps, .sh (eN w), .sh (eN qs), .ow (xs ++ ys), .sh (.lst ((bs ++ cs).map D.bl)), b7, a8]) := by
  have hql := hq.len
  have hj := judged_ok hs ht hq hw
  rw [ansD_A] at hj
  have s1 : dSet 7 (sSh (oD (oCall 4 D_judged (aCons (dVar 0) (aCons (dVar 1) (aCons (dVar 4) (aCons (dVar 3) aNil))))))) [.sh (eS s), .sh (eI t), .sh ps, .sh (eN w), .sh (eN qs), .ow xs, .sh (.lst (bs.map D.bl)), a7, a8] =
      .ok (.nx [.sh (eS s), .sh (eI t), .sh ps, .sh (eN w), .sh (eN qs), .ow xs, .sh (.lst (bs.map D.bl)), .sh (aD (ansA s t qs w)), a8]) := by
    cases h : ansA s t qs w <;> rw [h] at hj <;> simp only [eI, aD] at hj <;> simp [hj]
  generalize ansA s t qs w = a at s1
  obtain ⟨ys, hy, hyi, s2⟩ : ∃ ys : List D, ys.length ≤ 1 ∧ (∀ y ∈ ys, ∃ i, y = .int i) ∧ dIfS (bNot (bD (dIsC [(0, false), (1, true), (2, false), (3, false)] (dVar 7))))
      (dApp 5 (dFld [(2, 0), (3, 0)] (dVar 7))) dPass [.sh (eS s), .sh (eI t), .sh ps, .sh (eN w), .sh (eN qs), .ow xs, .sh (.lst (bs.map D.bl)), .sh (aD a), a8] = .ok (.nx [.sh (eS s), .sh (eI t), .sh ps, .sh (eN w), .sh (eN qs), .ow (xs ++ ys), .sh (.lst (bs.map D.bl)), .sh (aD a), a8]) := by
    have e1 := ltLine_s (n := xs.length) (by omega)
    cases a with
    | sh => exact ⟨[], by simp, by simp, by simp [List.lookup]⟩
    | mi j => exact ⟨[.int j], by simp, by simp, by simp [List.lookup, e1]⟩
    | lo j => exact ⟨[.int j], by simp, by simp, by simp [List.lookup, e1]⟩
  have hc : lcG (gNm 8) bYes (dMeth 4 [(1, D_Shortest_shows), (2, D_Missed_shows), (3, D_Longer_shows)] (dVar 8) (aCons (dVar 0) (aCons (dVar 1) (aCons (dVar 4) (aCons (dVar 3) aNil))))) [.sh (eS s), .sh (eI t), .sh ps, .sh (eN w), .sh (eN qs), .ow (xs ++ ys), .sh (.lst (bs.map D.bl)), .sh (aD a), .no] ([a, .mi 0, .lo 1, .sh].map aD) = .ok ([a, .mi 0, .lo 1, .sh].map fun z => D.bl (tellB s t qs w z)) :=
    lcG_map aD (fun z => D.bl (tellB s t qs w z)) _ fun z _ => ⟨[.sh (eS s), .sh (eI t), .sh ps, .sh (eN w), .sh (eN qs), .ow (xs ++ ys), .sh (.lst (bs.map D.bl)), .sh (aD a), .sh (aD z)], rfl, meth_at hs ht hq.le (by omega) hw.adj hw.len z (by simp) (by simp)⟩
  have e4 : lineOk 4 = true := lineOk_s (by decide)
  have e5 : lineOk (bs.length + 4) = true := lineOk_s (by omega)
  refine ⟨ys, [a, .mi 0, .lo 1, .sh].map (tellB s t qs w), .sh (aD a), hy, hyi, rfl, ?_⟩
  unfold L__law_shop_right_0
  refine (seq_nx s1).trans ?_
  refine (seq_nx s2).trans ?_
  simp only [List.map_cons, List.map_nil, aD] at hc ⊢
  simp only [dSet, sSh, d2, lD, lLC, l1, lLst, aCons, aNil, dVar, oD, oMake, dC, R.bind_ok, List.getElem?_cons_succ, List.getElem?_cons_zero, List.length_cons, List.length_nil, if_true, vIt, e4, R.when_true, wipeE, List.set_cons_succ, List.set_cons_zero]
  rw [hc]
  simp [-tellB, e5]
theorem shop_right_ok {s : Shop} (hs : VS s) (hn : s.length ≤ 60) {t : Nat} (ht : t ≤ s.length) {ps : List Nat} (hp : VP s.length ps) : D__law_shop_right [eS s, eI t, eN ps] = .ok (.bl true) := by
  have hpl := hp.len
  obtain ⟨w, hwd, hway, hwl⟩ := way_ok hs ht hp
  have hw := hway.wk (by omega)
  have h8 : VP s.length (ps.take 8) := hp.sub (List.take_sublist 8 ps)
  obtain ⟨f, v, hb, hvl, _⟩ := best_some s t (ps.take 8)
  have h88 : (ps.take 8).length ≤ 8 := by simp; omega
  have m4 := split_ok hs ht h8 h88 hb
  have m1 := must_ok hs ht hp
  have m2 := least_ok hs ht hp
  simp only [eI] at m1 m2 m4 hwd
  have l4 : lineOk 4 = true := lineOk_s (by decide)
  have c8 := cut_to (ps.map eI) 8
  rw [show ((8 : Nat) : Int) = 8 from rfl, ← List.map_take] at c8
  have s1 : dSet 3 (sSh (lD (lCall 3 D_way (aCons (dVar 0) (aCons (dVar 1) (aCons (dVar 2) aNil)))))) [.sh (eS s), .sh (eI t), .sh (eN ps), .no, .no, .no, .no, .no, .no] = .ok (.nx [.sh (eS s), .sh (eI t), .sh (eN ps), .sh (eN w), .no, .no, .no, .no, .no]) := by simp [hwd]
  have s2 : dPar 5 6 (sOw (lLst (aCons (lD (lCall 3 D_must (aCons (dVar 0) (aCons (dVar 1) (aCons (dVar 2) aNil))))) (aCons (dCall 3 D_least (aCons (dVar 0) (aCons (dVar 1) (aCons (dVar 2) aNil)))) (aCons (dVar 3) (aCons (lD (lCall 3 D_split (aCons (dVar 0) (aCons (dVar 1) (aCons (dSl (dVar 2) oNo (oSo (dC (.int 8)))) aNil))))) aNil)))))) (sSh (lD (lLst aNil))) [.sh (eS s), .sh (eI t), .sh (eN ps), .sh (eN w), .no, .no, .no, .no, .no] =
      .ok (.nx [.sh (eS s), .sh (eI t), .sh (eN ps), .sh (eN w), .no, .ow [.lst ((mustM s t ps).map D.int), .int (leastM s t ps), eN w, .lst (v.map D.int)], .sh (.lst []), .no, .no]) := by
    simp [-List.map_take, m1, m2, m4, c8, l4]
  have hr : VP s.length (List.range (s.length + 1)) := VP.range s.length
  obtain ⟨ys, cs, b7, hy, hyi, hcs, r1⟩ := turn_ok hs hn ht hw hp [.lst ((mustM s t ps).map D.int), .int (leastM s t ps), eN w, .lst (v.map D.int)] [] (by simp) (by simp) (eN ps) .no .no
  obtain ⟨zs, es, c7, hz, hzi, hes, r2⟩ := turn_ok hs hn ht hw hr ([.lst ((mustM s t ps).map D.int), .int (leastM s t ps), eN w, .lst (v.map D.int)] ++ ys) ([] ++ cs) (by simp; omega) (by simp; omega) (eN ps) b7 .no
  have rg : rgOk 0 ((s.length : Int) + 1) = true := shut_of ⟨by omega, by omega, by omega, by omega⟩
  have t1 : ((s.length : Int) + 1).toNat = s.length + 1 := by omega
  have ln := lineOk_s (n := s.length) (by omega)
  have l2 : lineOk 2 = true := lineOk_s (by decide)
  have hi : (l1 vIt (lD (lLst (aCons (dVar 2) (aCons (lD (l1 vLRg1 (d2 vAdd (dB iLen (aCons (dVar 0) aNil)) (dC (.int 1))))) aNil))))) [.sh (eS s), .sh (eI t), .sh (eN ps), .sh (eN w), .no, .ow [.lst ((mustM s t ps).map D.int), .int (leastM s t ps), eN w, .lst (v.map D.int)], .sh (.lst []), .no, .no] = .ok [eN ps, eN (List.range (s.length + 1))] := by
    have : (List.range (s.length + 1)).map (fun k => D.int (k : Nat)) = (List.range (s.length + 1)).map eI := rfl
    simp [ln, rg, t1, l2, rangeD_map]
  have s3 : dFor (l1 vIt (lD (lLst (aCons (dVar 2) (aCons (lD (l1 vLRg1 (d2 vAdd (dB iLen (aCons (dVar 0) aNil)) (dC (.int 1))))) aNil))))) (gNm 4) L__law_shop_right_0 [.sh (eS s), .sh (eI t), .sh (eN ps), .sh (eN w), .no, .ow [.lst ((mustM s t ps).map D.int), .int (leastM s t ps), eN w, .lst (v.map D.int)], .sh (.lst []), .no, .no] =
      .ok (.nx [.sh (eS s), .sh (eI t), .sh (eN ps), .sh (eN w), .sh (eN (List.range (s.length + 1))), .ow ([.lst ((mustM s t ps).map D.int), .int (leastM s t ps), eN w, .lst (v.map D.int)] ++ ys ++ zs), .sh (.lst (([] ++ cs ++ es).map D.bl)), c7, .no]) := by
    rw [for_at hi]
    rw [fo_one (ρ1 := [.sh (eS s), .sh (eI t), .sh (eN ps), .sh (eN w), .sh (eN ps), .ow [.lst ((mustM s t ps).map D.int), .int (leastM s t ps), eN w, .lst (v.map D.int)], .sh (.lst (([] : List Bool).map D.bl)), .no, .no]) rfl r1]
    rw [fo_one (ρ1 := [.sh (eS s), .sh (eI t), .sh (eN ps), .sh (eN w), .sh (eN (List.range (s.length + 1))), .ow ([.lst ((mustM s t ps).map D.int), .int (leastM s t ps), eN w, .lst (v.map D.int)] ++ ys), .sh (.lst (([] ++ cs).map D.bl)), b7, .no]) rfl r2]
    rfl
  have hml := mustM_len s t ps
  have hpl2 : Pl 5 (.lst ([.lst ((mustM s t ps).map D.int), .int (leastM s t ps), eN w, .lst (v.map D.int)] ++ ys ++ zs)) := by
    have hi : ∀ xs : List D, xs.length ≤ 1000 → (∀ x ∈ xs, ∃ i, x = .int i) → Pl 4 (.lst xs) := fun xs h1 h2 => ⟨h1, fun x hx => by obtain ⟨i, rfl⟩ := h2 x hx; trivial⟩
    refine ⟨by simp; omega, fun x hx => ?_⟩
    simp only [List.mem_append, List.mem_cons, List.not_mem_nil, or_false] at hx
    rcases hx with ((rfl | rfl | rfl | rfl) | hx) | hx
    · exact hi _ (by simp [hml]; omega) fun x hx => by obtain ⟨i, _, rfl⟩ := List.mem_map.mp hx; exact ⟨_, rfl⟩
    · trivial
    · exact hi _ (by simp; omega) fun x hx => by obtain ⟨i, _, rfl⟩ := List.mem_map.mp hx; exact ⟨_, rfl⟩
    · exact hi _ (by simp; omega) fun x hx => by obtain ⟨i, _, rfl⟩ := List.mem_map.mp hx; exact ⟨_, rfl⟩
    · obtain ⟨i, rfl⟩ := hyi x hx; trivial
    · obtain ⟨i, rfl⟩ := hzi x hx; trivial
  have hpp := plain_ok 5 _ hpl2
  have htt := truths_ok ([] ++ cs ++ es) (by simp; omega)
  generalize [.lst ((mustM s t ps).map D.int), .int (leastM s t ps), eN w, .lst (v.map D.int)] ++ ys ++ zs = F at s3 hpp
  generalize ([] ++ cs ++ es).map D.bl = G at s3 htt
  unfold D__law_shop_right dFn B__law_shop_right
  show (dSeq _ _ [.sh (eS s), .sh (eI t), .sh (eN ps), .no, .no, .no, .no, .no, .no] >>= _) = _
  rw [seq_nx s1, seq_nx s2, seq_nx s3]
  simp [hpp, htt]
/-! ### words -/
theorem once_cl {ws : List Wd} : (once [] ws).length ≤ ws.length := by have := once_len ws []; simpa using this
theorem wd_pl (w : Wd) : Pl 2 w.d := by
  unfold Wd.d
  split
  · exact ⟨by simp, fun x hx => by simp only [List.mem_cons, List.not_mem_nil, or_false] at hx; rcases hx with rfl | rfl | rfl <;> trivial⟩
  · exact ⟨by simp, fun x hx => by simp only [List.mem_cons, List.not_mem_nil, or_false] at hx; rcases hx with rfl | rfl | rfl | rfl | rfl | rfl <;> trivial⟩
theorem wds_pl (ws : List Wd) (h : ws.length ≤ 1000) : Pl 4 (.lst (ws.map Wd.d)) := ⟨by simpa using h, fun x hx => by
  obtain ⟨w, _, rfl⟩ := List.mem_map.mp hx
  unfold Wd.d
  split
  · exact ⟨by simp, fun x hx => by simp only [List.mem_cons, List.not_mem_nil, or_false] at hx; rcases hx with rfl | rfl | rfl <;> trivial⟩
  · exact ⟨by simp, fun x hx => by simp only [List.mem_cons, List.not_mem_nil, or_false] at hx; rcases hx with rfl | rfl | rfl | rfl | rfl | rfl <;> trivial⟩⟩
theorem rows_pl (p : Int → Bool) (f : Int → Int) (c : Cn) (h : c.length ≤ 1000) : Pl 4 (.lst (rowsD p f c)) := ⟨by
  rw [rowsD_eq, List.length_map]; exact Nat.le_trans (rowsT_len p c) h, fun x hx => by
  rw [rowsD_eq] at hx
  obtain ⟨w, _, rfl⟩ := List.mem_map.mp hx
  exact ⟨by simp, fun x hx => by simp only [List.mem_cons, List.not_mem_nil, or_false] at hx; rcases hx with rfl | rfl | rfl <;> trivial⟩⟩
theorem plc_pl (ts : List Th) (h : ts.length ≤ 1000) : Pl 4 (.lst (plc ts)) := ⟨by
  unfold plc; rw [List.length_map]; exact Nat.le_trans (sset_len _) (by simpa using h), fun x hx => by
  unfold plc at hx
  obtain ⟨w, _, rfl⟩ := List.mem_map.mp hx
  trivial⟩
/-- what the doors tell of words that fit together: plain data, the rows tuples -/
structure Doors (ws : List Wd) : Prop where
  left : ∃ l, D_left [.lst (ws.map Wd.d)] = .ok (.lst l) ∧ Pl 4 (.lst l) ∧ (∀ x ∈ l, ∃ ys, x = .tup ys) ∧ l.length ≤ 40 ∧ D.flatL l = true
  over : ∃ l, D_over [.lst (ws.map Wd.d)] = .ok (.lst l) ∧ Pl 4 (.lst l) ∧ (∀ x ∈ l, ∃ ys, x = .tup ys) ∧ l.length ≤ 40 ∧ D.flatL l = true
  places : ∃ l, D_places_left [.lst (ws.map Wd.d)] = .ok (.lst l) ∧ Pl 4 (.lst l) ∧ D.flatL l = true
theorem flatL_of : ∀ {xs : List D}, (∀ x ∈ xs, x.flat = true) → D.flatL xs = true
  | [], _ => rfl
  | x :: xs, h => by rw [D.flatL, h x List.mem_cons_self, flatL_of fun y hy => h y (List.mem_cons_of_mem _ hy)]; rfl
theorem doors_ok {ws : List Wd} (ok : ∀ v ∈ ws, v.Ok) (hc : Cons ws) (hl : ws.length ≤ 40) : Doors ws := by
  have h1 := cn_len ws (once [] ws) []
  have h2 := once_cl (ws := ws)
  change (cnt ws (once [] ws)).length ≤ _ at h1
  simp at h1
  have tup : ∀ p f (c : Cn), ∀ x ∈ rowsD p f c, ∃ ys, x = D.tup ys := fun p f c x hx => by
    rw [rowsD_eq] at hx
    obtain ⟨w, _, rfl⟩ := List.mem_map.mp hx
    exact ⟨_, rfl⟩
  have fl : ∀ p f (c : Cn), D.flatL (rowsD p f c) = true := fun p f c => flatL_of fun x hx => by
    rw [rowsD_eq] at hx
    obtain ⟨w, _, rfl⟩ := List.mem_map.mp hx
    simp [D.flat, D.flatL]
  have len : ∀ p f (c : Cn), (rowsD p f c).length ≤ c.length := fun p f c => by rw [rowsD_eq, List.length_map]; exact rowsT_len p c
  refine ⟨⟨_, left_ok ok hc hl, rows_pl _ _ _ (by omega), tup _ _ _, Nat.le_trans (len _ _ _) (by omega), fl _ _ _⟩, ⟨_, over_ok ok hc hl, rows_pl _ _ _ (by omega), tup _ _ _, Nat.le_trans (len _ _ _) (by omega), fl _ _ _⟩, ⟨_, places_left_ok ok hc hl, plc_pl _ (Nat.le_trans (rowsT_len _ _) (by omega)), ?_⟩⟩
  exact flatL_of fun x hx => by
    unfold plc at hx
    obtain ⟨w, _, rfl⟩ := List.mem_map.mp hx
    rfl
theorem joined_ok {one other : List Wd} (ok : ∀ v ∈ one ++ other, v.Ok) (hc : Cons (one ++ other)) (h1 : one.length ≤ 40) (h2 : other.length ≤ 40) (hn : (once [] (one ++ other)).length ≤ 40) :
    D_joined [.lst (one.map Wd.d), .lst (other.map Wd.d)] = .ok (.lst ((srt (once [] (one ++ other))).map Wd.d)) := by
  have e1 := asked_words_ok (fun w hw => ok w (List.mem_append_left _ hw)) h1
  have e2 := asked_words_ok (fun w hw => ok w (List.mem_append_right _ hw)) h2
  have e3 := joined_of_ok ok hc (by omega) hn
  simp [D_joined, B_joined, e1, e2, e3]
theorem srt_ok {ws : List Wd} (ok : ∀ v ∈ ws, v.Ok) : ∀ v ∈ srt ws, v.Ok := fun v hv => ok v ((srt_perm ws).mem_iff.mp hv)
theorem srt_cons {ws : List Wd} (hc : Cons ws) : Cons (srt ws) := hc.mono fun v hv => (srt_perm ws).mem_iff.mp hv
theorem srt_len (ws : List Wd) : (srt ws).length = ws.length := (srt_perm ws).length_eq
theorem cons_self (ws : List Wd) (hc : Cons ws) (vs : List Wd) (h : ∀ v ∈ vs, v ∈ ws) : Cons vs := hc.mono h
theorem hear_ex {M : Mem} {n l hd : Nat} {ws vs : List Wd} (P : PadAt M n l hd ws) (ok : ∀ w ∈ ws ++ vs, w.Ok) (hc : Cons (ws ++ vs)) (hl : ws.length + vs.length ≤ 40) :
    ∃ z l' us M', D2_Pad_hear [.ptr n, .lst (vs.map Wd.d)] M = .ok (.int z) M' ∧ PadAt M' n l' hd us ∧ (∀ w ∈ us, w ∈ ws ++ vs) ∧ us.length ≤ ws.length + vs.length ∧ ∀ m k g xs, PadAt M m k g xs → m ≠ n → PadAt M' m k g xs := by
  have h1 := once_cl (ws := ws ++ vs)
  rw [List.length_append] at h1
  obtain ⟨e, P'⟩ := hear_ok P ok hc (by omega) (by omega) (by omega)
  refine ⟨_, _, _, _, e, P', fun w hw => ?_, by rw [srt_len]; exact h1, fun m k g xs Q hm => (Q.more).set hm.symm fun z => ?_⟩
  · have := (srt_perm _).mem_iff.mp hw
    simpa using (once_mem (ws ++ vs) [] w).mp this
  · subst z
    have := P.ob
    rw [Q.ls] at this
    exact nomatch this
theorem lcx_tup {a b c d e : Option D} : ∀ (xs : List D) (M : Mem), (∀ x ∈ xs, ∃ ys, x = .tup ys) → lcX (hNm 5) xYes (xL [] (d1 (vIsi "tuple") (dVar 5))) [a, b, c, d, e, none] xs M = .ok (List.replicate xs.length (.bl true)) M
  | [], _, _ => rfl
  | x :: xs, M, h => by
    obtain ⟨ys, rfl⟩ := h x List.mem_cons_self
    have ih := lcx_tup (a := a) (b := b) (c := c) (d := d) (e := e) xs M fun y hy => h y (List.mem_cons_of_mem _ hy)
    have hv : (vwF [] M 0 [a, b, c, d, e, some (.tup ys)])[5]? = some (.sh (.tup ys)) := by rw [vwF_at]; simp
    unfold lcX
    simp [-List.map_cons, noexX, hv, List.replicate_succ] at ih ⊢
    rw [ih]
theorem nm_a : NmOk "a" := ⟨by decide +kernel, by decide +kernel, by decide +kernel⟩
theorem nm_b : NmOk "b" := ⟨by decide +kernel, by decide +kernel, by decide +kernel⟩
theorem wd_ok {k h n p m : Nat} {x : Str} (hk : k ≤ 2) (hh : h < 4) (hn : n ≤ 60) (hne : k ≠ 2) (hx : NmOk x) (hp : p < 100) (hm : 1 ≤ m ∧ m ≤ 9) : Wd.Ok ⟨k, h, n, x, p, m⟩ := ⟨hk, hh, hn, fun z => absurd z hne, fun _ => hx, fun _ => hp, fun _ => hm⟩
theorem words_right_ok {ws : List Wd} (ok : ∀ v ∈ ws, v.Ok) (hc : Cons ws) (hl : ws.length ≤ 12) (n : Nat) : xOut D2__law_words_right [.lst (ws.map Wd.d), .int n] = .ok (.bl true) := by
  obtain ⟨⟨rl, l1, lp2, l3, l4, l5⟩, ⟨ro, o1, o2, o3, o4, o5⟩, ⟨rp, p1, p2, p3⟩⟩ := doors_ok ok hc (by omega)
  have j1 := joined_ok (one := ws) (other := []) (by simpa using ok) (by simpa using hc) (by omega) (by simp) (Nat.le_trans once_cl (by simp; omega))
  obtain ⟨rj, j1, j2⟩ : ∃ rj, D_joined [.lst (ws.map Wd.d), .lst []] = .ok (.lst rj) ∧ Pl 4 (.lst rj) := ⟨_, j1, wds_pl _ (by rw [srt_len]; exact Nat.le_trans once_cl (by simp; omega))⟩
  obtain ⟨h, hh, eh⟩ : ∃ h : Nat, h < 4 ∧ (n : Int) % 4 = h := ⟨n % 4, Nat.mod_lt _ (by decide), by omega⟩
  obtain ⟨h2, hh2, eh2⟩ : ∃ h : Nat, h < 4 ∧ ((n : Int) + 1) % 4 = h := ⟨(n + 1) % 4, Nat.mod_lt _ (by decide), by omega⟩
  obtain ⟨q, hq, eq⟩ : ∃ q : Nat, q < 100 ∧ (n : Int) % 100 = q := ⟨n % 100, Nat.mod_lt _ (by decide), by omega⟩
  have f4 : lineOk 4 = true := lineOk_s (by decide)
  have s1 : ∃ M, yPar 2 4 (xFD [] (lLst (aCons (lD (lCall 1 D_left (aCons (dVar 0) aNil))) (aCons (lD (lCall 1 D_over (aCons (dVar 0) aNil))) (aCons (lD (lCall 1 D_places_left (aCons (dVar 0) aNil))) (aCons (lD (lCall 2 D_joined (aCons (dVar 0) (aCons (lD (lLst aNil)) aNil)))) aNil)))))) (xMake 5 1 D2_Pad___init__ (xCons (xL [] (d2 vMod (dVar 1) (dC (.int 4)))) xNil)) [some (.lst (ws.map Wd.d)), some (.int n), none, none, none, none] [] =
      .ok (.nx [some (.lst (ws.map Wd.d)), some (.int n), some (.lst [.lst rl, .lst ro, .lst rp, .lst rj]), none, some (.ptr 0), none]) M ∧ PadAt M 0 1 h [] := by
    have hi := init_ok (M := []) hh (fs := xCons (xL [] (d2 vMod (dVar 1) (dC (.int 4)))) xNil) (ρ := [some (.lst (ws.map Wd.d)), some (.int n), none, none, none, none]) (by simp [vwF, eh])
    refine ⟨_, ?_, init_at [] h⟩
    simp [-xMake, vwF, l1, o1, p1, j1, f4, hi]
  obtain ⟨M1, s1, P1⟩ := s1
  have na := nm_a
  have nb := nm_b
  -- wished, got, wished
  have ok1 : Wd.Ok ⟨0, h, 0, "a", 1, 3⟩ := wd_ok (by decide) hh (by decide) (by decide) na (by decide) (by decide)
  have ok2 : Wd.Ok ⟨1, h, 0, "a", 1, 2⟩ := wd_ok (by decide) hh (by decide) (by decide) na (by decide) (by decide)
  have ok3 : Wd.Ok ⟨0, h, 1, "b", q, 1⟩ := wd_ok (by decide) hh (by decide) (by decide) nb hq (by decide)
  have k1 : Cons [(⟨0, h, 0, "a", 1, 3⟩ : Wd)] := fun w hw v hv _ => by rw [List.mem_singleton.mp hw, List.mem_singleton.mp hv]
  have k3 : Cons [(⟨0, h, 0, "a", 1, 3⟩ : Wd), ⟨1, h, 0, "a", 1, 2⟩, ⟨0, h, 1, "b", q, 1⟩] := cons_pw (by
    have : ¬ ("want" : Str) = "got" := by decide +kernel
    simp [Wd.key, this, Ne.symm this])
  have hn1 : nxt [] 0 h = 0 := rfl
  have hn2 : nxt [(⟨0, h, 0, "a", 1, 3⟩ : Wd)] 1 h = 0 := by simp [nxt]
  have hn3 : nxt [(⟨0, h, 0, "a", 1, 3⟩ : Wd), ⟨1, h, 0, "a", 1, 2⟩] 0 h = 1 := by simp [nxt]
  have hat : (cnt [(⟨0, h, 0, "a", 1, 3⟩ : Wd)] (srt (once [] [(⟨0, h, 0, "a", 1, 3⟩ : Wd)]))).at_ ("a", 1) = 3 := by
    rw [cnt_at_perm _ (srt_perm _)]
    have e : once [] [(⟨0, h, 0, "a", 1, 3⟩ : Wd)] = [⟨0, h, 0, "a", 1, 3⟩] := by simp [once]
    rw [e]
    unfold cnt
    rw [cnt_at]
    simp [dl, Cn.at_, Wd.st_]
  generalize hW1 : (⟨0, h, 0, "a", 1, 3⟩ : Wd) = W1 at *
  generalize hW2 : (⟨1, h, 0, "a", 1, 2⟩ : Wd) = W2 at *
  generalize hW3 : (⟨0, h, 1, "b", q, 1⟩ : Wd) = W3 at *
  obtain ⟨M2, w1, P2⟩ : ∃ M2, D2_Pad_want [.ptr 0, .str "a", .int 1, .int 3] M1 = .ok (.int 0) M2 ∧ PadAt M2 0 1 h [W1] := by
    have w1 := want_ok P1 (by simp) (by decide) (by rw [hn1]; decide) (x := "a") (p := 1) (m := 3) na (by decide) (by decide)
    rw [hn1, hW1] at w1
    exact ⟨_, w1, P1.put [W1]⟩
  obtain ⟨M3, w2, P3⟩ : ∃ M3, D2_Pad_got [.ptr 0, .str "a", .int 1, .int 2] M2 = .ok (.int 1) M3 ∧ PadAt M3 0 1 h [W1, W2] := by
    have w2 := got_ok P2 (by simpa using ok1) k1 (by simp) (by rw [hn2]; decide) (x := "a") (p := 1) (m := 2) na (by decide) (by decide) (by rw [hat]; decide)
    rw [hn2, hat, hW2] at w2
    exact ⟨_, w2, P2.put [W1, W2]⟩
  obtain ⟨M4, w3, P4⟩ : ∃ M4, D2_Pad_want [.ptr 0, .str "b", .int q, .int 1] M3 = .ok (.int 1) M4 ∧ PadAt M4 0 1 h [W1, W2, W3] := by
    have w3 := want_ok P3 (by simp [ok1, ok2]) (by simp) (by rw [hn3]; decide) (x := "b") (p := q) (m := 1) nb hq (by decide)
    rw [hn3, hW3] at w3
    exact ⟨_, w3, P3.put [W1, W2, W3]⟩
  have ok4 : ∀ w ∈ [W1, W2, W3], w.Ok := by simp [ok1, ok2, ok3]
  have l4 : [W1, W2, W3].length ≤ 3 := Nat.le_refl _
  generalize [W1, W2, W3] = ws4 at *
  have w4 := words_at_ok P4 ok4 k3
  have f8 : lineOk 8 = true := lineOk_s (by decide)
  have s2 : ySet 2 (xCat (xL [] (dVar 2)) (xLst (xCons (xMeth 4 3 D2_Pad_want (xVar 4) (xCons (xL [] (dC (.str "a"))) (xCons (xL [] (dC (.int 1))) (xCons (xL [] (dC (.int 3))) xNil)))) (xCons (xMeth 4 3 D2_Pad_got (xVar 4) (xCons (xL [] (dC (.str "a"))) (xCons (xL [] (dC (.int 1))) (xCons (xL [] (dC (.int 2))) xNil)))) (xCons (xMeth 4 3 D2_Pad_want (xVar 4) (xCons (xL [] (dC (.str "b"))) (xCons (xL [] (d2 vMod (dVar 1) (dC (.int 100)))) (xCons (xL [] (dC (.int 1))) xNil)))) (xCons (xMeth0 4 D2_Pad_words (xVar 4)) xNil)))))) [some (.lst (ws.map Wd.d)), some (.int n), some (.lst [.lst rl, .lst ro, .lst rp, .lst rj]), none, some (.ptr 0), none] M1 =
      .ok (.nx [some (.lst (ws.map Wd.d)), some (.int n), some (.lst [.lst rl, .lst ro, .lst rp, .lst rj, .int 0, .int 1, .int 1, .lst ((srt ws4).map Wd.d)]), none, some (.ptr 0), none]) M4 := by
    simp [vwF, P1.cell, P2.cell, P3.cell, P4.cell, w1, w2, w3, w4, eq, f4, f8]
  obtain ⟨z5, k5, ws5, M5, w5, P5, m5, l5, _⟩ := hear_ex P4 (vs := []) (by simpa using ok4) (by simpa using k3) (by simp; omega)
  have f9 : lineOk 9 = true := lineOk_s (by decide)
  simp only [List.append_nil, List.length_nil, Nat.add_zero] at m5 l5
  have ok5 : ∀ w ∈ ws5, w.Ok := fun w hw => ok4 w (m5 w hw)
  have c5 : Cons ws5 := k3.mono m5
  have s3 : ySet 2 (xCat (xL [] (dVar 2)) (xLst (xCons (xMeth 4 1 D2_Pad_hear (xVar 4) (xCons (xFD [] (lLst aNil)) xNil)) xNil))) [some (.lst (ws.map Wd.d)), some (.int n), some (.lst [.lst rl, .lst ro, .lst rp, .lst rj, .int 0, .int 1, .int 1, .lst ((srt ws4).map Wd.d)]), none, some (.ptr 0), none] M4 =
      .ok (.nx [some (.lst (ws.map Wd.d)), some (.int n), some (.lst [.lst rl, .lst ro, .lst rp, .lst rj, .int 0, .int 1, .int 1, .lst ((srt ws4).map Wd.d), .int z5]), none, some (.ptr 0), none]) M5 := by
    simp only [List.map_nil] at w5
    simp [vwF, P4.cell, w5, f9]
  -- another pad
  obtain ⟨M6, n6, l6, s4, P6, Q6, hne⟩ : ∃ M6 n6 l6, ySet 3 (xMake 5 1 D2_Pad___init__ (xCons (xL [] (d2 vMod (d2 vAdd (dVar 1) (dC (.int 1))) (dC (.int 4)))) xNil)) [some (.lst (ws.map Wd.d)), some (.int n), some (.lst [.lst rl, .lst ro, .lst rp, .lst rj, .int 0, .int 1, .int 1, .lst ((srt ws4).map Wd.d), .int z5]), none, some (.ptr 0), none] M5 =
      .ok (.nx [some (.lst (ws.map Wd.d)), some (.int n), some (.lst [.lst rl, .lst ro, .lst rp, .lst rj, .int 0, .int 1, .int 1, .lst ((srt ws4).map Wd.d), .int z5]), some (.ptr n6), some (.ptr 0), none]) M6 ∧ PadAt M6 0 k5 h ws5 ∧ PadAt M6 n6 l6 h2 [] ∧ (0 : Nat) ≠ n6 := by
    have hi := init_ok (M := M5) hh2 (fs := xCons (xL [] (d2 vMod (d2 vAdd (dVar 1) (dC (.int 1))) (dC (.int 4)))) xNil) (ρ := [some (.lst (ws.map Wd.d)), some (.int n), some (.lst [.lst rl, .lst ro, .lst rp, .lst rj, .int 0, .int 1, .int 1, .lst ((srt ws4).map Wd.d), .int z5]), none, some (.ptr 0), none]) (by simp [vwF, eh2])
    exact ⟨_, _, _, by simp [-xMake, hi], P5.more.more, init_at M5 h2, by have := P5.n_lt; omega⟩
  have w6 := words_at_ok P6 ok5 c5
  have ww : ∀ M, PadAt M 0 k5 h ws5 → D2_Pad_words [.ptr 0] M = .ok (.lst ((srt ws5).map Wd.d)) M := fun M P => words_at_ok P ok5 c5
  have ok7 := srt_ok ok5
  have c7 := srt_cons c5
  have l7 := srt_len ws5
  generalize srt ws5 = ws7 at *
  obtain ⟨z8, k8, ws8, M8, w8, Q8, m8, l8, o8⟩ := hear_ex Q6 (vs := ws7) (by simpa using ok7) (by simpa using c7) (by simp; omega)
  simp only [List.nil_append, List.length_nil, Nat.zero_add] at m8 l8
  have P8 := o8 _ _ _ _ P6 hne
  obtain ⟨z9, k9, ws9, M9, w9, Q9, m9, l9', o9⟩ := hear_ex Q8 (vs := ws7 ++ ws7 ++ ws7) (by
    intro w hw
    simp only [List.mem_append, or_self] at hw
    rcases hw with hw | hw
    · exact ok7 w (m8 w hw)
    · exact ok7 w hw) (c7.mono (by
    intro w hw
    simp only [List.mem_append, or_self] at hw
    rcases hw with hw | hw
    · exact m8 w hw
    · exact hw)) (by simp; omega)
  have P9 := o9 _ _ _ _ P8 hne
  obtain ⟨⟨ql, y1, y2, y3, y4, y5⟩, ⟨qo, v1, v2, v3, v4, v5⟩, ⟨qp, x1, x2, x3⟩⟩ := doors_ok ok7 c7 (by omega)
  have p6 := ww M6 P6
  have p8 := ww M8 P8
  have p9 := ww M9 P9
  have f3 : repOk (ws7.map Wd.d).length 3 = true := repOk_s (by decide) (by decide) (by rw [List.length_map]; omega)
  have f3' : lineOk 3 = true := lineOk_s (by decide)
  have f12 : lineOk 12 = true := lineOk_s (by decide)
  have f13 : lineOk 13 = true := lineOk_s (by decide)
  have c6 := P6.cell
  have c6' := Q6.cell
  have c8 := P8.cell
  have c8' := Q8.cell
  have c9 := P9.cell
  simp only [List.map_append, List.append_assoc] at w9
  have tup7 : ∀ x ∈ ws7.map Wd.d, ∃ ys, x = D.tup ys := fun x hx => by
    obtain ⟨w, _, rfl⟩ := List.mem_map.mp hx
    unfold Wd.d
    split <;> exact ⟨_, rfl⟩
  have len7 : (ws7.map Wd.d).length ≤ 3 := by rw [List.length_map]; omega
  generalize ws7.map Wd.d = v7 at *
  have s5 : ySet 2 (xCat (xL [] (dVar 2)) (xLst (xCons (xMeth 4 1 D2_Pad_hear (xVar 3) (xCons (xMeth0 4 D2_Pad_words (xVar 4)) xNil)) (xCons (xMeth 4 1 D2_Pad_hear (xVar 3) (xCons (xRep (xMeth0 4 D2_Pad_words (xVar 4)) (xL [] (dC (.int 3)))) xNil)) (xCons (xFdL 1 [] D_left (xCons (xMeth0 4 D2_Pad_words (xVar 4)) xNil)) xNil))))) [some (.lst (ws.map Wd.d)), some (.int n), some (.lst [.lst rl, .lst ro, .lst rp, .lst rj, .int 0, .int 1, .int 1, .lst ((srt ws4).map Wd.d), .int z5]), some (.ptr n6), some (.ptr 0), none] M6 =
      .ok (.nx [some (.lst (ws.map Wd.d)), some (.int n), some (.lst [.lst rl, .lst ro, .lst rp, .lst rj, .int 0, .int 1, .int 1, .lst ((srt ws4).map Wd.d), .int z5, .int z8, .int z9, .lst ql]), some (.ptr n6), some (.ptr 0), none]) M9 := by
    simp [-List.length_map, vwF, c6, c6', c8, c8', c9, p6, p8, p9, w8, w9, f3, f3', f12, y1, dvm, mids]
  have s6 : ySet 2 (xCat (xL [] (dVar 2)) (xLst (xCons (xFdL 1 [] D_places_left (xCons (xMeth0 4 D2_Pad_words (xVar 4)) xNil)) xNil))) [some (.lst (ws.map Wd.d)), some (.int n), some (.lst [.lst rl, .lst ro, .lst rp, .lst rj, .int 0, .int 1, .int 1, .lst ((srt ws4).map Wd.d), .int z5, .int z8, .int z9, .lst ql]), some (.ptr n6), some (.ptr 0), none] M9 =
      .ok (.nx [some (.lst (ws.map Wd.d)), some (.int n), some (.lst [.lst rl, .lst ro, .lst rp, .lst rj, .int 0, .int 1, .int 1, .lst ((srt ws4).map Wd.d), .int z5, .int z8, .int z9, .lst ql, .lst qp]), some (.ptr n6), some (.ptr 0), none]) M9 := by
    simp [vwF, c9, p9, f13, x1, dvm, mids]
  have hpl : Pl 5 (.lst [.lst rl, .lst ro, .lst rp, .lst rj, .int 0, .int 1, .int 1, .lst ((srt ws4).map Wd.d), .int z5, .int z8, .int z9, .lst ql, .lst qp]) := by
    refine ⟨by simp, fun x hx => ?_⟩
    simp only [List.mem_cons, List.not_mem_nil, or_false] at hx
    rcases hx with rfl | rfl | rfl | rfl | rfl | rfl | rfl | rfl | rfl | rfl | rfl | rfl | rfl
    · exact lp2
    · exact o2
    · exact p2
    · exact j2
    · trivial
    · trivial
    · trivial
    · exact wds_pl _ (by rw [srt_len]; omega)
    · trivial
    · trivial
    · trivial
    · exact y2
    · exact x2
  have hpp := plain_ok 5 _ hpl
  have s7 : yIf (xLT [] (bNot (bD (dCall 1 (D__law_plain 6) (aCons (dVar 2) aNil))))) (yRet (xL [] (dC (.bl false)))) yPass [some (.lst (ws.map Wd.d)), some (.int n), some (.lst [.lst rl, .lst ro, .lst rp, .lst rj, .int 0, .int 1, .int 1, .lst ((srt ws4).map Wd.d), .int z5, .int z8, .int z9, .lst ql, .lst qp]), some (.ptr n6), some (.ptr 0), none] M9 =
      .ok (.nx [some (.lst (ws.map Wd.d)), some (.int n), some (.lst [.lst rl, .lst ro, .lst rp, .lst rj, .int 0, .int 1, .int 1, .lst ((srt ws4).map Wd.d), .int z5, .int z8, .int z9, .lst ql, .lst qp]), some (.ptr n6), some (.ptr 0), none]) M9 := by
    simp [vwF, hpp]
  generalize [D.lst rl, .lst ro, .lst rp, .lst rj, .int 0, .int 1, .int 1, .lst ((srt ws4).map Wd.d), .int z5, .int z8, .int z9, .lst ql, .lst qp] = F at *
  have hlx := lcx_tup (a := some (.lst (ws.map Wd.d))) (b := some (.int n)) (c := some (.lst F)) (d := some (.ptr n6)) (e := some (.ptr 0)) (rl ++ ro ++ v7) M9 (by
    intro x hx
    rcases List.mem_append.mp hx with hx | hx
    · rcases List.mem_append.mp hx with hx | hx
      · exact l3 x hx
      · exact o3 x hx
    · exact tup7 x hx)
  have g1 : lineOk (rl.length + ro.length) = true := lineOk_s (by omega)
  have g2 : lineOk ((rl ++ ro).length + v7.length) = true := lineOk_s (by simp; omega)
  have g3 : lineOk (rl ++ ro ++ v7).length = true := lineOk_s (by simp; omega)
  have hbr := bools_rep (rl ++ ro ++ v7).length
  have hcat : xIt (xCat (xFD [] (l2 vCat (lD (lCall 1 D_left (aCons (dVar 0) aNil))) (lD (lCall 1 D_over (aCons (dVar 0) aNil))))) (xMeth0 4 D2_Pad_words (xVar 4))) [some (.lst (ws.map Wd.d)), some (.int n), some (.lst F), some (.ptr n6), some (.ptr 0), none] M9 = .ok (rl ++ ro ++ v7) M9 := by
    simp [-List.append_assoc, -List.length_append, vwF, l1, o1, c9, p9, g1, g2]
  have s8 : yRet (xBi iAll (xCons (xLC (xIt (xCat (xFD [] (l2 vCat (lD (lCall 1 D_left (aCons (dVar 0) aNil))) (lD (lCall 1 D_over (aCons (dVar 0) aNil))))) (xMeth0 4 D2_Pad_words (xVar 4)))) [5] (hNm 5) xYes (xL [] (d1 (vIsi "tuple") (dVar 5)))) xNil)) [some (.lst (ws.map Wd.d)), some (.int n), some (.lst F), some (.ptr n6), some (.ptr 0), none] M9 = .ok (.rt (.bl true)) M9 := by
    generalize rl ++ ro ++ v7 = R at *
    simp only [yRet, xBi, xCons, xLC, hcat, RX.bind, g3, RX.when, if_true, wipe2, List.set_cons_succ, List.set_cons_zero, hlx, xNil]
    simp [hbr]
  unfold xOut D2__law_words_right xFn B2__law_words_right
  show (match outX (ySeq _ _ [some (.lst (ws.map Wd.d)), some (.int n), none, none, none, none] []) with | .ok d _ => R.when d.plain (.ok d) | .ex c _ => .ex c | .st => .st) = _
  rw [yq_nx s1, yq_nx s2, yq_nx s3, yq_nx s4, yq_nx s5, yq_nx s6, yq_nx s7, s8]
  rfl
theorem round_ok {ns : List Int} (hl : ns.length ≤ 63) (hb : ∀ z ∈ ns, Builtin.Int.intBits z ≤ 1048576) {B W : Nat} (hB : B ≤ 100) (s3 s4 s5 : Sl) :
    ∃ t3 t4 t5 : Sl, L_law_0 [.sh (.scr ns), .sh (.int W), .sh (.int B), s3, s4, s5] = .ok (.nx [.sh (.scr ns), .sh (.int W), .sh (.int B), t3, t4, t5]) := by
  obtain ⟨s, h1, h2, h3⟩ := shop_ok hl hb (by' := B) (most := 6) hB (by decide)
  obtain ⟨t, ps, h4, h5, h6⟩ := some_ok hl hb hB s (by omega)
  obtain ⟨ws, h7, h8⟩ := words_ok hl hb (B := B) (M := 12) hB (by decide)
  have r1 := shop_right_ok h2 (by omega) h5 h6
  have r2 := words_right_ok h8.ok (cons_of h8) h8.len (W / 3)
  have h1 : D__law_shop [.scr ns, .int B, .int 6] = .ok (eS s) := h1
  have h7 : D__law_words [.scr ns, .int B, .int 12] = .ok (.lst (ws.map Wd.d)) := h7
  simp only [eI] at h4 r1
  rw [Int.natCast_ediv] at r2
  have r2 : xOut D2__law_words_right [.lst (ws.map Wd.d), .int ((W : Int) / 3)] = .ok (.bl true) := r2
  refine ⟨.sh (eS s), .sh (eI t), .sh (eN ps), ?_⟩
  have v3 := divOk_s (j := 3) (by decide) (by decide)
  simp [-xOut, h1, h4, h7, r1, r2, v3]
theorem law_true (ns : List Int) (hl : ns.length ≤ 63) (hb : ∀ z ∈ ns, Builtin.Int.intBits z ≤ 1048576) : D_law [.scr ns] = .ok (.bl true) := by
  obtain ⟨W, eW⟩ : ∃ W : Nat, (if ns.sum < 0 then -ns.sum else ns.sum) = (W : Int) := ⟨(if ns.sum < 0 then -ns.sum else ns.sum).toNat, by have := abs_pos ns.sum; omega⟩
  have q1 : dSet 1 (sSh (dB iAbs (aCons (dB iSum (aCons (dSl (dVar 0) oNo (oSo (dC (.int 63)))) aNil)) aNil))) [.sh (.scr ns), .no, .no, .no, .no, .no] = .ok (.nx [.sh (.scr ns), .sh (.int W), .no, .no, .no, .no]) := by
    simp [cells_sl hl, eW]
  obtain ⟨a3, a4, a5, ha⟩ := round_ok hl hb (B := 0) (W := W) (by decide) .no .no .no
  obtain ⟨b3, b4, b5, hb'⟩ := round_ok hl hb (B := 1) (W := W) (by decide) a3 a4 a5
  obtain ⟨c3, c4, c5, hc⟩ := round_ok hl hb (B := 3) (W := W) (by decide) b3 b4 b5
  have f3 : lineOk 3 = true := lineOk_s (by decide)
  have q2 : dFor (l1 vIt (lD (lLst (aCons (dC (.int 0)) (aCons (dC (.int 1)) (aCons (dC (.int 3)) aNil)))))) (gNm 2) L_law_0 [.sh (.scr ns), .sh (.int W), .no, .no, .no, .no] = .ok (.nx [.sh (.scr ns), .sh (.int W), .sh (.int (3 : Nat)), c3, c4, c5]) := by
    have e : l1 vIt (lD (lLst (aCons (dC (.int 0)) (aCons (dC (.int 1)) (aCons (dC (.int 3)) aNil))))) [.sh (.scr ns), .sh (.int W), .no, .no, .no, .no] = .ok [.int 0, .int 1, .int 3] := by simp [f3]
    rw [for_at e]
    rw [fo_one (ρ1 := [.sh (.scr ns), .sh (.int W), .sh (.int (0 : Nat)), .no, .no, .no]) rfl ha,
      fo_one (ρ1 := [.sh (.scr ns), .sh (.int W), .sh (.int (1 : Nat)), a3, a4, a5]) rfl hb',
      fo_one (ρ1 := [.sh (.scr ns), .sh (.int W), .sh (.int (3 : Nat)), b3, b4, b5]) rfl hc]
    rfl
  have v1 : VS [(0, 1)] := .of (by decide) (by decide)
  have v0 : VS [] := .of (by decide) (by decide)
  have e1 : D__law_shop_right [.lst [.tup [.int 0, .int 1]], .int 1, .lst [.int 1]] = .ok (.bl true) := shop_right_ok (s := [(0, 1)]) (t := 1) (ps := [1]) v1 (by decide) (by decide) (.of (by decide) (by decide))
  have e0 : D__law_shop_right [.lst [], .int 0, .lst []] = .ok (.bl true) := shop_right_ok (s := []) (t := 0) (ps := []) v0 (by decide) (by decide) (.of (by decide) (by decide))
  unfold D_law dFn B_law
  show (dSeq _ _ [.sh (.scr ns), .no, .no, .no, .no, .no] >>= _) = _
  rw [seq_nx q1, seq_nx q2]
  simp [e1, e0]
end T_k12
/-! The walks (printed by gen.py). -/
namespace T_k12
open PySem L2 PL PyProof.Rows
def top (i : Nat) : Stmt := PySem.Challenge.pw_aislelist_k12_whole_numbers.main.body.getD i (.Pass ⟨0, 0, 0, 0⟩)
structure Bi (K : PySem.W.Frag) (T : Tb) (mg : Str → Option Value) : Prop where
  b_abs : mg "abs" = none
  b_all : mg "all" = none
  b_bool : mg "bool" = none
  c_HANDS : ∃ t, mg "HANDS" = some (.int 4 t)
  c_LETTERS : ∃ t, mg "LETTERS" = some (.str "abcdefghijklmnopqrstuvwxyz" t)
  c_MOST_LENGTH : ∃ t, mg "MOST_LENGTH" = some (.int 9 t)
  c_MOST_MANY : ∃ t, mg "MOST_MANY" = some (.int 9 t)
  c_MOST_NUMBER : ∃ t, mg "MOST_NUMBER" = some (.int 60 t)
  c_MOST_PLACES : ∃ t, mg "MOST_PLACES" = some (.int 100 t)
  c_MOST_SPLIT : ∃ t, mg "MOST_SPLIT" = some (.int 8 t)
  c_MOST_WALK : ∃ t, mg "MOST_WALK" = some (.int 400 t)
  c_MOST_WORDS : ∃ t, mg "MOST_WORDS" = some (.int 40 t)
  b_enumerate : mg "enumerate" = none
  f_hand : FdOk K T [(4, 0)] "hand"
  f_known : FdOk K T [(4, 1)] "known"
  f_place : FdOk K T [(2, 0), (3, 0)] "place"
  g : ClG K
  i_Shortest : IsOk K T [(0, false), (1, true), (2, false), (3, false)] (T.ct 1)
  b_int : mg "int" = none
  b_isinstance : mg "isinstance" = none
  k_Longer : mg "Longer" = some (.ref (T.ct 3))
  k_Missed : mg "Missed" = some (.ref (T.ct 2))
  k_Shortest : mg "Shortest" = some (.ref (T.ct 1))
  b_len : mg "len" = none
  b_list : mg "list" = none
  b_max : mg "max" = none
  n_Shortest : IniNo K T 1
  b_range : mg "range" = none
  b_set : mg "set" = none
  b_sorted : mg "sorted" = none
  b_str : mg "str" = none
  b_sum : mg "sum" = none
  b_tuple : mg "tuple" = none
  b_zip : mg "zip" = none
structure Bj (K : PySem.W.Frag) (T : Tb) (mg : Str → Option Value) : Prop where
  fa_known : FdAt K T "known" 4 1
  fn_hand : FdNew K T "hand" 5 6
  fn_known : FdNew K T "known" 6 4
  fs_known : FdSet K T "known" 4 1
  k_Pad : mg "Pad" = some (.ref (T.ct 5))
section
variable {P : Program} {w : World} {K : PySem.W.Frag} {mg : Str → Option Value} {base : Heap} {T : Tb}
abbrev st_is_whole : Stmt := top 17
theorem sc_is_whole : FnScope ["thing"] ["thing"] (defScope st_is_whole) := ⟨rfl, rfl, rfl, by decide +kernel, rfl, by decide +kernel, by decide +kernel⟩
theorem ok_is_whole {f : Addr} {fd : FuncData} (F : Fun K "is_whole" "is_whole" st_is_whole f fd) (hm : mg "is_whole" = some (.ref f)) (B : Bi K T mg)  : FD P w K mg base T "is_whole" 1 1 false D_is_whole := by
  have sc := sc_is_whole
  refine FD.of0 (fn_ok (body := B_is_whole) F sc fun cdv A outer s H E S0 hr => ?_) hm F.kp (F.binds (ps := ["thing"]) fun _ _ _ _ _ _ us hl => match us, hl with | [_], _ => rfl)
  exact (db_one (ds_ret (m := false) (de_and2 (m := false) (m' := false) (de_isi (m := false) (T := "int") (by rfl) B.b_isinstance ((de_var (pv 0)).peek) (pe_bltn (v := .ty "int") (by rfl) B.b_int (by decide +kernel) rfl)) (de_one (de_not (m := false) (de_isi (m := false) (T := "bool") (by rfl) B.b_isinstance ((de_var (pv 0)).peek) (pe_bltn (v := .ty "bool") (by rfl) B.b_bool (by decide +kernel) rfl)))))))
abbrev st_is_stretch : Stmt := top 18
theorem sc_is_stretch : FnScope ["thing", "place", "one"] ["thing", "place"] (defScope st_is_stretch) := ⟨rfl, rfl, rfl, by decide +kernel, rfl, by decide +kernel, by decide +kernel⟩
theorem ok_is_stretch {f : Addr} {fd : FuncData} (F : Fun K "is_stretch" "is_stretch" st_is_stretch f fd) (hm : mg "is_stretch" = some (.ref f)) (B : Bi K T mg) (G_is_whole : FD P w K mg base T "is_whole" 1 1 false D_is_whole) : FD P w K mg base T "is_stretch" 2 2 false D_is_stretch := by
  have sc := sc_is_stretch
  obtain ⟨_, e_c_MOST_LENGTH⟩ := B.c_MOST_LENGTH
  refine FD.of0 (fn_ok (body := B_is_stretch) F sc fun cdv A outer s H E S0 hr => ?_) hm F.kp (F.binds (ps := ["thing", "place"]) fun _ _ _ _ _ _ us hl => match us, hl with | [_, _], _ => rfl)
  exact (db_cons (ds_if ((dw_or (dt_not (dt_val (m := false) (de_isi (m := false) (T := "tuple") (by rfl) B.b_isinstance ((de_var (pv 0)).peek) (pe_bltn (v := .ty "tuple") (by rfl) B.b_tuple (by decide +kernel) rfl)))) (dw_or (dt_cmp (m := false) (m' := false) (cmp_ne hr) (de_bi (m := false) (mo := false) bi_len (by rfl) B.b_len (by decide +kernel) (da_cons ((de_var (pv 0)).peek) da_nil)) de_int (nomark _)) (dw_or1 (dt_not (dt_val (m := false) (de_bi (m := false) (mo := false) bi_all (by rfl) B.b_all (by decide +kernel) (da_cons (FE.de (m := false) (fe_lc (own := [("one", 2)]) rfl sc.nd (DI.c (di_seq ((de_var (pv 0))))) (blkOk_by (own := [("one", 2)]) (N := ["thing", "place", "one"]) (sc := defScope st_is_stretch) (by decide +kernel)) (by decide) (fun _ _ _ _ _ => (dg_name (i := 2) sc.nd rfl (.inl rfl))) (fun _ _ _ _ _ => dts_nil) (fun _ _ _ _ _ => (de_call G_is_whole (hr.mono (by decide)) (by rfl) (da_cons ((de_var (pv 2))) da_nil))))) da_nil)))))))).dt
   (db_one (ds_ret (m := false) de_bl))
   db_nil)
   (db_one (ds_ret (m := false) (de_and2 (m := false) (m' := false) (de_chain (m := false) (m' := false) (m'' := false) cmp_le cmp_lt de_int (de_idx (m := false) (m' := false) ((de_var (pv 0)).peek) de_int (fun _ _ => rfl)) ((de_var (pv 1)).peek)) (de_one (de_chain (m := false) (m' := false) (m'' := false) cmp_le cmp_le de_int (de_idx (m := false) (m' := false) ((de_var (pv 0)).peek) de_int (fun _ _ => rfl)) ((de_gint (by rfl) e_c_MOST_LENGTH))))))))
abbrev st_asked_shop : Stmt := top 19
theorem sc_asked_shop : FnScope ["shop", "at", "one"] ["shop"] (defScope st_asked_shop) := ⟨rfl, rfl, rfl, by decide +kernel, rfl, by decide +kernel, by decide +kernel⟩
theorem ok_asked_shop {f : Addr} {fd : FuncData} (F : Fun K "asked_shop" "asked_shop" st_asked_shop f fd) (hm : mg "asked_shop" = some (.ref f)) (B : Bi K T mg) (G_is_stretch : FD P w K mg base T "is_stretch" 2 2 false D_is_stretch) : FD P w K mg base T "asked_shop" 3 1 false D_asked_shop := by
  have sc := sc_asked_shop
  obtain ⟨_, e_c_MOST_PLACES⟩ := B.c_MOST_PLACES
  refine FD.of0 (fn_ok (body := B_asked_shop) F sc fun cdv A outer s H E S0 hr => ?_) hm F.kp (F.binds (ps := ["shop"]) fun _ _ _ _ _ _ us hl => match us, hl with | [_], _ => rfl)
  exact (db_cons (ds_if ((dw_or (dt_not (dt_val (m := false) (de_isi (m := false) (T := "list") (by rfl) B.b_isinstance ((de_var (pv 0)).peek) (pe_bltn (v := .ty "list") (by rfl) B.b_list (by decide +kernel) rfl)))) (dw_or1 (dt_cmp (m := false) (m' := false) cmp_ge (de_bi (m := false) (mo := false) bi_len (by rfl) B.b_len (by decide +kernel) (da_cons ((de_var (pv 0)).peek) da_nil)) ((de_gint (by rfl) e_c_MOST_PLACES)) (nomark _))))).dt
   (db_one ds_never)
   db_nil)
   (db_one (ds_if (dt_not (dt_val (m := false) (de_bi (m := false) (mo := false) bi_all (by rfl) B.b_all (by decide +kernel) (da_cons (FE.de (m := false) (fe_lc (own := [("at", 1), ("one", 2)]) rfl sc.nd (DI.c (di_enum (by rfl) B.b_enumerate (da_cons ((de_var (pv 0))) da_nil))) (blkOk_by (own := [("at", 1), ("one", 2)]) (N := ["shop", "at", "one"]) (sc := defScope st_asked_shop) (by decide +kernel)) (by decide) (fun _ _ _ _ _ => (dg_two (i := 1) (j := 2) rfl sc.nd rfl rfl (.inl rfl) (.inl rfl))) (fun _ _ _ _ _ => dts_nil) (fun _ _ _ _ _ => (de_call G_is_stretch (hr.mono (by decide)) (by rfl) (da_cons ((de_var (pv 2))) (da_cons (de_add (m := true) ((de_var (pv 1))) de_int) da_nil)))))) da_nil))))
   (db_one ds_never)
   db_nil)))
abbrev st_is_place : Stmt := top 20
theorem sc_is_place : FnScope ["shop", "place"] ["shop", "place"] (defScope st_is_place) := ⟨rfl, rfl, rfl, by decide +kernel, rfl, by decide +kernel, by decide +kernel⟩
theorem ok_is_place {f : Addr} {fd : FuncData} (F : Fun K "is_place" "is_place" st_is_place f fd) (hm : mg "is_place" = some (.ref f)) (B : Bi K T mg) (G_is_whole : FD P w K mg base T "is_whole" 1 1 false D_is_whole) : FD P w K mg base T "is_place" 2 2 false D_is_place := by
  have sc := sc_is_place
  refine FD.of0 (fn_ok (body := B_is_place) F sc fun cdv A outer s H E S0 hr => ?_) hm F.kp (F.binds (ps := ["shop", "place"]) fun _ _ _ _ _ _ us hl => match us, hl with | [_, _], _ => rfl)
  exact (db_one (ds_ret (m := false) (de_and2 (m := false) (m' := false) (de_call G_is_whole (hr.mono (by decide)) (by rfl) (da_cons ((de_var (pv 1)).peek) da_nil)) (de_one (de_chain (m := false) (m' := false) (m'' := false) cmp_le cmp_le de_int ((de_var (pv 1)).peek) (de_bi (m := false) (mo := false) bi_len (by rfl) B.b_len (by decide +kernel) (da_cons ((de_var (pv 0)).peek) da_nil)))))))
abbrev st_asked_till : Stmt := top 21
theorem sc_asked_till : FnScope ["shop", "till"] ["shop", "till"] (defScope st_asked_till) := ⟨rfl, rfl, rfl, by decide +kernel, rfl, by decide +kernel, by decide +kernel⟩
theorem ok_asked_till {f : Addr} {fd : FuncData} (F : Fun K "asked_till" "asked_till" st_asked_till f fd) (hm : mg "asked_till" = some (.ref f)) (B : Bi K T mg) (G_is_place : FD P w K mg base T "is_place" 2 2 false D_is_place) : FD P w K mg base T "asked_till" 3 2 false D_asked_till := by
  have sc := sc_asked_till
  refine FD.of0 (fn_ok (body := B_asked_till) F sc fun cdv A outer s H E S0 hr => ?_) hm F.kp (F.binds (ps := ["shop", "till"]) fun _ _ _ _ _ _ us hl => match us, hl with | [_, _], _ => rfl)
  exact (db_one (ds_if (dt_not (dt_val (m := false) (de_call G_is_place (hr.mono (by decide)) (by rfl) (da_cons ((de_var (pv 0)).peek) (da_cons ((de_var (pv 1)).peek) da_nil)))))
   (db_one ds_never)
   db_nil))
abbrev st_asked_places : Stmt := top 22
theorem sc_asked_places : FnScope ["shop", "places", "at", "one"] ["shop", "places"] (defScope st_asked_places) := ⟨rfl, rfl, rfl, by decide +kernel, rfl, by decide +kernel, by decide +kernel⟩
theorem ok_asked_places {f : Addr} {fd : FuncData} (F : Fun K "asked_places" "asked_places" st_asked_places f fd) (hm : mg "asked_places" = some (.ref f)) (B : Bi K T mg) (G_is_place : FD P w K mg base T "is_place" 2 2 false D_is_place) : FD P w K mg base T "asked_places" 3 2 false D_asked_places := by
  have sc := sc_asked_places
  refine FD.of0 (fn_ok (body := B_asked_places) F sc fun cdv A outer s H E S0 hr => ?_) hm F.kp (F.binds (ps := ["shop", "places"]) fun _ _ _ _ _ _ us hl => match us, hl with | [_, _], _ => rfl)
  exact (db_cons (ds_if ((dw_or (dt_not (dt_val (m := false) (de_isi (m := false) (T := "list") (by rfl) B.b_isinstance ((de_var (pv 1)).peek) (pe_bltn (v := .ty "list") (by rfl) B.b_list (by decide +kernel) rfl)))) (dw_or1 (dt_not (dt_val (m := false) (de_bi (m := false) (mo := false) bi_all (by rfl) B.b_all (by decide +kernel) (da_cons (FE.de (m := false) (fe_lc (own := [("one", 3)]) rfl sc.nd (DI.c (di_seq ((de_var (pv 1))))) (blkOk_by (own := [("one", 3)]) (N := ["shop", "places", "at", "one"]) (sc := defScope st_asked_places) (by decide +kernel)) (by decide) (fun _ _ _ _ _ => (dg_name (i := 3) sc.nd rfl (.inl rfl))) (fun _ _ _ _ _ => dts_nil) (fun _ _ _ _ _ => (de_call G_is_place (hr.mono (by decide)) (by rfl) (da_cons ((de_var (pv 0))) (da_cons ((de_var (pv 3))) da_nil)))))) da_nil))))))).dt
   (db_one ds_never)
   db_nil)
   (db_one (ds_if (dt_not (dt_val (m := false) (de_bi (m := false) (mo := false) bi_all (by rfl) B.b_all (by decide +kernel) (da_cons (FE.de (m := false) (fe_lc (own := [("at", 2)]) rfl sc.nd (DI.c (di_range2 (m := false) (by rfl) B.b_range (da_cons de_int (da_cons (de_bi (m := false) (mo := false) bi_len (by rfl) B.b_len (by decide +kernel) (da_cons ((de_var (pv 1)).peek) da_nil)) da_nil)))) (blkOk_by (own := [("at", 2)]) (N := ["shop", "places", "at", "one"]) (sc := defScope st_asked_places) (by decide +kernel)) (by decide) (fun _ _ _ _ _ => (dg_name (i := 2) sc.nd rfl (.inl rfl))) (fun _ _ _ _ _ => dts_nil) (fun _ _ _ _ _ => (de_cmp (m := false) (m' := false) cmp_lt (de_idx (m := false) (m' := false) ((de_var (pv 1)).peek) (de_sub (m := false) (m' := false) ((de_var (pv 2)).peek) de_int) (fun _ _ => rfl)) (de_idx (m := false) (m' := false) ((de_var (pv 1)).peek) ((de_var (pv 2)).peek) (fun _ _ => rfl)) (nomark _))))) da_nil))))
   (db_one ds_never)
   db_nil)))
abbrev st_beyond : Stmt := top 23
theorem sc_beyond : FnScope ["shop", "places", "found", "place"] ["shop", "places"] (defScope st_beyond) := ⟨rfl, rfl, rfl, by decide +kernel, rfl, by decide +kernel, by decide +kernel⟩
theorem ok_beyond {f : Addr} {fd : FuncData} (F : Fun K "beyond" "beyond" st_beyond f fd) (hm : mg "beyond" = some (.ref f)) (B : Bi K T mg)  : FD P w K mg base T "beyond" 1 2 true D_beyond := by
  have sc := sc_beyond
  refine FD.of0 (fn_ok (body := B_beyond) F sc fun cdv A outer s H E S0 hr => ?_) hm F.kp (F.binds (ps := ["shop", "places"]) fun _ _ _ _ _ _ us hl => match us, hl with | [_, _], _ => rfl)
  exact (db_cons (ds_set (i := 2) sc.nd rfl (.inl rfl) (FE.se (fe_rep (m := false) (FE.de (m := true) (fe_lst (da_cons de_bl da_nil))) (de_add (m := false) (de_bi (m := false) (mo := false) bi_len (by rfl) B.b_len (by decide +kernel) (da_cons ((de_var (pv 0)).peek) da_nil)) de_int))))
   (db_cons (ds_for PassesOwn.never rfl (di_seq ((de_var (pv 1)))) (dg_name (i := 3) sc.nd rfl (.inl rfl))
   (db_one (ds_setI (m := false) (pv 2) ((de_var (pv 3)).peek) de_bl)))
   (db_cons (ds_for PassesOwn.never rfl (di_range3 (m := false) (by rfl) B.b_range (da_cons (de_bi (m := false) (mo := false) bi_len (by rfl) B.b_len (by decide +kernel) (da_cons ((de_var (pv 0)).peek) da_nil)) (da_cons de_int (da_cons (de_neg de_int) da_nil)))) (dg_name (i := 3) sc.nd rfl (.inl rfl))
   (db_one (ds_if (dt_val (m := false) (de_idx (m := false) (m' := false) ((de_pk (pv 2))) ((de_var (pv 3)).peek) (fun _ _ => rfl)))
   (db_one (ds_setI (m := false) (pv 2) (de_idx (m := false) (m' := false) (de_idx (m := false) (m' := false) ((de_var (pv 0)).peek) (de_sub (m := false) (m' := false) ((de_var (pv 3)).peek) de_int) (fun _ _ => rfl)) de_int (fun _ _ => rfl)) de_bl))
   db_nil)))
   (db_one (ds_retO (pv 2))))))
abbrev st_must_of : Stmt := top 24
theorem sc_must_of : FnScope ["shop", "till", "places", "wanted", "last", "at"] ["shop", "till", "places"] (defScope st_must_of) := ⟨rfl, rfl, rfl, by decide +kernel, rfl, by decide +kernel, by decide +kernel⟩
theorem ok_must_of {f : Addr} {fd : FuncData} (F : Fun K "must_of" "must_of" st_must_of f fd) (hm : mg "must_of" = some (.ref f)) (B : Bi K T mg) (G_beyond : FD P w K mg base T "beyond" 1 2 true D_beyond) : FD P w K mg base T "must_of" 2 3 true D_must_of := by
  have sc := sc_must_of
  refine FD.of0 (fn_ok (body := B_must_of) F sc fun cdv A outer s H E S0 hr => ?_) hm F.kp (F.binds (ps := ["shop", "till", "places"]) fun _ _ _ _ _ _ us hl => match us, hl with | [_, _, _], _ => rfl)
  exact (db_cons (ds_parT (i := 3) (j := 4) rfl sc.nd rfl rfl (by decide) (.inr rfl) (.inr rfl) (DE.se (FE.de (m := true) (fe_call G_beyond (hr.mono (by decide)) (by rfl) (da_cons ((de_var (pv 0))) (da_cons ((de_var (pv 2))) da_nil))))) (DE.se (FE.de (m := true) (fe_call G_beyond (hr.mono (by decide)) (by rfl) (da_cons ((de_var (pv 0))) (da_cons (FE.de (m := true) (fe_lst (da_cons ((de_var (pv 1))) da_nil))) da_nil))))) (by rfl))
   (db_one (ds_retF (fe_lc (own := [("at", 5)]) rfl sc.nd (DI.c (di_range1 (m := false) (by rfl) B.b_range (da_cons (de_bi (m := false) (mo := false) bi_len (by rfl) B.b_len (by decide +kernel) (da_cons ((de_var (pv 0)).peek) da_nil)) da_nil))) (blkOk_by (own := [("at", 5)]) (N := ["shop", "till", "places", "wanted", "last", "at"]) (sc := defScope st_must_of) (by decide +kernel)) (by decide) (fun _ _ _ _ _ => (dg_name (i := 5) sc.nd rfl (.inl rfl))) (fun _ _ _ _ _ => dts_nil) (fun _ _ _ _ _ => (de_if (dt_val (m := false) (de_idx (m := false) (m' := false) ((de_var (pv 4)).peek) (de_add (m := false) ((de_var (pv 5)).peek) de_int) (fun _ _ => rfl))) de_int (de_if (dt_val (m := false) (de_idx (m := false) (m' := false) ((de_var (pv 3)).peek) (de_add (m := false) ((de_var (pv 5)).peek) de_int) (fun _ _ => rfl))) de_int de_int)))))))
abbrev st_must : Stmt := top 25
theorem sc_must : FnScope ["shop", "till", "places"] ["shop", "till", "places"] (defScope st_must) := ⟨rfl, rfl, rfl, by decide +kernel, rfl, by decide +kernel, by decide +kernel⟩
theorem ok_must {f : Addr} {fd : FuncData} (F : Fun K "must" "must" st_must f fd) (hm : mg "must" = some (.ref f)) (B : Bi K T mg) (G_asked_shop : FD P w K mg base T "asked_shop" 3 1 false D_asked_shop) (G_asked_till : FD P w K mg base T "asked_till" 3 2 false D_asked_till) (G_asked_places : FD P w K mg base T "asked_places" 3 2 false D_asked_places) (G_must_of : FD P w K mg base T "must_of" 2 3 true D_must_of) : FD P w K mg base T "must" 4 3 true D_must := by
  have sc := sc_must
  refine FD.of0 (fn_ok (body := B_must) F sc fun cdv A outer s H E S0 hr => ?_) hm F.kp (F.binds (ps := ["shop", "till", "places"]) fun _ _ _ _ _ _ us hl => match us, hl with | [_, _, _], _ => rfl)
  exact (db_cons (ds_expr (m := false) (de_call G_asked_shop (hr.mono (by decide)) (by rfl) (da_cons ((de_var (pv 0)).peek) da_nil)))
   (db_cons (ds_expr (m := false) (de_call G_asked_till (hr.mono (by decide)) (by rfl) (da_cons ((de_var (pv 0)).peek) (da_cons ((de_var (pv 1)).peek) da_nil))))
   (db_cons (ds_expr (m := false) (de_call G_asked_places (hr.mono (by decide)) (by rfl) (da_cons ((de_var (pv 0)).peek) (da_cons ((de_var (pv 2)).peek) da_nil))))
   (db_one (ds_retF (fe_call G_must_of (hr.mono (by decide)) (by rfl) (da_cons ((de_var (pv 0))) (da_cons ((de_var (pv 1))) (da_cons ((de_var (pv 2))) da_nil)))))))))
abbrev st_least_of : Stmt := top 26
theorem sc_least_of : FnScope ["shop", "till", "places", "at", "often"] ["shop", "till", "places"] (defScope st_least_of) := ⟨rfl, rfl, rfl, by decide +kernel, rfl, by decide +kernel, by decide +kernel⟩
theorem ok_least_of {f : Addr} {fd : FuncData} (F : Fun K "least_of" "least_of" st_least_of f fd) (hm : mg "least_of" = some (.ref f)) (B : Bi K T mg) (G_must_of : FD P w K mg base T "must_of" 2 3 true D_must_of) : FD P w K mg base T "least_of" 3 3 false D_least_of := by
  have sc := sc_least_of
  refine FD.of0 (fn_ok (body := B_least_of) F sc fun cdv A outer s H E S0 hr => ?_) hm F.kp (F.binds (ps := ["shop", "till", "places"]) fun _ _ _ _ _ _ us hl => match us, hl with | [_, _, _], _ => rfl)
  exact (db_one (ds_ret (m := false) (de_bi (m := false) (mo := false) bi_sum (by rfl) B.b_sum (by decide +kernel) (da_cons (FE.de (m := false) (fe_lc (own := [("at", 3), ("often", 4)]) rfl sc.nd (DI.c (di_enum (by rfl) B.b_enumerate (da_cons (FE.de (m := true) (fe_call G_must_of (hr.mono (by decide)) (by rfl) (da_cons ((de_var (pv 0))) (da_cons ((de_var (pv 1))) (da_cons ((de_var (pv 2))) da_nil))))) da_nil))) (blkOk_by (own := [("at", 3), ("often", 4)]) (N := ["shop", "till", "places", "at", "often"]) (sc := defScope st_least_of) (by decide +kernel)) (by decide) (fun _ _ _ _ _ => (dg_two (i := 3) (j := 4) rfl sc.nd rfl rfl (.inl rfl) (.inl rfl))) (fun _ _ _ _ _ => dts_nil) (fun _ _ _ _ _ => (de_mul (m := true) (m' := true) ((de_var (pv 4))) (de_idx (m := true) (m' := false) (de_idx (m := true) (m' := false) ((de_var (pv 0))) ((de_var (pv 3)).peek) (fun _ _ => rfl)) de_int (fun _ _ => rfl)))))) da_nil))))
abbrev st_least : Stmt := top 27
theorem sc_least : FnScope ["shop", "till", "places"] ["shop", "till", "places"] (defScope st_least) := ⟨rfl, rfl, rfl, by decide +kernel, rfl, by decide +kernel, by decide +kernel⟩
theorem ok_least {f : Addr} {fd : FuncData} (F : Fun K "least" "least" st_least f fd) (hm : mg "least" = some (.ref f)) (B : Bi K T mg) (G_asked_shop : FD P w K mg base T "asked_shop" 3 1 false D_asked_shop) (G_asked_till : FD P w K mg base T "asked_till" 3 2 false D_asked_till) (G_asked_places : FD P w K mg base T "asked_places" 3 2 false D_asked_places) (G_least_of : FD P w K mg base T "least_of" 3 3 false D_least_of) : FD P w K mg base T "least" 4 3 false D_least := by
  have sc := sc_least
  refine FD.of0 (fn_ok (body := B_least) F sc fun cdv A outer s H E S0 hr => ?_) hm F.kp (F.binds (ps := ["shop", "till", "places"]) fun _ _ _ _ _ _ us hl => match us, hl with | [_, _, _], _ => rfl)
  exact (db_cons (ds_expr (m := false) (de_call G_asked_shop (hr.mono (by decide)) (by rfl) (da_cons ((de_var (pv 0)).peek) da_nil)))
   (db_cons (ds_expr (m := false) (de_call G_asked_till (hr.mono (by decide)) (by rfl) (da_cons ((de_var (pv 0)).peek) (da_cons ((de_var (pv 1)).peek) da_nil))))
   (db_cons (ds_expr (m := false) (de_call G_asked_places (hr.mono (by decide)) (by rfl) (da_cons ((de_var (pv 0)).peek) (da_cons ((de_var (pv 2)).peek) da_nil))))
   (db_one (ds_ret (m := false) (de_call G_least_of (hr.mono (by decide)) (by rfl) (da_cons ((de_var (pv 0)).peek) (da_cons ((de_var (pv 1)).peek) (da_cons ((de_var (pv 2)).peek) da_nil)))))))))
abbrev st_gone_of : Stmt := top 30
theorem sc_gone_of : FnScope ["shop", "walk", "found", "at", "far"] ["shop", "walk"] (defScope st_gone_of) := ⟨rfl, rfl, rfl, by decide +kernel, rfl, by decide +kernel, by decide +kernel⟩
theorem ok_gone_of {f : Addr} {fd : FuncData} (F : Fun K "gone_of" "gone_of" st_gone_of f fd) (hm : mg "gone_of" = some (.ref f)) (B : Bi K T mg)  : FD P w K mg base T "gone_of" 1 2 true D_gone_of := by
  have sc := sc_gone_of
  refine FD.of0 (fn_ok (body := B_gone_of) F sc fun cdv A outer s H E S0 hr => ?_) hm F.kp (F.binds (ps := ["shop", "walk"]) fun _ _ _ _ _ _ us hl => match us, hl with | [_, _], _ => rfl)
  exact (db_cons (ds_set (i := 2) sc.nd rfl (.inl rfl) (FE.se (fe_rep (m := false) (FE.de (m := true) (fe_lst (da_cons de_int da_nil))) (de_bi (m := false) (mo := false) bi_len (by rfl) B.b_len (by decide +kernel) (da_cons ((de_var (pv 0)).peek) da_nil)))))
   (db_cons (ds_for PassesOwn.never rfl (di_range2 (m := false) (by rfl) B.b_range (da_cons de_int (da_cons (de_bi (m := false) (mo := false) bi_len (by rfl) B.b_len (by decide +kernel) (da_cons ((de_var (pv 1)).peek) da_nil)) da_nil))) (dg_name (i := 3) sc.nd rfl (.inl rfl))
   (db_cons (ds_set (i := 4) sc.nd rfl (.inl rfl) (DE.se (de_bi (m := false) (mo := true) bi_max2 (by rfl) B.b_max (by decide +kernel) (da_cons (de_idx (m := false) (m' := false) ((de_var (pv 1)).peek) (de_sub (m := false) (m' := false) ((de_var (pv 3)).peek) de_int) (fun _ _ => rfl)) (da_cons (de_idx (m := false) (m' := false) ((de_var (pv 1)).peek) ((de_var (pv 3)).peek) (fun _ _ => rfl)) da_nil)))))
   (db_one (ds_setI (m := false) (pv 2) (de_sub (m := false) (m' := false) ((de_var (pv 4)).peek) de_int) (de_add (m := true) (de_idxO (m' := false) (pv 2) (de_sub (m := false) (m' := false) ((de_var (pv 4)).peek) de_int) (fun _ _ => rfl)) de_int)))))
   (db_one (ds_retO (pv 2)))))
abbrev st_is_name : Stmt := top 40
theorem sc_is_name : FnScope ["thing", "sign"] ["thing"] (defScope st_is_name) := ⟨rfl, rfl, rfl, by decide +kernel, rfl, by decide +kernel, by decide +kernel⟩
theorem ok_is_name {f : Addr} {fd : FuncData} (F : Fun K "is_name" "is_name" st_is_name f fd) (hm : mg "is_name" = some (.ref f)) (B : Bi K T mg)  : FD P w K mg base T "is_name" 1 1 false D_is_name := by
  have sc := sc_is_name
  obtain ⟨_, e_c_LETTERS⟩ := B.c_LETTERS
  refine FD.of0 (fn_ok (body := B_is_name) F sc fun cdv A outer s H E S0 hr => ?_) hm F.kp (F.binds (ps := ["thing"]) fun _ _ _ _ _ _ us hl => match us, hl with | [_], _ => rfl)
  exact (db_one (ds_ret (m := false) (de_and2 (m := false) (m' := false) (de_isi (m := false) (T := "str") (by rfl) B.b_isinstance ((de_var (pv 0)).peek) (pe_bltn (v := .ty "str") (by rfl) B.b_str (by decide +kernel) rfl)) (de_and2 (m := false) (m' := false) (de_chain (m := false) (m' := false) (m'' := false) cmp_le cmp_le de_int (de_bi (m := false) (mo := false) bi_len (by rfl) B.b_len (by decide +kernel) (da_cons ((de_var (pv 0)).peek) da_nil)) de_int) (de_one (de_bi (m := false) (mo := false) bi_all (by rfl) B.b_all (by decide +kernel) (da_cons (FE.de (m := false) (fe_lc (own := [("sign", 1)]) rfl sc.nd (DI.c (di_str ((de_var (pv 0))))) (blkOk_by (own := [("sign", 1)]) (N := ["thing", "sign"]) (sc := defScope st_is_name) (by decide +kernel)) (by decide) (fun _ _ _ _ _ => (dg_name (i := 1) sc.nd rfl (.inl rfl))) (fun _ _ _ _ _ => dts_nil) (fun _ _ _ _ _ => (de_cmp (m := false) (m' := false) (cmp_in hr) ((de_var (pv 1)).peek) ((de_gstr (by rfl) e_c_LETTERS)) rfl)))) da_nil)))))))
abbrev st_is_thing : Stmt := top 41
theorem sc_is_thing : FnScope ["name", "place"] ["name", "place"] (defScope st_is_thing) := ⟨rfl, rfl, rfl, by decide +kernel, rfl, by decide +kernel, by decide +kernel⟩
theorem ok_is_thing {f : Addr} {fd : FuncData} (F : Fun K "is_thing" "is_thing" st_is_thing f fd) (hm : mg "is_thing" = some (.ref f)) (B : Bi K T mg) (G_is_name : FD P w K mg base T "is_name" 1 1 false D_is_name) (G_is_whole : FD P w K mg base T "is_whole" 1 1 false D_is_whole) : FD P w K mg base T "is_thing" 2 2 false D_is_thing := by
  have sc := sc_is_thing
  obtain ⟨_, e_c_MOST_PLACES⟩ := B.c_MOST_PLACES
  refine FD.of0 (fn_ok (body := B_is_thing) F sc fun cdv A outer s H E S0 hr => ?_) hm F.kp (F.binds (ps := ["name", "place"]) fun _ _ _ _ _ _ us hl => match us, hl with | [_, _], _ => rfl)
  exact (db_one (ds_ret (m := false) (de_and2 (m := false) (m' := false) (de_call G_is_name (hr.mono (by decide)) (by rfl) (da_cons ((de_var (pv 0)).peek) da_nil)) (de_and2 (m := false) (m' := false) (de_call G_is_whole (hr.mono (by decide)) (by rfl) (da_cons ((de_var (pv 1)).peek) da_nil)) (de_one (de_chain (m := false) (m' := false) (m'' := false) cmp_le cmp_lt de_int ((de_var (pv 1)).peek) ((de_gint (by rfl) e_c_MOST_PLACES))))))))
abbrev st_is_many : Stmt := top 42
theorem sc_is_many : FnScope ["many"] ["many"] (defScope st_is_many) := ⟨rfl, rfl, rfl, by decide +kernel, rfl, by decide +kernel, by decide +kernel⟩
theorem ok_is_many {f : Addr} {fd : FuncData} (F : Fun K "is_many" "is_many" st_is_many f fd) (hm : mg "is_many" = some (.ref f)) (B : Bi K T mg) (G_is_whole : FD P w K mg base T "is_whole" 1 1 false D_is_whole) : FD P w K mg base T "is_many" 2 1 false D_is_many := by
  have sc := sc_is_many
  obtain ⟨_, e_c_MOST_MANY⟩ := B.c_MOST_MANY
  refine FD.of0 (fn_ok (body := B_is_many) F sc fun cdv A outer s H E S0 hr => ?_) hm F.kp (F.binds (ps := ["many"]) fun _ _ _ _ _ _ us hl => match us, hl with | [_], _ => rfl)
  exact (db_one (ds_ret (m := false) (de_and2 (m := false) (m' := false) (de_call G_is_whole (hr.mono (by decide)) (by rfl) (da_cons ((de_var (pv 0)).peek) da_nil)) (de_one (de_chain (m := false) (m' := false) (m'' := false) cmp_le cmp_le de_int ((de_var (pv 0)).peek) ((de_gint (by rfl) e_c_MOST_MANY)))))))
abbrev st_is_word : Stmt := top 43
theorem sc_is_word : FnScope ["thing", "one"] ["thing"] (defScope st_is_word) := ⟨rfl, rfl, rfl, by decide +kernel, rfl, by decide +kernel, by decide +kernel⟩
theorem ok_is_word {f : Addr} {fd : FuncData} (F : Fun K "is_word" "is_word" st_is_word f fd) (hm : mg "is_word" = some (.ref f)) (B : Bi K T mg) (G_is_whole : FD P w K mg base T "is_whole" 1 1 false D_is_whole) (G_is_thing : FD P w K mg base T "is_thing" 2 2 false D_is_thing) (G_is_many : FD P w K mg base T "is_many" 2 1 false D_is_many) : FD P w K mg base T "is_word" 3 1 false D_is_word := by
  have sc := sc_is_word
  obtain ⟨_, e_c_HANDS⟩ := B.c_HANDS
  obtain ⟨_, e_c_MOST_NUMBER⟩ := B.c_MOST_NUMBER
  refine FD.of0 (fn_ok (body := B_is_word) F sc fun cdv A outer s H E S0 hr => ?_) hm F.kp (F.binds (ps := ["thing"]) fun _ _ _ _ _ _ us hl => match us, hl with | [_], _ => rfl)
  exact (db_cons (ds_if ((dw_or (dt_not (dt_val (m := false) (de_isi (m := false) (T := "tuple") (by rfl) B.b_isinstance ((de_var (pv 0)).peek) (pe_bltn (v := .ty "tuple") (by rfl) B.b_tuple (by decide +kernel) rfl)))) (dw_or (dt_cmp (m := false) (m' := false) (cmp_notIn hr) (de_bi (m := false) (mo := false) bi_len (by rfl) B.b_len (by decide +kernel) (da_cons ((de_var (pv 0)).peek) da_nil)) (de_tup (da_cons de_int (da_cons de_int da_nil))) rfl) (dw_or1 (dt_not (dt_val (m := false) (de_isi (m := false) (T := "str") (by rfl) B.b_isinstance (de_idx (m := false) (m' := false) ((de_var (pv 0)).peek) de_int (fun _ _ => rfl)) (pe_bltn (v := .ty "str") (by rfl) B.b_str (by decide +kernel) rfl)))))))).dt
   (db_one (ds_ret (m := false) de_bl))
   db_nil)
   (db_cons (ds_if ((dw_or (dt_not (dt_val (m := false) (de_bi (m := false) (mo := false) bi_all (by rfl) B.b_all (by decide +kernel) (da_cons (FE.de (m := false) (fe_lc (own := [("one", 1)]) rfl sc.nd (DI.c (di_seq (de_sl ((de_var (pv 0))) (do_so (m := false) de_int) (do_so (m := false) de_int)))) (blkOk_by (own := [("one", 1)]) (N := ["thing", "one"]) (sc := defScope st_is_word) (by decide +kernel)) (by decide) (fun _ _ _ _ _ => (dg_name (i := 1) sc.nd rfl (.inl rfl))) (fun _ _ _ _ _ => dts_nil) (fun _ _ _ _ _ => (de_call G_is_whole (hr.mono (by decide)) (by rfl) (da_cons ((de_var (pv 1))) da_nil))))) da_nil)))) (dw_or (dt_not (dt_chain (m := false) (m' := false) (m'' := false) cmp_le cmp_lt de_int (de_idx (m := false) (m' := false) ((de_var (pv 0)).peek) de_int (fun _ _ => rfl)) ((de_gint (by rfl) e_c_HANDS)))) (dw_or1 (dt_not (dt_chain (m := false) (m' := false) (m'' := false) cmp_le cmp_le de_int (de_idx (m := false) (m' := false) ((de_var (pv 0)).peek) de_int (fun _ _ => rfl)) ((de_gint (by rfl) e_c_MOST_NUMBER)))))))).dt
   (db_one (ds_ret (m := false) de_bl))
   db_nil)
   (db_cons (ds_if (dt_cmp (m := false) (m' := false) (cmp_eq hr) (de_bi (m := false) (mo := false) bi_len (by rfl) B.b_len (by decide +kernel) (da_cons ((de_var (pv 0)).peek) da_nil)) de_int (nomark _))
   (db_one (ds_ret (m := false) (de_cmp (m := false) (m' := false) (cmp_eq hr) (de_idx (m := false) (m' := false) ((de_var (pv 0)).peek) de_int (fun _ _ => rfl)) de_str (nomark _))))
   db_nil)
   (db_one (ds_ret (m := false) (de_and2 (m := false) (m' := false) (de_cmp (m := false) (m' := false) (cmp_in hr) (de_idx (m := false) (m' := false) ((de_var (pv 0)).peek) de_int (fun _ _ => rfl)) (de_tup (da_cons de_str (da_cons de_str da_nil))) rfl) (de_and2 (m := false) (m' := false) (de_call G_is_thing (hr.mono (by decide)) (by rfl) (da_cons (de_idx (m := false) (m' := false) ((de_var (pv 0)).peek) de_int (fun _ _ => rfl)) (da_cons (de_idx (m := false) (m' := false) ((de_var (pv 0)).peek) de_int (fun _ _ => rfl)) da_nil))) (de_one (de_call G_is_many (hr.mono (by decide)) (by rfl) (da_cons (de_idx (m := false) (m' := false) ((de_var (pv 0)).peek) de_int (fun _ _ => rfl)) da_nil))))))))))
abbrev st_asked_words : Stmt := top 44
theorem sc_asked_words : FnScope ["words", "one"] ["words"] (defScope st_asked_words) := ⟨rfl, rfl, rfl, by decide +kernel, rfl, by decide +kernel, by decide +kernel⟩
theorem ok_asked_words {f : Addr} {fd : FuncData} (F : Fun K "asked_words" "asked_words" st_asked_words f fd) (hm : mg "asked_words" = some (.ref f)) (B : Bi K T mg) (G_is_word : FD P w K mg base T "is_word" 3 1 false D_is_word) : FD P w K mg base T "asked_words" 4 1 false D_asked_words := by
  have sc := sc_asked_words
  obtain ⟨_, e_c_MOST_WORDS⟩ := B.c_MOST_WORDS
  refine FD.of0 (fn_ok (body := B_asked_words) F sc fun cdv A outer s H E S0 hr => ?_) hm F.kp (F.binds (ps := ["words"]) fun _ _ _ _ _ _ us hl => match us, hl with | [_], _ => rfl)
  exact (db_one (ds_if ((dw_or (dt_not (dt_val (m := false) (de_isi (m := false) (T := "list") (by rfl) B.b_isinstance ((de_var (pv 0)).peek) (pe_bltn (v := .ty "list") (by rfl) B.b_list (by decide +kernel) rfl)))) (dw_or (dt_cmp (m := false) (m' := false) cmp_gt (de_bi (m := false) (mo := false) bi_len (by rfl) B.b_len (by decide +kernel) (da_cons ((de_var (pv 0)).peek) da_nil)) ((de_gint (by rfl) e_c_MOST_WORDS)) (nomark _)) (dw_or1 (dt_not (dt_val (m := false) (de_bi (m := false) (mo := false) bi_all (by rfl) B.b_all (by decide +kernel) (da_cons (FE.de (m := false) (fe_lc (own := [("one", 1)]) rfl sc.nd (DI.c (di_seq ((de_var (pv 0))))) (blkOk_by (own := [("one", 1)]) (N := ["words", "one"]) (sc := defScope st_asked_words) (by decide +kernel)) (by decide) (fun _ _ _ _ _ => (dg_name (i := 1) sc.nd rfl (.inl rfl))) (fun _ _ _ _ _ => dts_nil) (fun _ _ _ _ _ => (de_call G_is_word (hr.mono (by decide)) (by rfl) (da_cons ((de_var (pv 1))) da_nil))))) da_nil)))))))).dt
   (db_one ds_never)
   db_nil))
abbrev st_joined_of : Stmt := top 45
theorem sc_joined_of : FnScope ["one", "other", "known", "word", "key"] ["one", "other"] (defScope st_joined_of) := ⟨rfl, rfl, rfl, by decide +kernel, rfl, by decide +kernel, by decide +kernel⟩
theorem ok_joined_of {f : Addr} {fd : FuncData} (F : Fun K "joined_of" "joined_of" st_joined_of f fd) (hm : mg "joined_of" = some (.ref f)) (B : Bi K T mg)  : FD P w K mg base T "joined_of" 1 2 true D_joined_of := by
  have sc := sc_joined_of
  obtain ⟨_, e_c_MOST_WORDS⟩ := B.c_MOST_WORDS
  refine FD.of0 (fn_ok (body := B_joined_of) F sc fun cdv A outer s H E S0 hr => ?_) hm F.kp (F.binds (ps := ["one", "other"]) fun _ _ _ _ _ _ us hl => match us, hl with | [_, _], _ => rfl)
  exact (db_cons (ds_set (i := 2) sc.nd rfl (.inr rfl) se_od0)
   (db_cons (ds_for PassesOwn.never rfl (di_seq (de_add (m := true) ((de_var (pv 0))) ((de_var (pv 1))))) (dg_name (i := 3) sc.nd rfl (.inl rfl))
   (db_cons (ds_if (dt_cmp (m := false) (m' := false) (cmp_ne hr) (de_get2 (m := false) (k := 2) hr (pv 2) (de_sl ((de_var (pv 3)).peek) do_no (do_so (m := false) de_int)) ((de_var (pv 3))) ⟨rfl, rfl, rfl, rfl⟩).peek ((de_var (pv 3)).peek) (nomark _))
   (db_one ds_never)
   db_nil)
   (db_one (ds_putD (m := false) (k := 2) hr (pv 2) (de_sl ((de_var (pv 3)).peek) do_no (do_so (m := false) de_int)) ((de_var (pv 3)))))))
   (db_cons (ds_if (dt_cmp (m := false) (m' := false) cmp_gt (de_bi (m := false) (mo := false) bi_lenD (by rfl) B.b_len (by decide +kernel) (da_cons ((de_pk (pv 2))) da_nil)) ((de_gint (by rfl) e_c_MOST_WORDS)) (nomark _))
   (db_one ds_never)
   db_nil)
   (db_one (ds_retF (fe_lc (own := [("key", 4)]) rfl sc.nd (DI.c (di_seq (FE.de (m := true) (fe_sorted hr (by rfl) B.b_sorted (FE.de (m := true) (fe_listD (m := false) rfl (by rfl) B.b_list ((de_pk (pv 2))))))))) (blkOk_by (own := [("key", 4)]) (N := ["one", "other", "known", "word", "key"]) (sc := defScope st_joined_of) (by decide +kernel)) (by decide) (fun _ _ _ _ _ => (dg_name (i := 4) sc.nd rfl (.inl rfl))) (fun _ _ _ _ _ => dts_nil) (fun _ _ _ _ _ => (de_getD (m := false) (k := 2) hr (pv 2) ((de_var (pv 4)).peek) (fun _ _ => rfl)))))))))
abbrev st_joined : Stmt := top 46
theorem sc_joined : FnScope ["one", "other"] ["one", "other"] (defScope st_joined) := ⟨rfl, rfl, rfl, by decide +kernel, rfl, by decide +kernel, by decide +kernel⟩
theorem ok_joined {f : Addr} {fd : FuncData} (F : Fun K "joined" "joined" st_joined f fd) (hm : mg "joined" = some (.ref f)) (B : Bi K T mg) (G_asked_words : FD P w K mg base T "asked_words" 4 1 false D_asked_words) (G_joined_of : FD P w K mg base T "joined_of" 1 2 true D_joined_of) : FD P w K mg base T "joined" 5 2 true D_joined := by
  have sc := sc_joined
  refine FD.of0 (fn_ok (body := B_joined) F sc fun cdv A outer s H E S0 hr => ?_) hm F.kp (F.binds (ps := ["one", "other"]) fun _ _ _ _ _ _ us hl => match us, hl with | [_, _], _ => rfl)
  exact (db_cons (ds_expr (m := false) (de_call G_asked_words (hr.mono (by decide)) (by rfl) (da_cons ((de_var (pv 0)).peek) da_nil)))
   (db_cons (ds_expr (m := false) (de_call G_asked_words (hr.mono (by decide)) (by rfl) (da_cons ((de_var (pv 1)).peek) da_nil)))
   (db_one (ds_retF (fe_call G_joined_of (hr.mono (by decide)) (by rfl) (da_cons ((de_var (pv 0))) (da_cons ((de_var (pv 1))) da_nil)))))))
abbrev st_counts_of : Stmt := top 47
theorem sc_counts_of : FnScope ["words", "found", "word"] ["words"] (defScope st_counts_of) := ⟨rfl, rfl, rfl, by decide +kernel, rfl, by decide +kernel, by decide +kernel⟩
theorem ok_counts_of {f : Addr} {fd : FuncData} (F : Fun K "counts_of" "counts_of" st_counts_of f fd) (hm : mg "counts_of" = some (.ref f)) (B : Bi K T mg) (G_joined_of : FD P w K mg base T "joined_of" 1 2 true D_joined_of) : FD P w K mg base T "counts_of" 2 1 false D_counts_of := by
  have sc := sc_counts_of
  refine FD.of0 (fn_ok (body := B_counts_of) F sc fun cdv A outer s H E S0 hr => ?_) hm F.kp (F.binds (ps := ["words"]) fun _ _ _ _ _ _ us hl => match us, hl with | [_], _ => rfl)
  exact (db_cons (ds_set (i := 1) sc.nd rfl (.inl rfl) se_od0)
   (db_cons (ds_for PassesOwn.never rfl (di_seq (FE.de (m := true) (fe_call G_joined_of (hr.mono (by decide)) (by rfl) (da_cons ((de_var (pv 0))) (da_cons (FE.de (m := true) (fe_lst da_nil)) da_nil))))) (dg_name (i := 2) sc.nd rfl (.inl rfl))
   (db_cons (ds_if (dt_cmp (m := false) (m' := false) (cmp_eq hr) (de_idx (m := false) (m' := false) ((de_var (pv 2)).peek) de_int (fun _ _ => rfl)) de_str (nomark _))
   (db_one (ds_putD (m := false) (k := 1) hr (pv 1) (de_sl ((de_var (pv 2)).peek) (do_so (m := false) de_int) (do_so (m := false) de_int)) (de_sub (m := true) (m' := true) (de_get2 (m := false) (k := 1) hr (pv 1) (de_sl ((de_var (pv 2)).peek) (do_so (m := false) de_int) (do_so (m := false) de_int)) de_int ⟨rfl, rfl, rfl, rfl⟩) (de_idx (m := true) (m' := false) ((de_var (pv 2))) de_int (fun _ _ => rfl)))))
   db_nil)
   (db_one (ds_if ((dw_and (dt_cmp (m := false) (m' := false) (cmp_eq hr) (de_idx (m := false) (m' := false) ((de_var (pv 2)).peek) de_int (fun _ _ => rfl)) de_str (nomark _)) (dw_and1 (dt_cmp (m := false) (m' := false) (cmp_notIn hr) (de_tup (da_cons de_str (da_cons (de_idx (m := false) (m' := false) ((de_var (pv 2)).peek) de_int (fun _ _ => rfl)) (da_cons (de_idx (m := false) (m' := false) ((de_var (pv 2)).peek) de_int (fun _ _ => rfl)) da_nil)))) ((de_var (pv 0)).peek) rfl)))).dt
   (db_one (ds_putD (m := false) (k := 1) hr (pv 1) (de_sl ((de_var (pv 2)).peek) (do_so (m := false) de_int) (do_so (m := false) de_int)) (de_add (m := true) (de_get2 (m := false) (k := 1) hr (pv 1) (de_sl ((de_var (pv 2)).peek) (do_so (m := false) de_int) (do_so (m := false) de_int)) de_int ⟨rfl, rfl, rfl, rfl⟩) (de_idx (m := true) (m' := false) ((de_var (pv 2))) de_int (fun _ _ => rfl)))))
   db_nil))))
   (db_one (ds_ret (m := false) ((de_pk (pv 1)))))))
abbrev st_left : Stmt := top 48
theorem sc_left : FnScope ["words", "counts", "key"] ["words"] (defScope st_left) := ⟨rfl, rfl, rfl, by decide +kernel, rfl, by decide +kernel, by decide +kernel⟩
theorem ok_left {f : Addr} {fd : FuncData} (F : Fun K "left" "left" st_left f fd) (hm : mg "left" = some (.ref f)) (B : Bi K T mg) (G_asked_words : FD P w K mg base T "asked_words" 4 1 false D_asked_words) (G_counts_of : FD P w K mg base T "counts_of" 2 1 false D_counts_of) : FD P w K mg base T "left" 5 1 true D_left := by
  have sc := sc_left
  refine FD.of0 (fn_ok (body := B_left) F sc fun cdv A outer s H E S0 hr => ?_) hm F.kp (F.binds (ps := ["words"]) fun _ _ _ _ _ _ us hl => match us, hl with | [_], _ => rfl)
  exact (db_cons (ds_expr (m := false) (de_call G_asked_words (hr.mono (by decide)) (by rfl) (da_cons ((de_var (pv 0)).peek) da_nil)))
   (db_cons (ds_set (i := 1) sc.nd rfl (.inr rfl) (DE.se (de_call G_counts_of (hr.mono (by decide)) (by rfl) (da_cons ((de_var (pv 0))) da_nil))))
   (db_one (ds_retF (fe_lc (own := [("key", 2)]) rfl sc.nd (DI.c (di_seq (FE.de (m := true) (fe_sorted hr (by rfl) B.b_sorted (FE.de (m := true) (fe_listD (m := false) rfl (by rfl) B.b_list ((de_var (pv 1)).peek))))))) (blkOk_by (own := [("key", 2)]) (N := ["words", "counts", "key"]) (sc := defScope st_left) (by decide +kernel)) (by decide) (fun _ _ _ _ _ => (dg_name (i := 2) sc.nd rfl (.inl rfl))) (fun _ _ _ _ _ => (dts_one (dt_cmp (m := false) (m' := false) cmp_gt (de_getS (m := false) (m' := false) hr ((de_var (pv 1)).peek) ((de_var (pv 2)).peek) (fun _ _ => rfl)) de_int (nomark _)))) (fun _ _ _ _ _ => (de_add (m := true) ((de_var (pv 2))) (de_tup (da_cons (de_getS (m := true) (m' := false) hr ((de_var (pv 1))) ((de_var (pv 2)).peek) (fun _ _ => rfl)) da_nil)))))))))
abbrev st_over : Stmt := top 49
theorem sc_over : FnScope ["words", "counts", "key"] ["words"] (defScope st_over) := ⟨rfl, rfl, rfl, by decide +kernel, rfl, by decide +kernel, by decide +kernel⟩
theorem ok_over {f : Addr} {fd : FuncData} (F : Fun K "over" "over" st_over f fd) (hm : mg "over" = some (.ref f)) (B : Bi K T mg) (G_asked_words : FD P w K mg base T "asked_words" 4 1 false D_asked_words) (G_counts_of : FD P w K mg base T "counts_of" 2 1 false D_counts_of) : FD P w K mg base T "over" 5 1 true D_over := by
  have sc := sc_over
  refine FD.of0 (fn_ok (body := B_over) F sc fun cdv A outer s H E S0 hr => ?_) hm F.kp (F.binds (ps := ["words"]) fun _ _ _ _ _ _ us hl => match us, hl with | [_], _ => rfl)
  exact (db_cons (ds_expr (m := false) (de_call G_asked_words (hr.mono (by decide)) (by rfl) (da_cons ((de_var (pv 0)).peek) da_nil)))
   (db_cons (ds_set (i := 1) sc.nd rfl (.inr rfl) (DE.se (de_call G_counts_of (hr.mono (by decide)) (by rfl) (da_cons ((de_var (pv 0))) da_nil))))
   (db_one (ds_retF (fe_lc (own := [("key", 2)]) rfl sc.nd (DI.c (di_seq (FE.de (m := true) (fe_sorted hr (by rfl) B.b_sorted (FE.de (m := true) (fe_listD (m := false) rfl (by rfl) B.b_list ((de_var (pv 1)).peek))))))) (blkOk_by (own := [("key", 2)]) (N := ["words", "counts", "key"]) (sc := defScope st_over) (by decide +kernel)) (by decide) (fun _ _ _ _ _ => (dg_name (i := 2) sc.nd rfl (.inl rfl))) (fun _ _ _ _ _ => (dts_one (dt_cmp (m := false) (m' := false) cmp_lt (de_getS (m := false) (m' := false) hr ((de_var (pv 1)).peek) ((de_var (pv 2)).peek) (fun _ _ => rfl)) de_int (nomark _)))) (fun _ _ _ _ _ => (de_add (m := true) ((de_var (pv 2))) (de_tup (da_cons (de_neg (de_getS (m := true) (m' := false) hr ((de_var (pv 1))) ((de_var (pv 2)).peek) (fun _ _ => rfl))) da_nil)))))))))
abbrev st_places_left : Stmt := top 50
theorem sc_places_left : FnScope ["words", "row"] ["words"] (defScope st_places_left) := ⟨rfl, rfl, rfl, by decide +kernel, rfl, by decide +kernel, by decide +kernel⟩
theorem ok_places_left {f : Addr} {fd : FuncData} (F : Fun K "places_left" "places_left" st_places_left f fd) (hm : mg "places_left" = some (.ref f)) (B : Bi K T mg) (G_left : FD P w K mg base T "left" 5 1 true D_left) : FD P w K mg base T "places_left" 6 1 true D_places_left := by
  have sc := sc_places_left
  refine FD.of0 (fn_ok (body := B_places_left) F sc fun cdv A outer s H E S0 hr => ?_) hm F.kp (F.binds (ps := ["words"]) fun _ _ _ _ _ _ us hl => match us, hl with | [_], _ => rfl)
  exact (db_one (ds_retF (fe_sortSet (m := true) (by rfl) B.b_sorted (by rfl) B.b_set (FE.de (m := true) (fe_lc (own := [("row", 1)]) rfl sc.nd (DI.c (di_seq (FE.de (m := true) (fe_call G_left (hr.mono (by decide)) (by rfl) (da_cons ((de_var (pv 0))) da_nil))))) (blkOk_by (own := [("row", 1)]) (N := ["words", "row"]) (sc := defScope st_places_left) (by decide +kernel)) (by decide) (fun _ _ _ _ _ => (dg_name (i := 1) sc.nd rfl (.inl rfl))) (fun _ _ _ _ _ => dts_nil) (fun _ _ _ _ _ => (de_idx (m := true) (m' := false) ((de_var (pv 1))) de_int (fun _ _ => rfl))))))))
abbrev st_asked_all : Stmt := top 56
theorem sc_asked_all : FnScope ["shop", "till", "places"] ["shop", "till", "places"] (defScope st_asked_all) := ⟨rfl, rfl, rfl, by decide +kernel, rfl, by decide +kernel, by decide +kernel⟩
theorem ok_asked_all {f : Addr} {fd : FuncData} (F : Fun K "asked_all" "asked_all" st_asked_all f fd) (hm : mg "asked_all" = some (.ref f)) (B : Bi K T mg) (G_asked_shop : FD P w K mg base T "asked_shop" 3 1 false D_asked_shop) (G_asked_till : FD P w K mg base T "asked_till" 3 2 false D_asked_till) (G_asked_places : FD P w K mg base T "asked_places" 3 2 false D_asked_places) : FD P w K mg base T "asked_all" 4 3 false D_asked_all := by
  have sc := sc_asked_all
  refine FD.of0 (fn_ok (body := B_asked_all) F sc fun cdv A outer s H E S0 hr => ?_) hm F.kp (F.binds (ps := ["shop", "till", "places"]) fun _ _ _ _ _ _ us hl => match us, hl with | [_, _, _], _ => rfl)
  exact (db_cons (ds_expr (m := false) (de_call G_asked_shop (hr.mono (by decide)) (by rfl) (da_cons ((de_var (pv 0)).peek) da_nil)))
   (db_cons (ds_expr (m := false) (de_call G_asked_till (hr.mono (by decide)) (by rfl) (da_cons ((de_var (pv 0)).peek) (da_cons ((de_var (pv 1)).peek) da_nil))))
   (db_one (ds_expr (m := false) (de_call G_asked_places (hr.mono (by decide)) (by rfl) (da_cons ((de_var (pv 0)).peek) (da_cons ((de_var (pv 2)).peek) da_nil)))))))
abbrev st_way : Stmt := top 57
theorem sc_way : FnScope ["shop", "till", "places", "often", "branches", "many", "at", "here", "found", "place"] ["shop", "till", "places"] (defScope st_way) := ⟨rfl, rfl, rfl, by decide +kernel, rfl, by decide +kernel, by decide +kernel⟩
theorem ok_way {f : Addr} {fd : FuncData} (F : Fun K "way" "way" st_way f fd) (hm : mg "way" = some (.ref f)) (B : Bi K T mg) (G_asked_all : FD P w K mg base T "asked_all" 4 3 false D_asked_all) (G_must_of : FD P w K mg base T "must_of" 2 3 true D_must_of) : FD P w K mg base T "way" 5 3 true D_way := by
  have sc := sc_way
  refine FD.of0 (fn_ok (body := B_way) F sc fun cdv A outer s H E S0 hr => ?_) hm F.kp (F.binds (ps := ["shop", "till", "places"]) fun _ _ _ _ _ _ us hl => match us, hl with | [_, _, _], _ => rfl)
  exact (db_cons (ds_expr (m := false) (de_call G_asked_all (hr.mono (by decide)) (by rfl) (da_cons ((de_var (pv 0)).peek) (da_cons ((de_var (pv 1)).peek) (da_cons ((de_var (pv 2)).peek) da_nil)))))
   (db_cons (ds_set (i := 3) sc.nd rfl (.inl rfl) (DE.se (FE.de (m := true) (fe_call G_must_of (hr.mono (by decide)) (by rfl) (da_cons ((de_var (pv 0))) (da_cons ((de_var (pv 1))) (da_cons ((de_var (pv 2))) da_nil)))))))
   (db_cons (ds_setLL (i := 4) (j := 9) (own := [("place", 9)]) rfl sc.nd rfl rfl (sw_true rfl rfl rfl (by decide +kernel)) (DI.c (di_range1 (m := false) (by rfl) B.b_range (da_cons (de_add (m := false) (de_bi (m := false) (mo := false) bi_len (by rfl) B.b_len (by decide +kernel) (da_cons ((de_var (pv 0)).peek) da_nil)) de_int) da_nil))) (blkOk_by (own := [("place", 9)]) (N := ["shop", "till", "places", "often", "branches", "many", "at", "here", "found", "place"]) (sc := defScope st_way) (by decide +kernel)) (by decide) (fun _ _ _ _ _ => (dg_name (i := 9) sc.nd rfl (.inl rfl))))
   (db_cons (ds_for PassesOwn.never rfl (di_seq (de_tup (da_cons de_int (da_cons de_int da_nil)))) (dg_name (i := 5) sc.nd rfl (.inl rfl))
   (db_one (ds_for PassesOwn.never rfl (di_range3 (m := false) (by rfl) B.b_range (da_cons (de_bi (m := false) (mo := false) bi_len (by rfl) B.b_len (by decide +kernel) (da_cons ((de_var (pv 0)).peek) da_nil)) (da_cons de_int (da_cons (de_neg de_int) da_nil)))) (dg_name (i := 6) sc.nd rfl (.inl rfl))
   (db_one (ds_if (dt_cmp (m := false) (m' := false) (cmp_eq hr) (de_idx (m := false) (m' := false) ((de_var (pv 3)).peek) (de_sub (m := false) (m' := false) ((de_var (pv 6)).peek) de_int) (fun _ _ => rfl)) ((de_var (pv 5)).peek) (nomark _))
   (db_one (ds_appI (m := false) (k := 4) (fun _ _ h1 h2 => pe_bm PySem.F.plainAttrs_list PySem.F.slot_list_append PySem.F.type_list_append mt_append h1 (pa_cons h2 pa_nil)) (pv 4) (de_idx (m := false) (m' := false) (de_idx (m := false) (m' := false) ((de_var (pv 0)).peek) (de_sub (m := false) (m' := false) ((de_var (pv 6)).peek) de_int) (fun _ _ => rfl)) de_int (fun _ _ => rfl)) (fun _ _ => rfl) ((de_var (pv 6)))))
   db_nil)))))
   (db_cons (ds_par (i := 7) (j := 8) rfl sc.nd rfl rfl (by decide) rfl rfl (DE.se de_int) (FE.se (fe_lst (da_cons de_int da_nil))) (by rfl))
   (db_one (ds_while (n := fuel) PassesOwn.never (dt_val (m := false) de_bl)
   (db_cons (ds_if (dt_cmp (m := false) (m' := false) (cmp_ne hr) (de_idx (m := false) (m' := false) ((de_pk (pv 4))) ((de_var (pv 7)).peek) (fun _ _ => rfl)) (de_lstP (m := false) da_nil) (nomark _))
   (db_one (ds_popI (m := false) (y := 7) (k := 4) sc.nd rfl (.inl rfl) (by decide) (fun _ h => pe_bm0 PySem.F.plainAttrs_list PySem.F.slot_list_pop PySem.F.type_list_pop mt_pop h) (pv 4) ((de_var (pv 7)).peek) (fun _ _ => rfl)))
   (db_one (ds_if ((dw_and (dt_cmp (m := false) (m' := false) cmp_gt ((de_var (pv 7)).peek) de_int (nomark _)) (dw_and1 (dt_cmp (m := false) (m' := false) (cmp_eq hr) (de_idx (m := false) (m' := false) ((de_var (pv 3)).peek) (de_sub (m := false) (m' := false) ((de_var (pv 7)).peek) de_int) (fun _ _ => rfl)) de_int (nomark _))))).dt
   (db_one (ds_set (i := 7) sc.nd rfl (.inl rfl) (DE.se (de_idx (m := true) (m' := false) (de_idx (m := true) (m' := false) ((de_var (pv 0))) (de_sub (m := false) (m' := false) ((de_var (pv 7)).peek) de_int) (fun _ _ => rfl)) de_int (fun _ _ => rfl)))))
   (db_one (ds_retO (pv 8))))))
   (db_one (ds_app (i := 8) (fun _ h => pe_bm PySem.F.plainAttrs_list PySem.F.slot_list_append PySem.F.type_list_append mt_append (pv 8) (pa_cons h pa_nil)) ((de_var (pv 7)))))))))))))
abbrev st_is_walk : Stmt := top 58
theorem sc_is_walk : FnScope ["shop", "till", "thing", "at", "near", "far", "one"] ["shop", "till", "thing"] (defScope st_is_walk) := ⟨rfl, rfl, rfl, by decide +kernel, rfl, by decide +kernel, by decide +kernel⟩
theorem ok_is_walk {f : Addr} {fd : FuncData} (F : Fun K "is_walk" "is_walk" st_is_walk f fd) (hm : mg "is_walk" = some (.ref f)) (B : Bi K T mg) (G_is_place : FD P w K mg base T "is_place" 2 2 false D_is_place) : FD P w K mg base T "is_walk" 3 3 false D_is_walk := by
  have sc := sc_is_walk
  obtain ⟨_, e_c_MOST_WALK⟩ := B.c_MOST_WALK
  refine FD.of0 (fn_ok (body := B_is_walk) F sc fun cdv A outer s H E S0 hr => ?_) hm F.kp (F.binds (ps := ["shop", "till", "thing"]) fun _ _ _ _ _ _ us hl => match us, hl with | [_, _, _], _ => rfl)
  exact (db_cons (ds_if ((dw_or (dt_not (dt_val (m := false) (de_isi (m := false) (T := "list") (by rfl) B.b_isinstance ((de_var (pv 2)).peek) (pe_bltn (v := .ty "list") (by rfl) B.b_list (by decide +kernel) rfl)))) (dw_or1 (dt_not (dt_chain (m := false) (m' := false) (m'' := false) cmp_le cmp_le de_int (de_bi (m := false) (mo := false) bi_len (by rfl) B.b_len (by decide +kernel) (da_cons ((de_var (pv 2)).peek) da_nil)) ((de_gint (by rfl) e_c_MOST_WALK))))))).dt
   (db_one (ds_ret (m := false) de_bl))
   db_nil)
   (db_cons (ds_if (dt_not (dt_val (m := false) (de_bi (m := false) (mo := false) bi_all (by rfl) B.b_all (by decide +kernel) (da_cons (FE.de (m := false) (fe_lc (own := [("one", 6)]) rfl sc.nd (DI.c (di_seq ((de_var (pv 2))))) (blkOk_by (own := [("one", 6)]) (N := ["shop", "till", "thing", "at", "near", "far", "one"]) (sc := defScope st_is_walk) (by decide +kernel)) (by decide) (fun _ _ _ _ _ => (dg_name (i := 6) sc.nd rfl (.inl rfl))) (fun _ _ _ _ _ => dts_nil) (fun _ _ _ _ _ => (de_call G_is_place (hr.mono (by decide)) (by rfl) (da_cons ((de_var (pv 0))) (da_cons ((de_var (pv 6))) da_nil)))))) da_nil))))
   (db_one (ds_ret (m := false) de_bl))
   db_nil)
   (db_cons (ds_if ((dw_or (dt_cmp (m := false) (m' := false) (cmp_ne hr) (de_idx (m := false) (m' := false) ((de_var (pv 2)).peek) de_int (fun _ _ => rfl)) de_int (nomark _)) (dw_or1 (dt_cmp (m := false) (m' := false) (cmp_ne hr) (de_idx (m := false) (m' := false) ((de_var (pv 2)).peek) (de_neg de_int) (fun _ _ => rfl)) ((de_var (pv 1)).peek) (nomark _))))).dt
   (db_one (ds_ret (m := false) de_bl))
   db_nil)
   (db_cons (ds_for PassesOwn.never rfl (di_range2 (m := false) (by rfl) B.b_range (da_cons de_int (da_cons (de_bi (m := false) (mo := false) bi_len (by rfl) B.b_len (by decide +kernel) (da_cons ((de_var (pv 2)).peek) da_nil)) da_nil))) (dg_name (i := 3) sc.nd rfl (.inl rfl))
   (db_cons (ds_unp (FE.de (m := true) (fe_sorted hr (by rfl) B.b_sorted (FE.de (m := true) (fe_lst (da_cons (de_idx (m := true) (m' := false) ((de_var (pv 2))) (de_sub (m := false) (m' := false) ((de_var (pv 3)).peek) de_int) (fun _ _ => rfl)) (da_cons (de_idx (m := true) (m' := false) ((de_var (pv 2))) ((de_var (pv 3)).peek) (fun _ _ => rfl)) da_nil)))))) (dg_twoL (i := 4) (j := 5) rfl sc.nd rfl rfl (.inl rfl) (.inl rfl)))
   (db_one (ds_if ((dw_or (dt_cmp (m := false) (m' := false) (cmp_eq hr) ((de_var (pv 4)).peek) ((de_var (pv 5)).peek) (nomark _)) (dw_or1 (dt_cmp (m := false) (m' := false) (cmp_ne hr) (de_idx (m := false) (m' := false) (de_idx (m := false) (m' := false) ((de_var (pv 0)).peek) (de_sub (m := false) (m' := false) ((de_var (pv 5)).peek) de_int) (fun _ _ => rfl)) de_int (fun _ _ => rfl)) ((de_var (pv 4)).peek) (nomark _))))).dt
   (db_one (ds_ret (m := false) de_bl))
   db_nil))))
   (db_one (ds_ret (m := false) de_bl))))))
abbrev st_judged : Stmt := top 59
theorem sc_judged : FnScope ["shop", "till", "places", "walk", "missed", "more", "gone", "often", "place", "at"] ["shop", "till", "places", "walk"] (defScope st_judged) := ⟨rfl, rfl, rfl, by decide +kernel, rfl, by decide +kernel, by decide +kernel⟩
theorem ok_judged {f : Addr} {fd : FuncData} (F : Fun K "judged" "judged" st_judged f fd) (hm : mg "judged" = some (.ref f)) (B : Bi K T mg) (G_asked_all : FD P w K mg base T "asked_all" 4 3 false D_asked_all) (G_is_walk : FD P w K mg base T "is_walk" 3 3 false D_is_walk) (G_Missed___init__ : IniOk P w K mg base T 2 1 1) (G_gone_of : FD P w K mg base T "gone_of" 1 2 true D_gone_of) (G_must_of : FD P w K mg base T "must_of" 2 3 true D_must_of) (G_Longer___init__ : IniOk P w K mg base T 3 1 1) : FD P w K mg base T "judged" 5 4 true D_judged := by
  have sc := sc_judged
  refine FD.of0 (fn_ok (body := B_judged) F sc fun cdv A outer s H E S0 hr => ?_) hm F.kp (F.binds (ps := ["shop", "till", "places", "walk"]) fun _ _ _ _ _ _ us hl => match us, hl with | [_, _, _, _], _ => rfl)
  exact (db_cons (ds_expr (m := false) (de_call G_asked_all (hr.mono (by decide)) (by rfl) (da_cons ((de_var (pv 0)).peek) (da_cons ((de_var (pv 1)).peek) (da_cons ((de_var (pv 2)).peek) da_nil)))))
   (db_cons (ds_if (dt_not (dt_val (m := false) (de_call G_is_walk (hr.mono (by decide)) (by rfl) (da_cons ((de_var (pv 0)).peek) (da_cons ((de_var (pv 1)).peek) (da_cons ((de_var (pv 3)).peek) da_nil))))))
   (db_one ds_never)
   db_nil)
   (db_cons (ds_setLc (i := 4) (md := false) (own := [("place", 8)]) rfl sc.nd rfl rfl (sw_true rfl rfl rfl (by decide +kernel)) (DI.c (di_seq ((de_var (pv 2))))) (blkOk_by (own := [("place", 8)]) (N := ["shop", "till", "places", "walk", "missed", "more", "gone", "often", "place", "at"]) (sc := defScope st_judged) (by decide +kernel)) (by decide) (fun _ _ _ _ _ => (dg_name (i := 8) sc.nd rfl (.inl rfl))) (fun _ _ _ _ _ => (dts_one (dt_cmp (m := false) (m' := false) (cmp_notIn hr) ((de_var (pv 8)).peek) ((de_var (pv 3)).peek) rfl))) (fun _ _ _ _ _ => ((de_var (pv 8)))))
   (db_cons (ds_if (dt_cmp (m := false) (m' := false) (cmp_ne hr) ((de_var (pv 4)).peek) (de_lstP (m := false) da_nil) (nomark _))
   (db_one (ds_retOb (oe_make G_Missed___init__ (hr.mono (by decide)) (by rfl) B.k_Missed (da_cons (de_idx (m := true) (m' := false) ((de_var (pv 4))) de_int (fun _ _ => rfl)) da_nil))))
   db_nil)
   (db_cons (ds_parT (i := 6) (j := 7) rfl sc.nd rfl rfl (by decide) (.inr rfl) (.inr rfl) (DE.se (FE.de (m := true) (fe_call G_gone_of (hr.mono (by decide)) (by rfl) (da_cons ((de_var (pv 0))) (da_cons ((de_var (pv 3))) da_nil))))) (DE.se (FE.de (m := true) (fe_call G_must_of (hr.mono (by decide)) (by rfl) (da_cons ((de_var (pv 0))) (da_cons ((de_var (pv 1))) (da_cons ((de_var (pv 2))) da_nil)))))) (by rfl))
   (db_cons (ds_setLc (i := 5) (md := false) (own := [("at", 9)]) rfl sc.nd rfl rfl (sw_true rfl rfl rfl (by decide +kernel)) (DI.c (di_range1 (m := false) (by rfl) B.b_range (da_cons (de_bi (m := false) (mo := false) bi_len (by rfl) B.b_len (by decide +kernel) (da_cons ((de_var (pv 0)).peek) da_nil)) da_nil))) (blkOk_by (own := [("at", 9)]) (N := ["shop", "till", "places", "walk", "missed", "more", "gone", "often", "place", "at"]) (sc := defScope st_judged) (by decide +kernel)) (by decide) (fun _ _ _ _ _ => (dg_name (i := 9) sc.nd rfl (.inl rfl))) (fun _ _ _ _ _ => (dts_one (dt_cmp (m := false) (m' := false) cmp_gt (de_idx (m := false) (m' := false) ((de_var (pv 6)).peek) ((de_var (pv 9)).peek) (fun _ _ => rfl)) (de_idx (m := false) (m' := false) ((de_var (pv 7)).peek) ((de_var (pv 9)).peek) (fun _ _ => rfl)) (nomark _)))) (fun _ _ _ _ _ => (de_add (m := true) ((de_var (pv 9))) de_int)))
   (db_one (ds_retOb (oe_if (dt_cmp (m := false) (m' := false) (cmp_ne hr) ((de_var (pv 5)).peek) (de_lstP (m := false) da_nil) (nomark _)) (oe_make G_Longer___init__ (hr.mono (by decide)) (by rfl) B.k_Longer (da_cons (de_idx (m := true) (m' := false) ((de_var (pv 5))) de_int (fun _ _ => rfl)) da_nil)) (oe_make0 B.n_Shortest (by rfl) B.k_Shortest))))))))))
abbrev st_split : Stmt := top 60
theorem sc_split : FnScope ["shop", "till", "places", "best", "mark", "who", "ways", "at", "hand", "place", "one"] ["shop", "till", "places"] (defScope st_split) := ⟨rfl, rfl, rfl, by decide +kernel, rfl, by decide +kernel, by decide +kernel⟩
theorem ok_split {f : Addr} {fd : FuncData} (F : Fun K "split" "split" st_split f fd) (hm : mg "split" = some (.ref f)) (B : Bi K T mg) (G_asked_all : FD P w K mg base T "asked_all" 4 3 false D_asked_all) (G_least_of : FD P w K mg base T "least_of" 3 3 false D_least_of) : FD P w K mg base T "split" 5 3 true D_split := by
  have sc := sc_split
  obtain ⟨_, e_c_MOST_SPLIT⟩ := B.c_MOST_SPLIT
  refine FD.of0 (fn_ok (body := B_split) F sc fun cdv A outer s H E S0 hr => ?_) hm F.kp (F.binds (ps := ["shop", "till", "places"]) fun _ _ _ _ _ _ us hl => match us, hl with | [_, _, _], _ => rfl)
  exact (db_cons (ds_expr (m := false) (de_call G_asked_all (hr.mono (by decide)) (by rfl) (da_cons ((de_var (pv 0)).peek) (da_cons ((de_var (pv 1)).peek) (da_cons ((de_var (pv 2)).peek) da_nil)))))
   (db_cons (ds_if (dt_cmp (m := false) (m' := false) cmp_gt (de_bi (m := false) (mo := false) bi_len (by rfl) B.b_len (by decide +kernel) (da_cons ((de_var (pv 2)).peek) da_nil)) ((de_gint (by rfl) e_c_MOST_SPLIT)) (nomark _))
   (db_one ds_never)
   db_nil)
   (db_cons (ds_set (i := 3) sc.nd rfl (.inl rfl) (DE.se de_non))
   (db_cons (ds_for PassesOwn.never rfl (di_range1 (m := false) (by rfl) B.b_range (da_cons (de_shl (m := false) (m' := false) de_int (de_bi (m := false) (mo := false) bi_len (by rfl) B.b_len (by decide +kernel) (da_cons ((de_var (pv 2)).peek) da_nil))) da_nil)) (dg_name (i := 4) sc.nd rfl (.inr rfl))
   (db_cons (ds_set (i := 5) sc.nd rfl (.inr rfl) (FE.seN (fe_lc (own := [("at", 7)]) rfl sc.nd (DI.c (di_range1 (m := false) (by rfl) B.b_range (da_cons (de_bi (m := false) (mo := false) bi_len (by rfl) B.b_len (by decide +kernel) (da_cons ((de_var (pv 2)).peek) da_nil)) da_nil))) (blkOk_by (own := [("at", 7)]) (N := ["shop", "till", "places", "best", "mark", "who", "ways", "at", "hand", "place", "one"]) (sc := defScope st_split) (by decide +kernel)) (by decide) (fun _ _ _ _ _ => (dg_name (i := 7) sc.nd rfl (.inl rfl))) (fun _ _ _ _ _ => dts_nil) (fun _ _ _ _ _ => (de_and (m := true) (m' := true) (de_shr (m := true) (m' := true) ((de_var (pv 4))) (de_sub (m := true) (m' := true) (de_sub (m := true) (m' := true) (de_bi (m := false) (mo := true) bi_len (by rfl) B.b_len (by decide +kernel) (da_cons ((de_var (pv 2)).peek) da_nil)) de_int) ((de_var (pv 7))))) de_int)))))
   (db_cons (ds_setLc (i := 6) (md := false) (own := [("hand", 8)]) rfl sc.nd rfl rfl (sw_true rfl rfl rfl (by decide +kernel)) (DI.c (di_seq (de_tup (da_cons de_int (da_cons de_int da_nil))))) (blkOk_by (own := [("hand", 8)]) (N := ["shop", "till", "places", "best", "mark", "who", "ways", "at", "hand", "place", "one"]) (sc := defScope st_split) (by decide +kernel)) (by decide) (fun _ _ _ _ _ => (dg_name (i := 8) sc.nd rfl (.inr rfl))) (fun _ _ _ _ _ => dts_nil) (fun _ _ _ _ _ => (de_call G_least_of (hr.mono (by decide)) (by rfl) (da_cons ((de_var (pv 0))) (da_cons ((de_var (pv 1))) (da_cons (FE.de (m := true) (fe_lc (own := [("place", 9), ("one", 10)]) rfl sc.nd (DI.c (di_zip (by rfl) B.b_zip (da_cons ((de_var (pv 2))) (da_cons ((de_var (pv 5))) da_nil)))) (blkOk_by (by rfl)) (by decide) (fun _ _ _ _ _ => (dg_two (i := 9) (j := 10) rfl sc.nd rfl rfl (.inl rfl) (.inl rfl))) (fun _ _ _ _ _ => (dts_one (dt_cmp (m := false) (m' := false) (cmp_eq hr) ((de_var (pv 10)).peek) ((de_var (pv 8)).peek) (nomark _)))) (fun _ _ _ _ _ => ((de_var (pv 9)))))) da_nil))))))
   (db_one (ds_if ((dw_or (dt_cmp (m := false) (m' := false) cmp_isN ((de_var (pv 3)).peek) de_non (nomark _)) (dw_or1 (dt_cmp (m := false) (m' := false) cmp_lt (de_bi (m := false) (mo := false) bi_max (by rfl) B.b_max (by decide +kernel) (da_cons ((de_var (pv 6)).peek) da_nil)) (de_idx (m := false) (m' := false) ((de_var (pv 3)).peek) de_int (fun _ _ => rfl)) (nomark _))))).dt
   (db_one (ds_set (i := 3) sc.nd rfl (.inl rfl) (se_tupN (fun _ _ h1 h2 => pa_cons h1 (pa_cons h2 pa_nil)) (de_bi (m := false) (mo := true) bi_max (by rfl) B.b_max (by decide +kernel) (da_cons ((de_var (pv 6)).peek) da_nil)) (pv 5))))
   db_nil)))))
   (db_one (ds_retNw (i := 3) (k := 1) (pv 3) (fun _ _ => rfl)))))))
abbrev st__law_number : Stmt := top 62
theorem sc__law_number : FnScope ["_law_cell", "_law_at", "_law_whole", "_law_blend", "_law_more"] ["_law_cell", "_law_at", "_law_whole"] (defScope st__law_number) := ⟨rfl, rfl, rfl, by decide +kernel, rfl, by decide +kernel, by decide +kernel⟩
theorem ok__law_number {f : Addr} {fd : FuncData} (F : Fun K "_law_number" "_law_number" st__law_number f fd) (hm : mg "_law_number" = some (.ref f)) (B : Bi K T mg)  : FD P w K mg base T "_law_number" 1 3 false D__law_number := by
  have sc := sc__law_number
  refine FD.of0 (fn_ok (body := B__law_number) F sc fun cdv A outer s H E S0 hr => ?_) hm F.kp (F.binds (ps := ["_law_cell", "_law_at", "_law_whole"]) fun _ _ _ _ _ _ us hl => match us, hl with | [_, _, _], _ => rfl)
  exact (db_cons (ds_if (dt_cmp (m := false) (m' := false) cmp_ge ((de_var (pv 0)).peek) (de_pow (m := false) (m' := false) de_int de_int) (nomark _))
   (db_one (ds_ret (m := false) (de_div (m := false) (m' := false) ((de_var (pv 0)).peek) (de_add (m := false) de_int (de_mod (m := false) (m' := false) ((de_var (pv 1)).peek) de_int)))))
   db_nil)
   (db_cons (ds_set (i := 3) sc.nd rfl (.inl rfl) (DE.se (de_mod (m := true) (m' := true) (de_add (m := true) (de_mul (m := true) (m' := true) (de_add (m := true) ((de_var (pv 0))) (de_mul (m := true) (m' := true) de_int ((de_var (pv 1))))) de_int) ((de_var (pv 2)))) de_int)))
   (db_cons (ds_set (i := 4) sc.nd rfl (.inl rfl) (DE.se (de_mul (m := true) (m' := true) ((de_var (pv 3))) (de_add (m := true) (de_add (m := true) ((de_var (pv 0))) (de_mul (m := true) (m' := true) de_int ((de_var (pv 1))))) de_int))))
   (db_one (ds_ret (m := false) (de_div (m := false) (m' := false) (de_mul (m := false) (m' := false) (de_mul (m := false) (m' := false) ((de_var (pv 4)).peek) (de_add (m := false) (de_add (m := false) ((de_var (pv 3)).peek) ((de_var (pv 0)).peek)) de_int)) (de_add (m := false) (de_mul (m := false) (m' := false) ((de_var (pv 3)).peek) ((de_var (pv 3)).peek)) de_int)) (de_add (m := false) de_int ((de_var (pv 1)).peek))))))))
abbrev st__law_shop : Stmt := top 63
theorem sc__law_shop : FnScope ["_law_script", "_law_by", "_law_most", "_law_cells", "_law_kind", "_law_at", "_law_whole", "_law_found", "_law_cell", "_law_number_here", "_law_place"] ["_law_script", "_law_by", "_law_most"] (defScope st__law_shop) := ⟨rfl, rfl, rfl, by decide +kernel, rfl, by decide +kernel, by decide +kernel⟩
theorem ok__law_shop {f : Addr} {fd : FuncData} (F : Fun K "_law_shop" "_law_shop" st__law_shop f fd) (hm : mg "_law_shop" = some (.ref f)) (B : Bi K T mg) (G__law_number : FD P w K mg base T "_law_number" 1 3 false D__law_number) : FD P w K mg base T "_law_shop" 2 3 true D__law_shop := by
  have sc := sc__law_shop
  refine FD.of0 (fn_ok (body := B__law_shop) F sc fun cdv A outer s H E S0 hr => ?_) hm F.kp (F.binds (ps := ["_law_script", "_law_by", "_law_most"]) fun _ _ _ _ _ _ us hl => match us, hl with | [_, _, _], _ => rfl)
  exact (db_cons (ds_set (i := 3) sc.nd rfl (.inl rfl) (DE.se (de_if (dt_cmp (m := false) (m' := false) (cmp_ne hr) ((de_var (pv 0)).peek) (de_lstP (m := false) da_nil) (nomark _)) (de_sl ((de_var (pv 0))) do_no (do_so (m := false) de_int)) (FE.de (m := true) (fe_lst (da_cons de_int da_nil))))))
   (db_cons (ds_par (i := 6) (j := 7) rfl sc.nd rfl rfl (by decide) rfl rfl (DE.se (de_add (m := true) (de_bi (m := false) (mo := true) bi_abs (by rfl) B.b_abs (by decide +kernel) (da_cons (de_bi (m := false) (mo := false) bi_sum (by rfl) B.b_sum (by decide +kernel) (da_cons ((de_var (pv 3)).peek) da_nil)) da_nil)) (de_mul (m := true) (m' := true) de_int ((de_var (pv 1)))))) (FE.se (fe_lst da_nil)) (by rfl))
   (db_cons (ds_set (i := 4) sc.nd rfl (.inl rfl) (DE.se (de_mod (m := true) (m' := true) ((de_var (pv 6))) de_int)))
   (db_cons (ds_for PassesOwn.never rfl (di_range1 (m := false) (by rfl) B.b_range (da_cons (de_mod (m := false) (m' := false) (de_div (m := false) (m' := false) ((de_var (pv 6)).peek) de_int) (de_add (m := false) ((de_var (pv 2)).peek) de_int)) da_nil)) (dg_name (i := 5) sc.nd rfl (.inl rfl))
   (db_cons (ds_set (i := 8) sc.nd rfl (.inl rfl) (DE.se (de_add (m := true) (de_idx (m := true) (m' := false) ((de_var (pv 3))) (de_mod (m := false) (m' := false) (de_add (m := false) ((de_var (pv 5)).peek) ((de_var (pv 1)).peek)) (de_bi (m := false) (mo := false) bi_len (by rfl) B.b_len (by decide +kernel) (da_cons ((de_var (pv 3)).peek) da_nil))) (fun _ _ => rfl)) (de_div (m := true) (m' := true) ((de_var (pv 5))) (de_bi (m := false) (mo := true) bi_len (by rfl) B.b_len (by decide +kernel) (da_cons ((de_var (pv 3)).peek) da_nil))))))
   (db_cons (ds_set (i := 9) sc.nd rfl (.inl rfl) (DE.se (de_div (m := true) (m' := true) (de_bi (m := false) (mo := true) bi_abs (by rfl) B.b_abs (by decide +kernel) (da_cons (de_call G__law_number (hr.mono (by decide)) (by rfl) (da_cons ((de_var (pv 8)).peek) (da_cons (de_add (m := false) ((de_var (pv 5)).peek) ((de_var (pv 1)).peek)) (da_cons ((de_var (pv 6)).peek) da_nil)))) da_nil)) de_int)))
   (db_cons (ds_set (i := 10) sc.nd rfl (.inl rfl) (DE.se (de_idx (m := true) (m' := false) (de_tup (da_cons ((de_var (pv 5))) (da_cons de_int (da_cons (de_mod (m := true) (m' := true) (de_div (m := true) (m' := true) ((de_var (pv 9))) de_int) (de_add (m := true) ((de_var (pv 5))) de_int)) (da_cons (de_bi (m := false) (mo := true) bi_max2 (by rfl) B.b_max (by decide +kernel) (da_cons de_int (da_cons (de_sub (m := false) (m' := false) ((de_var (pv 5)).peek) (de_mod (m := false) (m' := false) (de_div (m := false) (m' := false) ((de_var (pv 9)).peek) de_int) de_int)) da_nil))) da_nil))))) ((de_var (pv 4)).peek) (fun _ _ => rfl))))
   (db_one (ds_app (i := 7) (fun _ h => pe_bm PySem.F.plainAttrs_list PySem.F.slot_list_append PySem.F.type_list_append mt_append (pv 7) (pa_cons h pa_nil)) (de_tup (da_cons ((de_var (pv 10))) (da_cons (de_add (m := true) de_int (de_mod (m := true) (m' := true) ((de_var (pv 9))) de_int)) da_nil)))))))))
   (db_one (ds_retO (pv 7)))))))
abbrev st__law_some : Stmt := top 64
theorem sc__law_some : FnScope ["_law_script", "_law_by", "_law_shop_here", "_law_cells", "_law_whole", "_law_place", "_law_wide", "_law_found", "_law_number_here"] ["_law_script", "_law_by", "_law_shop_here"] (defScope st__law_some) := ⟨rfl, rfl, rfl, by decide +kernel, rfl, by decide +kernel, by decide +kernel⟩
theorem ok__law_some {f : Addr} {fd : FuncData} (F : Fun K "_law_some" "_law_some" st__law_some f fd) (hm : mg "_law_some" = some (.ref f)) (B : Bi K T mg) (G__law_number : FD P w K mg base T "_law_number" 1 3 false D__law_number) : FD P w K mg base T "_law_some" 2 3 false D__law_some := by
  have sc := sc__law_some
  refine FD.of0 (fn_ok (body := B__law_some) F sc fun cdv A outer s H E S0 hr => ?_) hm F.kp (F.binds (ps := ["_law_script", "_law_by", "_law_shop_here"]) fun _ _ _ _ _ _ us hl => match us, hl with | [_, _, _], _ => rfl)
  exact (db_cons (ds_set (i := 3) sc.nd rfl (.inl rfl) (DE.se (de_if (dt_cmp (m := false) (m' := false) (cmp_ne hr) ((de_var (pv 0)).peek) (de_lstP (m := false) da_nil) (nomark _)) (de_sl ((de_var (pv 0))) do_no (do_so (m := false) de_int)) (FE.de (m := true) (fe_lst (da_cons de_int da_nil))))))
   (db_cons (ds_set (i := 4) sc.nd rfl (.inl rfl) (DE.se (de_add (m := true) (de_bi (m := false) (mo := true) bi_abs (by rfl) B.b_abs (by decide +kernel) (da_cons (de_bi (m := false) (mo := false) bi_sum (by rfl) B.b_sum (by decide +kernel) (da_cons ((de_var (pv 3)).peek) da_nil)) da_nil)) (de_mul (m := true) (m' := true) de_int ((de_var (pv 1)))))))
   (db_cons (ds_par (i := 6) (j := 7) rfl sc.nd rfl rfl (by decide) rfl rfl (DE.se (de_idx (m := true) (m' := false) (de_tup (da_cons de_int (da_cons de_int (da_cons de_int (da_cons (de_pow (m := true) (m' := true) de_int de_int) da_nil))))) (de_mod (m := false) (m' := false) (de_div (m := false) (m' := false) ((de_var (pv 4)).peek) de_int) de_int) (fun _ _ => rfl))) (FE.se (fe_lst da_nil)) (by rfl))
   (db_cons (ds_for PassesOwn.never rfl (di_range1 (m := false) (by rfl) B.b_range (da_cons (de_add (m := false) (de_bi (m := false) (mo := false) bi_len (by rfl) B.b_len (by decide +kernel) (da_cons ((de_var (pv 2)).peek) da_nil)) de_int) da_nil)) (dg_name (i := 5) sc.nd rfl (.inl rfl))
   (db_cons (ds_set (i := 8) sc.nd rfl (.inl rfl) (DE.se (de_div (m := true) (m' := true) (de_bi (m := false) (mo := true) bi_abs (by rfl) B.b_abs (by decide +kernel) (da_cons (de_call G__law_number (hr.mono (by decide)) (by rfl) (da_cons (de_add (m := false) (de_idx (m := false) (m' := false) ((de_var (pv 3)).peek) (de_mod (m := false) (m' := false) (de_add (m := false) ((de_var (pv 5)).peek) ((de_var (pv 1)).peek)) (de_bi (m := false) (mo := false) bi_len (by rfl) B.b_len (by decide +kernel) (da_cons ((de_var (pv 3)).peek) da_nil))) (fun _ _ => rfl)) ((de_var (pv 5)).peek)) (da_cons (de_add (m := false) ((de_var (pv 5)).peek) de_int) (da_cons ((de_var (pv 4)).peek) da_nil)))) da_nil)) de_int)))
   (db_one (ds_if (dt_cmp (m := false) (m' := false) (cmp_eq hr) (de_mod (m := false) (m' := false) (de_mod (m := false) (m' := false) ((de_var (pv 8)).peek) (de_pow (m := false) (m' := false) de_int de_int)) ((de_var (pv 6)).peek)) de_int (nomark _))
   (db_one (ds_app (i := 7) (fun _ h => pe_bm PySem.F.plainAttrs_list PySem.F.slot_list_append PySem.F.type_list_append mt_append (pv 7) (pa_cons h pa_nil)) ((de_var (pv 5)))))
   db_nil))))
   (db_one (ds_ret (m := false) (de_tup (da_cons (de_mod (m := false) (m' := false) (de_div (m := false) (m' := false) ((de_var (pv 4)).peek) de_int) (de_add (m := false) (de_bi (m := false) (mo := false) bi_len (by rfl) B.b_len (by decide +kernel) (da_cons ((de_var (pv 2)).peek) da_nil)) de_int)) (da_cons ((de_pk (pv 7))) da_nil)))))))))
abbrev st__law_name : Stmt := top 66
theorem sc__law_name : FnScope ["_law_number_here", "_law_found", "_law_turn"] ["_law_number_here"] (defScope st__law_name) := ⟨rfl, rfl, rfl, by decide +kernel, rfl, by decide +kernel, by decide +kernel⟩
theorem ok__law_name {f : Addr} {fd : FuncData} (F : Fun K "_law_name" "_law_name" st__law_name f fd) (hm : mg "_law_name" = some (.ref f)) (B : Bi K T mg)  : FD P w K mg base T "_law_name" 1 1 false D__law_name := by
  have sc := sc__law_name
  refine FD.of0 (fn_ok (body := B__law_name) F sc fun cdv A outer s H E S0 hr => ?_) hm F.kp (F.binds (ps := ["_law_number_here"]) fun _ _ _ _ _ _ us hl => match us, hl with | [_], _ => rfl)
  exact (db_cons (ds_set (i := 1) sc.nd rfl (.inl rfl) (DE.se de_str))
   (db_cons (ds_for PassesOwn.never rfl (di_range1 (m := false) (by rfl) B.b_range (da_cons (de_add (m := false) de_int (de_mod (m := false) (m' := false) ((de_var (pv 0)).peek) de_int)) da_nil)) (dg_name (i := 2) sc.nd rfl (.inl rfl))
   (db_one (ds_set (i := 1) sc.nd rfl (.inl rfl) (DE.se (de_add (m := true) ((de_var (pv 1))) (de_idx (m := true) (m' := false) de_str (de_mod (m := false) (m' := false) (de_div (m := false) (m' := false) (de_div (m := false) (m' := false) ((de_var (pv 0)).peek) de_int) (de_idx (m := false) (m' := false) (de_tup (da_cons de_int (da_cons de_int (da_cons de_int (da_cons de_int da_nil))))) ((de_var (pv 2)).peek) (fun _ _ => rfl))) de_int) (fun _ _ => rfl)))))))
   (db_one (ds_ret (m := false) ((de_var (pv 1)).peek)))))
abbrev st__law_words : Stmt := top 65
theorem sc__law_words : FnScope ["_law_script", "_law_by", "_law_most", "_law_cells", "_law_at", "_law_whole", "_law_found", "_law_cell", "_law_number_here", "_law_key", "_law_more", "_law_name_here", "_law_rest"] ["_law_script", "_law_by", "_law_most"] (defScope st__law_words) := ⟨rfl, rfl, rfl, by decide +kernel, rfl, by decide +kernel, by decide +kernel⟩
theorem ok__law_words {f : Addr} {fd : FuncData} (F : Fun K "_law_words" "_law_words" st__law_words f fd) (hm : mg "_law_words" = some (.ref f)) (B : Bi K T mg) (G__law_number : FD P w K mg base T "_law_number" 1 3 false D__law_number) (G__law_name : FD P w K mg base T "_law_name" 1 1 false D__law_name) : FD P w K mg base T "_law_words" 2 3 true D__law_words := by
  have sc := sc__law_words
  refine FD.of0 (fn_ok (body := B__law_words) F sc fun cdv A outer s H E S0 hr => ?_) hm F.kp (F.binds (ps := ["_law_script", "_law_by", "_law_most"]) fun _ _ _ _ _ _ us hl => match us, hl with | [_, _, _], _ => rfl)
  exact (db_cons (ds_set (i := 3) sc.nd rfl (.inl rfl) (DE.se (de_if (dt_cmp (m := false) (m' := false) (cmp_ne hr) ((de_var (pv 0)).peek) (de_lstP (m := false) da_nil) (nomark _)) (de_sl ((de_var (pv 0))) do_no (do_so (m := false) de_int)) (FE.de (m := true) (fe_lst (da_cons de_int da_nil))))))
   (db_cons (ds_parT (i := 5) (j := 6) rfl sc.nd rfl rfl (by decide) (.inl rfl) (.inr rfl) (DE.se (de_add (m := true) (de_bi (m := false) (mo := true) bi_abs (by rfl) B.b_abs (by decide +kernel) (da_cons (de_bi (m := false) (mo := false) bi_sum (by rfl) B.b_sum (by decide +kernel) (da_cons ((de_var (pv 3)).peek) da_nil)) da_nil)) (de_mul (m := true) (m' := true) de_int ((de_var (pv 1)))))) se_od0 (by rfl))
   (db_cons (ds_for PassesOwn.never rfl (di_range1 (m := false) (by rfl) B.b_range (da_cons (de_mod (m := false) (m' := false) ((de_var (pv 5)).peek) (de_add (m := false) ((de_var (pv 2)).peek) de_int)) da_nil)) (dg_name (i := 4) sc.nd rfl (.inl rfl))
   (db_cons (ds_set (i := 7) sc.nd rfl (.inl rfl) (DE.se (de_add (m := true) (de_idx (m := true) (m' := false) ((de_var (pv 3))) (de_mod (m := false) (m' := false) (de_add (m := false) ((de_var (pv 4)).peek) ((de_var (pv 1)).peek)) (de_bi (m := false) (mo := false) bi_len (by rfl) B.b_len (by decide +kernel) (da_cons ((de_var (pv 3)).peek) da_nil))) (fun _ _ => rfl)) (de_div (m := true) (m' := true) ((de_var (pv 4))) (de_bi (m := false) (mo := true) bi_len (by rfl) B.b_len (by decide +kernel) (da_cons ((de_var (pv 3)).peek) da_nil))))))
   (db_cons (ds_set (i := 8) sc.nd rfl (.inl rfl) (DE.se (de_div (m := true) (m' := true) (de_bi (m := false) (mo := true) bi_abs (by rfl) B.b_abs (by decide +kernel) (da_cons (de_call G__law_number (hr.mono (by decide)) (by rfl) (da_cons ((de_var (pv 7)).peek) (da_cons (de_add (m := false) ((de_var (pv 4)).peek) ((de_var (pv 1)).peek)) (da_cons ((de_var (pv 5)).peek) da_nil)))) da_nil)) de_int)))
   (db_cons (ds_set (i := 9) sc.nd rfl (.inl rfl) (DE.se (de_tup (da_cons de_str (da_cons (de_mod (m := true) (m' := true) (de_div (m := true) (m' := true) ((de_var (pv 8))) de_int) de_int) (da_cons (de_mod (m := true) (m' := true) (de_div (m := true) (m' := true) ((de_var (pv 8))) de_int) (de_idx (m := true) (m' := false) (de_tup (da_cons de_int (da_cons de_int da_nil))) (de_mod (m := false) (m' := false) (de_div (m := false) (m' := false) ((de_var (pv 5)).peek) de_int) de_int) (fun _ _ => rfl))) da_nil))))))
   (db_cons (ds_if (dt_cmp (m := false) (m' := false) cmp_gt (de_mod (m := false) (m' := false) ((de_var (pv 8)).peek) de_int) de_int (nomark _))
   (db_one (ds_set (i := 9) sc.nd rfl (.inl rfl) (DE.se (de_add (m := true) (de_tup (da_cons de_str da_nil)) (de_sl ((de_var (pv 9))) (do_so (m := false) de_int) do_no)))))
   (db_one (ds_if (dt_cmp (m := false) (m' := false) cmp_gt (de_mod (m := false) (m' := false) ((de_var (pv 8)).peek) de_int) de_int (nomark _))
   (db_one (ds_set (i := 9) sc.nd rfl (.inl rfl) (DE.se (de_add (m := true) (de_tup (da_cons de_str da_nil)) (de_sl ((de_var (pv 9))) (do_so (m := false) de_int) do_no)))))
   db_nil)))
   (db_cons (ds_set (i := 10) sc.nd rfl (.inl rfl) (DE.se (de_div (m := true) (m' := true) ((de_var (pv 8))) de_int)))
   (db_cons (ds_set (i := 11) sc.nd rfl (.inl rfl) (DE.se (de_if (dt_cmp (m := false) (m' := false) cmp_gt (de_mod (m := false) (m' := false) (de_div (m := false) (m' := false) ((de_var (pv 10)).peek) de_int) de_int) de_int (nomark _)) (de_idx (m := true) (m' := false) (de_tup (da_cons de_str (da_cons de_str (da_cons de_str (da_cons de_str (da_cons de_str da_nil)))))) (de_mod (m := false) (m' := false) ((de_var (pv 10)).peek) de_int) (fun _ _ => rfl)) (de_call G__law_name (hr.mono (by decide)) (by rfl) (da_cons (de_div (m := true) (m' := true) ((de_var (pv 10))) de_int) da_nil)))))
   (db_cons (ds_set (i := 12) sc.nd rfl (.inl rfl) (DE.se (de_tup (da_cons ((de_var (pv 11))) (da_cons (de_mod (m := true) (m' := true) (de_div (m := true) (m' := true) ((de_var (pv 10))) de_int) (de_idx (m := true) (m' := false) (de_tup (da_cons de_int (da_cons de_int da_nil))) (de_mod (m := false) (m' := false) (de_div (m := false) (m' := false) ((de_var (pv 10)).peek) de_int) de_int) (fun _ _ => rfl))) (da_cons (de_add (m := true) de_int (de_mod (m := true) (m' := true) (de_div (m := true) (m' := true) ((de_var (pv 10))) de_int) de_int)) da_nil))))))
   (db_one (ds_putD (m := false) (k := 6) hr (pv 6) ((de_var (pv 9)).peek) (de_if (dt_cmp (m := false) (m' := false) (cmp_eq hr) (de_idx (m := false) (m' := false) ((de_var (pv 9)).peek) de_int (fun _ _ => rfl)) de_str (nomark _)) ((de_var (pv 9))) (de_add (m := true) ((de_var (pv 9))) ((de_var (pv 12)))))))))))))))
   (db_one (ds_retF (fe_vals (k := 6) (j := 9) (own := [("_law_key", 9)]) hr rfl sc.nd (by decide) (pv 6) (blkOk_by (own := [("_law_key", 9)]) (N := ["_law_script", "_law_by", "_law_most", "_law_cells", "_law_at", "_law_whole", "_law_found", "_law_cell", "_law_number_here", "_law_key", "_law_more", "_law_name_here", "_law_rest"]) (sc := defScope st__law_words) (by decide +kernel)) rfl (fun _ _ _ _ _ => pg_name sc.nd rfl (.inl rfl)) (fun _ _ _ _ _ => pe_dget (units1 hr) (pv 6) (pv 9) (fun _ _ => rfl))))))))
abbrev st__law_plain : Stmt := top 67
theorem sc__law_plain : FnScope ["_law_thing", "_law_one"] ["_law_thing"] (defScope st__law_plain) := ⟨rfl, rfl, rfl, by decide +kernel, rfl, by decide +kernel, by decide +kernel⟩
theorem okR__law_plain {f : Addr} {fd : FuncData} {k : Nat} {gr : List D → R D} (F : Fun K "_law_plain" "_law_plain" st__law_plain f fd) (hm : mg "_law_plain" = some (.ref f)) (B : Bi K T mg) (Gr : FD P w K mg base T "_law_plain" k 1 false gr) : FD P w K mg base T "_law_plain" (k + 1) 1 false (dFn 2 false (B__law_plain gr)) := by
  have sc := sc__law_plain
  refine FD.of0 (fn_ok (body := B__law_plain gr) F sc fun cdv A outer s H E S0 hr => ?_) hm F.kp (F.binds (ps := ["_law_thing"]) fun _ _ _ _ _ _ us hl => match us, hl with | [_], _ => rfl)
  exact (db_cons (ds_if ((dw_or (dt_val (m := false) (de_isi (m := false) (T := "list") (by rfl) B.b_isinstance ((de_var (pv 0)).peek) (pe_bltn (v := .ty "list") (by rfl) B.b_list (by decide +kernel) rfl))) (dw_or1 (dt_val (m := false) (de_isi (m := false) (T := "tuple") (by rfl) B.b_isinstance ((de_var (pv 0)).peek) (pe_bltn (v := .ty "tuple") (by rfl) B.b_tuple (by decide +kernel) rfl)))))).dt
   (db_one (ds_ret (m := false) (de_bi (m := false) (mo := false) bi_all (by rfl) B.b_all (by decide +kernel) (da_cons (FE.de (m := false) (fe_lc (own := [("_law_one", 1)]) rfl sc.nd (DI.c (di_seq ((de_var (pv 0))))) (blkOk_by (own := [("_law_one", 1)]) (N := ["_law_thing", "_law_one"]) (sc := defScope st__law_plain) (by decide +kernel)) (by decide) (fun _ _ _ _ _ => (dg_name (i := 1) sc.nd rfl (.inl rfl))) (fun _ _ _ _ _ => dts_nil) (fun _ _ _ _ _ => (de_call Gr hr (by rfl) (da_cons ((de_var (pv 1))) da_nil))))) da_nil))))
   db_nil)
   (db_one (ds_ret (m := false) (de_or2 (m := false) (m' := false) (de_cmp (m := false) (m' := false) cmp_isN ((de_var (pv 0)).peek) de_non (nomark _)) (de_or2 (m := false) (m' := false) (de_isi (m := false) (T := "str") (by rfl) B.b_isinstance ((de_var (pv 0)).peek) (pe_bltn (v := .ty "str") (by rfl) B.b_str (by decide +kernel) rfl)) (de_one (de_and2 (m := false) (m' := false) (de_isi (m := false) (T := "int") (by rfl) B.b_isinstance ((de_var (pv 0)).peek) (pe_bltn (v := .ty "int") (by rfl) B.b_int (by decide +kernel) rfl)) (de_one (de_not (m := false) (de_isi (m := false) (T := "bool") (by rfl) B.b_isinstance ((de_var (pv 0)).peek) (pe_bltn (v := .ty "bool") (by rfl) B.b_bool (by decide +kernel) rfl)))))))))))
theorem ok__law_plain {f : Addr} {fd : FuncData} (F : Fun K "_law_plain" "_law_plain" st__law_plain f fd) (hm : mg "_law_plain" = some (.ref f)) (B : Bi K T mg) : FD P w K mg base T "_law_plain" 7 1 false (D__law_plain 6) := by
  exact okR__law_plain F hm B <| okR__law_plain F hm B <| okR__law_plain F hm B <| okR__law_plain F hm B <| okR__law_plain F hm B <| okR__law_plain F hm B <| FD.stuck (k := 0) F sc__law_plain hm F.kp (F.binds (ps := ["_law_thing"]) fun _ _ _ _ _ _ us hl => match us, hl with | [_], _ => rfl) rfl
abbrev st__law_truths : Stmt := top 68
theorem sc__law_truths : FnScope ["_law_things", "_law_one"] ["_law_things"] (defScope st__law_truths) := ⟨rfl, rfl, rfl, by decide +kernel, rfl, by decide +kernel, by decide +kernel⟩
theorem ok__law_truths {f : Addr} {fd : FuncData} (F : Fun K "_law_truths" "_law_truths" st__law_truths f fd) (hm : mg "_law_truths" = some (.ref f)) (B : Bi K T mg)  : FD P w K mg base T "_law_truths" 1 1 false D__law_truths := by
  have sc := sc__law_truths
  refine FD.of0 (fn_ok (body := B__law_truths) F sc fun cdv A outer s H E S0 hr => ?_) hm F.kp (F.binds (ps := ["_law_things"]) fun _ _ _ _ _ _ us hl => match us, hl with | [_], _ => rfl)
  exact (db_one (ds_ret (m := false) (de_bi (m := false) (mo := false) bi_all (by rfl) B.b_all (by decide +kernel) (da_cons (FE.de (m := false) (fe_lc (own := [("_law_one", 1)]) rfl sc.nd (DI.c (di_seq ((de_var (pv 0))))) (blkOk_by (own := [("_law_one", 1)]) (N := ["_law_things", "_law_one"]) (sc := defScope st__law_truths) (by decide +kernel)) (by decide) (fun _ _ _ _ _ => (dg_name (i := 1) sc.nd rfl (.inl rfl))) (fun _ _ _ _ _ => dts_nil) (fun _ _ _ _ _ => (de_isi (m := false) (T := "bool") (by rfl) B.b_isinstance ((de_var (pv 1)).peek) (pe_bltn (v := .ty "bool") (by rfl) B.b_bool (by decide +kernel) rfl))))) da_nil))))
abbrev st_Shortest_shows : Stmt := inClass (top 31) 0
theorem sc_Shortest_shows : FnScope ["self", "shop", "till", "places", "walk", "place"] ["self", "shop", "till", "places", "walk"] (defScope st_Shortest_shows) := ⟨rfl, rfl, rfl, by decide +kernel, rfl, by decide +kernel, by decide +kernel⟩
theorem ok_Shortest_shows {f : Addr} {fd : FuncData} (F : Fun K "shows" "Shortest.shows" st_Shortest_shows f fd) (c1 : Cls K (T.ct 1)) (me : Meth K (T.ct 1) "shows" f) (nf : ("shows" : Str) ∉ T.fl 1) (B : Bi K T mg) (G_gone_of : FD P w K mg base T "gone_of" 1 2 true D_gone_of) (G_must_of : FD P w K mg base T "must_of" 2 3 true D_must_of) : MD P w K mg base T 1 "shows" 3 4 D_Shortest_shows := by
  have sc := sc_Shortest_shows
  refine MD.of0 (fn_ok (fr := false) (body := B_Shortest_shows) F sc fun cdv A outer s H E S0 hr => ?_) c1 me (F.binds (ps := ["self", "shop", "till", "places", "walk"]) fun _ _ _ _ _ _ us hl => match us, hl with | [_, _, _, _, _], _ => rfl) nf
  exact (db_one (ds_ret (m := false) (de_and2 (m := false) (m' := false) (de_bi (m := false) (mo := false) bi_all (by rfl) B.b_all (by decide +kernel) (da_cons (FE.de (m := false) (fe_lc (own := [("place", 5)]) rfl sc.nd (DI.c (di_seq ((de_var (pv 3))))) (blkOk_by (own := [("place", 5)]) (N := ["self", "shop", "till", "places", "walk", "place"]) (sc := defScope st_Shortest_shows) (by decide +kernel)) (by decide) (fun _ _ _ _ _ => (dg_name (i := 5) sc.nd rfl (.inl rfl))) (fun _ _ _ _ _ => dts_nil) (fun _ _ _ _ _ => (de_cmp (m := false) (m' := false) (cmp_in hr) ((de_var (pv 5)).peek) ((de_var (pv 4)).peek) rfl)))) da_nil)) (de_one (de_cmp (m := false) (m' := false) (cmp_eq hr) (FE.de (m := false) (fe_call G_gone_of (hr.mono (by decide)) (by rfl) (da_cons ((de_var (pv 1))) (da_cons ((de_var (pv 4))) da_nil)))) (FE.de (m := false) (fe_call G_must_of (hr.mono (by decide)) (by rfl) (da_cons ((de_var (pv 1))) (da_cons ((de_var (pv 2))) (da_cons ((de_var (pv 3))) da_nil))))) (nomark _))))))
abbrev st_Missed_shows : Stmt := inClass (top 32) 1
theorem sc_Missed_shows : FnScope ["self", "shop", "till", "places", "walk"] ["self", "shop", "till", "places", "walk"] (defScope st_Missed_shows) := ⟨rfl, rfl, rfl, by decide +kernel, rfl, by decide +kernel, by decide +kernel⟩
theorem ok_Missed_shows {f : Addr} {fd : FuncData} (F : Fun K "shows" "Missed.shows" st_Missed_shows f fd) (c1 : Cls K (T.ct 2)) (me : Meth K (T.ct 2) "shows" f) (nf : ("shows" : Str) ∉ T.fl 2) (B : Bi K T mg)  : MD P w K mg base T 2 "shows" 1 4 D_Missed_shows := by
  have sc := sc_Missed_shows
  refine MD.of0 (fn_ok (fr := false) (body := B_Missed_shows) F sc fun cdv A outer s H E S0 hr => ?_) c1 me (F.binds (ps := ["self", "shop", "till", "places", "walk"]) fun _ _ _ _ _ _ us hl => match us, hl with | [_, _, _, _, _], _ => rfl) nf
  exact (db_one (ds_ret (m := false) (de_and2 (m := false) (m' := false) (de_cmp (m := false) (m' := false) (cmp_in hr) (de_fld B.f_place ((de_var (pv 0)).peek)) ((de_var (pv 3)).peek) rfl) (de_one (de_cmp (m := false) (m' := false) (cmp_notIn hr) (de_fld B.f_place ((de_var (pv 0)).peek)) ((de_var (pv 4)).peek) rfl)))))
abbrev st_Longer_shows : Stmt := inClass (top 33) 1
theorem sc_Longer_shows : FnScope ["self", "shop", "till", "places", "walk", "place"] ["self", "shop", "till", "places", "walk"] (defScope st_Longer_shows) := ⟨rfl, rfl, rfl, by decide +kernel, rfl, by decide +kernel, by decide +kernel⟩
theorem ok_Longer_shows {f : Addr} {fd : FuncData} (F : Fun K "shows" "Longer.shows" st_Longer_shows f fd) (c1 : Cls K (T.ct 3)) (me : Meth K (T.ct 3) "shows" f) (nf : ("shows" : Str) ∉ T.fl 3) (B : Bi K T mg) (G_gone_of : FD P w K mg base T "gone_of" 1 2 true D_gone_of) (G_must_of : FD P w K mg base T "must_of" 2 3 true D_must_of) : MD P w K mg base T 3 "shows" 3 4 D_Longer_shows := by
  have sc := sc_Longer_shows
  refine MD.of0 (fn_ok (fr := false) (body := B_Longer_shows) F sc fun cdv A outer s H E S0 hr => ?_) c1 me (F.binds (ps := ["self", "shop", "till", "places", "walk"]) fun _ _ _ _ _ _ us hl => match us, hl with | [_, _, _, _, _], _ => rfl) nf
  exact (db_cons (ds_if ((dw_or (dt_not (dt_val (m := false) (de_bi (m := false) (mo := false) bi_all (by rfl) B.b_all (by decide +kernel) (da_cons (FE.de (m := false) (fe_lc (own := [("place", 5)]) rfl sc.nd (DI.c (di_seq ((de_var (pv 3))))) (blkOk_by (own := [("place", 5)]) (N := ["self", "shop", "till", "places", "walk", "place"]) (sc := defScope st_Longer_shows) (by decide +kernel)) (by decide) (fun _ _ _ _ _ => (dg_name (i := 5) sc.nd rfl (.inl rfl))) (fun _ _ _ _ _ => dts_nil) (fun _ _ _ _ _ => (de_cmp (m := false) (m' := false) (cmp_in hr) ((de_var (pv 5)).peek) ((de_var (pv 4)).peek) rfl)))) da_nil)))) (dw_or1 (dt_not (dt_chain (m := false) (m' := false) (m'' := false) cmp_le cmp_le de_int (de_fld B.f_place ((de_var (pv 0)).peek)) (de_bi (m := false) (mo := false) bi_len (by rfl) B.b_len (by decide +kernel) (da_cons ((de_var (pv 1)).peek) da_nil))))))).dt
   (db_one (ds_ret (m := false) de_bl))
   db_nil)
   (db_one (ds_ret (m := false) (de_cmp (m := false) (m' := false) cmp_gt (de_idx (m := false) (m' := false) (FE.de (m := false) (fe_call G_gone_of (hr.mono (by decide)) (by rfl) (da_cons ((de_var (pv 1))) (da_cons ((de_var (pv 4))) da_nil)))) (de_sub (m := false) (m' := false) (de_fld B.f_place ((de_var (pv 0)).peek)) de_int) (fun _ _ => rfl)) (de_idx (m := false) (m' := false) (FE.de (m := false) (fe_call G_must_of (hr.mono (by decide)) (by rfl) (da_cons ((de_var (pv 1))) (da_cons ((de_var (pv 2))) (da_cons ((de_var (pv 3))) da_nil))))) (de_sub (m := false) (m' := false) (de_fld B.f_place ((de_var (pv 0)).peek)) de_int) (fun _ _ => rfl)) (nomark _)))))
abbrev st__law_shop_right : Stmt := top 69
theorem sc__law_shop_right : FnScope ["_law_shop_here", "_law_till", "_law_places", "_law_walk", "_law_some_here", "_law_found", "_law_shown", "_law_answer", "_law_one"] ["_law_shop_here", "_law_till", "_law_places"] (defScope st__law_shop_right) := ⟨rfl, rfl, rfl, by decide +kernel, rfl, by decide +kernel, by decide +kernel⟩
theorem ok__law_shop_right {f : Addr} {fd : FuncData} (F : Fun K "_law_shop_right" "_law_shop_right" st__law_shop_right f fd) (hm : mg "_law_shop_right" = some (.ref f)) (B : Bi K T mg) (G_way : FD P w K mg base T "way" 5 3 true D_way) (G_must : FD P w K mg base T "must" 4 3 true D_must) (G_least : FD P w K mg base T "least" 4 3 false D_least) (G_split : FD P w K mg base T "split" 5 3 true D_split) (G_judged : FD P w K mg base T "judged" 5 4 true D_judged) (G_Missed___init__ : IniOk P w K mg base T 2 1 1) (G_Longer___init__ : IniOk P w K mg base T 3 1 1) (G_Longer_shows : MD P w K mg base T 3 "shows" 3 4 D_Longer_shows) (G_Missed_shows : MD P w K mg base T 2 "shows" 1 4 D_Missed_shows) (G_Shortest_shows : MD P w K mg base T 1 "shows" 3 4 D_Shortest_shows) (G__law_plain : FD P w K mg base T "_law_plain" 7 1 false (D__law_plain 6)) (G__law_truths : FD P w K mg base T "_law_truths" 1 1 false D__law_truths) : FD P w K mg base T "_law_shop_right" 8 3 false D__law_shop_right := by
  have sc := sc__law_shop_right
  refine FD.of0 (fn_ok (body := B__law_shop_right) F sc fun cdv A outer s H E S0 hr => ?_) hm F.kp (F.binds (ps := ["_law_shop_here", "_law_till", "_law_places"]) fun _ _ _ _ _ _ us hl => match us, hl with | [_, _, _], _ => rfl)
  exact (db_cons (ds_set (i := 3) sc.nd rfl (.inr rfl) (DE.se (FE.de (m := true) (fe_call G_way (hr.mono (by decide)) (by rfl) (da_cons ((de_var (pv 0))) (da_cons ((de_var (pv 1))) (da_cons ((de_var (pv 2))) da_nil)))))))
   (db_cons (ds_par (i := 5) (j := 6) rfl sc.nd rfl rfl (by decide) rfl rfl (FE.se (fe_lst (da_cons (FE.de (m := true) (fe_call G_must (hr.mono (by decide)) (by rfl) (da_cons ((de_var (pv 0))) (da_cons ((de_var (pv 1))) (da_cons ((de_var (pv 2))) da_nil))))) (da_cons (de_call G_least (hr.mono (by decide)) (by rfl) (da_cons ((de_var (pv 0))) (da_cons ((de_var (pv 1))) (da_cons ((de_var (pv 2))) da_nil)))) (da_cons ((de_var (pv 3))) (da_cons (FE.de (m := true) (fe_call G_split (hr.mono (by decide)) (by rfl) (da_cons ((de_var (pv 0))) (da_cons ((de_var (pv 1))) (da_cons (de_sl ((de_var (pv 2))) do_no (do_so (m := false) de_int)) da_nil))))) da_nil)))))) (DE.se (FE.de (m := true) (fe_lst da_nil))) (by rfl))
   (db_cons (ds_for PassesOwn.never rfl (di_seq (FE.de (m := true) (fe_lst (da_cons ((de_var (pv 2))) (da_cons (FE.de (m := true) (fe_lrg1 (m := false) (by rfl) (by rfl) B.b_list (by rfl) B.b_range (de_add (m := false) (de_bi (m := false) (mo := false) bi_len (by rfl) B.b_len (by decide +kernel) (da_cons ((de_var (pv 0)).peek) da_nil)) de_int))) da_nil))))) (dg_name (i := 4) sc.nd rfl (.inr rfl))
   (db_cons (ds_set (i := 7) sc.nd rfl (.inl rfl) (DE.se (OE.de (m := true) (oe_call G_judged (hr.mono (by decide)) (by rfl) (da_cons ((de_var (pv 0))) (da_cons ((de_var (pv 1))) (da_cons ((de_var (pv 4))) (da_cons ((de_var (pv 3))) da_nil))))))))
   (db_cons (ds_if (dt_not (dt_val (m := false) (de_isC B.g B.i_Shortest (by rfl) B.b_isinstance ((de_var (pv 7)).peek) (pe_glob (v := .ref _) (by rfl) B.k_Shortest rfl))))
   (db_one (ds_app (i := 5) (fun _ h => pe_bm PySem.F.plainAttrs_list PySem.F.slot_list_append PySem.F.type_list_append mt_append (pv 5) (pa_cons h pa_nil)) (de_fld B.f_place ((de_var (pv 7))))))
   db_nil)
   (db_one (ds_set (i := 6) sc.nd rfl (.inl rfl) (DE.se (de_add (m := true) ((de_var (pv 6))) (FE.de (m := true) (fe_lc (own := [("_law_one", 8)]) rfl sc.nd (DI.c (di_seq (FE.de (m := true) (fe_lst (da_cons ((de_var (pv 7))) (da_cons (OE.de (m := true) (oe_make G_Missed___init__ (hr.mono (by decide)) (by rfl) B.k_Missed (da_cons de_int da_nil))) (da_cons (OE.de (m := true) (oe_make G_Longer___init__ (hr.mono (by decide)) (by rfl) B.k_Longer (da_cons de_int da_nil))) (da_cons (OE.de (m := true) (oe_make0 B.n_Shortest (by rfl) B.k_Shortest)) da_nil)))))))) (blkOk_by (own := [("_law_one", 8)]) (N := ["_law_shop_here", "_law_till", "_law_places", "_law_walk", "_law_some_here", "_law_found", "_law_shown", "_law_answer", "_law_one"]) (sc := defScope st__law_shop_right) (by decide +kernel)) (by decide) (fun _ _ _ _ _ => (dg_name (i := 8) sc.nd rfl (.inl rfl))) (fun _ _ _ _ _ => dts_nil) (fun _ _ _ _ _ => (de_meth (k := 3) (hr.mono (by decide)) (md_cons (G_Shortest_shows.mono (by decide)) (md_cons (G_Missed_shows.mono (by decide)) (md_cons (G_Longer_shows.mono (by decide)) md_nil))) ((de_var (pv 8))) (da_cons ((de_var (pv 0))) (da_cons ((de_var (pv 1))) (da_cons ((de_var (pv 4))) (da_cons ((de_var (pv 3))) da_nil)))))))))))))))
   (db_cons (ds_if (dt_not (dt_val (m := false) (de_call G__law_plain (hr.mono (by decide)) (by rfl) (da_cons ((de_pk (pv 5))) da_nil))))
   (db_one (ds_ret (m := false) de_bl))
   db_nil)
   (db_one (ds_ret (m := false) (de_call G__law_truths (hr.mono (by decide)) (by rfl) (da_cons ((de_var (pv 6)).peek) da_nil))))))))
abbrev st_Pad___init__ : Stmt := inClass (top 52) 0
theorem sc_Pad___init__ : FnScope ["self", "hand"] ["self", "hand"] (defScope st_Pad___init__) := ⟨rfl, rfl, rfl, by decide +kernel, rfl, by decide +kernel, by decide +kernel⟩
theorem ok2_Pad___init__ {f : Addr} {fd : FuncData} (F : Fun K "__init__" "Pad.__init__" st_Pad___init__ f fd) (mk : Mk K (T.ct 5) f) (hfl : T.fl 5 = []) (B : ∀ φ, Bi K (T.w φ) mg) (J : Bj K T mg) (G_is_whole : ∀ φ, FD P w K mg base (T.w φ) "is_whole" 1 1 false D_is_whole)  : IX P w K mg base T 5 2 1 D2_Pad___init__ := by
  have sc := sc_Pad___init__
  obtain ⟨_, e_c_HANDS⟩ := (B fun _ => none).c_HANDS
  refine ⟨_, _, _, fnY_ok (N := ["self", "hand"]) (ps := ["self", "hand"]) (body := B2_Pad___init__) F sc fun cdv A outer s H E hr tk hpo => ?_, mk, F.binds (ps := ["self", "hand"]) fun _ _ _ _ _ _ us hl => match us, hl with | [_, _], _ => rfl, hfl⟩
  exact (xb_cons (xs_if (DT.x [] fun φ _ _ => ((dw_or (dt_not (dt_val (m := false) (de_call (G_is_whole φ) (hr.mono (by decide)) (by rfl) (da_cons ((de_var (pv 1)).peek) da_nil)))) (dw_or1 (dt_not (dt_chain (m := false) (m' := false) (m'' := false) cmp_le cmp_lt de_int ((de_var (pv 1)).peek) ((de_gint (by rfl) e_c_HANDS))))))).dt)
   (xb_one xs_never)
   xb_nil)
   (xb_cons (xs_fldN J.fn_hand (xe_var (pv 0)) (DE.x [] fun φ _ _ => ((de_var (pv 1)))))
   (xb_one (xs_fldN J.fn_known (xe_var (pv 0)) (FE.x [] fun φ _ _ => (fe_lst da_nil))))))
abbrev st_Pad_next_number : Stmt := inClass (top 52) 2
theorem sc_Pad_next_number : FnScope ["self", "kind", "number", "word"] ["self", "kind"] (defScope st_Pad_next_number) := ⟨rfl, rfl, rfl, by decide +kernel, rfl, by decide +kernel, by decide +kernel⟩
theorem ok2_Pad_next_number {f : Addr} {fd : FuncData} (F : Fun K "next_number" "Pad.next_number" st_Pad_next_number f fd) (c1 : Cls K (T.ct 4)) (me : Meth K (T.ct 4) "next_number" f) (nf : ("next_number" : Str) ∉ T.fl 4) (B : ∀ φ, Bi K (T.w φ) mg) (J : Bj K T mg)   : MX P w K mg base T 4 "next_number" 1 1 D2_Pad_next_number := by
  have sc := sc_Pad_next_number
  obtain ⟨_, e_c_MOST_NUMBER⟩ := (B fun _ => none).c_MOST_NUMBER
  refine MX.of0 (fnY_ok (N := ["self", "kind", "number", "word"]) (ps := ["self", "kind"]) (body := B2_Pad_next_number) F sc fun cdv A outer s H E hr tk hpo => ?_) c1 me (F.binds (ps := ["self", "kind"]) fun _ _ _ _ _ _ us hl => match us, hl with | [_, _], _ => rfl) nf
  exact (xb_cons (xs_set (i := 2) sc.nd rfl (.inl rfl) (DE.x [0] fun φ _ _ => (de_add (m := true) (de_bi (m := false) (mo := true) bi_max (by rfl) (B φ).b_max (by decide +kernel) (da_cons (de_add (m := false) (de_lstP (m := false) (da_cons (de_neg de_int) da_nil)) (FE.de (m := false) (fe_lc (own := [("word", 3)]) rfl sc.nd (DI.c (di_seq (de_fld (B φ).f_known ((de_var (pv 0)))))) (blkOk_by (own := [("word", 3)]) (N := ["self", "kind", "number", "word"]) (sc := defScope st_Pad_next_number) (by decide +kernel)) (by decide) (fun _ _ _ _ _ => (dg_name (i := 3) sc.nd rfl (.inl rfl))) (fun _ _ _ _ _ => (dts_one (dt_cmp (m := false) (m' := false) (cmp_eq hr) (de_sl ((de_var (pv 3)).peek) do_no (do_so (m := false) de_int)) (de_tup (da_cons ((de_var (pv 1)).peek) (da_cons (de_fld (B φ).f_hand ((de_var (pv 0)).peek)) da_nil))) (nomark _)))) (fun _ _ _ _ _ => (de_idx (m := true) (m' := false) ((de_var (pv 3))) de_int (fun _ _ => rfl)))))) da_nil)) de_int)))
   (xb_cons (xs_if (DT.x [] fun φ _ _ => (dt_cmp (m := false) (m' := false) cmp_gt ((de_var (pv 2)).peek) ((de_gint (by rfl) e_c_MOST_NUMBER)) (nomark _)))
   (xb_one xs_never)
   xb_nil)
   (xb_one (xs_ret (DE.x [] fun φ _ _ => ((de_var (pv 2))))))))
abbrev st_Pad_put : Stmt := inClass (top 52) 1
theorem sc_Pad_put : FnScope ["self", "word"] ["self", "word"] (defScope st_Pad_put) := ⟨rfl, rfl, rfl, by decide +kernel, rfl, by decide +kernel, by decide +kernel⟩
theorem ok2_Pad_put {f : Addr} {fd : FuncData} (F : Fun K "put" "Pad.put" st_Pad_put f fd) (c1 : Cls K (T.ct 4)) (me : Meth K (T.ct 4) "put" f) (nf : ("put" : Str) ∉ T.fl 4) (B : ∀ φ, Bi K (T.w φ) mg) (J : Bj K T mg)   : MX P w K mg base T 4 "put" 1 1 D2_Pad_put := by
  have sc := sc_Pad_put
  obtain ⟨_, e_c_MOST_WORDS⟩ := (B fun _ => none).c_MOST_WORDS
  refine MX.of0 (fnY_ok (N := ["self", "word"]) (ps := ["self", "word"]) (body := B2_Pad_put) F sc fun cdv A outer s H E hr tk hpo => ?_) c1 me (F.binds (ps := ["self", "word"]) fun _ _ _ _ _ _ us hl => match us, hl with | [_, _], _ => rfl) nf
  exact (xb_cons (xs_if (DT.x [0] fun φ _ _ => (dt_cmp (m := false) (m' := false) cmp_ge (de_bi (m := false) (mo := false) bi_len (by rfl) (B φ).b_len (by decide +kernel) (da_cons (de_fld (B φ).f_known ((de_var (pv 0)).peek)) da_nil)) ((de_gint (by rfl) e_c_MOST_WORDS)) (nomark _)))
   (xb_one xs_never)
   xb_nil)
   (xb_one (xs_expr (xe_app (fun _ _ h1 h2 => pe_bm PySem.F.plainAttrs_list PySem.F.slot_list_append PySem.F.type_list_append mt_append h1 (pa_cons h2 pa_nil)) (xe_fld J.fa_known (xe_var (pv 0))) (DE.x [] fun φ _ _ => ((de_var (pv 1))))))))
abbrev st_Pad_want : Stmt := inClass (top 52) 3
theorem sc_Pad_want : FnScope ["self", "name", "place", "many", "number"] ["self", "name", "place", "many"] (defScope st_Pad_want) := ⟨rfl, rfl, rfl, by decide +kernel, rfl, by decide +kernel, by decide +kernel⟩
theorem ok2_Pad_want {f : Addr} {fd : FuncData} (F : Fun K "want" "Pad.want" st_Pad_want f fd) (c1 : Cls K (T.ct 4)) (me : Meth K (T.ct 4) "want" f) (nf : ("want" : Str) ∉ T.fl 4) (B : ∀ φ, Bi K (T.w φ) mg) (J : Bj K T mg) (G_is_thing : ∀ φ, FD P w K mg base (T.w φ) "is_thing" 2 2 false D_is_thing) (G_is_many : ∀ φ, FD P w K mg base (T.w φ) "is_many" 2 1 false D_is_many) (G2_Pad_next_number : MX P w K mg base T 4 "next_number" 1 1 D2_Pad_next_number) (G2_Pad_put : MX P w K mg base T 4 "put" 1 1 D2_Pad_put) : MX P w K mg base T 4 "want" 3 3 D2_Pad_want := by
  have sc := sc_Pad_want
  refine MX.of0 (fnY_ok (N := ["self", "name", "place", "many", "number"]) (ps := ["self", "name", "place", "many"]) (body := B2_Pad_want) F sc fun cdv A outer s H E hr tk hpo => ?_) c1 me (F.binds (ps := ["self", "name", "place", "many"]) fun _ _ _ _ _ _ us hl => match us, hl with | [_, _, _, _], _ => rfl) nf
  exact (xb_cons (xs_if (DT.x [] fun φ _ _ => (dt_not (dt_val (m := false) (de_call (G_is_thing φ) (hr.mono (by decide)) (by rfl) (da_cons ((de_var (pv 1)).peek) (da_cons ((de_var (pv 2)).peek) da_nil))))))
   (xb_one xs_never)
   xb_nil)
   (xb_cons (xs_if (DT.x [] fun φ _ _ => (dt_not (dt_val (m := false) (de_call (G_is_many φ) (hr.mono (by decide)) (by rfl) (da_cons ((de_var (pv 3)).peek) da_nil)))))
   (xb_one xs_never)
   xb_nil)
   (xb_cons (xs_set (i := 4) sc.nd rfl (.inl rfl) (xe_meth G2_Pad_next_number (hr.mono (by decide)) tk (xe_var (pv 0)) (xa_cons (DE.x [] fun φ _ _ => de_str) xa_nil)))
   (xb_cons (xs_expr (xe_meth G2_Pad_put (hr.mono (by decide)) tk (xe_var (pv 0)) (xa_cons (DE.x [0] fun φ _ _ => (de_tup (da_cons de_str (da_cons (de_fld (B φ).f_hand ((de_var (pv 0)))) (da_cons ((de_var (pv 4))) (da_cons ((de_var (pv 1))) (da_cons ((de_var (pv 2))) (da_cons ((de_var (pv 3))) da_nil)))))))) xa_nil)))
   (xb_one (xs_ret (DE.x [] fun φ _ _ => ((de_var (pv 4))))))))))
abbrev st_Pad_got : Stmt := inClass (top 52) 5
theorem sc_Pad_got : FnScope ["self", "name", "place", "many", "here"] ["self", "name", "place", "many"] (defScope st_Pad_got) := ⟨rfl, rfl, rfl, by decide +kernel, rfl, by decide +kernel, by decide +kernel⟩
theorem ok2_Pad_got {f : Addr} {fd : FuncData} (F : Fun K "got" "Pad.got" st_Pad_got f fd) (c1 : Cls K (T.ct 4)) (me : Meth K (T.ct 4) "got" f) (nf : ("got" : Str) ∉ T.fl 4) (B : ∀ φ, Bi K (T.w φ) mg) (J : Bj K T mg) (G_is_thing : ∀ φ, FD P w K mg base (T.w φ) "is_thing" 2 2 false D_is_thing) (G_is_many : ∀ φ, FD P w K mg base (T.w φ) "is_many" 2 1 false D_is_many) (G_counts_of : ∀ φ, FD P w K mg base (T.w φ) "counts_of" 2 1 false D_counts_of) (G2_Pad_put : MX P w K mg base T 4 "put" 1 1 D2_Pad_put) (G2_Pad_next_number : MX P w K mg base T 4 "next_number" 1 1 D2_Pad_next_number) : MX P w K mg base T 4 "got" 3 3 D2_Pad_got := by
  have sc := sc_Pad_got
  refine MX.of0 (fnY_ok (N := ["self", "name", "place", "many", "here"]) (ps := ["self", "name", "place", "many"]) (body := B2_Pad_got) F sc fun cdv A outer s H E hr tk hpo => ?_) c1 me (F.binds (ps := ["self", "name", "place", "many"]) fun _ _ _ _ _ _ us hl => match us, hl with | [_, _, _, _], _ => rfl) nf
  exact (xb_cons (xs_if (DT.x [] fun φ _ _ => (dt_not (dt_val (m := false) (de_call (G_is_thing φ) (hr.mono (by decide)) (by rfl) (da_cons ((de_var (pv 1)).peek) (da_cons ((de_var (pv 2)).peek) da_nil))))))
   (xb_one xs_never)
   xb_nil)
   (xb_cons (xs_if (DT.x [] fun φ _ _ => (dt_not (dt_val (m := false) (de_call (G_is_many φ) (hr.mono (by decide)) (by rfl) (da_cons ((de_var (pv 3)).peek) da_nil)))))
   (xb_one xs_never)
   xb_nil)
   (xb_cons (xs_set (i := 4) sc.nd rfl (.inl rfl) (DE.x [0] fun φ _ _ => (de_getE hr (de_call (G_counts_of φ) (hr.mono (by decide)) (by rfl) (da_cons (de_fld (B φ).f_known ((de_var (pv 0)))) da_nil)) (de_tup (da_cons ((de_var (pv 1))) (da_cons ((de_var (pv 2))) da_nil))) de_int ⟨rfl, rfl, rfl, rfl⟩)))
   (xb_cons (xs_if (DT.x [] fun φ _ _ => (dt_cmp (m := false) (m' := false) cmp_gt ((de_var (pv 3)).peek) ((de_var (pv 4)).peek) (nomark _)))
   (xb_one xs_never)
   xb_nil)
   (xb_cons (xs_expr (xe_meth G2_Pad_put (hr.mono (by decide)) tk (xe_var (pv 0)) (xa_cons (xe_tup (xa_cons (DE.x [] fun φ _ _ => de_str) (xa_cons (DE.x [0] fun φ _ _ => (de_fld (B φ).f_hand ((de_var (pv 0))))) (xa_cons (xe_meth G2_Pad_next_number (hr.mono (by decide)) tk (xe_var (pv 0)) (xa_cons (DE.x [] fun φ _ _ => de_str) xa_nil)) (xa_cons (DE.x [] fun φ _ _ => ((de_var (pv 1)))) (xa_cons (DE.x [] fun φ _ _ => ((de_var (pv 2)))) (xa_cons (DE.x [] fun φ _ _ => ((de_var (pv 3)))) xa_nil))))))) xa_nil)))
   (xb_one (xs_ret (DE.x [] fun φ _ _ => (de_sub (m := true) (m' := true) ((de_var (pv 4))) ((de_var (pv 3))))))))))))
abbrev st_Pad_words : Stmt := inClass (top 52) 7
theorem sc_Pad_words : FnScope ["self"] ["self"] (defScope st_Pad_words) := ⟨rfl, rfl, rfl, by decide +kernel, rfl, by decide +kernel, by decide +kernel⟩
theorem ok2_Pad_words {f : Addr} {fd : FuncData} (F : Fun K "words" "Pad.words" st_Pad_words f fd) (c1 : Cls K (T.ct 4)) (me : Meth K (T.ct 4) "words" f) (nf : ("words" : Str) ∉ T.fl 4) (B : ∀ φ, Bi K (T.w φ) mg) (J : Bj K T mg)   : MX P w K mg base T 4 "words" 1 0 D2_Pad_words := by
  have sc := sc_Pad_words
  refine MX.of0 (fnY_ok (N := ["self"]) (ps := ["self"]) (body := B2_Pad_words) F sc fun cdv A outer s H E hr tk hpo => ?_) c1 me (F.binds (ps := ["self"]) fun _ _ _ _ _ _ us hl => match us, hl with | [_], _ => rfl) nf
  exact (xb_one (xs_ret (FE.xd [0] fun φ _ _ => (fe_sorted hr (by rfl) (B φ).b_sorted (de_fld (B φ).f_known ((de_var (pv 0))))))))
abbrev st_Pad_hear : Stmt := inClass (top 52) 6
theorem sc_Pad_hear : FnScope ["self", "words", "before"] ["self", "words"] (defScope st_Pad_hear) := ⟨rfl, rfl, rfl, by decide +kernel, rfl, by decide +kernel, by decide +kernel⟩
theorem ok2_Pad_hear {f : Addr} {fd : FuncData} (F : Fun K "hear" "Pad.hear" st_Pad_hear f fd) (c1 : Cls K (T.ct 4)) (me : Meth K (T.ct 4) "hear" f) (nf : ("hear" : Str) ∉ T.fl 4) (B : ∀ φ, Bi K (T.w φ) mg) (J : Bj K T mg) (G_asked_words : ∀ φ, FD P w K mg base (T.w φ) "asked_words" 4 1 false D_asked_words) (G_joined_of : ∀ φ, FD P w K mg base (T.w φ) "joined_of" 1 2 true D_joined_of)  : MX P w K mg base T 4 "hear" 5 1 D2_Pad_hear := by
  have sc := sc_Pad_hear
  refine MX.of0 (fnY_ok (N := ["self", "words", "before"]) (ps := ["self", "words"]) (body := B2_Pad_hear) F sc fun cdv A outer s H E hr tk hpo => ?_) c1 me (F.binds (ps := ["self", "words"]) fun _ _ _ _ _ _ us hl => match us, hl with | [_, _], _ => rfl) nf
  exact (xb_cons (xs_expr (DE.x [] fun φ _ _ => (de_call (G_asked_words φ) (hr.mono (by decide)) (by rfl) (da_cons ((de_var (pv 1))) da_nil))))
   (xb_cons (xs_set (i := 2) sc.nd rfl (.inl rfl) (DE.x [0] fun φ _ _ => (de_bi (m := false) (mo := true) bi_len (by rfl) (B φ).b_len (by decide +kernel) (da_cons (de_fld (B φ).f_known ((de_var (pv 0)).peek)) da_nil))))
   (xb_cons (xs_fld J.fs_known (xe_var (pv 0)) (FE.x [0] fun φ _ _ => (fe_call (G_joined_of φ) (hr.mono (by decide)) (by rfl) (da_cons (de_fld (B φ).f_known ((de_var (pv 0)))) (da_cons ((de_var (pv 1))) da_nil)))))
   (xb_one (xs_ret (DE.x [0] fun φ _ _ => (de_sub (m := true) (m' := true) (de_bi (m := false) (mo := true) bi_len (by rfl) (B φ).b_len (by decide +kernel) (da_cons (de_fld (B φ).f_known ((de_var (pv 0)).peek)) da_nil)) ((de_var (pv 2))))))))))
abbrev st__law_words_right : Stmt := top 70
theorem sc__law_words_right : FnScope ["_law_words_here", "_law_whole", "_law_found", "_law_other", "_law_pad", "_law_row"] ["_law_words_here", "_law_whole"] (defScope st__law_words_right) := ⟨rfl, rfl, rfl, by decide +kernel, rfl, by decide +kernel, by decide +kernel⟩
theorem ok2__law_words_right {f : Addr} {fd : FuncData} (F : Fun K "_law_words_right" "_law_words_right" st__law_words_right f fd) (hm : mg "_law_words_right" = some (.ref f)) (B : ∀ φ, Bi K (T.w φ) mg) (J : Bj K T mg) (G_left : ∀ φ, FD P w K mg base (T.w φ) "left" 5 1 true D_left) (G_over : ∀ φ, FD P w K mg base (T.w φ) "over" 5 1 true D_over) (G_places_left : ∀ φ, FD P w K mg base (T.w φ) "places_left" 6 1 true D_places_left) (G_joined : ∀ φ, FD P w K mg base (T.w φ) "joined" 5 2 true D_joined) (G__law_plain : ∀ φ, FD P w K mg base (T.w φ) "_law_plain" 7 1 false (D__law_plain 6)) (G2_Pad___init__ : IX P w K mg base T 5 2 1 D2_Pad___init__) (G2_Pad_want : MX P w K mg base T 4 "want" 3 3 D2_Pad_want) (G2_Pad_got : MX P w K mg base T 4 "got" 3 3 D2_Pad_got) (G2_Pad_words : MX P w K mg base T 4 "words" 1 0 D2_Pad_words) (G2_Pad_hear : MX P w K mg base T 4 "hear" 5 1 D2_Pad_hear) : FX P w K mg base T "_law_words_right" 8 2 D2__law_words_right := by
  have sc := sc__law_words_right
  refine FX.of0 (fnY_ok (N := ["_law_words_here", "_law_whole", "_law_found", "_law_other", "_law_pad", "_law_row"]) (ps := ["_law_words_here", "_law_whole"]) (body := B2__law_words_right) F sc fun cdv A outer s H E hr tk hpo => ?_) hm F.kp (F.binds (ps := ["_law_words_here", "_law_whole"]) fun _ _ _ _ _ _ us hl => match us, hl with | [_, _], _ => rfl)
  exact (xb_cons (xs_par (i := 2) (j := 4) rfl sc.nd rfl rfl (by decide) rfl rfl (FE.xd [] fun φ _ _ => (fe_lst (da_cons (FE.de (m := true) (fe_call (G_left φ) (hr.mono (by decide)) (by rfl) (da_cons ((de_var (pv 0))) da_nil))) (da_cons (FE.de (m := true) (fe_call (G_over φ) (hr.mono (by decide)) (by rfl) (da_cons ((de_var (pv 0))) da_nil))) (da_cons (FE.de (m := true) (fe_call (G_places_left φ) (hr.mono (by decide)) (by rfl) (da_cons ((de_var (pv 0))) da_nil))) (da_cons (FE.de (m := true) (fe_call (G_joined φ) (hr.mono (by decide)) (by rfl) (da_cons ((de_var (pv 0))) (da_cons (FE.de (m := true) (fe_lst da_nil)) da_nil)))) da_nil)))))) (xe_make G2_Pad___init__ (hr.mono (by decide)) tk (by rfl) J.k_Pad (xa_cons (DE.x [] fun φ _ _ => (de_mod (m := true) (m' := true) ((de_var (pv 1))) de_int)) xa_nil)) (by rfl))
   (xb_cons (xs_set (i := 2) sc.nd rfl (.inl rfl) (xe_cat (DE.x [] fun φ _ _ => ((de_var (pv 2)))) (xe_lst (xa_cons (xe_meth G2_Pad_want (hr.mono (by decide)) tk (xe_var (pv 4)) (xa_cons (DE.x [] fun φ _ _ => de_str) (xa_cons (DE.x [] fun φ _ _ => de_int) (xa_cons (DE.x [] fun φ _ _ => de_int) xa_nil)))) (xa_cons (xe_meth G2_Pad_got (hr.mono (by decide)) tk (xe_var (pv 4)) (xa_cons (DE.x [] fun φ _ _ => de_str) (xa_cons (DE.x [] fun φ _ _ => de_int) (xa_cons (DE.x [] fun φ _ _ => de_int) xa_nil)))) (xa_cons (xe_meth G2_Pad_want (hr.mono (by decide)) tk (xe_var (pv 4)) (xa_cons (DE.x [] fun φ _ _ => de_str) (xa_cons (DE.x [] fun φ _ _ => (de_mod (m := true) (m' := true) ((de_var (pv 1))) de_int)) (xa_cons (DE.x [] fun φ _ _ => de_int) xa_nil)))) (xa_cons (xe_meth0 G2_Pad_words (hr.mono (by decide)) tk (xe_var (pv 4))) xa_nil)))))))
   (xb_cons (xs_set (i := 2) sc.nd rfl (.inl rfl) (xe_cat (DE.x [] fun φ _ _ => ((de_var (pv 2)))) (xe_lst (xa_cons (xe_meth G2_Pad_hear (hr.mono (by decide)) tk (xe_var (pv 4)) (xa_cons (FE.xd [] fun φ _ _ => (fe_lst da_nil)) xa_nil)) xa_nil))))
   (xb_cons (xs_set (i := 3) sc.nd rfl (.inl rfl) (xe_make G2_Pad___init__ (hr.mono (by decide)) tk (by rfl) J.k_Pad (xa_cons (DE.x [] fun φ _ _ => (de_mod (m := true) (m' := true) (de_add (m := true) ((de_var (pv 1))) de_int) de_int)) xa_nil)))
   (xb_cons (xs_set (i := 2) sc.nd rfl (.inl rfl) (xe_cat (DE.x [] fun φ _ _ => ((de_var (pv 2)))) (xe_lst (xa_cons (xe_meth G2_Pad_hear (hr.mono (by decide)) tk (xe_var (pv 3)) (xa_cons (xe_meth0 G2_Pad_words (hr.mono (by decide)) tk (xe_var (pv 4))) xa_nil)) (xa_cons (xe_meth G2_Pad_hear (hr.mono (by decide)) tk (xe_var (pv 3)) (xa_cons (xe_rep (xe_meth0 G2_Pad_words (hr.mono (by decide)) tk (xe_var (pv 4))) (DE.x [] fun φ _ _ => de_int)) xa_nil)) (xa_cons (xe_fdL [] (fun φ => G_left φ) (hr.mono (by decide)) (by rfl) (xa_cons (xe_meth0 G2_Pad_words (hr.mono (by decide)) tk (xe_var (pv 4))) xa_nil)) xa_nil))))))
   (xb_cons (xs_set (i := 2) sc.nd rfl (.inl rfl) (xe_cat (DE.x [] fun φ _ _ => ((de_var (pv 2)))) (xe_lst (xa_cons (xe_fdL [] (fun φ => G_places_left φ) (hr.mono (by decide)) (by rfl) (xa_cons (xe_meth0 G2_Pad_words (hr.mono (by decide)) tk (xe_var (pv 4))) xa_nil)) xa_nil))))
   (xb_cons (xs_if (DT.x [] fun φ _ _ => (dt_not (dt_val (m := false) (de_call (G__law_plain φ) (hr.mono (by decide)) (by rfl) (da_cons ((de_var (pv 2)).peek) da_nil)))))
   (xb_one (xs_ret (DE.x [] fun φ _ _ => de_bl)))
   xb_nil)
   (xb_one (xs_ret (xe_bi (C := cL T (fun _ => none) (fun _ => none) fun _ => False) bi_all (by rfl) (B fun _ => none).b_all (by decide +kernel) (xa_cons (xe_lc (own := [("_law_row", 5)]) rfl sc.nd (xi_seq (xe_cat (FE.xd [] fun φ _ _ => (fe_cat (FE.de (m := true) (fe_call (G_left φ) (hr.mono (by decide)) (by rfl) (da_cons ((de_var (pv 0))) da_nil))) (FE.de (m := true) (fe_call (G_over φ) (hr.mono (by decide)) (by rfl) (da_cons ((de_var (pv 0))) da_nil))))) (xe_meth0 G2_Pad_words (hr.mono (by decide)) tk (xe_var (pv 4))))) (blkOk_by (own := [("_law_row", 5)]) (N := ["_law_words_here", "_law_whole", "_law_found", "_law_other", "_law_pad", "_law_row"]) (sc := defScope st__law_words_right) (by decide +kernel)) (by decide) (fun _ _ _ _ _ => (xg_name (i := 5) sc.nd rfl (.inl rfl))) (fun _ _ _ _ _ => xts_nil) (fun _ _ _ _ _ => (DE.x [] fun φ _ _ => (de_isi (m := false) (T := "tuple") (by rfl) (B φ).b_isinstance ((de_var (pv 5)).peek) (pe_bltn (v := .ty "tuple") (by rfl) (B φ).b_tuple (by decide +kernel) rfl))))) xa_nil)))))))))))
abbrev st_law : Stmt := top 71
theorem sc_law : FnScope ["_law_script", "_law_whole", "_law_by", "_law_shop_here", "_law_till", "_law_places"] ["_law_script"] (defScope st_law) := ⟨rfl, rfl, rfl, by decide +kernel, rfl, by decide +kernel, by decide +kernel⟩
theorem okF_law {f : Addr} {fd : FuncData} (F : Fun K "law" "law" st_law f fd) (B : Bi K T mg) (G__law_shop : FD P w K mg base T "_law_shop" 2 3 true D__law_shop) (G__law_some : FD P w K mg base T "_law_some" 2 3 false D__law_some) (G__law_shop_right : FD P w K mg base T "_law_shop_right" 8 3 false D__law_shop_right) (G__law_words_right : FD P w K mg base T "_law_words_right" 8 2 false (xOut D2__law_words_right)) (G__law_words : FD P w K mg base T "_law_words" 2 3 true D__law_words) : FnOk P w K mg base CX0 9 f fd ["_law_script"] (spD K T 1 false D_law) := by
  have sc := sc_law
  refine fn_ok (N := ["_law_script", "_law_whole", "_law_by", "_law_shop_here", "_law_till", "_law_places"]) (ps := ["_law_script"]) (fr := false) (body := B_law) F sc fun cdv A outer s H E S0 hr => ?_
  exact (db_cons (ds_set (i := 1) sc.nd rfl (.inl rfl) (DE.se (de_bi (m := false) (mo := true) bi_abs (by rfl) B.b_abs (by decide +kernel) (da_cons (de_bi (m := false) (mo := false) bi_sum (by rfl) B.b_sum (by decide +kernel) (da_cons (de_sl ((de_var (pv 0)).peek) do_no (do_so (m := false) de_int)) da_nil)) da_nil))))
   (db_cons (ds_for PassesOwn.never rfl (di_seq (FE.de (m := true) (fe_lst (da_cons de_int (da_cons de_int (da_cons de_int da_nil)))))) (dg_name (i := 2) sc.nd rfl (.inl rfl))
   (db_cons (ds_set (i := 3) sc.nd rfl (.inl rfl) (DE.se (FE.de (m := true) (fe_call G__law_shop (hr.mono (by decide)) (by rfl) (da_cons ((de_var (pv 0))) (da_cons ((de_var (pv 2))) (da_cons de_int da_nil)))))))
   (db_cons (ds_unp (de_call G__law_some (hr.mono (by decide)) (by rfl) (da_cons ((de_var (pv 0))) (da_cons ((de_var (pv 2))) (da_cons ((de_var (pv 3))) da_nil)))) (dg_two (i := 4) (j := 5) rfl sc.nd rfl rfl (.inl rfl) (.inl rfl)))
   (db_one (ds_if ((dw_or (dt_not (dt_val (m := false) (de_call G__law_shop_right (hr.mono (by decide)) (by rfl) (da_cons ((de_var (pv 3)).peek) (da_cons ((de_var (pv 4)).peek) (da_cons ((de_var (pv 5)).peek) da_nil)))))) (dw_or1 (dt_not (dt_val (m := false) (de_call G__law_words_right (hr.mono (by decide)) (by rfl) (da_cons (FE.de (m := false) (fe_call G__law_words (hr.mono (by decide)) (by rfl) (da_cons ((de_var (pv 0))) (da_cons ((de_var (pv 2))) (da_cons de_int da_nil))))) (da_cons (de_div (m := false) (m' := false) ((de_var (pv 1)).peek) de_int) da_nil)))))))).dt
   (db_one (ds_ret (m := false) de_bl))
   db_nil)))))
   (db_one (ds_ret (m := false) (de_and2 (m := false) (m' := false) (de_call G__law_shop_right (hr.mono (by decide)) (by rfl) (da_cons (de_lstP (m := false) (da_cons (de_tup (da_cons de_int (da_cons de_int da_nil))) da_nil)) (da_cons de_int (da_cons (de_lstP (m := false) (da_cons de_int da_nil)) da_nil)))) (de_one (de_call G__law_shop_right (hr.mono (by decide)) (by rfl) (da_cons (de_lstP (m := false) da_nil) (da_cons de_int (da_cons (de_lstP (m := false) da_nil) da_nil))))))))))
abbrev st_Missed___init__ : Stmt := inClass (top 32) 0
theorem sc_Missed___init__ : FnScope ["self", "place"] ["self", "place"] (defScope st_Missed___init__) := ⟨rfl, rfl, rfl, by decide +kernel, rfl, by decide +kernel, by decide +kernel⟩
theorem ok_Missed___init__ {f : Addr} {fd : FuncData} (F : Fun K "__init__" "Missed.__init__" st_Missed___init__ f fd) (c1 : Cls K (T.ct 2)) (na : NoAttr K (T.ct 2) "place") (hfl : T.fl 2 = [("place" : Str)]) (mk : Mk K (T.ct 2) f) : IniOk P w K mg base T 2 1 1 := by
  refine ⟨f, fd, ["self", "place"], F.ok sc_Missed___init__ (fun vs H Q E h => ?_) (fun cdv A outer s H vs Q E hr h => ?_), mk, F.binds (ps := ["self", "place"]) fun _ _ _ _ _ _ us hl => match us, hl with | [_, _], _ => rfl, by rw [hfl]; rfl⟩
  · obtain ⟨x, dx, us, rfl, hl, _⟩ := h
    simp [hl]
  · obtain ⟨x, dx, us, rfl, hl, hx, q⟩ := h
    obtain ⟨u, rfl⟩ := List.length_eq_one_iff.mp hl
    refine ⟨_, pss_one (ps_fld (pv 0) (pv 1) rfl), ?_⟩
    rw [hfl] at q
    exact ⟨_, rfl, _, rfl, x, T.ct 2, dx, [], rfl, hx, c1, na, (by show 0 < 1000; decide), q⟩
abbrev st_Longer___init__ : Stmt := inClass (top 33) 0
theorem sc_Longer___init__ : FnScope ["self", "place"] ["self", "place"] (defScope st_Longer___init__) := ⟨rfl, rfl, rfl, by decide +kernel, rfl, by decide +kernel, by decide +kernel⟩
theorem ok_Longer___init__ {f : Addr} {fd : FuncData} (F : Fun K "__init__" "Longer.__init__" st_Longer___init__ f fd) (c1 : Cls K (T.ct 3)) (na : NoAttr K (T.ct 3) "place") (hfl : T.fl 3 = [("place" : Str)]) (mk : Mk K (T.ct 3) f) : IniOk P w K mg base T 3 1 1 := by
  refine ⟨f, fd, ["self", "place"], F.ok sc_Longer___init__ (fun vs H Q E h => ?_) (fun cdv A outer s H vs Q E hr h => ?_), mk, F.binds (ps := ["self", "place"]) fun _ _ _ _ _ _ us hl => match us, hl with | [_, _], _ => rfl, by rw [hfl]; rfl⟩
  · obtain ⟨x, dx, us, rfl, hl, _⟩ := h
    simp [hl]
  · obtain ⟨x, dx, us, rfl, hl, hx, q⟩ := h
    obtain ⟨u, rfl⟩ := List.length_eq_one_iff.mp hl
    refine ⟨_, pss_one (ps_fld (pv 0) (pv 1) rfl), ?_⟩
    rw [hfl] at q
    exact ⟨_, rfl, _, rfl, x, T.ct 3, dx, [], rfl, hx, c1, na, (by show 0 < 1000; decide), q⟩
end
end T_k12
/-! The head (printed by gen.py). -/
namespace T_k12
open PySem L2 PL PyProof.Rows
def tb : Tb := ⟨fun _ => 0, fun _ => [], fun _ => 0, false, fun _ => none⟩
theorem all_mk {l : PySem.W.OpenLaw} {w : World} {K : PySem.W.Frag} {h : Heap} {mg : Str → Option Value} {fa f1 f2 f3 f4 f5 f6 f7 f8 f9 f10 f11 f12 f13 f14 f15 f16 f17 f18 f19 f20 f21 f22 f23 f24 f25 f26 f27 f28 f29 f30 f31 f32 f33 f34 f35 f36 f37 f38 f39 f40 f41 f42 f43 f44 f45 f46 f47 f48 f49 f50 C0 C1 C2 C3 C4 : Addr} (X : K.In h) (G : h.Ns mainGlobals mg) (hfa : mg "law" = some (.ref fa))
    {od1 an1 od2 an2 od3 an3 od4 an4 od5 an5 od6 an6 od7 an7 od8 an8 od9 an9 od10 an10 od11 an11 od12 an12 od13 an13 od14 an14 od15 an15 od16 an16 od17 an17 od18 an18 od19 an19 od20 an20 od21 an21 od22 an22 od23 an23 od24 an24 od25 an25 od26 an26 od27 an27 od28 an28 od29 an29 od30 an30 od31 an31 od32 an32 od33 an33 od34 an34 od35 an35 od36 an36 od37 an37 od38 an38 od39 an39 od40 an40 od41 an41 od42 an42 od43 an43 od44 an44 od45 an45 od46 an46 od47 an47 od48 an48 od49 an49 od50 an50 : Option Addr} {sl1 sl2 sl3 sl4 sl5 sl6 sl7 sl8 sl9 sl10 sl11 sl12 sl13 sl14 sl15 sl16 sl17 sl18 sl19 sl20 sl21 sl22 sl23 sl24 sl25 sl26 sl27 sl28 sl29 sl30 sl31 sl32 sl33 sl34 sl35 sl36 sl37 sl38 sl39 sl40 sl41 sl42 sl43 sl44 sl45 sl46 sl47 sl48 sl49 sl50 : Array (Option Value)} {oc1 kV1 dc1 pm1 cd1 ct1 oc2 kV2 dc2 pm2 cd2 ct2 oc3 kV3 dc3 pm3 cd3 ct3 oc4 kV4 dc4 pm4 cd4 ct4 oc5 kV5 dc5 pm5 cd5 ct5 oc6 kV6 dc6 pm6 cd6 ct6 oc7 kV7 dc7 pm7 cd7 ct7 oc8 kV8 dc8 pm8 cd8 ct8 oc9 kV9 dc9 pm9 cd9 ct9 oc10 kV10 dc10 pm10 cd10 ct10 oc11 kV11 dc11 pm11 cd11 ct11 oc12 kV12 dc12 pm12 cd12 ct12 oc13 kV13 dc13 pm13 cd13 ct13 oc14 kV14 dc14 pm14 cd14 ct14 oc15 kV15 dc15 pm15 cd15 ct15 oc16 kV16 dc16 pm16 cd16 ct16 oc17 kV17 dc17 pm17 cd17 ct17 oc18 kV18 dc18 pm18 cd18 ct18 oc19 kV19 dc19 pm19 cd19 ct19 oc20 kV20 dc20 pm20 cd20 ct20 oc21 kV21 dc21 pm21 cd21 ct21 oc22 kV22 dc22 pm22 cd22 ct22 oc23 kV23 dc23 pm23 cd23 ct23 oc24 kV24 dc24 pm24 cd24 ct24 oc25 kV25 dc25 pm25 cd25 ct25 oc26 kV26 dc26 pm26 cd26 ct26 oc27 kV27 dc27 pm27 cd27 ct27 oc28 kV28 dc28 pm28 cd28 ct28 oc29 kV29 dc29 pm29 cd29 ct29 oc30 kV30 dc30 pm30 cd30 ct30 oc31 kV31 dc31 pm31 cd31 ct31 oc32 kV32 dc32 pm32 cd32 ct32 oc33 kV33 dc33 pm33 cd33 ct33 oc34 kV34 dc34 pm34 cd34 ct34 oc35 kV35 dc35 pm35 cd35 ct35 oc36 kV36 dc36 pm36 cd36 ct36 oc37 kV37 dc37 pm37 cd37 ct37 oc38 kV38 dc38 pm38 cd38 ct38 oc39 kV39 dc39 pm39 cd39 ct39 oc40 kV40 dc40 pm40 cd40 ct40 oc41 kV41 dc41 pm41 cd41 ct41 oc42 kV42 dc42 pm42 cd42 ct42 oc43 kV43 dc43 pm43 cd43 ct43 oc44 kV44 dc44 pm44 cd44 ct44 oc45 kV45 dc45 pm45 cd45 ct45 oc46 kV46 dc46 pm46 cd46 ct46 oc47 kV47 dc47 pm47 cd47 ct47 oc48 kV48 dc48 pm48 cd48 ct48 oc49 kV49 dc49 pm49 cd49 ct49 oc50 kV50 dc50 pm50 cd50 ct50 : Value}
    (aC0 : PySem.W.nsIn K mainGlobals "Answer" = some (some (.ref C0)))
    (pg0 : PySem.W.plainGet K C0 Str.empty = true)
    (hd0 : PySem.W.hasDictIn K C0 = true)
    (po0 : PySem.W.plainOver K C0 = true)
    (sa0 : PySem.W.findIn K (.ref C0) "__setattr__" = some (some (.builtin "object.__setattr__")))
    (hc0 : PySem.W.findIn K (.ref C0) "__class__" = some (some (.builtin "object.__class__")))
    (tp0 : PySem.W.mroIn K C0 (.type "object") = some true)
    (mk0 : PySem.W.makesIn K C0 = true)
    (kc0 : PySem.W.keepIn K (.ref C0) = true)
    (ni0 : PySem.W.findIn K (.ref C0) "__init__" = some (some (.builtin "object.__init__")))
    (aC1 : PySem.W.nsIn K mainGlobals "Shortest" = some (some (.ref C1)))
    (pg1 : PySem.W.plainGet K C1 Str.empty = true)
    (hd1 : PySem.W.hasDictIn K C1 = true)
    (po1 : PySem.W.plainOver K C1 = true)
    (sa1 : PySem.W.findIn K (.ref C1) "__setattr__" = some (some (.builtin "object.__setattr__")))
    (hc1 : PySem.W.findIn K (.ref C1) "__class__" = some (some (.builtin "object.__class__")))
    (tp1 : PySem.W.mroIn K C1 (.type "object") = some true)
    (mk1 : PySem.W.makesIn K C1 = true)
    (kc1 : PySem.W.keepIn K (.ref C1) = true)
    (ni1 : PySem.W.findIn K (.ref C1) "__init__" = some (some (.builtin "object.__init__")))
    (aC2 : PySem.W.nsIn K mainGlobals "Missed" = some (some (.ref C2)))
    (pg2 : PySem.W.plainGet K C2 Str.empty = true)
    (hd2 : PySem.W.hasDictIn K C2 = true)
    (po2 : PySem.W.plainOver K C2 = true)
    (sa2 : PySem.W.findIn K (.ref C2) "__setattr__" = some (some (.builtin "object.__setattr__")))
    (hc2 : PySem.W.findIn K (.ref C2) "__class__" = some (some (.builtin "object.__class__")))
    (tp2 : PySem.W.mroIn K C2 (.type "object") = some true)
    (mk2 : PySem.W.makesIn K C2 = true)
    (kc2 : PySem.W.keepIn K (.ref C2) = true)
    (nf2_0 : PySem.W.findIn K (.ref C2) "place" = some none)
    (aC3 : PySem.W.nsIn K mainGlobals "Longer" = some (some (.ref C3)))
    (pg3 : PySem.W.plainGet K C3 Str.empty = true)
    (hd3 : PySem.W.hasDictIn K C3 = true)
    (po3 : PySem.W.plainOver K C3 = true)
    (sa3 : PySem.W.findIn K (.ref C3) "__setattr__" = some (some (.builtin "object.__setattr__")))
    (hc3 : PySem.W.findIn K (.ref C3) "__class__" = some (some (.builtin "object.__class__")))
    (tp3 : PySem.W.mroIn K C3 (.type "object") = some true)
    (mk3 : PySem.W.makesIn K C3 = true)
    (kc3 : PySem.W.keepIn K (.ref C3) = true)
    (nf3_0 : PySem.W.findIn K (.ref C3) "place" = some none)
    (aC4 : PySem.W.nsIn K mainGlobals "Pad" = some (some (.ref C4)))
    (pg4 : PySem.W.plainGet K C4 Str.empty = true)
    (hd4 : PySem.W.hasDictIn K C4 = true)
    (po4 : PySem.W.plainOver K C4 = true)
    (sa4 : PySem.W.findIn K (.ref C4) "__setattr__" = some (some (.builtin "object.__setattr__")))
    (hc4 : PySem.W.findIn K (.ref C4) "__class__" = some (some (.builtin "object.__class__")))
    (tp4 : PySem.W.mroIn K C4 (.type "object") = some true)
    (mk4 : PySem.W.makesIn K C4 = true)
    (kc4 : PySem.W.keepIn K (.ref C4) = true)
    (nf4_0 : PySem.W.findIn K (.ref C4) "hand" = some none)
    (nf4_1 : PySem.W.findIn K (.ref C4) "known" = some none)
    (gn : PySem.W.specialIn K (.builtin "object.__class__") "__get__" = some (some (.builtin "getset_descriptor.__get__"))) (gt : PySem.W.takesIn K (.builtin "object.__class__") = some true)
    (ki1 : PySem.W.isClsIn K C1 = true) (kt1 : PySem.W.typeIn K (.ref C1) = some (.type "type")) (ks1 : PySem.W.subIn K (.ref C1) (.ref C1) = some true)
    (kb0_1 : PySem.W.subIn K (.ref C0) (.ref C1) = some false)
    (kb1_1 : PySem.W.subIn K (.ref C1) (.ref C1) = some true)
    (kb2_1 : PySem.W.subIn K (.ref C2) (.ref C1) = some false)
    (kb3_1 : PySem.W.subIn K (.ref C3) (.ref C1) = some false)
    (a1 : PySem.W.nsIn K mainGlobals "is_whole" = some (some (.ref f1))) (l1 : K.lookup f1 = some ⟨oc1, od1, .func (PySem.W.fnOf "is_whole" "is_whole" (defArgs st_is_whole) (defBody st_is_whole) (defScope st_is_whole) .none kV1 dc1 pm1 an1 cd1 ct1), sl1⟩) (c1 : PySem.W.codeIn K cd1 "is_whole" = true) (k1 : PySem.W.keepIn K (.ref f1) = true)
    (a2 : PySem.W.nsIn K mainGlobals "is_stretch" = some (some (.ref f2))) (l2 : K.lookup f2 = some ⟨oc2, od2, .func (PySem.W.fnOf "is_stretch" "is_stretch" (defArgs st_is_stretch) (defBody st_is_stretch) (defScope st_is_stretch) .none kV2 dc2 pm2 an2 cd2 ct2), sl2⟩) (c2 : PySem.W.codeIn K cd2 "is_stretch" = true) (k2 : PySem.W.keepIn K (.ref f2) = true)
    (a3 : PySem.W.nsIn K mainGlobals "asked_shop" = some (some (.ref f3))) (l3 : K.lookup f3 = some ⟨oc3, od3, .func (PySem.W.fnOf "asked_shop" "asked_shop" (defArgs st_asked_shop) (defBody st_asked_shop) (defScope st_asked_shop) .none kV3 dc3 pm3 an3 cd3 ct3), sl3⟩) (c3 : PySem.W.codeIn K cd3 "asked_shop" = true) (k3 : PySem.W.keepIn K (.ref f3) = true)
    (a4 : PySem.W.nsIn K mainGlobals "is_place" = some (some (.ref f4))) (l4 : K.lookup f4 = some ⟨oc4, od4, .func (PySem.W.fnOf "is_place" "is_place" (defArgs st_is_place) (defBody st_is_place) (defScope st_is_place) .none kV4 dc4 pm4 an4 cd4 ct4), sl4⟩) (c4 : PySem.W.codeIn K cd4 "is_place" = true) (k4 : PySem.W.keepIn K (.ref f4) = true)
    (a5 : PySem.W.nsIn K mainGlobals "asked_till" = some (some (.ref f5))) (l5 : K.lookup f5 = some ⟨oc5, od5, .func (PySem.W.fnOf "asked_till" "asked_till" (defArgs st_asked_till) (defBody st_asked_till) (defScope st_asked_till) .none kV5 dc5 pm5 an5 cd5 ct5), sl5⟩) (c5 : PySem.W.codeIn K cd5 "asked_till" = true) (k5 : PySem.W.keepIn K (.ref f5) = true)
    (a6 : PySem.W.nsIn K mainGlobals "asked_places" = some (some (.ref f6))) (l6 : K.lookup f6 = some ⟨oc6, od6, .func (PySem.W.fnOf "asked_places" "asked_places" (defArgs st_asked_places) (defBody st_asked_places) (defScope st_asked_places) .none kV6 dc6 pm6 an6 cd6 ct6), sl6⟩) (c6 : PySem.W.codeIn K cd6 "asked_places" = true) (k6 : PySem.W.keepIn K (.ref f6) = true)
    (a7 : PySem.W.nsIn K mainGlobals "beyond" = some (some (.ref f7))) (l7 : K.lookup f7 = some ⟨oc7, od7, .func (PySem.W.fnOf "beyond" "beyond" (defArgs st_beyond) (defBody st_beyond) (defScope st_beyond) .none kV7 dc7 pm7 an7 cd7 ct7), sl7⟩) (c7 : PySem.W.codeIn K cd7 "beyond" = true) (k7 : PySem.W.keepIn K (.ref f7) = true)
    (a8 : PySem.W.nsIn K mainGlobals "must_of" = some (some (.ref f8))) (l8 : K.lookup f8 = some ⟨oc8, od8, .func (PySem.W.fnOf "must_of" "must_of" (defArgs st_must_of) (defBody st_must_of) (defScope st_must_of) .none kV8 dc8 pm8 an8 cd8 ct8), sl8⟩) (c8 : PySem.W.codeIn K cd8 "must_of" = true) (k8 : PySem.W.keepIn K (.ref f8) = true)
    (a9 : PySem.W.nsIn K mainGlobals "must" = some (some (.ref f9))) (l9 : K.lookup f9 = some ⟨oc9, od9, .func (PySem.W.fnOf "must" "must" (defArgs st_must) (defBody st_must) (defScope st_must) .none kV9 dc9 pm9 an9 cd9 ct9), sl9⟩) (c9 : PySem.W.codeIn K cd9 "must" = true) (k9 : PySem.W.keepIn K (.ref f9) = true)
    (a10 : PySem.W.nsIn K mainGlobals "least_of" = some (some (.ref f10))) (l10 : K.lookup f10 = some ⟨oc10, od10, .func (PySem.W.fnOf "least_of" "least_of" (defArgs st_least_of) (defBody st_least_of) (defScope st_least_of) .none kV10 dc10 pm10 an10 cd10 ct10), sl10⟩) (c10 : PySem.W.codeIn K cd10 "least_of" = true) (k10 : PySem.W.keepIn K (.ref f10) = true)
    (a11 : PySem.W.nsIn K mainGlobals "least" = some (some (.ref f11))) (l11 : K.lookup f11 = some ⟨oc11, od11, .func (PySem.W.fnOf "least" "least" (defArgs st_least) (defBody st_least) (defScope st_least) .none kV11 dc11 pm11 an11 cd11 ct11), sl11⟩) (c11 : PySem.W.codeIn K cd11 "least" = true) (k11 : PySem.W.keepIn K (.ref f11) = true)
    (a12 : PySem.W.nsIn K mainGlobals "gone_of" = some (some (.ref f12))) (l12 : K.lookup f12 = some ⟨oc12, od12, .func (PySem.W.fnOf "gone_of" "gone_of" (defArgs st_gone_of) (defBody st_gone_of) (defScope st_gone_of) .none kV12 dc12 pm12 an12 cd12 ct12), sl12⟩) (c12 : PySem.W.codeIn K cd12 "gone_of" = true) (k12 : PySem.W.keepIn K (.ref f12) = true)
    (a13 : PySem.W.nsIn K mainGlobals "is_name" = some (some (.ref f13))) (l13 : K.lookup f13 = some ⟨oc13, od13, .func (PySem.W.fnOf "is_name" "is_name" (defArgs st_is_name) (defBody st_is_name) (defScope st_is_name) .none kV13 dc13 pm13 an13 cd13 ct13), sl13⟩) (c13 : PySem.W.codeIn K cd13 "is_name" = true) (k13 : PySem.W.keepIn K (.ref f13) = true)
    (a14 : PySem.W.nsIn K mainGlobals "is_thing" = some (some (.ref f14))) (l14 : K.lookup f14 = some ⟨oc14, od14, .func (PySem.W.fnOf "is_thing" "is_thing" (defArgs st_is_thing) (defBody st_is_thing) (defScope st_is_thing) .none kV14 dc14 pm14 an14 cd14 ct14), sl14⟩) (c14 : PySem.W.codeIn K cd14 "is_thing" = true) (k14 : PySem.W.keepIn K (.ref f14) = true)
    (a15 : PySem.W.nsIn K mainGlobals "is_many" = some (some (.ref f15))) (l15 : K.lookup f15 = some ⟨oc15, od15, .func (PySem.W.fnOf "is_many" "is_many" (defArgs st_is_many) (defBody st_is_many) (defScope st_is_many) .none kV15 dc15 pm15 an15 cd15 ct15), sl15⟩) (c15 : PySem.W.codeIn K cd15 "is_many" = true) (k15 : PySem.W.keepIn K (.ref f15) = true)
    (a16 : PySem.W.nsIn K mainGlobals "is_word" = some (some (.ref f16))) (l16 : K.lookup f16 = some ⟨oc16, od16, .func (PySem.W.fnOf "is_word" "is_word" (defArgs st_is_word) (defBody st_is_word) (defScope st_is_word) .none kV16 dc16 pm16 an16 cd16 ct16), sl16⟩) (c16 : PySem.W.codeIn K cd16 "is_word" = true) (k16 : PySem.W.keepIn K (.ref f16) = true)
    (a17 : PySem.W.nsIn K mainGlobals "asked_words" = some (some (.ref f17))) (l17 : K.lookup f17 = some ⟨oc17, od17, .func (PySem.W.fnOf "asked_words" "asked_words" (defArgs st_asked_words) (defBody st_asked_words) (defScope st_asked_words) .none kV17 dc17 pm17 an17 cd17 ct17), sl17⟩) (c17 : PySem.W.codeIn K cd17 "asked_words" = true) (k17 : PySem.W.keepIn K (.ref f17) = true)
    (a18 : PySem.W.nsIn K mainGlobals "joined_of" = some (some (.ref f18))) (l18 : K.lookup f18 = some ⟨oc18, od18, .func (PySem.W.fnOf "joined_of" "joined_of" (defArgs st_joined_of) (defBody st_joined_of) (defScope st_joined_of) .none kV18 dc18 pm18 an18 cd18 ct18), sl18⟩) (c18 : PySem.W.codeIn K cd18 "joined_of" = true) (k18 : PySem.W.keepIn K (.ref f18) = true)
    (a19 : PySem.W.nsIn K mainGlobals "joined" = some (some (.ref f19))) (l19 : K.lookup f19 = some ⟨oc19, od19, .func (PySem.W.fnOf "joined" "joined" (defArgs st_joined) (defBody st_joined) (defScope st_joined) .none kV19 dc19 pm19 an19 cd19 ct19), sl19⟩) (c19 : PySem.W.codeIn K cd19 "joined" = true) (k19 : PySem.W.keepIn K (.ref f19) = true)
    (a20 : PySem.W.nsIn K mainGlobals "counts_of" = some (some (.ref f20))) (l20 : K.lookup f20 = some ⟨oc20, od20, .func (PySem.W.fnOf "counts_of" "counts_of" (defArgs st_counts_of) (defBody st_counts_of) (defScope st_counts_of) .none kV20 dc20 pm20 an20 cd20 ct20), sl20⟩) (c20 : PySem.W.codeIn K cd20 "counts_of" = true) (k20 : PySem.W.keepIn K (.ref f20) = true)
    (a21 : PySem.W.nsIn K mainGlobals "left" = some (some (.ref f21))) (l21 : K.lookup f21 = some ⟨oc21, od21, .func (PySem.W.fnOf "left" "left" (defArgs st_left) (defBody st_left) (defScope st_left) .none kV21 dc21 pm21 an21 cd21 ct21), sl21⟩) (c21 : PySem.W.codeIn K cd21 "left" = true) (k21 : PySem.W.keepIn K (.ref f21) = true)
    (a22 : PySem.W.nsIn K mainGlobals "over" = some (some (.ref f22))) (l22 : K.lookup f22 = some ⟨oc22, od22, .func (PySem.W.fnOf "over" "over" (defArgs st_over) (defBody st_over) (defScope st_over) .none kV22 dc22 pm22 an22 cd22 ct22), sl22⟩) (c22 : PySem.W.codeIn K cd22 "over" = true) (k22 : PySem.W.keepIn K (.ref f22) = true)
    (a23 : PySem.W.nsIn K mainGlobals "places_left" = some (some (.ref f23))) (l23 : K.lookup f23 = some ⟨oc23, od23, .func (PySem.W.fnOf "places_left" "places_left" (defArgs st_places_left) (defBody st_places_left) (defScope st_places_left) .none kV23 dc23 pm23 an23 cd23 ct23), sl23⟩) (c23 : PySem.W.codeIn K cd23 "places_left" = true) (k23 : PySem.W.keepIn K (.ref f23) = true)
    (a24 : PySem.W.nsIn K mainGlobals "asked_all" = some (some (.ref f24))) (l24 : K.lookup f24 = some ⟨oc24, od24, .func (PySem.W.fnOf "asked_all" "asked_all" (defArgs st_asked_all) (defBody st_asked_all) (defScope st_asked_all) .none kV24 dc24 pm24 an24 cd24 ct24), sl24⟩) (c24 : PySem.W.codeIn K cd24 "asked_all" = true) (k24 : PySem.W.keepIn K (.ref f24) = true)
    (a25 : PySem.W.nsIn K mainGlobals "way" = some (some (.ref f25))) (l25 : K.lookup f25 = some ⟨oc25, od25, .func (PySem.W.fnOf "way" "way" (defArgs st_way) (defBody st_way) (defScope st_way) .none kV25 dc25 pm25 an25 cd25 ct25), sl25⟩) (c25 : PySem.W.codeIn K cd25 "way" = true) (k25 : PySem.W.keepIn K (.ref f25) = true)
    (a26 : PySem.W.nsIn K mainGlobals "is_walk" = some (some (.ref f26))) (l26 : K.lookup f26 = some ⟨oc26, od26, .func (PySem.W.fnOf "is_walk" "is_walk" (defArgs st_is_walk) (defBody st_is_walk) (defScope st_is_walk) .none kV26 dc26 pm26 an26 cd26 ct26), sl26⟩) (c26 : PySem.W.codeIn K cd26 "is_walk" = true) (k26 : PySem.W.keepIn K (.ref f26) = true)
    (a27 : PySem.W.nsIn K mainGlobals "judged" = some (some (.ref f27))) (l27 : K.lookup f27 = some ⟨oc27, od27, .func (PySem.W.fnOf "judged" "judged" (defArgs st_judged) (defBody st_judged) (defScope st_judged) .none kV27 dc27 pm27 an27 cd27 ct27), sl27⟩) (c27 : PySem.W.codeIn K cd27 "judged" = true) (k27 : PySem.W.keepIn K (.ref f27) = true)
    (a28 : PySem.W.nsIn K mainGlobals "split" = some (some (.ref f28))) (l28 : K.lookup f28 = some ⟨oc28, od28, .func (PySem.W.fnOf "split" "split" (defArgs st_split) (defBody st_split) (defScope st_split) .none kV28 dc28 pm28 an28 cd28 ct28), sl28⟩) (c28 : PySem.W.codeIn K cd28 "split" = true) (k28 : PySem.W.keepIn K (.ref f28) = true)
    (a29 : PySem.W.nsIn K mainGlobals "_law_number" = some (some (.ref f29))) (l29 : K.lookup f29 = some ⟨oc29, od29, .func (PySem.W.fnOf "_law_number" "_law_number" (defArgs st__law_number) (defBody st__law_number) (defScope st__law_number) .none kV29 dc29 pm29 an29 cd29 ct29), sl29⟩) (c29 : PySem.W.codeIn K cd29 "_law_number" = true) (k29 : PySem.W.keepIn K (.ref f29) = true)
    (a30 : PySem.W.nsIn K mainGlobals "_law_shop" = some (some (.ref f30))) (l30 : K.lookup f30 = some ⟨oc30, od30, .func (PySem.W.fnOf "_law_shop" "_law_shop" (defArgs st__law_shop) (defBody st__law_shop) (defScope st__law_shop) .none kV30 dc30 pm30 an30 cd30 ct30), sl30⟩) (c30 : PySem.W.codeIn K cd30 "_law_shop" = true) (k30 : PySem.W.keepIn K (.ref f30) = true)
    (a31 : PySem.W.nsIn K mainGlobals "_law_some" = some (some (.ref f31))) (l31 : K.lookup f31 = some ⟨oc31, od31, .func (PySem.W.fnOf "_law_some" "_law_some" (defArgs st__law_some) (defBody st__law_some) (defScope st__law_some) .none kV31 dc31 pm31 an31 cd31 ct31), sl31⟩) (c31 : PySem.W.codeIn K cd31 "_law_some" = true) (k31 : PySem.W.keepIn K (.ref f31) = true)
    (a32 : PySem.W.nsIn K mainGlobals "_law_name" = some (some (.ref f32))) (l32 : K.lookup f32 = some ⟨oc32, od32, .func (PySem.W.fnOf "_law_name" "_law_name" (defArgs st__law_name) (defBody st__law_name) (defScope st__law_name) .none kV32 dc32 pm32 an32 cd32 ct32), sl32⟩) (c32 : PySem.W.codeIn K cd32 "_law_name" = true) (k32 : PySem.W.keepIn K (.ref f32) = true)
    (a33 : PySem.W.nsIn K mainGlobals "_law_words" = some (some (.ref f33))) (l33 : K.lookup f33 = some ⟨oc33, od33, .func (PySem.W.fnOf "_law_words" "_law_words" (defArgs st__law_words) (defBody st__law_words) (defScope st__law_words) .none kV33 dc33 pm33 an33 cd33 ct33), sl33⟩) (c33 : PySem.W.codeIn K cd33 "_law_words" = true) (k33 : PySem.W.keepIn K (.ref f33) = true)
    (a34 : PySem.W.nsIn K mainGlobals "_law_plain" = some (some (.ref f34))) (l34 : K.lookup f34 = some ⟨oc34, od34, .func (PySem.W.fnOf "_law_plain" "_law_plain" (defArgs st__law_plain) (defBody st__law_plain) (defScope st__law_plain) .none kV34 dc34 pm34 an34 cd34 ct34), sl34⟩) (c34 : PySem.W.codeIn K cd34 "_law_plain" = true) (k34 : PySem.W.keepIn K (.ref f34) = true)
    (a35 : PySem.W.nsIn K mainGlobals "_law_truths" = some (some (.ref f35))) (l35 : K.lookup f35 = some ⟨oc35, od35, .func (PySem.W.fnOf "_law_truths" "_law_truths" (defArgs st__law_truths) (defBody st__law_truths) (defScope st__law_truths) .none kV35 dc35 pm35 an35 cd35 ct35), sl35⟩) (c35 : PySem.W.codeIn K cd35 "_law_truths" = true) (k35 : PySem.W.keepIn K (.ref f35) = true)
    (a36 : PySem.W.findIn K (.ref C1) "shows" = some (some (.ref f36))) (l36 : K.lookup f36 = some ⟨oc36, od36, .func (PySem.W.fnOf "shows" "Shortest.shows" (defArgs st_Shortest_shows) (defBody st_Shortest_shows) (defScope st_Shortest_shows) .none kV36 dc36 pm36 an36 cd36 ct36), sl36⟩) (c36 : PySem.W.codeIn K cd36 "Shortest.shows" = true) (k36 : PySem.W.keepIn K (.ref f36) = true)
    (i36 : PySem.W.isFn K (.ref f36) = true)
    (a37 : PySem.W.findIn K (.ref C2) "shows" = some (some (.ref f37))) (l37 : K.lookup f37 = some ⟨oc37, od37, .func (PySem.W.fnOf "shows" "Missed.shows" (defArgs st_Missed_shows) (defBody st_Missed_shows) (defScope st_Missed_shows) .none kV37 dc37 pm37 an37 cd37 ct37), sl37⟩) (c37 : PySem.W.codeIn K cd37 "Missed.shows" = true) (k37 : PySem.W.keepIn K (.ref f37) = true)
    (i37 : PySem.W.isFn K (.ref f37) = true)
    (a38 : PySem.W.findIn K (.ref C3) "shows" = some (some (.ref f38))) (l38 : K.lookup f38 = some ⟨oc38, od38, .func (PySem.W.fnOf "shows" "Longer.shows" (defArgs st_Longer_shows) (defBody st_Longer_shows) (defScope st_Longer_shows) .none kV38 dc38 pm38 an38 cd38 ct38), sl38⟩) (c38 : PySem.W.codeIn K cd38 "Longer.shows" = true) (k38 : PySem.W.keepIn K (.ref f38) = true)
    (i38 : PySem.W.isFn K (.ref f38) = true)
    (a39 : PySem.W.nsIn K mainGlobals "_law_shop_right" = some (some (.ref f39))) (l39 : K.lookup f39 = some ⟨oc39, od39, .func (PySem.W.fnOf "_law_shop_right" "_law_shop_right" (defArgs st__law_shop_right) (defBody st__law_shop_right) (defScope st__law_shop_right) .none kV39 dc39 pm39 an39 cd39 ct39), sl39⟩) (c39 : PySem.W.codeIn K cd39 "_law_shop_right" = true) (k39 : PySem.W.keepIn K (.ref f39) = true)
    (a40 : PySem.W.findIn K (.ref C4) "__init__" = some (some (.ref f40))) (l40 : K.lookup f40 = some ⟨oc40, od40, .func (PySem.W.fnOf "__init__" "Pad.__init__" (defArgs st_Pad___init__) (defBody st_Pad___init__) (defScope st_Pad___init__) .none kV40 dc40 pm40 an40 cd40 ct40), sl40⟩) (c40 : PySem.W.codeIn K cd40 "Pad.__init__" = true) (k40 : PySem.W.keepIn K (.ref f40) = true)
    (i40 : PySem.W.isFn K (.ref f40) = true)
    (a41 : PySem.W.findIn K (.ref C4) "next_number" = some (some (.ref f41))) (l41 : K.lookup f41 = some ⟨oc41, od41, .func (PySem.W.fnOf "next_number" "Pad.next_number" (defArgs st_Pad_next_number) (defBody st_Pad_next_number) (defScope st_Pad_next_number) .none kV41 dc41 pm41 an41 cd41 ct41), sl41⟩) (c41 : PySem.W.codeIn K cd41 "Pad.next_number" = true) (k41 : PySem.W.keepIn K (.ref f41) = true)
    (i41 : PySem.W.isFn K (.ref f41) = true)
    (a42 : PySem.W.findIn K (.ref C4) "put" = some (some (.ref f42))) (l42 : K.lookup f42 = some ⟨oc42, od42, .func (PySem.W.fnOf "put" "Pad.put" (defArgs st_Pad_put) (defBody st_Pad_put) (defScope st_Pad_put) .none kV42 dc42 pm42 an42 cd42 ct42), sl42⟩) (c42 : PySem.W.codeIn K cd42 "Pad.put" = true) (k42 : PySem.W.keepIn K (.ref f42) = true)
    (i42 : PySem.W.isFn K (.ref f42) = true)
    (a43 : PySem.W.findIn K (.ref C4) "want" = some (some (.ref f43))) (l43 : K.lookup f43 = some ⟨oc43, od43, .func (PySem.W.fnOf "want" "Pad.want" (defArgs st_Pad_want) (defBody st_Pad_want) (defScope st_Pad_want) .none kV43 dc43 pm43 an43 cd43 ct43), sl43⟩) (c43 : PySem.W.codeIn K cd43 "Pad.want" = true) (k43 : PySem.W.keepIn K (.ref f43) = true)
    (i43 : PySem.W.isFn K (.ref f43) = true)
    (a44 : PySem.W.findIn K (.ref C4) "got" = some (some (.ref f44))) (l44 : K.lookup f44 = some ⟨oc44, od44, .func (PySem.W.fnOf "got" "Pad.got" (defArgs st_Pad_got) (defBody st_Pad_got) (defScope st_Pad_got) .none kV44 dc44 pm44 an44 cd44 ct44), sl44⟩) (c44 : PySem.W.codeIn K cd44 "Pad.got" = true) (k44 : PySem.W.keepIn K (.ref f44) = true)
    (i44 : PySem.W.isFn K (.ref f44) = true)
    (a45 : PySem.W.findIn K (.ref C4) "words" = some (some (.ref f45))) (l45 : K.lookup f45 = some ⟨oc45, od45, .func (PySem.W.fnOf "words" "Pad.words" (defArgs st_Pad_words) (defBody st_Pad_words) (defScope st_Pad_words) .none kV45 dc45 pm45 an45 cd45 ct45), sl45⟩) (c45 : PySem.W.codeIn K cd45 "Pad.words" = true) (k45 : PySem.W.keepIn K (.ref f45) = true)
    (i45 : PySem.W.isFn K (.ref f45) = true)
    (a46 : PySem.W.findIn K (.ref C4) "hear" = some (some (.ref f46))) (l46 : K.lookup f46 = some ⟨oc46, od46, .func (PySem.W.fnOf "hear" "Pad.hear" (defArgs st_Pad_hear) (defBody st_Pad_hear) (defScope st_Pad_hear) .none kV46 dc46 pm46 an46 cd46 ct46), sl46⟩) (c46 : PySem.W.codeIn K cd46 "Pad.hear" = true) (k46 : PySem.W.keepIn K (.ref f46) = true)
    (i46 : PySem.W.isFn K (.ref f46) = true)
    (a47 : PySem.W.nsIn K mainGlobals "_law_words_right" = some (some (.ref f47))) (l47 : K.lookup f47 = some ⟨oc47, od47, .func (PySem.W.fnOf "_law_words_right" "_law_words_right" (defArgs st__law_words_right) (defBody st__law_words_right) (defScope st__law_words_right) .none kV47 dc47 pm47 an47 cd47 ct47), sl47⟩) (c47 : PySem.W.codeIn K cd47 "_law_words_right" = true) (k47 : PySem.W.keepIn K (.ref f47) = true)
    (a48 : PySem.W.nsIn K mainGlobals "law" = some (some (.ref f48))) (l48 : K.lookup f48 = some ⟨oc48, od48, .func (PySem.W.fnOf "law" "law" (defArgs st_law) (defBody st_law) (defScope st_law) .none kV48 dc48 pm48 an48 cd48 ct48), sl48⟩) (c48 : PySem.W.codeIn K cd48 "law" = true) (k48 : PySem.W.keepIn K (.ref f48) = true)
    (a49 : PySem.W.findIn K (.ref C2) "__init__" = some (some (.ref f49))) (l49 : K.lookup f49 = some ⟨oc49, od49, .func (PySem.W.fnOf "__init__" "Missed.__init__" (defArgs st_Missed___init__) (defBody st_Missed___init__) (defScope st_Missed___init__) .none kV49 dc49 pm49 an49 cd49 ct49), sl49⟩) (c49 : PySem.W.codeIn K cd49 "Missed.__init__" = true) (k49 : PySem.W.keepIn K (.ref f49) = true)
    (i49 : PySem.W.isFn K (.ref f49) = true)
    (a50 : PySem.W.findIn K (.ref C3) "__init__" = some (some (.ref f50))) (l50 : K.lookup f50 = some ⟨oc50, od50, .func (PySem.W.fnOf "__init__" "Longer.__init__" (defArgs st_Longer___init__) (defBody st_Longer___init__) (defScope st_Longer___init__) .none kV50 dc50 pm50 an50 cd50 ct50), sl50⟩) (c50 : PySem.W.codeIn K cd50 "Longer.__init__" = true) (k50 : PySem.W.keepIn K (.ref f50) = true)
    (i50 : PySem.W.isFn K (.ref f50) = true)
    (z1 : PySem.W.nsIn K mainGlobals "abs" = some none)
    (z2 : PySem.W.nsIn K mainGlobals "all" = some none)
    (z3 : PySem.W.nsIn K mainGlobals "bool" = some none)
    {t4 : Tok} (z4 : PySem.W.nsIn K mainGlobals "HANDS" = some (some (.int 4 t4)))
    {t5 : Tok} (z5 : PySem.W.nsIn K mainGlobals "LETTERS" = some (some (.str "abcdefghijklmnopqrstuvwxyz" t5)))
    {t6 : Tok} (z6 : PySem.W.nsIn K mainGlobals "MOST_LENGTH" = some (some (.int 9 t6)))
    {t7 : Tok} (z7 : PySem.W.nsIn K mainGlobals "MOST_MANY" = some (some (.int 9 t7)))
    {t8 : Tok} (z8 : PySem.W.nsIn K mainGlobals "MOST_NUMBER" = some (some (.int 60 t8)))
    {t9 : Tok} (z9 : PySem.W.nsIn K mainGlobals "MOST_PLACES" = some (some (.int 100 t9)))
    {t10 : Tok} (z10 : PySem.W.nsIn K mainGlobals "MOST_SPLIT" = some (some (.int 8 t10)))
    {t11 : Tok} (z11 : PySem.W.nsIn K mainGlobals "MOST_WALK" = some (some (.int 400 t11)))
    {t12 : Tok} (z12 : PySem.W.nsIn K mainGlobals "MOST_WORDS" = some (some (.int 40 t12)))
    (z13 : PySem.W.nsIn K mainGlobals "enumerate" = some none)
    (z19 : PySem.W.nsIn K mainGlobals "int" = some none)
    (z20 : PySem.W.nsIn K mainGlobals "isinstance" = some none)
    (z24 : PySem.W.nsIn K mainGlobals "len" = some none)
    (z25 : PySem.W.nsIn K mainGlobals "list" = some none)
    (z26 : PySem.W.nsIn K mainGlobals "max" = some none)
    (z28 : PySem.W.nsIn K mainGlobals "range" = some none)
    (z29 : PySem.W.nsIn K mainGlobals "set" = some none)
    (z30 : PySem.W.nsIn K mainGlobals "sorted" = some none)
    (z31 : PySem.W.nsIn K mainGlobals "str" = some none)
    (z32 : PySem.W.nsIn K mainGlobals "sum" = some none)
    (z33 : PySem.W.nsIn K mainGlobals "tuple" = some none)
    (z34 : PySem.W.nsIn K mainGlobals "zip" = some none)
    : ∃ fd : FuncData, (∀ (s : Shared) (v : Value), BindsTo s fd ⟨[v], []⟩ [("_law_script", v)]) ∧ ∀ base : Heap, K.In base → base.Ns mainGlobals mg → FnOk l.prog w K mg base CX0 9 fa fd ["_law_script"] (spL K D_law) := by
  have e := hfa.symm.trans (PySem.W.mg_of X G a48)
  cases e
  let T : Tb := ⟨fun c => match c with | 0 => C0 | 1 => C1 | 2 => C2 | 3 => C3 | 4 => C4 | 5 => C4 | 6 => C4 | _ => 0, fun c => match c with | 0 => [] | 1 => [] | 2 => ["place"] | 3 => ["place"] | 4 => ["hand", "known"] | 5 => [] | 6 => ["hand"] | _ => [], fun _ => 0, false, fun _ => none⟩
  have cl0 : Cls K (T.ct 0) := ⟨pg0, hd0, po0, sa0⟩
  have cf0 : ClF K (T.ct 0) := ⟨cl0, hc0, tp0⟩
  have cl1 : Cls K (T.ct 1) := ⟨pg1, hd1, po1, sa1⟩
  have cf1 : ClF K (T.ct 1) := ⟨cl1, hc1, tp1⟩
  have cl2 : Cls K (T.ct 2) := ⟨pg2, hd2, po2, sa2⟩
  have cf2 : ClF K (T.ct 2) := ⟨cl2, hc2, tp2⟩
  have cl3 : Cls K (T.ct 3) := ⟨pg3, hd3, po3, sa3⟩
  have cf3 : ClF K (T.ct 3) := ⟨cl3, hc3, tp3⟩
  have cl4 : Cls K (T.ct 4) := ⟨pg4, hd4, po4, sa4⟩
  have cf4 : ClF K (T.ct 4) := ⟨cl4, hc4, tp4⟩
  have B : ∀ φ, Bi K (T.w φ) mg := fun φ => ⟨PySem.W.mg_none_of X G z1, PySem.W.mg_none_of X G z2, PySem.W.mg_none_of X G z3, ⟨_, PySem.W.mg_of X G z4⟩, ⟨_, PySem.W.mg_of X G z5⟩, ⟨_, PySem.W.mg_of X G z6⟩, ⟨_, PySem.W.mg_of X G z7⟩, ⟨_, PySem.W.mg_of X G z8⟩, ⟨_, PySem.W.mg_of X G z9⟩, ⟨_, PySem.W.mg_of X G z10⟩, ⟨_, PySem.W.mg_of X G z11⟩, ⟨_, PySem.W.mg_of X G z12⟩, PySem.W.mg_none_of X G z13, (fd_cons cl4 nf4_0 rfl (by show (["hand", "known"] : List Str).Nodup; decide +kernel) fd_nil), (fd_cons cl4 nf4_1 rfl (by show (["hand", "known"] : List Str).Nodup; decide +kernel) fd_nil), (fd_cons cl2 nf2_0 rfl (by show (["place"] : List Str).Nodup; decide +kernel) (fd_cons cl3 nf3_0 rfl (by show (["place"] : List Str).Nodup; decide +kernel) fd_nil)), ⟨gn, gt⟩, (is_cons cf0 (kit_mk ki1 kt1 ks1 kb0_1) (is_cons cf1 (kit_mk ki1 kt1 ks1 kb1_1) (is_cons cf2 (kit_mk ki1 kt1 ks1 kb2_1) (is_cons cf3 (kit_mk ki1 kt1 ks1 kb3_1) is_nil)))), PySem.W.mg_none_of X G z19, PySem.W.mg_none_of X G z20, PySem.W.mg_of X G aC3, PySem.W.mg_of X G aC2, PySem.W.mg_of X G aC1, PySem.W.mg_none_of X G z24, PySem.W.mg_none_of X G z25, PySem.W.mg_none_of X G z26, ⟨mk1, ni1, kc1, tp1, rfl⟩, PySem.W.mg_none_of X G z28, PySem.W.mg_none_of X G z29, PySem.W.mg_none_of X G z30, PySem.W.mg_none_of X G z31, PySem.W.mg_none_of X G z32, PySem.W.mg_none_of X G z33, PySem.W.mg_none_of X G z34⟩
  have J : Bj K T mg := ⟨fdat_mk cl4 nf4_1 rfl (by show (["hand", "known"] : List Str).Nodup; decide +kernel), fdnew_mk cl4 nf4_0 rfl rfl (by show ("hand" : Str) ∉ ([] : List Str); decide +kernel) (by show (0 : Nat) < 1000; decide), fdnew_mk cl4 nf4_1 rfl rfl (by show ("known" : Str) ∉ (["hand"] : List Str); decide +kernel) (by show (1 : Nat) < 1000; decide), fdset_mk cl4 nf4_1 rfl (by show (["hand", "known"] : List Str).Nodup; decide +kernel) (by show (2 : Nat) < 1000; decide), PySem.W.mg_of X G aC4⟩
  have F1 := fun_mk (st := st_is_whole) l1 c1 k1
  have F2 := fun_mk (st := st_is_stretch) l2 c2 k2
  have F3 := fun_mk (st := st_asked_shop) l3 c3 k3
  have F4 := fun_mk (st := st_is_place) l4 c4 k4
  have F5 := fun_mk (st := st_asked_till) l5 c5 k5
  have F6 := fun_mk (st := st_asked_places) l6 c6 k6
  have F7 := fun_mk (st := st_beyond) l7 c7 k7
  have F8 := fun_mk (st := st_must_of) l8 c8 k8
  have F9 := fun_mk (st := st_must) l9 c9 k9
  have F10 := fun_mk (st := st_least_of) l10 c10 k10
  have F11 := fun_mk (st := st_least) l11 c11 k11
  have F12 := fun_mk (st := st_gone_of) l12 c12 k12
  have F13 := fun_mk (st := st_is_name) l13 c13 k13
  have F14 := fun_mk (st := st_is_thing) l14 c14 k14
  have F15 := fun_mk (st := st_is_many) l15 c15 k15
  have F16 := fun_mk (st := st_is_word) l16 c16 k16
  have F17 := fun_mk (st := st_asked_words) l17 c17 k17
  have F18 := fun_mk (st := st_joined_of) l18 c18 k18
  have F19 := fun_mk (st := st_joined) l19 c19 k19
  have F20 := fun_mk (st := st_counts_of) l20 c20 k20
  have F21 := fun_mk (st := st_left) l21 c21 k21
  have F22 := fun_mk (st := st_over) l22 c22 k22
  have F23 := fun_mk (st := st_places_left) l23 c23 k23
  have F24 := fun_mk (st := st_asked_all) l24 c24 k24
  have F25 := fun_mk (st := st_way) l25 c25 k25
  have F26 := fun_mk (st := st_is_walk) l26 c26 k26
  have F27 := fun_mk (st := st_judged) l27 c27 k27
  have F28 := fun_mk (st := st_split) l28 c28 k28
  have F29 := fun_mk (st := st__law_number) l29 c29 k29
  have F30 := fun_mk (st := st__law_shop) l30 c30 k30
  have F31 := fun_mk (st := st__law_some) l31 c31 k31
  have F32 := fun_mk (st := st__law_name) l32 c32 k32
  have F33 := fun_mk (st := st__law_words) l33 c33 k33
  have F34 := fun_mk (st := st__law_plain) l34 c34 k34
  have F35 := fun_mk (st := st__law_truths) l35 c35 k35
  have F36 := fun_mk (st := st_Shortest_shows) l36 c36 k36
  have F37 := fun_mk (st := st_Missed_shows) l37 c37 k37
  have F38 := fun_mk (st := st_Longer_shows) l38 c38 k38
  have F39 := fun_mk (st := st__law_shop_right) l39 c39 k39
  have F40 := fun_mk (st := st_Pad___init__) l40 c40 k40
  have F41 := fun_mk (st := st_Pad_next_number) l41 c41 k41
  have F42 := fun_mk (st := st_Pad_put) l42 c42 k42
  have F43 := fun_mk (st := st_Pad_want) l43 c43 k43
  have F44 := fun_mk (st := st_Pad_got) l44 c44 k44
  have F45 := fun_mk (st := st_Pad_words) l45 c45 k45
  have F46 := fun_mk (st := st_Pad_hear) l46 c46 k46
  have F47 := fun_mk (st := st__law_words_right) l47 c47 k47
  have F48 := fun_mk (st := st_law) l48 c48 k48
  have F49 := fun_mk (st := st_Missed___init__) l49 c49 k49
  have F50 := fun_mk (st := st_Longer___init__) l50 c50 k50
  refine ⟨PySem.W.fnOf "law" "law" (defArgs st_law) (defBody st_law) (defScope st_law) .none kV48 dc48 pm48 an48 cd48 ct48, fun s v => .of_eq rfl, fun base _ _ => ?_⟩
  have G49 := fun φ => ok_Missed___init__ (P := l.prog) (w := w) (mg := mg) (base := base) (T := T.w φ) F49 cl2 nf2_0 rfl ⟨mk2, a49, i49, kc2⟩
  have G50 := fun φ => ok_Longer___init__ (P := l.prog) (w := w) (mg := mg) (base := base) (T := T.w φ) F50 cl3 nf3_0 rfl ⟨mk3, a50, i50, kc3⟩
  have G1 := fun φ => ok_is_whole (P := l.prog) (w := w) (base := base) (T := T.w φ) F1 (PySem.W.mg_of X G a1) (B φ)  
  have G2 := fun φ => ok_is_stretch (P := l.prog) (w := w) (base := base) (T := T.w φ) F2 (PySem.W.mg_of X G a2) (B φ) (G1 φ) 
  have G3 := fun φ => ok_asked_shop (P := l.prog) (w := w) (base := base) (T := T.w φ) F3 (PySem.W.mg_of X G a3) (B φ) (G2 φ) 
  have G4 := fun φ => ok_is_place (P := l.prog) (w := w) (base := base) (T := T.w φ) F4 (PySem.W.mg_of X G a4) (B φ) (G1 φ) 
  have G5 := fun φ => ok_asked_till (P := l.prog) (w := w) (base := base) (T := T.w φ) F5 (PySem.W.mg_of X G a5) (B φ) (G4 φ) 
  have G6 := fun φ => ok_asked_places (P := l.prog) (w := w) (base := base) (T := T.w φ) F6 (PySem.W.mg_of X G a6) (B φ) (G4 φ) 
  have G7 := fun φ => ok_beyond (P := l.prog) (w := w) (base := base) (T := T.w φ) F7 (PySem.W.mg_of X G a7) (B φ)  
  have G8 := fun φ => ok_must_of (P := l.prog) (w := w) (base := base) (T := T.w φ) F8 (PySem.W.mg_of X G a8) (B φ) (G7 φ) 
  have G9 := fun φ => ok_must (P := l.prog) (w := w) (base := base) (T := T.w φ) F9 (PySem.W.mg_of X G a9) (B φ) (G3 φ) (G5 φ) (G6 φ) (G8 φ) 
  have G10 := fun φ => ok_least_of (P := l.prog) (w := w) (base := base) (T := T.w φ) F10 (PySem.W.mg_of X G a10) (B φ) (G8 φ) 
  have G11 := fun φ => ok_least (P := l.prog) (w := w) (base := base) (T := T.w φ) F11 (PySem.W.mg_of X G a11) (B φ) (G3 φ) (G5 φ) (G6 φ) (G10 φ) 
  have G12 := fun φ => ok_gone_of (P := l.prog) (w := w) (base := base) (T := T.w φ) F12 (PySem.W.mg_of X G a12) (B φ)  
  have G13 := fun φ => ok_is_name (P := l.prog) (w := w) (base := base) (T := T.w φ) F13 (PySem.W.mg_of X G a13) (B φ)  
  have G14 := fun φ => ok_is_thing (P := l.prog) (w := w) (base := base) (T := T.w φ) F14 (PySem.W.mg_of X G a14) (B φ) (G13 φ) (G1 φ) 
  have G15 := fun φ => ok_is_many (P := l.prog) (w := w) (base := base) (T := T.w φ) F15 (PySem.W.mg_of X G a15) (B φ) (G1 φ) 
  have G16 := fun φ => ok_is_word (P := l.prog) (w := w) (base := base) (T := T.w φ) F16 (PySem.W.mg_of X G a16) (B φ) (G1 φ) (G14 φ) (G15 φ) 
  have G17 := fun φ => ok_asked_words (P := l.prog) (w := w) (base := base) (T := T.w φ) F17 (PySem.W.mg_of X G a17) (B φ) (G16 φ) 
  have G18 := fun φ => ok_joined_of (P := l.prog) (w := w) (base := base) (T := T.w φ) F18 (PySem.W.mg_of X G a18) (B φ)  
  have G19 := fun φ => ok_joined (P := l.prog) (w := w) (base := base) (T := T.w φ) F19 (PySem.W.mg_of X G a19) (B φ) (G17 φ) (G18 φ) 
  have G20 := fun φ => ok_counts_of (P := l.prog) (w := w) (base := base) (T := T.w φ) F20 (PySem.W.mg_of X G a20) (B φ) (G18 φ) 
  have G21 := fun φ => ok_left (P := l.prog) (w := w) (base := base) (T := T.w φ) F21 (PySem.W.mg_of X G a21) (B φ) (G17 φ) (G20 φ) 
  have G22 := fun φ => ok_over (P := l.prog) (w := w) (base := base) (T := T.w φ) F22 (PySem.W.mg_of X G a22) (B φ) (G17 φ) (G20 φ) 
  have G23 := fun φ => ok_places_left (P := l.prog) (w := w) (base := base) (T := T.w φ) F23 (PySem.W.mg_of X G a23) (B φ) (G21 φ) 
  have G24 := fun φ => ok_asked_all (P := l.prog) (w := w) (base := base) (T := T.w φ) F24 (PySem.W.mg_of X G a24) (B φ) (G3 φ) (G5 φ) (G6 φ) 
  have G25 := fun φ => ok_way (P := l.prog) (w := w) (base := base) (T := T.w φ) F25 (PySem.W.mg_of X G a25) (B φ) (G24 φ) (G8 φ) 
  have G26 := fun φ => ok_is_walk (P := l.prog) (w := w) (base := base) (T := T.w φ) F26 (PySem.W.mg_of X G a26) (B φ) (G4 φ) 
  have G27 := fun φ => ok_judged (P := l.prog) (w := w) (base := base) (T := T.w φ) F27 (PySem.W.mg_of X G a27) (B φ) (G24 φ) (G26 φ) (G49 φ) (G12 φ) (G8 φ) (G50 φ) 
  have G28 := fun φ => ok_split (P := l.prog) (w := w) (base := base) (T := T.w φ) F28 (PySem.W.mg_of X G a28) (B φ) (G24 φ) (G10 φ) 
  have G29 := fun φ => ok__law_number (P := l.prog) (w := w) (base := base) (T := T.w φ) F29 (PySem.W.mg_of X G a29) (B φ)  
  have G30 := fun φ => ok__law_shop (P := l.prog) (w := w) (base := base) (T := T.w φ) F30 (PySem.W.mg_of X G a30) (B φ) (G29 φ) 
  have G31 := fun φ => ok__law_some (P := l.prog) (w := w) (base := base) (T := T.w φ) F31 (PySem.W.mg_of X G a31) (B φ) (G29 φ) 
  have G32 := fun φ => ok__law_name (P := l.prog) (w := w) (base := base) (T := T.w φ) F32 (PySem.W.mg_of X G a32) (B φ)  
  have G33 := fun φ => ok__law_words (P := l.prog) (w := w) (base := base) (T := T.w φ) F33 (PySem.W.mg_of X G a33) (B φ) (G29 φ) (G32 φ) 
  have G34 := fun φ => ok__law_plain (P := l.prog) (w := w) (base := base) (T := T.w φ) F34 (PySem.W.mg_of X G a34) (B φ)  
  have G35 := fun φ => ok__law_truths (P := l.prog) (w := w) (base := base) (T := T.w φ) F35 (PySem.W.mg_of X G a35) (B φ)  
  have G36 := fun φ => ok_Shortest_shows (P := l.prog) (w := w) (base := base) (T := T.w φ) F36 cl1 ⟨a36, i36, k36⟩ (by show ("shows" : Str) ∉ ([] : List Str); decide +kernel) (B φ) (G12 φ) (G8 φ) 
  have G37 := fun φ => ok_Missed_shows (P := l.prog) (w := w) (base := base) (T := T.w φ) F37 cl2 ⟨a37, i37, k37⟩ (by show ("shows" : Str) ∉ (["place"] : List Str); decide +kernel) (B φ)  
  have G38 := fun φ => ok_Longer_shows (P := l.prog) (w := w) (base := base) (T := T.w φ) F38 cl3 ⟨a38, i38, k38⟩ (by show ("shows" : Str) ∉ (["place"] : List Str); decide +kernel) (B φ) (G12 φ) (G8 φ) 
  have G39 := fun φ => ok__law_shop_right (P := l.prog) (w := w) (base := base) (T := T.w φ) F39 (PySem.W.mg_of X G a39) (B φ) (G25 φ) (G9 φ) (G11 φ) (G28 φ) (G27 φ) (G49 φ) (G50 φ) (G38 φ) (G37 φ) (G36 φ) (G34 φ) (G35 φ) 
  have G40 := ok2_Pad___init__ (P := l.prog) (w := w) (base := base) (T := T) F40 ⟨mk4, a40, i40, kc4⟩ rfl B J G1 
  have G41 := ok2_Pad_next_number (P := l.prog) (w := w) (base := base) (T := T) F41 cl4 ⟨a41, i41, k41⟩ (by show ("next_number" : Str) ∉ (["hand", "known"] : List Str); decide +kernel) B J  
  have G42 := ok2_Pad_put (P := l.prog) (w := w) (base := base) (T := T) F42 cl4 ⟨a42, i42, k42⟩ (by show ("put" : Str) ∉ (["hand", "known"] : List Str); decide +kernel) B J  
  have G43 := ok2_Pad_want (P := l.prog) (w := w) (base := base) (T := T) F43 cl4 ⟨a43, i43, k43⟩ (by show ("want" : Str) ∉ (["hand", "known"] : List Str); decide +kernel) B J G14 G15 G41 G42
  have G44 := ok2_Pad_got (P := l.prog) (w := w) (base := base) (T := T) F44 cl4 ⟨a44, i44, k44⟩ (by show ("got" : Str) ∉ (["hand", "known"] : List Str); decide +kernel) B J G14 G15 G20 G42 G41
  have G45 := ok2_Pad_words (P := l.prog) (w := w) (base := base) (T := T) F45 cl4 ⟨a45, i45, k45⟩ (by show ("words" : Str) ∉ (["hand", "known"] : List Str); decide +kernel) B J  
  have G46 := ok2_Pad_hear (P := l.prog) (w := w) (base := base) (T := T) F46 cl4 ⟨a46, i46, k46⟩ (by show ("hear" : Str) ∉ (["hand", "known"] : List Str); decide +kernel) B J G17 G18 
  have G47 := ok2__law_words_right (P := l.prog) (w := w) (base := base) (T := T) F47 (PySem.W.mg_of X G a47) B J G21 G22 G23 G19 G34 G40 G43 G44 G45 G46
  exact (okF_law (P := l.prog) (w := w) (base := base) (T := T.w fun _ => none) F48 (B fun _ => none) (G30 fun _ => none) (G31 fun _ => none) (G39 fun _ => none) (G47.fd rfl rfl) (G33 fun _ => none)).imp fun vs H Q E z => spL_to z
end T_k12
open PySem PySem.W PyProof.Rows
set_option maxHeartbeats 0 in
theorem PySem.Challenge.cw_aislelist_k12_whole_numbers_holds : PySem.Challenge.rw_aislelist_k12_whole_numbers.Holds := by
  w_on; o_law; k_head; (case hw => w_witness2)
  k_fill
  refine L2.walk_ofB (l := PySem.Challenge.rw_aislelist_k12_whole_numbers) (n := 63) (k := 9) (x := "_law_script") (CX := fun _ => L2.CX0) (sp := fun w => PL.spL _ T_k12.D_law) rfl (by decide) rfl ⟨rfl, by decide, by decide⟩ (fun w h Y => PySem.W.kIn_of Y) ?F (fun _ _ a ns hl hb _ hS => PL.spL_end hS (T_k12.law_true ns hl hb)) (fun _ _ _ _ _ h => h)
  case F =>
    intro w mg fa h KX G hmg
    refine' T_k12.all_mk KX G hmg ?aC0 ?pg0 ?hd0 ?po0 ?sa0 ?hc0 ?tp0 ?mk0 ?kc0 ?ni0 ?aC1 ?pg1 ?hd1 ?po1 ?sa1 ?hc1 ?tp1 ?mk1 ?kc1 ?ni1 ?aC2 ?pg2 ?hd2 ?po2 ?sa2 ?hc2 ?tp2 ?mk2 ?kc2 ?nf2_0 ?aC3 ?pg3 ?hd3 ?po3 ?sa3 ?hc3 ?tp3 ?mk3 ?kc3 ?nf3_0 ?aC4 ?pg4 ?hd4 ?po4 ?sa4 ?hc4 ?tp4 ?mk4 ?kc4 ?nf4_0 ?nf4_1 ?gn ?gt ?ki1 ?kt1 ?ks1 ?kb0_1 ?kb1_1 ?kb2_1 ?kb3_1 ?a1 ?l1 ?c1 ?k1 ?a2 ?l2 ?c2 ?k2 ?a3 ?l3 ?c3 ?k3 ?a4 ?l4 ?c4 ?k4 ?a5 ?l5 ?c5 ?k5 ?a6 ?l6 ?c6 ?k6 ?a7 ?l7 ?c7 ?k7 ?a8 ?l8 ?c8 ?k8 ?a9 ?l9 ?c9 ?k9 ?a10 ?l10 ?c10 ?k10 ?a11 ?l11 ?c11 ?k11 ?a12 ?l12 ?c12 ?k12 ?a13 ?l13 ?c13 ?k13 ?a14 ?l14 ?c14 ?k14 ?a15 ?l15 ?c15 ?k15 ?a16 ?l16 ?c16 ?k16 ?a17 ?l17 ?c17 ?k17 ?a18 ?l18 ?c18 ?k18 ?a19 ?l19 ?c19 ?k19 ?a20 ?l20 ?c20 ?k20 ?a21 ?l21 ?c21 ?k21 ?a22 ?l22 ?c22 ?k22 ?a23 ?l23 ?c23 ?k23 ?a24 ?l24 ?c24 ?k24 ?a25 ?l25 ?c25 ?k25 ?a26 ?l26 ?c26 ?k26 ?a27 ?l27 ?c27 ?k27 ?a28 ?l28 ?c28 ?k28 ?a29 ?l29 ?c29 ?k29 ?a30 ?l30 ?c30 ?k30 ?a31 ?l31 ?c31 ?k31 ?a32 ?l32 ?c32 ?k32 ?a33 ?l33 ?c33 ?k33 ?a34 ?l34 ?c34 ?k34 ?a35 ?l35 ?c35 ?k35 ?a36 ?l36 ?c36 ?k36 ?i36 ?a37 ?l37 ?c37 ?k37 ?i37 ?a38 ?l38 ?c38 ?k38 ?i38 ?a39 ?l39 ?c39 ?k39 ?a40 ?l40 ?c40 ?k40 ?i40 ?a41 ?l41 ?c41 ?k41 ?i41 ?a42 ?l42 ?c42 ?k42 ?i42 ?a43 ?l43 ?c43 ?k43 ?i43 ?a44 ?l44 ?c44 ?k44 ?i44 ?a45 ?l45 ?c45 ?k45 ?i45 ?a46 ?l46 ?c46 ?k46 ?i46 ?a47 ?l47 ?c47 ?k47 ?a48 ?l48 ?c48 ?k48 ?a49 ?l49 ?c49 ?k49 ?i49 ?a50 ?l50 ?c50 ?k50 ?i50 ?z1 ?z2 ?z3 ?z4 ?z5 ?z6 ?z7 ?z8 ?z9 ?z10 ?z11 ?z12 ?z13 ?z19 ?z20 ?z24 ?z25 ?z26 ?z28 ?z29 ?z30 ?z31 ?z32 ?z33 ?z34
    (case aC0 => k_is); (case pg0 => k_is); (case hd0 => k_is); (case po0 => k_is)
    (case sa0 => k_is); (case hc0 => k_is); (case tp0 => k_is); (case mk0 => k_is)
    (case kc0 => k_is); (case ni0 => k_is); (case aC1 => k_is); (case pg1 => k_is)
    (case hd1 => k_is); (case po1 => k_is); (case sa1 => k_is); (case hc1 => k_is)
    (case tp1 => k_is); (case mk1 => k_is); (case kc1 => k_is); (case ni1 => k_is)
    (case aC2 => k_is); (case pg2 => k_is); (case hd2 => k_is); (case po2 => k_is)
    (case sa2 => k_is); (case hc2 => k_is); (case tp2 => k_is); (case mk2 => k_is)
    (case kc2 => k_is); (case nf2_0 => k_is); (case aC3 => k_is); (case pg3 => k_is)
    (case hd3 => k_is); (case po3 => k_is); (case sa3 => k_is); (case hc3 => k_is)
    (case tp3 => k_is); (case mk3 => k_is); (case kc3 => k_is); (case nf3_0 => k_is)
    (case aC4 => k_is); (case pg4 => k_is); (case hd4 => k_is); (case po4 => k_is)
    (case sa4 => k_is); (case hc4 => k_is); (case tp4 => k_is); (case mk4 => k_is)
    (case kc4 => k_is); (case nf4_0 => k_is); (case nf4_1 => k_is); (case gn => k_is)
    (case gt => k_is); (case ki1 => k_is); (case kt1 => k_is); (case ks1 => k_is)
    (case kb0_1 => k_is); (case kb1_1 => k_is); (case kb2_1 => k_is); (case kb3_1 => k_is)
    (case a1 => k_is); (case l1 => k_is); (case c1 => k_is); (case k1 => k_is)
    (case a2 => k_is); (case l2 => k_is); (case c2 => k_is); (case k2 => k_is)
    (case a3 => k_is); (case l3 => k_is); (case c3 => k_is); (case k3 => k_is)
    (case a4 => k_is); (case l4 => k_is); (case c4 => k_is); (case k4 => k_is)
    (case a5 => k_is); (case l5 => k_is); (case c5 => k_is); (case k5 => k_is)
    (case a6 => k_is); (case l6 => k_is); (case c6 => k_is); (case k6 => k_is)
    (case a7 => k_is); (case l7 => k_is); (case c7 => k_is); (case k7 => k_is)
    (case a8 => k_is); (case l8 => k_is); (case c8 => k_is); (case k8 => k_is)
    (case a9 => k_is); (case l9 => k_is); (case c9 => k_is); (case k9 => k_is)
    (case a10 => k_is); (case l10 => k_is); (case c10 => k_is); (case k10 => k_is)
    (case a11 => k_is); (case l11 => k_is); (case c11 => k_is); (case k11 => k_is)
    (case a12 => k_is); (case l12 => k_is); (case c12 => k_is); (case k12 => k_is)
    (case a13 => k_is); (case l13 => k_is); (case c13 => k_is); (case k13 => k_is)
    (case a14 => k_is); (case l14 => k_is); (case c14 => k_is); (case k14 => k_is)
    (case a15 => k_is); (case l15 => k_is); (case c15 => k_is); (case k15 => k_is)
    (case a16 => k_is); (case l16 => k_is); (case c16 => k_is); (case k16 => k_is)
    (case a17 => k_is); (case l17 => k_is); (case c17 => k_is); (case k17 => k_is)
    (case a18 => k_is); (case l18 => k_is); (case c18 => k_is); (case k18 => k_is)
    (case a19 => k_is); (case l19 => k_is); (case c19 => k_is); (case k19 => k_is)
    (case a20 => k_is); (case l20 => k_is); (case c20 => k_is); (case k20 => k_is)
    (case a21 => k_is); (case l21 => k_is); (case c21 => k_is); (case k21 => k_is)
    (case a22 => k_is); (case l22 => k_is); (case c22 => k_is); (case k22 => k_is)
    (case a23 => k_is); (case l23 => k_is); (case c23 => k_is); (case k23 => k_is)
    (case a24 => k_is); (case l24 => k_is); (case c24 => k_is); (case k24 => k_is)
    (case a25 => k_is); (case l25 => k_is); (case c25 => k_is); (case k25 => k_is)
    (case a26 => k_is); (case l26 => k_is); (case c26 => k_is); (case k26 => k_is)
    (case a27 => k_is); (case l27 => k_is); (case c27 => k_is); (case k27 => k_is)
    (case a28 => k_is); (case l28 => k_is); (case c28 => k_is); (case k28 => k_is)
    (case a29 => k_is); (case l29 => k_is); (case c29 => k_is); (case k29 => k_is)
    (case a30 => k_is); (case l30 => k_is); (case c30 => k_is); (case k30 => k_is)
    (case a31 => k_is); (case l31 => k_is); (case c31 => k_is); (case k31 => k_is)
    (case a32 => k_is); (case l32 => k_is); (case c32 => k_is); (case k32 => k_is)
    (case a33 => k_is); (case l33 => k_is); (case c33 => k_is); (case k33 => k_is)
    (case a34 => k_is); (case l34 => k_is); (case c34 => k_is); (case k34 => k_is)
    (case a35 => k_is); (case l35 => k_is); (case c35 => k_is); (case k35 => k_is)
    (case a36 => k_is); (case l36 => k_is); (case c36 => k_is); (case k36 => k_is)
    (case i36 => k_is); (case a37 => k_is); (case l37 => k_is); (case c37 => k_is)
    (case k37 => k_is); (case i37 => k_is); (case a38 => k_is); (case l38 => k_is)
    (case c38 => k_is); (case k38 => k_is); (case i38 => k_is); (case a39 => k_is)
    (case l39 => k_is); (case c39 => k_is); (case k39 => k_is); (case a40 => k_is)
    (case l40 => k_is); (case c40 => k_is); (case k40 => k_is); (case i40 => k_is)
    (case a41 => k_is); (case l41 => k_is); (case c41 => k_is); (case k41 => k_is)
    (case i41 => k_is); (case a42 => k_is); (case l42 => k_is); (case c42 => k_is)
    (case k42 => k_is); (case i42 => k_is); (case a43 => k_is); (case l43 => k_is)
    (case c43 => k_is); (case k43 => k_is); (case i43 => k_is); (case a44 => k_is)
    (case l44 => k_is); (case c44 => k_is); (case k44 => k_is); (case i44 => k_is)
    (case a45 => k_is); (case l45 => k_is); (case c45 => k_is); (case k45 => k_is)
    (case i45 => k_is); (case a46 => k_is); (case l46 => k_is); (case c46 => k_is)
    (case k46 => k_is); (case i46 => k_is); (case a47 => k_is); (case l47 => k_is)
    (case c47 => k_is); (case k47 => k_is); (case a48 => k_is); (case l48 => k_is)
    (case c48 => k_is); (case k48 => k_is); (case a49 => k_is); (case l49 => k_is)
    (case c49 => k_is); (case k49 => k_is); (case i49 => k_is); (case a50 => k_is)
    (case l50 => k_is); (case c50 => k_is); (case k50 => k_is); (case i50 => k_is)
    (case z1 => k_is); (case z2 => k_is); (case z3 => k_is); (case z4 => k_is)
    (case z5 => k_is); (case z6 => k_is); (case z7 => k_is); (case z8 => k_is)
    (case z9 => k_is); (case z10 => k_is); (case z11 => k_is); (case z12 => k_is)
    (case z13 => k_is); (case z19 => k_is); (case z20 => k_is); (case z24 => k_is)
    (case z25 => k_is); (case z26 => k_is); (case z28 => k_is); (case z29 => k_is)
    (case z30 => k_is); (case z31 => k_is); (case z32 => k_is); (case z33 => k_is)
    (case z34 => k_is)
