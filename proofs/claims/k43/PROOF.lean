import PyProof.Rows.All
import HandS.ForMost
import HandS.Walk
import HandS.Zip
import HandS.SortKw
import HandS.IsInst
import HandS.Wide
import HandS.TupAny
import HandS.TupMul
import HandS.Deep
import KE.SortData
import HandS.SetKeys
import HandS.SetFor
import HandS.Strs
import PySem.Challenge.RW_loadorloose_k43_motions_of_grids
set_option Elab.async false
set_option linter.all false
set_option maxRecDepth 100000
namespace DL
open PySem L2
abbrev D := PyData
/-- a list of the module's own -/
def LstK (K : PySem.W.Frag) (a : Addr) (xs : List V) : Prop :=
  ∃ (o : Obj) (its : Array Value) (n : Nat), K.lookup a = some o ∧ o.cls = .type "list" ∧ o.dict = none ∧ o.data = .seq its n ∧ its.size ≤ sizeLine ∧ Vals xs its.toList
/-- are tuples of the module's own told as data? (where they are, no dict with tuples as keys) -/
def KTup : Bool := false
/-- a tuple to be read -/
def TupA (K : PySem.W.Frag) (H : Hp) (a : Addr) (xs : List V) : Prop := H a = some (.tup xs) ∨ (KTup = true ∧ SqT K H a xs)
theorem TupA.sq {K : PySem.W.Frag} {H : Hp} {a : Addr} {xs : List V} (h : TupA K H a xs) : SqT K H a xs := h.elim SqT.of fun h => h.2
/-- the first pair of a dict whose keys are tuples -/
def tMark : D × D := (.bool true, .none)
def keyD : Key → D
  | .inl i => .int i
  | .inr x => .str x
mutual
inductive Rep (K : PySem.W.Frag) (H : Hp) (ok : Addr → Prop) : V → D → Prop
  | non : Rep K H ok .non .none
  | bl (b : Bool) : Rep K H ok (.bl b) (.bool b)
  | int (i : Int) : Rep K H ok (.int i) (.int i)
  | str (x : Str) : Rep K H ok (.str x) (.str x)
  | lst {a : Addr} {xs : List V} {ds : List D} : ok a → H a = some (.lst xs) → RepL K H ok xs ds → Rep K H ok (.ref a) (.list ds)
  /-- the script: told as a dict that nothing else is told as -/
  | scr {a : Addr} {xs : List V} {ns : List Int} : SqL K H a xs → ((∃ o, H a = some (.frz o (.lst xs))) ∨ LstK K a xs) → xs = ns.map V.int → Rep K H ok (.ref a) (.dict [(.none, .list (ns.map PyData.int))])
  | tup {a : Addr} {xs : List V} {ds : List D} : TupA K H a xs → RepL K H ok xs ds → Rep K H ok (.ref a) (.tuple ds)
  | dK {a : Addr} {kvs : List (Key × V)} {ds : List (D × D)} : ok a → H a = some (.dK kvs) → RepK K H ok kvs ds → Rep K H ok (.ref a) (.dict ds)
  | dT {a : Addr} {kvs : List (List Key × V)} {ds : List (D × D)} : ok a → H a = some (.dT kvs) → RepT K H ok kvs ds → Rep K H ok (.ref a) (.dict (tMark :: ds))
inductive RepL (K : PySem.W.Frag) (H : Hp) (ok : Addr → Prop) : List V → List D → Prop
  | nil : RepL K H ok [] []
  | cons {v : V} {vs : List V} {d : D} {ds : List D} : Rep K H ok v d → RepL K H ok vs ds → RepL K H ok (v :: vs) (d :: ds)
inductive RepK (K : PySem.W.Frag) (H : Hp) (ok : Addr → Prop) : List (Key × V) → List (D × D) → Prop
  | nil : RepK K H ok [] []
  | cons {k : Key} {v : V} {vs : List (Key × V)} {d : D} {ds : List (D × D)} : Rep K H ok v d → RepK K H ok vs ds → RepK K H ok ((k, v) :: vs) ((keyD k, d) :: ds)
inductive RepT (K : PySem.W.Frag) (H : Hp) (ok : Addr → Prop) : List (List Key × V) → List (D × D) → Prop
  | nil : RepT K H ok [] []
  | cons {k : List Key} {v : V} {vs : List (List Key × V)} {d : D} {ds : List (D × D)} : Rep K H ok v d → RepT K H ok vs ds → RepT K H ok ((k, v) :: vs) ((.tuple (k.map keyD), d) :: ds)
end
/-- a tuple, tracked or locked: never changes -/
def TupO : HO → Prop
  | .tup _ => True
  | .frz _ _ => True
  | _ => False
section
variable {K : PySem.W.Frag} {H H' : Hp} {ok ok' : Addr → Prop}
/-- what may change from H to H' is neither allowed nor a tuple -/
def Kp (H H' : Hp) (ok ok' : Addr → Prop) : Prop := ∀ a o, H a = some o → (ok a → H' a = some o ∧ ok' a) ∧ (TupO o → H' a = some o)
theorem SqT.kp (k : Kp H H' ok ok') {a : Addr} {xs : List V} (h : SqT K H a xs) : SqT K H' a xs := by
  rcases h with (h | ⟨o, h⟩) | h
  · exact .inl (.inl ((k _ _ h).2 trivial))
  · exact .inl (.inr ⟨o, (k _ _ h).2 trivial⟩)
  · exact .inr h
theorem TupA.kp (k : Kp H H' ok ok') {a : Addr} {xs : List V} (h : TupA K H a xs) : TupA K H' a xs := h.imp (fun h => (k _ _ h).2 trivial) fun h => ⟨h.1, SqT.kp k h.2⟩
theorem scr_kp (k : Kp H H' ok ok') {a : Addr} {xs : List V} (h : (∃ o, H a = some (.frz o (.lst xs))) ∨ LstK K a xs) : SqL K H' a xs ∧ ((∃ o, H' a = some (.frz o (.lst xs))) ∨ LstK K a xs) := by
  rcases h with ⟨o, h⟩ | h
  · exact ⟨.inl (.inr ⟨o, (k _ _ h).2 trivial⟩), .inl ⟨o, (k _ _ h).2 trivial⟩⟩
  · exact ⟨.inr h, .inr h⟩
mutual
theorem Rep.kp (k : Kp H H' ok ok') : ∀ {v : V} {d : D}, Rep K H ok v d → Rep K H' ok' v d
  | _, _, .non => .non
  | _, _, .bl b => .bl b
  | _, _, .int i => .int i
  | _, _, .str x => .str x
  | _, _, .lst ho h hs => .lst ((k _ _ h).1 ho).2 ((k _ _ h).1 ho).1 (RepL.kp k hs)
  | _, _, .scr _ h hs => .scr (scr_kp k h).1 (scr_kp k h).2 hs
  | _, _, .tup h hs => .tup (TupA.kp k h) (RepL.kp k hs)
  | _, _, .dK ho h hs => .dK ((k _ _ h).1 ho).2 ((k _ _ h).1 ho).1 (RepK.kp k hs)
  | _, _, .dT ho h hs => .dT ((k _ _ h).1 ho).2 ((k _ _ h).1 ho).1 (RepT.kp k hs)
theorem RepL.kp (k : Kp H H' ok ok') : ∀ {v : List V} {d : List D}, RepL K H ok v d → RepL K H' ok' v d
  | _, _, .nil => .nil
  | _, _, .cons h hs => .cons (Rep.kp k h) (RepL.kp k hs)
theorem RepK.kp (k : Kp H H' ok ok') : ∀ {v : List (Key × V)} {d : List (D × D)}, RepK K H ok v d → RepK K H' ok' v d
  | _, _, .nil => .nil
  | _, _, .cons h hs => .cons (Rep.kp k h) (RepK.kp k hs)
theorem RepT.kp (k : Kp H H' ok ok') : ∀ {v : List (List Key × V)} {d : List (D × D)}, RepT K H ok v d → RepT K H' ok' v d
  | _, _, .nil => .nil
  | _, _, .cons h hs => .cons (Rep.kp k h) (RepT.kp k hs)
end
theorem Kp.same (s : Same H H') (h : ∀ a, H a ≠ none → ok a → ok' a) : Kp H H' ok ok' := fun a o e => ⟨fun p => ⟨s a o e, h a (by rw [e]; intro z; cases z) p⟩, fun _ => s a o e⟩
theorem RepL.length : ∀ {v : List V} {d : List D}, RepL K H ok v d → v.length = d.length
  | _, _, .nil => rfl
  | _, _, .cons _ hs => congrArg (· + 1) (RepL.length hs)
theorem RepL.get : ∀ {vs : List V} {ds : List D} {i : Nat} {v : V}, RepL K H ok vs ds → vs[i]? = some v → ∃ d, ds[i]? = some d ∧ Rep K H ok v d
  | _, _, _, _, .nil, e => by simp at e
  | _, _, 0, _, .cons h _, e => by simp at e; subst e; exact ⟨_, rfl, h⟩
  | _, _, i + 1, v, .cons _ hs, e => by
    obtain ⟨d, h1, h2⟩ := RepL.get (i := i) (v := v) hs (by simpa using e)
    exact ⟨d, by simpa using h1, h2⟩
theorem RepL.getD : ∀ {vs : List V} {ds : List D} {i : Nat} {d : D}, RepL K H ok vs ds → ds[i]? = some d → ∃ v, vs[i]? = some v ∧ Rep K H ok v d
  | _, _, _, _, .nil, e => by simp at e
  | _, _, 0, _, .cons h _, e => by simp at e; subst e; exact ⟨_, rfl, h⟩
  | _, _, i + 1, d, .cons _ hs, e => by
    obtain ⟨v, h1, h2⟩ := RepL.getD (i := i) (d := d) hs (by simpa using e)
    exact ⟨v, by simpa using h1, h2⟩
theorem RepL.append : ∀ {vs ws : List V} {ds es : List D}, RepL K H ok vs ds → RepL K H ok ws es → RepL K H ok (vs ++ ws) (ds ++ es)
  | _, _, _, _, .nil, s => s
  | _, _, _, _, .cons r t, s => .cons r (RepL.append t s)
theorem RepL.take : ∀ {vs : List V} {ds : List D} (n : Nat), RepL K H ok vs ds → RepL K H ok (vs.take n) (ds.take n)
  | _, _, 0, _ => .nil
  | _, _, _ + 1, .nil => .nil
  | _, _, n + 1, .cons r t => .cons r (RepL.take n t)
theorem RepL.drop : ∀ {vs : List V} {ds : List D} (n : Nat), RepL K H ok vs ds → RepL K H ok (vs.drop n) (ds.drop n)
  | _, _, 0, r => r
  | _, _, _ + 1, .nil => .nil
  | _, _, n + 1, .cons _ t => RepL.drop n t
theorem RepL.set {v : V} {d : D} (h : Rep K H ok v d) : ∀ {vs : List V} {ds : List D} (n : Nat), RepL K H ok vs ds → RepL K H ok (vs.set n v) (ds.set n d)
  | _, _, _, .nil => .nil
  | _, _, 0, .cons _ t => .cons h t
  | _, _, n + 1, .cons r t => .cons r (RepL.set h n t)
theorem RepL.reverse : ∀ {vs : List V} {ds : List D}, RepL K H ok vs ds → RepL K H ok vs.reverse ds.reverse
  | _, _, .nil => .nil
  | _, _, .cons r t => by
    rw [List.reverse_cons, List.reverse_cons]
    exact (RepL.reverse t).append (.cons r .nil)
end
/-! ### == -/
section
variable {K : PySem.W.Frag} {H : Hp} {ok : Addr → Prop}
mutual
/-- no dict within -/
def noDict : D → Bool
  | .none => true
  | .bool _ => true
  | .int _ => true
  | .str _ => true
  | .list ds => noDictL ds
  | .tuple ds => noDictL ds
  | .dict _ => false
def noDictL : List D → Bool
  | [] => true
  | d :: ds => noDict d && noDictL ds
end
mutual
theorem Rep.dp : ∀ {v : V} {d : D}, Rep K H ok v d → noDict d = true → Dp K H v d
  | _, _, .non, _ => .non
  | _, _, .bl b, _ => .bl b
  | _, _, .int i, _ => .int i
  | _, _, .str x, _ => .str x
  | _, _, .lst _ h hs, e => .lst (.inl (.inl h)) (RepL.dp hs e)
  | _, _, .tup h hs, e => .tup h.sq (RepL.dp hs e)
  | _, _, .dK _ _ _, e => Bool.noConfusion e
  | _, _, .dT _ _ _, e => Bool.noConfusion e
  | _, _, .scr _ _ _, e => Bool.noConfusion e
theorem RepL.dp : ∀ {v : List V} {d : List D}, RepL K H ok v d → noDictL d = true → DpAll K H v d
  | _, _, .nil, _ => .nil
  | _, _, .cons h hs, e => by
    have e' := (Bool.and_eq_true_iff.mp e)
    exact .cons (Rep.dp h e'.1) (RepL.dp hs e'.2)
end
/-- the value of an int -/
theorem Rep.int_inv {v : V} {i : Int} (h : Rep K H ok v (.int i)) : v = .int i := by cases h; rfl
theorem Rep.bl_inv {v : V} {i : Bool} (h : Rep K H ok v (.bool i)) : v = .bl i := by cases h; rfl
theorem Rep.str_inv {v : V} {i : Str} (h : Rep K H ok v (.str i)) : v = .str i := by cases h; rfl
theorem Rep.non_inv {v : V} (h : Rep K H ok v .none) : v = .non := by cases h; rfl
theorem Rep.tup_inv {v : V} {ds : List D} (h : Rep K H ok v (.tuple ds)) : ∃ a xs, v = .ref a ∧ SqT K H a xs ∧ RepL K H ok xs ds := by cases h with | tup h1 h2 => exact ⟨_, _, rfl, h1.sq, h2⟩
theorem Rep.lst_inv {v : V} {ds : List D} (h : Rep K H ok v (.list ds)) : ∃ a xs, v = .ref a ∧ H a = some (.lst xs) ∧ ok a ∧ RepL K H ok xs ds := by
  cases h with
  | lst o h hs => exact ⟨_, _, rfl, h, o, hs⟩
end
end DL
set_option Elab.async false
set_option linter.all false
set_option maxRecDepth 100000
namespace DL
open PySem L2
/-- what a slot holds: nothing known, a value that stays, an owned list or dict, one lent by the caller, a locked one, an instance -/
inductive Slot where
  | emp | fz (d : D) | own (d : D) | lent (d : D) | lock (d : D) | res
abbrev Env := List Slot
def Slot.held : Slot → Option D
  | .own d => some d
  | .lent d => some d
  | .lock d => some d
  | _ => none
def Slot.free : Slot → Bool
  | .emp => true
  | .fz _ => true
  | .own _ => true
  | _ => false
def Slot.locked : Slot → Bool
  | .lock _ => true
  | _ => false
structure Wd where
  n : Nat
  H0 : Hp
  Ex : Addr → Prop
  Mu : Addr → Prop
  P : List (V × D)
  L : List (Nat × Addr × Option HO)
  R : Addr → Option HO
/-- the address of a held list or dict -/
def Own (env : Env) (τ : St) (a : Addr) : Prop := ∃ (i : Nat) (s : Slot) (d : D), env[i]? = some s ∧ s.held = some d ∧ τ[i]? = some (some (.ref a))
def okA (W : Wd) (env : Env) (τ : St) (a : Addr) : Prop := ¬ W.Ex a ∧ ¬ Own env τ a
def OwnAt (K : PySem.W.Frag) (H : Hp) (ok : Addr → Prop) (p : Addr) : D → Prop
  | .list ds => ∃ vs, H p = some (.lst vs) ∧ RepL K H ok vs ds
  | .dict ds => (∃ kvs, H p = some (.dK kvs) ∧ RepK K H ok kvs ds) ∨ (∃ kvs es, ds = tMark :: es ∧ H p = some (.dT kvs) ∧ RepT K H ok kvs es)
  | _ => False
/-- instances -/
def InsO : HO → Prop
  | .ins _ _ _ => True
  | _ => False
def MutO (W : Wd) (p : Addr) : Prop := (W.H0 p = none ∨ W.Mu p) ∧ ¬ W.Ex p
structure Core (K : PySem.W.Frag) (W : Wd) (env : Env) (τ : St) (H : Hp) : Prop where
  len : τ.length = env.length
  same : ∀ a o, ¬ W.Mu a → W.H0 a = some o → H a = some o
  tups : ∀ a o, W.H0 a = some o → TupO o → H a = some o
  there : ∀ a, W.H0 a ≠ none → H a ≠ none
  hid : ∀ a, W.Ex a → H a ≠ none
  fz : ∀ (i : Nat) d, env[i]? = some (.fz d) → ∃ v, τ[i]? = some (some v) ∧ Rep K H (okA W env τ) v d
  own : ∀ (i : Nat) s d, env[i]? = some s → s.held = some d → ∃ p, τ[i]? = some (some (.ref p)) ∧ MutO W p ∧ OwnAt K H (okA W env τ) p d
  inj : ∀ (i j : Nat) a s t d e, env[i]? = some s → s.held = some d → env[j]? = some t → t.held = some e → τ[i]? = some (some (.ref a)) → τ[j]? = some (some (.ref a)) → i = j
  pin : ∀ p ∈ W.P, Rep K H (okA W env τ) p.1 p.2
  fix : ∀ q ∈ W.L, τ[q.1]? = some (some (.ref q.2.1)) ∧ ∃ s, env[q.1]? = some s ∧ s.free = false ∧ ∀ o, q.2.2 = some o → s.locked = true ∧ H q.2.1 = some o
  res : ∀ a o, W.R a = some o → H a = some o
  resX : ∀ a, W.R a ≠ none → W.Ex a
section
variable {K : PySem.W.Frag} {W : Wd} {env : Env} {τ : St} {H H' : Hp}
theorem OwnAt.kp {ok ok' : Addr → Prop} {p : Addr} {d : D} (k : Kp H H' ok ok') (hp : ∀ o, H p = some o → H' p = some o) (h : OwnAt K H ok p d) : OwnAt K H' ok' p d := by
  cases d with
  | list ds => obtain ⟨vs, e, r⟩ := h; exact ⟨vs, hp _ e, r.kp k⟩
  | dict ds =>
    rcases h with ⟨kvs, e, r⟩ | ⟨kvs, es, e0, e, r⟩
    · exact .inl ⟨kvs, hp _ e, r.kp k⟩
    · exact .inr ⟨kvs, es, e0, hp _ e, r.kp k⟩
  | _ => exact h.elim
theorem OwnAt.some {ok : Addr → Prop} {p : Addr} {d : D} (h : OwnAt K H ok p d) : ∃ o, H p = some o ∧ ¬ TupO o ∧ ¬ InsO o ∧ Mut (some o) := by
  cases d with
  | list ds => obtain ⟨vs, e, r⟩ := h; exact ⟨_, e, fun z => z, fun z => z, trivial⟩
  | dict ds =>
    rcases h with ⟨kvs, e, r⟩ | ⟨kvs, es, e0, e, r⟩
    · exact ⟨_, e, fun z => z, fun z => z, trivial⟩
    · exact ⟨_, e, fun z => z, fun z => z, trivial⟩
  | _ => exact h.elim
theorem Core.own_some (c : Core K W env τ H) {a : Addr} (h : Own env τ a) : ∃ o, H a = some o ∧ ¬ TupO o ∧ ¬ InsO o ∧ Mut (some o) := by
  obtain ⟨i, s, d, e, hs, ht⟩ := h
  obtain ⟨p, e2, _, o⟩ := c.own i s d e hs
  rw [ht] at e2
  cases e2
  exact o.some
/-- a new address is allowed -/
theorem Core.new_ok (c : Core K W env τ H) {a : Addr} (h : H a = none) : okA W env τ a :=
  ⟨fun x => c.hid a x h, fun x => by
    obtain ⟨o, e, _⟩ := c.own_some x
    rw [h] at e; cases e⟩
theorem Same.ne {H H' : Hp} (s : Same H H') {a : Addr} (h : H a ≠ none) : H' a ≠ none := by
  cases e : H a with
  | none => exact absurd e h
  | some o => rw [s a o e]; intro z; cases z
/-- T1: the heap grows -/
theorem Core.ext (c : Core K W env τ H) (s : Same H H') : Core K W env τ H' where
  len := c.len
  same := fun a o m e => s _ _ (c.same a o m e)
  tups := fun a o e t => s _ _ (c.tups a o e t)
  there := fun a e => Same.ne s (c.there a e)
  hid := fun a x => Same.ne s (c.hid a x)
  fz := fun i d e => by
    obtain ⟨v, h1, h2⟩ := c.fz i d e
    exact ⟨v, h1, h2.kp (Kp.same s fun _ _ x => x)⟩
  own := fun i sl d e hs => by
    obtain ⟨p, h1, h2, h3⟩ := c.own i sl d e hs
    exact ⟨p, h1, h2, h3.kp (Kp.same s fun _ _ x => x) fun o => s p o⟩
  inj := c.inj
  pin := fun p hp => (c.pin p hp).kp (Kp.same s fun _ _ x => x)
  fix := fun q hq => by
    obtain ⟨h1, sl, h2, h3, h4⟩ := c.fix q hq
    exact ⟨h1, sl, h2, h3, fun o e => ⟨(h4 o e).1, s _ _ (h4 o e).2⟩⟩
  res := fun a o e => s _ _ (c.res a o e)
  resX := c.resX
theorem get_set {α : Type} {l : List α} {i j : Nat} {x y : α} (h : (l.set i x)[j]? = some y) : (j = i ∧ y = x) ∨ (j ≠ i ∧ l[j]? = some y) := by
  by_cases e : j = i
  · subst e
    rw [List.getElem?_set] at h
    split at h
    · split at h
      · exact .inl ⟨rfl, (Option.some.inj h).symm⟩
      · cases h
    · exact absurd rfl ‹¬ _›
  · rw [List.getElem?_set_ne (Ne.symm e)] at h
    exact .inr ⟨e, h⟩
theorem own_set {s : Slot} {x : Option V} {i : Nat} {a : Addr} (h : Own (env.set i s) (τ.set i x) a) : Own env τ a ∨ (∃ d, s.held = some d ∧ x = some (.ref a)) := by
  obtain ⟨j, t, d, e, ht, hr⟩ := h
  rcases get_set e with ⟨rfl, rfl⟩ | ⟨hj, e⟩
  · rcases get_set hr with ⟨_, z⟩ | ⟨z, _⟩
    · exact .inr ⟨d, ht, z.symm⟩
    · exact absurd rfl z
  · rcases get_set hr with ⟨z, _⟩ | ⟨_, hr⟩
    · exact absurd z hj
    · exact .inl ⟨j, t, d, e, ht, hr⟩
theorem set_get {α : Type} {l : List α} {i j : Nat} {x y : α} (h : l[j]? = some y) (hij : j ≠ i) : (l.set i x)[j]? = some y := by
  rw [List.getElem?_set_ne (Ne.symm hij)]; exact h
theorem set_self {α : Type} {l : List α} {i : Nat} {x y : α} (h : l[i]? = some y) : (l.set i x)[i]? = some x := by
  rw [List.getElem?_set_self (List.getElem?_eq_some_iff.mp h).1]
/-- T2: a free slot gets a new content (fz or emp): the heap as it is -/
theorem Core.setFz (c : Core K W env τ H) {i : Nat} {s0 : Slot} {s : Slot} {x : Option V} (h0 : env[i]? = some s0) (hf : s0.free = true) (hn : i < W.n)
    (hs : s = .emp ∨ ∃ d v, s = .fz d ∧ x = some v ∧ Rep K H (okA W env τ) v d) : Core K W (env.set i s) (τ.set i x) H := by
  have hd : s.held = none := by rcases hs with rfl | ⟨d, v, rfl, _⟩ <;> rfl
  have up : ∀ a, okA W env τ a → okA W (env.set i s) (τ.set i x) a := fun a h => ⟨h.1, fun o => by
    rcases own_set o with o | ⟨d, e, _⟩
    · exact h.2 o
    · rw [hd] at e; cases e⟩
  have kp : Kp H H (okA W env τ) (okA W (env.set i s) (τ.set i x)) := Kp.same (Same.refl H) fun a _ h => up a h
  refine ⟨by simpa using c.len, c.same, c.tups, c.there, c.hid, fun j d e => ?_, fun j t d e ht => ?_, fun j k a t t' d d' e1 e2 e3 e4 e5 e6 => ?_, fun p hp => (c.pin p hp).kp kp, fun q hq => ?_, c.res, c.resX⟩
  · rcases get_set e with ⟨rfl, z⟩ | ⟨hj, e⟩
    · rcases hs with rfl | ⟨d', v, rfl, rfl, r⟩
      · cases z
      · cases z
        have hi : j < τ.length := by rw [c.len]; exact (List.getElem?_eq_some_iff.mp h0).1
        exact ⟨v, by rw [List.getElem?_set_self hi], r.kp kp⟩
    · obtain ⟨v, h1, h2⟩ := c.fz j d e
      exact ⟨v, set_get h1 hj, h2.kp kp⟩
  · rcases get_set e with ⟨rfl, rfl⟩ | ⟨hj, e⟩
    · rw [hd] at ht; cases ht
    · obtain ⟨p, h1, h2, h3⟩ := c.own j t d e ht
      exact ⟨p, set_get h1 hj, h2, h3.kp kp fun _ z => z⟩
  · rcases get_set e1 with ⟨rfl, rfl⟩ | ⟨hj, e1⟩
    · rw [hd] at e2; cases e2
    rcases get_set e3 with ⟨rfl, rfl⟩ | ⟨hk, e3⟩
    · rw [hd] at e4; cases e4
    rcases get_set e5 with ⟨z, _⟩ | ⟨_, e5⟩
    · exact absurd z hj
    rcases get_set e6 with ⟨z, _⟩ | ⟨_, e6⟩
    · exact absurd z hk
    exact c.inj j k a t t' d d' e1 e2 e3 e4 e5 e6
  · obtain ⟨h1, sl, h2, h3, h4⟩ := c.fix q hq
    have hj : q.1 ≠ i := fun z => by
      rw [z, h0] at h2
      cases h2
      rw [hf] at h3; cases h3
    exact ⟨set_get h1 hj, sl, set_get h2 hj, h3, h4⟩
/-- T3: a free slot gets a new list or dict of its own, made since Hb -/
theorem Core.setOwn {Hb : Hp} (cb : Core K W env τ Hb) (s : Same Hb H) {i : Nat} {s0 : Slot} {p : Addr} {d : D} (h0 : env[i]? = some s0) (hf : s0.free = true) (hn : i < W.n)
    (hp : Hb p = none) (ho : OwnAt K H (fun a => okA W env τ a ∧ a ≠ p) p d) : Core K W (env.set i (.own d)) (τ.set i (some (.ref p))) H := by
  have c := cb.ext s
  have hi : i < τ.length := by rw [c.len]; exact (List.getElem?_eq_some_iff.mp h0).1
  have hie : i < env.length := (List.getElem?_eq_some_iff.mp h0).1
  have hpW : W.H0 p = none := by
    cases e : W.H0 p with
    | none => rfl
    | some o => exact absurd hp (cb.there p (by rw [e]; intro z; cases z))
  have hpt : ∀ (j : Nat), τ[j]? = some (some (.ref p)) → ∀ t e, env[j]? = some t → t.held = some e → False := fun j e1 t e2 e3 e4 => by
    obtain ⟨o, z, _⟩ := cb.own_some ⟨j, t, _, e3, e4, e1⟩
    rw [hp] at z; cases z
  have up : ∀ a, okA W env τ a → a ≠ p → okA W (env.set i (.own d)) (τ.set i (some (.ref p))) a := fun a h hne => ⟨h.1, fun o => by
    rcases own_set o with o | ⟨d, _, e⟩
    · exact h.2 o
    · injection e with e; injection e with e; exact hne e.symm⟩
  have kp : Kp Hb H (okA W env τ) (okA W (env.set i (.own d)) (τ.set i (some (.ref p)))) := Kp.same s fun a ha h => up a h fun z => ha (z ▸ hp)
  have kp2 : Kp H H (fun a => okA W env τ a ∧ a ≠ p) (okA W (env.set i (.own d)) (τ.set i (some (.ref p)))) := Kp.same (Same.refl H) fun a _ h => up a h.1 h.2
  refine ⟨by simpa using c.len, c.same, c.tups, c.there, c.hid, fun j d' e => ?_, fun j t d' e ht => ?_, fun j k a t t' d' d'' e1 e2 e3 e4 e5 e6 => ?_, fun p hp => (cb.pin p hp).kp kp, fun q hq => ?_, c.res, c.resX⟩
  · rcases get_set e with ⟨_, z⟩ | ⟨hj, e⟩
    · cases z
    · obtain ⟨v, h1, h2⟩ := cb.fz j d' e
      exact ⟨v, set_get h1 hj, h2.kp kp⟩
  · rcases get_set e with ⟨rfl, rfl⟩ | ⟨hj, e⟩
    · cases ht
      exact ⟨p, List.getElem?_set_self hi, ⟨.inl hpW, fun x => cb.hid p x hp⟩, ho.kp kp2 fun _ z => z⟩
    · obtain ⟨q, h1, h2, h3⟩ := cb.own j t d' e ht
      exact ⟨q, set_get h1 hj, h2, h3.kp kp fun o z => s q o z⟩
  · rcases get_set e1 with ⟨rfl, rfl⟩ | ⟨hj, e1'⟩
    · rcases get_set e3 with ⟨rfl, rfl⟩ | ⟨hk, e3⟩
      · rfl
      · rcases get_set e6 with ⟨z, _⟩ | ⟨_, e7⟩
        · exact absurd z hk
        rcases get_set e5 with ⟨_, z⟩ | ⟨z, _⟩
        · injection z with z; injection z with z
          rw [z] at e7
          exact (hpt k e7 t' _ e3 e4).elim
        · exact absurd rfl z
    rcases get_set e3 with ⟨rfl, rfl⟩ | ⟨hk, e3⟩
    · rcases get_set e5 with ⟨z, _⟩ | ⟨_, e7⟩
      · exact absurd z hj
      rcases get_set e6 with ⟨_, z⟩ | ⟨z, _⟩
      · injection z with z; injection z with z
        rw [z] at e7
        exact (hpt j e7 t _ e1' e2).elim
      · exact absurd rfl z
    rcases get_set e5 with ⟨z, _⟩ | ⟨_, e5⟩
    · exact absurd z hj
    rcases get_set e6 with ⟨z, _⟩ | ⟨_, e6⟩
    · exact absurd z hk
    exact c.inj j k a t t' d' d'' e1' e2 e3 e4 e5 e6
  · obtain ⟨h1, sl, h2, h3, h4⟩ := c.fix q hq
    have hj : q.1 ≠ i := fun z => by
      rw [z, h0] at h2
      cases h2
      rw [hf] at h3; cases h3
    exact ⟨set_get h1 hj, sl, set_get h2 hj, h3, h4⟩
theorem Core.noatt_own (c : Core K W env τ H) : True := trivial
/-- T4: an owned list is given up: from now on it stays -/
theorem Core.freeze (c : Core K W env τ H) {i : Nat} {d : D} (h0 : env[i]? = some (.own d)) : Core K W (env.set i (.fz d)) τ H := by
  obtain ⟨p, hp, hm, ho⟩ := c.own i _ d h0 rfl
  have oset : ∀ a, Own (env.set i (.fz d)) τ a → Own env τ a ∧ a ≠ p := fun a h => by
    obtain ⟨j, t, d', e, ht, hr⟩ := h
    rcases get_set e with ⟨rfl, rfl⟩ | ⟨hj, e⟩
    · cases ht
    · refine ⟨⟨j, t, d', e, ht, hr⟩, fun z => ?_⟩
      subst z
      exact hj (c.inj _ _ _ _ _ _ _ e ht h0 rfl hr hp)
  have up : ∀ a, okA W env τ a → okA W (env.set i (.fz d)) τ a := fun a h => ⟨h.1, fun o => h.2 (oset a o).1⟩
  have kp : Kp H H (okA W env τ) (okA W (env.set i (.fz d)) τ) := Kp.same (Same.refl H) fun a _ h => up a h
  refine ⟨by simpa using c.len, c.same, c.tups, c.there, c.hid, fun j d' e => ?_, fun j t d' e ht => ?_, fun j k a t t' d' d'' e1 e2 e3 e4 e5 e6 => ?_, fun p hp => (c.pin p hp).kp kp, fun q hq => ?_, c.res, c.resX⟩
  · rcases get_set e with ⟨rfl, z⟩ | ⟨hj, e⟩
    · cases z
      refine ⟨.ref p, hp, ?_⟩
      · have hx := hm.2
        have okp : okA W (env.set j (.fz d)) τ p := ⟨hx, fun o => (oset p o).2 rfl⟩
        cases d with
        | list ds => obtain ⟨vs, e, r⟩ := ho; exact .lst okp e (r.kp kp)
        | dict ds =>
          rcases ho with ⟨kvs, e, r⟩ | ⟨kvs, es, e0, e9, r⟩
          · exact .dK okp e (r.kp kp)
          · subst e0
            exact .dT okp e9 (r.kp kp)
        | _ => exact ho.elim
    · obtain ⟨v, h1, h2⟩ := c.fz j d' e
      exact ⟨v, h1, h2.kp kp⟩
  · rcases get_set e with ⟨rfl, rfl⟩ | ⟨hj, e⟩
    · cases ht
    · obtain ⟨q, h1, h2, h3⟩ := c.own j t d' e ht
      exact ⟨q, h1, h2, h3.kp kp fun _ z => z⟩
  · rcases get_set e1 with ⟨rfl, rfl⟩ | ⟨hj, e1⟩
    · cases e2
    rcases get_set e3 with ⟨rfl, rfl⟩ | ⟨hk, e3⟩
    · cases e4
    exact c.inj j k a t t' d' d'' e1 e2 e3 e4 e5 e6
  · obtain ⟨h1, sl, h2, h3, h4⟩ := c.fix q hq
    have hj : q.1 ≠ i := fun z => by
      rw [z, h0] at h2
      cases h2
      cases h3
    exact ⟨h1, sl, set_get h2 hj, h3, h4⟩
/-- T6: a held list or dict is changed in its place -/
theorem Core.mutate (c : Core K W env τ H) {i : Nat} {s s' : Slot} {d d' : D} {p : Addr} {o : HO} (h0 : env[i]? = some s) (hd : s.held = some d) (hl : s.locked = false) (hd' : s'.held = some d') (hf : s'.free = s.free) (hl' : s'.locked = false)
    (hp : τ[i]? = some (some (.ref p))) (ho : OwnAt K (upd H p o) (okA W env τ) p d') : Core K W (env.set i s') τ (upd H p o) := by
  obtain ⟨p', hp', hm, hoo⟩ := c.own i s d h0 hd
  rw [hp] at hp'; cases hp'
  obtain ⟨u, hu, hut, hui, huM⟩ := hoo.some
  have ownp : Own env τ p := ⟨i, s, d, h0, hd, hp⟩
  have oset : ∀ a, Own (env.set i s') τ a → Own env τ a := fun a h => by
    obtain ⟨j, t, d', e, ht, hr⟩ := h
    rcases get_set e with ⟨rfl, rfl⟩ | ⟨hj, e⟩
    · exact ⟨_, s, d, h0, hd, hr⟩
    · exact ⟨j, t, d', e, ht, hr⟩
  have up : ∀ a, okA W env τ a → okA W (env.set i s') τ a := fun a h => ⟨h.1, fun o => h.2 (oset a o)⟩
  have ne : ∀ a, a ≠ p → upd H p o a = H a := fun a h => upd_ne h
  have kp : Kp H (upd H p o) (okA W env τ) (okA W (env.set i s') τ) := fun a x e => ⟨fun k => by
    have : a ≠ p := fun z => k.2 (z ▸ ownp)
    exact ⟨(ne a this).trans e, up a k⟩, fun t => by
    have : a ≠ p := fun z => by
      rw [z, hu] at e
      cases e
      exact hut t
    exact (ne a this).trans e⟩
  have kp2 : Kp (upd H p o) (upd H p o) (okA W env τ) (okA W (env.set i s') τ) := Kp.same (Same.refl _) fun a _ h => up a h
  have nn : ∀ a, H a ≠ none → upd H p o a ≠ none := fun a h => by
    by_cases z : a = p
    · rw [z, upd_same]; intro z; cases z
    · rw [ne a z]; exact h
  refine ⟨by simpa using c.len, fun a x m e => ?_, fun a x e t => ?_, fun a e => nn a (c.there a e), fun a e => nn a (c.hid a e), fun j d2 e => ?_, fun j t d2 e ht => ?_, fun j k a t t' d1 d2 e1 e2 e3 e4 e5 e6 => ?_, fun p hp => (c.pin p hp).kp kp, fun q hq => ?_, fun a x e => (ne a fun z => hm.2 (c.resX p (by rw [← z, e]; intro y; cases y))).trans (c.res a x e), c.resX⟩
  · have : a ≠ p := fun z => by
      subst z
      rcases hm.1 with z | z
      · rw [z] at e; cases e
      · exact m z
    exact (ne a this).trans (c.same a x m e)
  · have e1 := c.tups a x e t
    have : a ≠ p := fun z => by
      subst z
      rw [hu] at e1
      cases e1
      exact hut t
    exact (ne a this).trans e1
  · rcases get_set e with ⟨rfl, z⟩ | ⟨hj, e⟩
    · rw [← z] at hd'; cases hd'
    · obtain ⟨v, h1, h2⟩ := c.fz j d2 e
      exact ⟨v, h1, h2.kp kp⟩
  · rcases get_set e with ⟨rfl, rfl⟩ | ⟨hj, e⟩
    · rw [hd'] at ht; cases ht
      exact ⟨p, hp, hm, ho.kp kp2 fun _ z => z⟩
    · obtain ⟨q, h1, h2, h3⟩ := c.own j t d2 e ht
      refine ⟨q, h1, h2, h3.kp kp fun x z => ?_⟩
      have : q ≠ p := fun z => by
        subst z
        exact hj (c.inj _ _ _ _ _ _ _ e ht h0 hd h1 hp)
      exact (ne q this).trans z
  · have f : ∀ (j : Nat) t d1, (env.set i s')[j]? = some t → t.held = some d1 → ∃ t d1, env[j]? = some t ∧ t.held = some d1 := fun j t d1 e1 e2 => by
      rcases get_set e1 with ⟨rfl, rfl⟩ | ⟨hj, e1⟩
      · exact ⟨_, _, h0, hd⟩
      · exact ⟨_, _, e1, e2⟩
    obtain ⟨_, _, f1, f2⟩ := f j t d1 e1 e2
    obtain ⟨_, _, f3, f4⟩ := f k t' d2 e3 e4
    exact c.inj j k a _ _ _ _ f1 f2 f3 f4 e5 e6
  · obtain ⟨h1, sl, h2, h3, h4⟩ := c.fix q hq
    by_cases hj : q.1 = i
    · rw [hj] at h1 h2
      rw [h0] at h2; cases h2
      refine ⟨by rw [hj]; exact h1, s', by rw [hj]; exact set_self h0, hf.trans h3, fun x e => ?_⟩
      have := (h4 x e).1
      rw [hl] at this; cases this
    · refine ⟨h1, sl, set_get h2 hj, h3, fun x e => ⟨(h4 x e).1, ?_⟩⟩
      have h5 := h4 x e
      have : q.2.1 ≠ p := fun z => by
        rw [z] at h1
        have hsl : ∃ d, sl.held = some d := by
          have := h5.1
          cases sl <;> first | exact ⟨_, rfl⟩ | cases this
        obtain ⟨d9, hd9⟩ := hsl
        exact hj (c.inj _ _ _ _ _ _ _ h2 hd9 h0 hd h1 hp)
      exact (ne _ this).trans h5.2
end
end DL
set_option Elab.async false
set_option linter.all false
set_option maxRecDepth 100000
namespace L2
open PySem
section
variable {X : Cx}
theorem PE.weak {e : Expr} {t t' : TE} (h : PE X e t) (w : ∀ σ H Q, t' σ H Q → t σ H Q) : PE X e t' := ⟨fun pins s σ H Q I hw => h.run pins s σ H Q I (w _ _ _ hw)⟩
theorem PT.weak {e : Expr} {t t' : TT} (h : PT X e t) (w : ∀ σ H Q, t' σ H Q → t σ H Q) : PT X e t' := ⟨fun pins s σ H Q I hw => h.run pins s σ H Q I (w _ _ _ hw)⟩
theorem PW.weak {e : Expr} {t t' : TT} (h : PW X e t) (w : ∀ σ H Q, t' σ H Q → t σ H Q) : PW X e t' := ⟨fun wh pins s σ H Q I hw => h.run wh pins s σ H Q I (w _ _ _ hw)⟩
theorem PA.weak {e : List Expr} {t t' : TA} (h : PA X e t) (w : ∀ σ H Q, t' σ H Q → t σ H Q) : PA X e t' := ⟨fun p pins s σ H Q I hw => h.run p pins s σ H Q I (w _ _ _ hw)⟩
theorem PS.weak {e : Stmt} {t t' : TS} (h : PS X e t) (w : ∀ E σ H, t' E σ H → t E σ H) : PS X e t' := ⟨fun pins s σ H Q I hw => h.run pins s σ H Q I (w _ _ _ hw)⟩
theorem PSs.weak {e : List Stmt} {t t' : TS} (h : PSs X e t) (w : ∀ E σ H, t' E σ H → t E σ H) : PSs X e t' := ⟨fun pins s σ H Q I hw => h.run pins s σ H Q I (w _ _ _ hw)⟩
end
end L2
namespace DL
open PySem L2
/-- n: a value that may be stored; b: one that is only looked at; f: a new list or dict -/
inductive Md | n | b | f
  deriving DecidableEq
def Post (K : PySem.W.Frag) (W : Wd) (env : Env) (τ : St) (H : Hp) : Md → Hp → V → D → Prop
  | .n, H', v, d => Rep K H' (okA W env τ) v d
  | .b, H', v, d => Rep K H' (fun a => ¬ W.Ex a) v d
  | .f, H', v, d => ∃ p, v = .ref p ∧ H p = none ∧ OwnAt K H' (fun a => okA W env τ a ∧ a ≠ p) p d
def okM (W : Wd) (env : Env) (τ : St) : Md → Addr → Prop
  | .n => okA W env τ
  | _ => fun a => ¬ W.Ex a
def tE (K : PySem.W.Frag) (W : Wd) (m : Md) (f : Env → Option D) : TE := fun σ H Q => ∃ env att d, Core K W env (σ ++ att) H ∧ f env = some d ∧ ∀ v H', Same H H' → Post K W env (σ ++ att) H m H' v d → Q v H'
abbrev DE (X : Cx) (W : Wd) (m : Md) (e : Expr) (f : Env → Option D) : Prop := PE X e (tE X.K W m f)
def tT (K : PySem.W.Frag) (W : Wd) (f : Env → Option Bool) : TT := fun σ H Q => ∃ env att b, Core K W env (σ ++ att) H ∧ f env = some b ∧ ∀ H', Same H H' → Q b H'
abbrev DT (X : Cx) (W : Wd) (e : Expr) (f : Env → Option Bool) : Prop := PT X e (tT X.K W f)
abbrev DW (X : Cx) (W : Wd) (e : Expr) (f : Env → Option Bool) : Prop := PW X e (tT X.K W f)
def tA (K : PySem.W.Frag) (W : Wd) (m : Md) (f : Env → Option (List D)) : TA := fun σ H Q => ∃ env att ds, Core K W env (σ ++ att) H ∧ f env = some ds ∧ ∀ vs H', Same H H' → RepL K H' (okM W env (σ ++ att) m) vs ds → Q vs H'
abbrev DA (X : Cx) (W : Wd) (m : Md) (es : List Expr) (f : Env → Option (List D)) : Prop := PA X es (tA X.K W m f)
inductive Out where
  | nx (env : Env) | bk (env : Env) | ct (env : Env) | rt (d : D) (env : Env)
def tS (K : PySem.W.Frag) (W : Wd) (f : Env → Option Out) : TS := fun E σ H => ∃ env att o, Core K W env (σ ++ att) H ∧ f env = some o ∧
  match o with
  | .nx env' => ∀ σ' att' H', σ'.length = σ.length → Core K W env' (σ' ++ att') H' → E.nx σ' H'
  | .bk env' => ∀ σ' att' H', σ'.length = σ.length → Core K W env' (σ' ++ att') H' → E.bk σ' H'
  | .ct env' => ∀ σ' att' H', σ'.length = σ.length → Core K W env' (σ' ++ att') H' → E.ct σ' H'
  | .rt d env' => ∀ v σ' att' H', σ'.length = σ.length → Core K W env' (σ' ++ att') H' → Rep K H' (okA W env' (σ' ++ att')) v d → E.rt v H'
abbrev DS (X : Cx) (W : Wd) (st : Stmt) (f : Env → Option Out) : Prop := PS X st (tS X.K W f)
abbrev DSs (X : Cx) (W : Wd) (st : List Stmt) (f : Env → Option Out) : Prop := PSs X st (tS X.K W f)
section
variable {X : Cx} {W : Wd} {m : Md}
theorem Rep.all {K : PySem.W.Frag} {env : Env} {τ : St} {H : Hp} {v : V} {d : D} (h : Rep K H (okA W env τ) v d) : Rep K H (fun a => ¬ W.Ex a) v d := h.kp (Kp.same (Same.refl H) fun _ _ x => x.1)
theorem OwnAt.rep {K : PySem.W.Frag} {H : Hp} {ok ok' : Addr → Prop} {p : Addr} {d : D} (h : OwnAt K H ok p d) (hp : ok' p) (k : ∀ a, ok a → ok' a) : Rep K H ok' (.ref p) d := by
  have kp : Kp H H ok ok' := Kp.same (Same.refl H) fun a _ => k a
  cases d with
  | list ds => obtain ⟨vs, e, r⟩ := h; exact .lst hp e (r.kp kp)
  | dict ds =>
    rcases h with ⟨kvs, e, r⟩ | ⟨kvs, es, e0, e, r⟩
    · exact .dK hp e (r.kp kp)
    · subst e0
      exact .dT hp e (r.kp kp)
  | _ => exact h.elim
/-- a new one may be stored; a stored one may be looked at -/
theorem de_fn {e : Expr} {f : Env → Option D} (h : DE X W .f e f) : DE X W .n e f := h.weak fun σ H Q ⟨env, att, d, c, hf, q⟩ => ⟨env, att, d, c, hf, fun v H' s ⟨p, e, hp, o⟩ => by
  subst e
  exact q _ H' s (o.rep (c.new_ok hp) fun a h => h.1)⟩
theorem de_nb {e : Expr} {f : Env → Option D} (h : DE X W .n e f) : DE X W .b e f := h.weak fun σ H Q ⟨env, att, d, c, hf, q⟩ => ⟨env, att, d, c, hf, fun v H' s r => q v H' s (Rep.all r)⟩
theorem de_fb {e : Expr} {f : Env → Option D} (h : DE X W .f e f) : DE X W .b e f := de_nb (de_fn h)
mutual
def flat : D → Bool
  | .none => true
  | .bool _ => true
  | .int _ => true
  | .str _ => true
  | .tuple ds => flatL ds
  | _ => false
def flatL : List D → Bool
  | [] => true
  | d :: ds => flat d && flatL ds
end
mutual
theorem Rep.flat {K : PySem.W.Frag} {H : Hp} {ok ok' : Addr → Prop} : ∀ {v : V} {d : D}, Rep K H ok v d → flat d = true → Rep K H ok' v d
  | _, _, .non, _ => .non
  | _, _, .bl b, _ => .bl b
  | _, _, .int i, _ => .int i
  | _, _, .str x, _ => .str x
  | _, _, .tup h hs, e => .tup h (RepL.flat hs e)
  | _, _, .lst _ _ _, e => Bool.noConfusion e
  | _, _, .dK _ _ _, e => Bool.noConfusion e
  | _, _, .dT _ _ _, e => Bool.noConfusion e
  | _, _, .scr _ _ _, e => Bool.noConfusion e
theorem RepL.flat {K : PySem.W.Frag} {H : Hp} {ok ok' : Addr → Prop} : ∀ {v : List V} {d : List D}, RepL K H ok v d → flatL d = true → RepL K H ok' v d
  | _, _, .nil, _ => .nil
  | _, _, .cons h hs, e => by
    have e' := Bool.and_eq_true_iff.mp e
    exact .cons (Rep.flat h e'.1) (RepL.flat hs e'.2)
end
def fFlat (f : Env → Option D) : Env → Option D := fun env => (f env).bind fun d => if flat d then some d else none
/-- a value without lists may be stored though owned lists were looked at -/
theorem de_flat {e : Expr} {f : Env → Option D} (h : DE X W .b e f) : DE X W .n e (fFlat f) := h.weak fun σ H Q ⟨env, att, d, c, hf, q⟩ => by
  unfold fFlat at hf
  cases hd : f env with
  | none => rw [hd] at hf; cases hf
  | some d' =>
    rw [hd] at hf
    simp only [Option.bind_some] at hf
    split at hf
    · cases hf
      exact ⟨env, att, d, c, hd, fun v H' s r => q v H' s (Rep.flat r ‹_›)⟩
    · cases hf
/-! ### names and constants -/
def fV (i : Nat) : Env → Option D := fun env => match env[i]? with | some (.fz d) => some d | _ => none
def fVb (i : Nat) : Env → Option D := fun env => match env[i]? with | some (.fz d) => some d | some s => s.held | none => none
theorem app_get {σ att : St} {i : Nat} (h : i < σ.length) : (σ ++ att)[i]? = σ[i]? := List.getElem?_append_left h
section
variable {i : Nat} {x : Str} {pos : Pos}
theorem vn (i : Nat) (hN : X.N[i]? = some x := by rfl) (hv : Vis X.env.scope x := by first | exact Or.inl rfl | exact Or.inr (Or.inl rfl) | exact Or.inr (Or.inr rfl)) (hd : (x == ("__debug__" : Str)) = false := by decide)
    (hcd : (x == ("__classdict__" : Str)) = false := by decide) : DE X W .n (.Name x pos) (fV i) := by
  refine ⟨fun pins s σ H Q I ⟨env, att, d, c, hf, q⟩ => (pe_var hN hv hd hcd).run pins s σ H Q I ?_⟩
  unfold fV at hf
  split at hf
  · cases hf
    obtain ⟨v, h1, h2⟩ := c.fz i d ‹_›
    rw [app_get (by rw [I.len]; exact (List.getElem?_eq_some_iff.mp hN).1)] at h1
    exact ⟨v, h1, q v H (Same.refl H) h2⟩
  · cases hf
theorem vb (i : Nat) (hN : X.N[i]? = some x := by rfl) (hv : Vis X.env.scope x := by first | exact Or.inl rfl | exact Or.inr (Or.inl rfl) | exact Or.inr (Or.inr rfl)) (hd : (x == ("__debug__" : Str)) = false := by decide)
    (hcd : (x == ("__classdict__" : Str)) = false := by decide) : DE X W .b (.Name x pos) (fVb i) := by
  refine ⟨fun pins s σ H Q I ⟨env, att, d, c, hf, q⟩ => (pe_var hN hv hd hcd).run pins s σ H Q I ?_⟩
  have hi : i < σ.length := by rw [I.len]; exact (List.getElem?_eq_some_iff.mp hN).1
  unfold fVb at hf
  split at hf
  · cases hf
    obtain ⟨v, h1, h2⟩ := c.fz i d ‹_›
    rw [app_get hi] at h1
    exact ⟨v, h1, q v H (Same.refl H) (Rep.all h2)⟩
  · obtain ⟨p, h1, h2, h3⟩ := c.own i _ d ‹_› hf
    rw [app_get hi] at h1
    exact ⟨_, h1, q _ H (Same.refl H) (h3.rep h2.2 fun _ x => x.1)⟩
  · cases hf
end
def fC (d : D) : Env → Option D := fun _ => some d
theorem post_of {K : PySem.W.Frag} {env : Env} {τ : St} {H H' : Hp} {v : V} {d : D} (hm : m ≠ .f) (h : Rep K H' (okM W env τ m) v d) : Post K W env τ H m H' v d := by
  cases m with
  | n => exact h
  | b => exact h
  | f => exact absurd rfl hm
theorem rep_of {K : PySem.W.Frag} {env : Env} {τ : St} {H H' : Hp} {v : V} {d : D} (hm : m ≠ .f) (h : Post K W env τ H m H' v d) : Rep K H' (okM W env τ m) v d := by
  cases m with
  | n => exact h
  | b => exact h
  | f => exact absurd rfl hm
section
variable {j : Nat} {pos : Pos}
theorem ci {i : Int} (hm : m ≠ .f := by decide) : DE X W m (.Constant (.int i) j pos) (fC (.int i)) := pe_int.weak fun σ H Q ⟨env, att, d, c, hf, q⟩ => by
  cases hf; exact q _ H (Same.refl H) (post_of hm (.int i))
theorem cs {i : Str} (hm : m ≠ .f := by decide) : DE X W m (.Constant (.str i) j pos) (fC (.str i)) := pe_str.weak fun σ H Q ⟨env, att, d, c, hf, q⟩ => by
  cases hf; exact q _ H (Same.refl H) (post_of hm (.str i))
theorem cb {i : Bool} (hm : m ≠ .f := by decide) : DE X W m (.Constant (.bool i) j pos) (fC (.bool i)) := pe_bl.weak fun σ H Q ⟨env, att, d, c, hf, q⟩ => by
  cases hf; exact q _ H (Same.refl H) (post_of hm (.bl i))
theorem cn (hm : m ≠ .f := by decide) : DE X W m (.Constant .none j pos) (fC .none) := pe_non.weak fun σ H Q ⟨env, att, d, c, hf, q⟩ => by
  cases hf; exact q _ H (Same.refl H) (post_of hm .non)
end
/-! ### operations, by data -/
/-- the allowed addresses behind -/
abbrev okN (ok : Addr → Prop) (H : Hp) : Addr → Prop := fun a => ok a ∨ H a = none
def Res (K : PySem.W.Frag) (H : Hp) (ok : Addr → Prop) (r : D) (Q : VK) : Prop := ∀ v H', Same H H' → Rep K H' (okN ok H) v r → Q v H'
def ResF (K : PySem.W.Frag) (H : Hp) (ok : Addr → Prop) (r : D) (Q : VK) : Prop := ∀ p H', Same H H' → H p = none → OwnAt K H' (fun a => okN ok H a ∧ a ≠ p) p r → Q (.ref p) H'
theorem Res.f {K : PySem.W.Frag} {H : Hp} {ok : Addr → Prop} {r : D} {Q : VK} (h : Res K H ok r Q) : ResF K H ok r Q := fun p H' s hp o => h _ H' s (o.rep (.inr hp) fun _ x => x.1)
def S2 (K : PySem.W.Frag) (g : D → D → Option D) : R2 := fun x y H Q => ∃ ok d e r, Rep K H ok x d ∧ Rep K H ok y e ∧ g d e = some r ∧ Res K H ok r Q
def S2F (K : PySem.W.Frag) (g : D → D → Option D) : R2 := fun x y H Q => ∃ ok d e r, Rep K H ok x d ∧ Rep K H ok y e ∧ g d e = some r ∧ ResF K H ok r Q
def S1 (K : PySem.W.Frag) (g : D → Option D) : V → Hp → VK → Prop := fun x H Q => ∃ ok d r, Rep K H ok x d ∧ g d = some r ∧ Res K H ok r Q
def SC (g : D → D → Option Bool) (K : PySem.W.Frag) : R2 := fun x y H Q => ∃ ok d e b, Rep K H ok x d ∧ Rep K H ok y e ∧ g d e = some b ∧ Q (.bl b) H
def SL (K : PySem.W.Frag) (g : List D → Option D) : List V → Hp → VK → Prop := fun xs H Q => ∃ ok ds r, RepL K H ok xs ds ∧ g ds = some r ∧ Res K H ok r Q
def SLF (K : PySem.W.Frag) (g : List D → Option D) : List V → Hp → VK → Prop := fun xs H Q => ∃ ok ds r, RepL K H ok xs ds ∧ g ds = some r ∧ ResF K H ok r Q
section
variable {K : PySem.W.Frag} {env : Env} {τ : St} {H H1 H' : Hp}
theorem okM_new (c : Core K W env τ H) (hm : m ≠ .f) {a : Addr} (h : okN (okM W env τ m) H a) : okM W env τ m a := by
  cases m with
  | n => exact h.elim id fun h => c.new_ok h
  | b => exact h.elim id fun h => (c.new_ok h).1
  | f => exact absurd rfl hm
theorem res_post (c : Core K W env τ H) (s1 : Same H H1) (hm : m ≠ .f) {r : D} {Q : VK} (q : ∀ v H', Same H H' → Post K W env τ H m H' v r → Q v H') : Res K H1 (okM W env τ m) r Q := fun v H' s h =>
  q v H' (s1.trans s) (post_of hm (h.kp (Kp.same (Same.refl H') fun a _ x => okM_new (c.ext s1) hm x)))
theorem resF_post (c : Core K W env τ H) (s1 : Same H H1) {r : D} {Q : VK} (q : ∀ v H', Same H H' → Post K W env τ H .f H' v r → Q v H') : ResF K H1 (okA W env τ) r Q := fun p H' s hp h =>
  q _ H' (s1.trans s) ⟨p, rfl, s1.free hp, h.kp (Kp.same (Same.refl H') fun a _ x => ⟨okM_new (m := .n) (c.ext s1) (by decide) x.1, x.2⟩) fun _ z => z⟩
theorem rep_ext {v : V} {d : D} {ok : Addr → Prop} (s : Same H H') (h : Rep K H ok v d) : Rep K H' ok v d := h.kp (Kp.same s fun _ _ x => x)
theorem repL_ext {v : List V} {d : List D} {ok : Addr → Prop} (s : Same H H') (h : RepL K H ok v d) : RepL K H' ok v d := h.kp (Kp.same s fun _ _ x => x)
end
def f2 (g : D → D → Option D) (fa fb : Env → Option D) : Env → Option D := fun env => (fa env).bind fun d => (fb env).bind fun e => g d e
def f1 (g : D → Option D) (fa : Env → Option D) : Env → Option D := fun env => (fa env).bind g
theorem bind_some {α β : Type} {x : Option α} {f : α → Option β} {b : β} (h : x.bind f = some b) : ∃ a, x = some a ∧ f a = some b := by
  cases x with
  | none => cases h
  | some a => exact ⟨a, rfl, h⟩
section
variable {a b : Expr} {fa fb : Env → Option D} {pos : Pos} {op : Operator} {g : D → D → Option D}
/-- two operands, read in a row -/
theorem two {R : R2} (hm : m ≠ .f) {σ : St} {H : Hp} {Q : VK} (hR : ∀ env att d e H2 x y, Core X.K W env (σ ++ att) H → Same H H2 → (fa env).bind (fun d => (fb env).bind (fun e => g d e)) = (g d e) →
      fa env = some d → fb env = some e → Rep X.K H2 (okM W env (σ ++ att) m) x d → Rep X.K H2 (okM W env (σ ++ att) m) y e → R x y H2 Q)
    {env : Env} {att : St} {r : D} (c : Core X.K W env (σ ++ att) H) (hf : f2 g fa fb env = some r) : tOp R (tE X.K W m fa) (tE X.K W m fb) σ H Q := by
  obtain ⟨d, h1, h2⟩ := bind_some hf
  obtain ⟨e, h3, h4⟩ := bind_some h2
  refine ⟨env, att, d, c, h1, fun x H1 s1 r1 => ⟨env, att, e, c.ext s1, h3, fun y H2 s2 r2 => ?_⟩⟩
  exact hR env att d e H2 x y c (s1.trans s2) (by rw [h1, h3]; rfl) h1 h3 (rep_ext s2 (rep_of hm r1)) (rep_of hm r2)
theorem de_bin (ho : OpR X (binaryOp op) (S2 X.K g)) (ha : DE X W m a fa) (hb : DE X W m b fb) (hm : m ≠ .f := by decide) : DE X W m (.BinOp a op b pos) (f2 g fa fb) :=
  (pe_op ho ha hb).weak fun σ H Q ⟨env, att, r, c, hf, q⟩ => by
    obtain ⟨d, h1, h2⟩ := bind_some hf
    obtain ⟨e, h3, h4⟩ := bind_some h2
    refine ⟨env, att, d, c, h1, fun x H1 s1 r1 => ⟨env, att, e, c.ext s1, h3, fun y H2 s2 r2 => ?_⟩⟩
    exact ⟨_, d, e, r, rep_ext s2 (rep_of hm r1), rep_of hm r2, h4, res_post c (s1.trans s2) hm q⟩
theorem de_binF (ho : OpR X (binaryOp op) (S2F X.K g)) (ha : DE X W .n a fa) (hb : DE X W .n b fb) : DE X W .f (.BinOp a op b pos) (f2 g fa fb) :=
  (pe_op ho ha hb).weak fun σ H Q ⟨env, att, r, c, hf, q⟩ => by
    obtain ⟨d, h1, h2⟩ := bind_some hf
    obtain ⟨e, h3, h4⟩ := bind_some h2
    refine ⟨env, att, d, c, h1, fun x H1 s1 r1 => ⟨env, att, e, c.ext s1, h3, fun y H2 s2 r2 => ?_⟩⟩
    exact ⟨_, d, e, r, rep_ext s2 r1, r2, h4, resF_post c (s1.trans s2) q⟩
theorem de_un {uop : UnaryOp} {g : D → Option D} (ho : UnR X (unaryOp uop) (S1 X.K g)) (ha : DE X W m a fa) (hm : m ≠ .f := by decide) : DE X W m (.UnaryOp uop a pos) (f1 g fa) :=
  (pe_un ho ha).weak fun σ H Q ⟨env, att, r, c, hf, q⟩ => by
    obtain ⟨d, h1, h2⟩ := bind_some hf
    exact ⟨env, att, d, c, h1, fun x H1 s1 r1 => ⟨_, d, r, rep_of hm r1, h2, res_post c s1 hm q⟩⟩
/-- comparisons -/
def fCmp (g : D → D → Option Bool) (fa fb : Env → Option D) : Env → Option Bool := fun env => (fa env).bind fun d => (fb env).bind fun e => g d e
def fB (f : Env → Option Bool) : Env → Option D := fun env => (f env).map PyData.bool
theorem dt_cmp {cop : CmpOp} {g : D → D → Option Bool} (ho : OpR X (compareOp cop) (SC g X.K)) (ha : DE X W .b a fa) (hb : DE X W .b b fb) (hm : behindInMarks cop b = false := by rfl) : DT X W (.Compare a [cop] [b] pos) (fCmp g fa fb) :=
  (pt_cmpR ho ha hb hm).weak fun σ H Q ⟨env, att, r, c, hf, q⟩ => by
    obtain ⟨d, h1, h2⟩ := bind_some hf
    obtain ⟨e, h3, h4⟩ := bind_some h2
    refine ⟨env, att, d, c, h1, fun x H1 s1 r1 => ⟨env, att, e, c.ext s1, h3, fun y H2 s2 r2 => ?_⟩⟩
    exact ⟨_, d, e, r, rep_ext s2 r1, r2, h4, r, rfl, q H2 (s1.trans s2)⟩
theorem de_cmp {cop : CmpOp} {g : D → D → Option Bool} (ho : OpR X (compareOp cop) (SC g X.K)) (ha : DE X W .b a fa) (hb : DE X W .b b fb) (hm : behindInMarks cop b = false := by rfl) (hmm : m ≠ .f := by decide) : DE X W m (.Compare a [cop] [b] pos) (fB (fCmp g fa fb)) :=
  (pe_cmpR ho ha hb hm).weak fun σ H Q ⟨env, att, r, c, hf, q⟩ => by
    obtain ⟨k, hk, hr⟩ : ∃ k, fCmp g fa fb env = some k ∧ r = .bool k := by
      unfold fB at hf
      cases h : fCmp g fa fb env with
      | none => rw [h] at hf; cases hf
      | some k => rw [h] at hf; exact ⟨k, rfl, (Option.some.inj hf).symm⟩
    subst hr
    obtain ⟨d, h1, h2⟩ := bind_some hk
    obtain ⟨e, h3, h4⟩ := bind_some h2
    refine ⟨env, att, d, c, h1, fun x H1 s1 r1 => ⟨env, att, e, c.ext s1, h3, fun y H2 s2 r2 => ?_⟩⟩
    exact ⟨_, d, e, k, rep_ext s2 r1, r2, h4, q _ H2 (s1.trans s2) (post_of hmm (.bl k))⟩
end
/-! ### arguments -/
def fNil : Env → Option (List D) := fun _ => some []
def fCons (f : Env → Option D) (g : Env → Option (List D)) : Env → Option (List D) := fun env => (f env).bind fun d => (g env).bind fun ds => some (d :: ds)
theorem da_nil : DA X W m [] fNil := pa_nil.weak fun σ H Q ⟨env, att, r, c, hf, q⟩ => by
  cases hf
  exact q [] H (Same.refl H) .nil
theorem da_cons {e : Expr} {es : List Expr} {f : Env → Option D} {g : Env → Option (List D)} (h : DE X W m e f) (hs : DA X W m es g) (hst : starEach (e :: es) X.env = (false, eval e X.env) :: starEach es X.env := by rfl) (hm : m ≠ .f := by decide) :
    DA X W m (e :: es) (fCons f g) := (pa_cons h hs hst).weak fun σ H Q ⟨env, att, r, c, hf, q⟩ => by
  obtain ⟨d, h1, h2⟩ := bind_some hf
  obtain ⟨ds, h3, h4⟩ := bind_some h2
  cases h4
  exact ⟨env, att, d, c, h1, fun x H1 s1 r1 => ⟨env, att, ds, c.ext s1, h3, fun xs H2 s2 r2 => q _ H2 (s1.trans s2) (.cons (rep_ext s2 (rep_of hm r1)) r2)⟩⟩
/-! ### calls -/
def fCall (g : List D → Option D) (fs : Env → Option (List D)) : Env → Option D := fun env => (fs env).bind g
section
variable {e : Expr} {es : List Expr} {fs : Env → Option (List D)} {g : List D → Option D} {x : Str} {id T : String} {pos p : Pos}
theorem sl_ok {σ : St} {H : Hp} {Q : VK} (hm : m ≠ .f) (h : tE X.K W m (fCall g fs) σ H Q) : tA X.K W m fs σ H fun vs H1 => SL X.K g vs H1 Q := by
  obtain ⟨env, att, r, c, hf, q⟩ := h
  obtain ⟨ds, h1, h2⟩ := bind_some hf
  exact ⟨env, att, ds, c, h1, fun vs H1 s1 r1 => ⟨_, ds, r, r1, h2, res_post c s1 hm q⟩⟩
theorem slf_ok {σ : St} {H : Hp} {Q : VK} (h : tE X.K W .f (fCall g fs) σ H Q) : tA X.K W .n fs σ H fun vs H1 => SLF X.K g vs H1 Q := by
  obtain ⟨env, att, r, c, hf, q⟩ := h
  obtain ⟨ds, h1, h2⟩ := bind_some hf
  exact ⟨env, att, ds, c, h1, fun vs H1 s1 r1 => ⟨_, ds, r, r1, h2, resF_post c s1 q⟩⟩
theorem de_callB (hc : CallR X (.builtin id) (SL X.K g)) (ha : DA X W m (e :: es) fs) (hg : Gl X x := by rfl) (hm : X.mg x = none := by assumption) (hv : bootBuiltins x = some (.builtin id) := by decide +kernel) (hn : x ≠ "__name__" := by decide) (hdb : (x == ("__debug__" : Str)) = false := by decide) (hmm : m ≠ .f := by decide)
    (he : starEach (e :: es) X.env = (false, eval e X.env) :: starEach es X.env := by rfl) (hpl : (backTo pos (starEach es X.env)).any (·.1) = false := by rfl) : DE X W m (.Call (.Name x p) (e :: es) [] pos) (fCall g fs) :=
  (pe_callB hc hg hm hv ha hn hdb he hpl).weak fun _ _ _ h => sl_ok hmm h
theorem de_callT (hc : CallR X (.type T) (SL X.K g)) (ha : DA X W m (e :: es) fs) (hg : Gl X x := by rfl) (hm : X.mg x = none := by assumption) (hv : bootBuiltins x = some (.type T) := by decide +kernel) (hn : x ≠ "__name__" := by decide) (hdb : (x == ("__debug__" : Str)) = false := by decide) (hmm : m ≠ .f := by decide)
    (he : starEach (e :: es) X.env = (false, eval e X.env) :: starEach es X.env := by rfl) (hpl : (backTo pos (starEach es X.env)).any (·.1) = false := by rfl) : DE X W m (.Call (.Name x p) (e :: es) [] pos) (fCall g fs) :=
  (pe_callTy hc hg hm hv ha hn hdb he hpl).weak fun _ _ _ h => sl_ok hmm h
theorem de_callBF (hc : CallR X (.builtin id) (SLF X.K g)) (ha : DA X W .n (e :: es) fs) (hg : Gl X x := by rfl) (hm : X.mg x = none := by assumption) (hv : bootBuiltins x = some (.builtin id) := by decide +kernel) (hn : x ≠ "__name__" := by decide) (hdb : (x == ("__debug__" : Str)) = false := by decide)
    (he : starEach (e :: es) X.env = (false, eval e X.env) :: starEach es X.env := by rfl) (hpl : (backTo pos (starEach es X.env)).any (·.1) = false := by rfl) : DE X W .f (.Call (.Name x p) (e :: es) [] pos) (fCall g fs) :=
  (pe_callB hc hg hm hv ha hn hdb he hpl).weak fun _ _ _ h => slf_ok h
theorem de_callTF (hc : CallR X (.type T) (SLF X.K g)) (ha : DA X W .n (e :: es) fs) (hg : Gl X x := by rfl) (hm : X.mg x = none := by assumption) (hv : bootBuiltins x = some (.type T) := by decide +kernel) (hn : x ≠ "__name__" := by decide) (hdb : (x == ("__debug__" : Str)) = false := by decide)
    (he : starEach (e :: es) X.env = (false, eval e X.env) :: starEach es X.env := by rfl) (hpl : (backTo pos (starEach es X.env)).any (·.1) = false := by rfl) : DE X W .f (.Call (.Name x p) (e :: es) [] pos) (fCall g fs) :=
  (pe_callTy hc hg hm hv ha hn hdb he hpl).weak fun _ _ _ h => slf_ok h
/-- a def that changes nothing -/
abbrev pureSp (K : PySem.W.Frag) (g : List D → Option D) : Sp := fun vs H Q _ => SL K g vs H Q
/-- a def of the module, as a caller knows it -/
structure Df (P : Program) (w : World) (K : PySem.W.Frag) (mg : Str → Option Value) (base : Heap) (k : Nat) (x : Str) (ps : List Str) (g : List D → Option D) : Prop where
  ex : ∃ f fd, FnOk P w K mg base CX0 k f fd ps (pureSp K g) ∧ mg x = some (.ref f) ∧ PySem.W.keepIn K (.ref f) = true ∧ Binds K fd ps []
theorem de_call {k : Nat} {ps : List Str} (F : Df X.prog X.w X.K X.mg X.base k x ps g) (hr : Room k X.A) (ha : DA X W m (e :: es) fs) (hg : Gl X x := by rfl) (hdb : (x == ("__debug__" : Str)) = false := by decide) (hmm : m ≠ .f := by decide)
    (he : starEach (e :: es) X.env = (false, eval e X.env) :: starEach es X.env := by rfl) (hpl : (backTo pos (starEach es X.env)).any (·.1) = false := by rfl) : DE X W m (.Call (.Name x p) (e :: es) [] pos) (fCall g fs) := by
  obtain ⟨f, fd, F, hm, hk, hb⟩ := F.ex
  refine (pe_call F hr hg hm hk hb .nil (pass0) ha hdb he hpl).weak fun σ H Q h => ?_
  have := sl_ok hmm h
  obtain ⟨env, att, ds, c, hf, q⟩ := this
  exact ⟨env, att, ds, c, hf, fun vs H' s r => by
    show SL X.K g (vs ++ []) H' Q
    rw [List.append_nil]
    exact q vs H' s r⟩
end
/-! ### tests -/
section
variable {a b : Expr} {fa fb : Env → Option Bool} {rest : List Expr} {pos : Pos}
def fAndB (fa fb : Env → Option Bool) : Env → Option Bool := fun env => (fa env).bind fun c => if c = true then fb env else some false
def fOrB (fa fb : Env → Option Bool) : Env → Option Bool := fun env => (fa env).bind fun c => if c = true then some true else fb env
def fNotB (fa : Env → Option Bool) : Env → Option Bool := fun env => (fa env).map (!·)
theorem dw_and1 (ha : DT X W a fa) : DW X W (.BoolOp .And [a] pos) fa := pw_and1 ha
theorem dw_or1 (ha : DT X W a fa) : DW X W (.BoolOp .Or [a] pos) fa := pw_or1 ha
theorem dw_and (ha : DT X W a fa) (hb : DW X W (.BoolOp .And (b :: rest) pos) fb) : DW X W (.BoolOp .And (a :: b :: rest) pos) (fAndB fa fb) := (pw_and ha hb).weak fun σ H Q ⟨env, att, r, c, hf, q⟩ => by
  obtain ⟨k, h1, h2⟩ := bind_some hf
  refine ⟨env, att, k, c, h1, fun H1 s1 => ?_⟩
  cases k with
  | true => exact ⟨env, att, r, c.ext s1, h2, fun H2 s2 => q H2 (s1.trans s2)⟩
  | false => cases h2; exact q H1 s1
theorem dw_or (ha : DT X W a fa) (hb : DW X W (.BoolOp .Or (b :: rest) pos) fb) : DW X W (.BoolOp .Or (a :: b :: rest) pos) (fOrB fa fb) := (pw_or ha hb).weak fun σ H Q ⟨env, att, r, c, hf, q⟩ => by
  obtain ⟨k, h1, h2⟩ := bind_some hf
  refine ⟨env, att, k, c, h1, fun H1 s1 => ?_⟩
  cases k with
  | false => exact ⟨env, att, r, c.ext s1, h2, fun H2 s2 => q H2 (s1.trans s2)⟩
  | true => cases h2; exact q H1 s1
theorem dt_w (h : DW X W a fa) : DT X W a fa := h.pt
theorem dt_not (ha : DT X W a fa) : DT X W (.UnaryOp .Not a pos) (fNotB fa) := (pt_not ha).weak fun σ H Q ⟨env, att, r, c, hf, q⟩ => by
  unfold fNotB at hf
  cases h : fa env with
  | none => rw [h] at hf; cases hf
  | some k =>
    rw [h] at hf
    cases hf
    exact ⟨env, att, k, c, h, fun H1 s1 => q H1 s1⟩
/-- a value that is a bool, as a test -/
def fTB (f : Env → Option D) : Env → Option Bool := fun env => match f env with | some (.bool b) => some b | _ => none
theorem dt_val {e : Expr} {f : Env → Option D} (h : DE X W .b e f) (he : ∀ whole, isTrue e X.env whole = (do let v ← whole; standAt e.pos; holding [v] (truthy v)) := by intro _; rfl) : DT X W e (fTB f) := (pt_val h he).weak fun σ H Q ⟨env, att, r, c, hf, q⟩ => by
  unfold fTB at hf
  split at hf
  · cases hf
    refine ⟨env, att, _, c, ‹_›, fun v H1 s1 h1 => ?_⟩
    exact ⟨r, Rep.bl_inv h1, q H1 s1⟩
  · cases hf
/-- .. by its truth -/
def truD : D → Option Bool
  | .none => some false
  | .bool b => some b
  | .int i => some (i != 0)
  | .list ds => some (!ds.isEmpty)
  | .tuple ds => some (!ds.isEmpty)
  | .str x => if x.length ≤ sizeLine then some (x.length != 0) else none
  | _ => none
/-- bool values -/
def fAnd (fa fb : Env → Option D) : Env → Option D := fun env => (fa env).bind fun d => match d with | .bool c => if c = true then fb env else some (.bool false) | _ => none
def fOr (fa fb : Env → Option D) : Env → Option D := fun env => (fa env).bind fun d => match d with | .bool c => if c = true then some (.bool true) else fb env | _ => none
def fNot (fa : Env → Option D) : Env → Option D := fun env => (fa env).bind fun d => match d with | .bool c => some (.bool (!c)) | _ => none
section
variable {fa fb : Env → Option D}
theorem de_one {op} (h : DE X W m a fa) : DE X W m (.BoolOp op [a] pos) fa := pe_one h
theorem de_and (ha : DE X W m a fa) (hb : DE X W m (.BoolOp .And (b :: rest) pos) fb) (hm : m ≠ .f := by decide) : DE X W m (.BoolOp .And (a :: b :: rest) pos) (fAnd fa fb) := (pe_and ha hb).weak fun σ H Q ⟨env, att, r, c, hf, q⟩ => by
  obtain ⟨d, h1, h2⟩ := bind_some hf
  cases d with
  | bool k =>
    refine ⟨env, att, _, c, h1, fun v H1 s1 r1 => ?_⟩
    have e := Rep.bl_inv (rep_of hm r1)
    refine ⟨k, e, ?_⟩
    cases k with
    | true => exact ⟨env, att, r, c.ext s1, h2, fun v H2 s2 p => q v H2 (s1.trans s2) (post_of hm (rep_of hm p))⟩
    | false => cases h2; exact q _ H1 s1 (post_of hm (.bl _))
  | _ => cases h2
theorem de_or (ha : DE X W m a fa) (hb : DE X W m (.BoolOp .Or (b :: rest) pos) fb) (hm : m ≠ .f := by decide) : DE X W m (.BoolOp .Or (a :: b :: rest) pos) (fOr fa fb) := (pe_or ha hb).weak fun σ H Q ⟨env, att, r, c, hf, q⟩ => by
  obtain ⟨d, h1, h2⟩ := bind_some hf
  cases d with
  | bool k =>
    refine ⟨env, att, _, c, h1, fun v H1 s1 r1 => ?_⟩
    have e := Rep.bl_inv (rep_of hm r1)
    refine ⟨k, e, ?_⟩
    cases k with
    | false => exact ⟨env, att, r, c.ext s1, h2, fun v H2 s2 p => q v H2 (s1.trans s2) (post_of hm (rep_of hm p))⟩
    | true => cases h2; exact q _ H1 s1 (post_of hm (.bl _))
  | _ => cases h2
theorem de_not (ha : DE X W .b a fa) (hm : m ≠ .f := by decide) : DE X W m (.UnaryOp .Not a pos) (fNot fa) := (pe_not ha).weak fun σ H Q ⟨env, att, r, c, hf, q⟩ => by
  obtain ⟨d, h1, h2⟩ := bind_some hf
  cases d with
  | bool k =>
    cases h2
    refine ⟨env, att, _, c, h1, fun v H1 s1 r1 => ?_⟩
    exact ⟨k, Rep.bl_inv r1, q _ H1 s1 (post_of hm (.bl _))⟩
  | _ => cases h2
def fIf (t : Env → Option Bool) (fa fb : Env → Option D) : Env → Option D := fun env => (t env).bind fun c => if c = true then fa env else fb env
theorem de_if {c : Expr} {ft : Env → Option Bool} (hc : DT X W c ft) (ha : DE X W m a fa) (hb : DE X W m b fb) (hm : m ≠ .f := by decide) : DE X W m (.IfExp c a b pos) (fIf ft fa fb) := (pe_ifExp hc ha hb).weak fun σ H Q ⟨env, att, r, c, hf, q⟩ => by
  obtain ⟨k, h1, h2⟩ := bind_some hf
  refine ⟨env, att, k, c, h1, fun H1 s1 => ?_⟩
  cases k with
  | true => exact ⟨env, att, r, c.ext s1, h2, fun v H2 s2 p => q v H2 (s1.trans s2) (post_of hm (rep_of hm p))⟩
  | false => exact ⟨env, att, r, c.ext s1, h2, fun v H2 s2 p => q v H2 (s1.trans s2) (post_of hm (rep_of hm p))⟩
end
end
/-! ### displays -/
section
variable {es : List Expr} {fs : Env → Option (List D)} {pos : Pos}
def fTup (fs : Env → Option (List D)) : Env → Option D := fun env => (fs env).bind fun ds => if ds.length ≤ sizeLine then some (.tuple ds) else none
def fLst (fs : Env → Option (List D)) : Env → Option D := fun env => (fs env).bind fun ds => if ds.length ≤ sizeLine then some (.list ds) else none
theorem same_upd {H : Hp} {p : Addr} {o : HO} (h : H p = none) : Same H (upd H p o) := fun b x e => by
  rw [upd_ne (ne_of_none e h)]
  exact e
theorem de_tup {x1} (h : DA X W m es fs) (hm : m ≠ .f := by decide) : DE X W m (.Tuple es x1 pos) (fTup fs) := (pe_tup h).weak fun σ H Q ⟨env, att, r, c, hf, q⟩ => by
  obtain ⟨ds, h1, h2⟩ := bind_some hf
  split at h2
  · cases h2
    refine ⟨env, att, ds, c, h1, fun vs H1 s1 r1 => ⟨by rw [r1.length]; assumption, fun p hp => ?_⟩⟩
    have s2 := same_upd (o := .tup vs) hp
    exact q _ _ (s1.trans s2) (post_of hm (.tup (.inl upd_same) (repL_ext s2 r1)))
  · cases h2
theorem de_lst (h : DA X W .n es fs) : DE X W .f (.List es pos) (fLst fs) := (pe_lst h).weak fun σ H Q ⟨env, att, r, c, hf, q⟩ => by
  obtain ⟨ds, h1, h2⟩ := bind_some hf
  split at h2
  · cases h2
    refine ⟨env, att, ds, c, h1, fun vs H1 s1 r1 => ⟨by rw [r1.length]; assumption, fun p hp => ?_⟩⟩
    have s2 := same_upd (o := .lst vs) hp
    exact q _ _ (s1.trans s2) ⟨p, rfl, s1.free hp, vs, upd_same, RepL.kp (Kp.same s2 fun a ha x => ⟨x, fun z => ha (z ▸ hp)⟩) r1⟩
  · cases h2
/-- a list that is only looked at -/
theorem de_lstB (h : DA X W .b es fs) : DE X W .b (.List es pos) (fLst fs) := (pe_lst h).weak fun σ H Q ⟨env, att, r, c, hf, q⟩ => by
  obtain ⟨ds, h1, h2⟩ := bind_some hf
  split at h2
  · cases h2
    refine ⟨env, att, ds, c, h1, fun vs H1 s1 r1 => ⟨by rw [r1.length]; assumption, fun p hp => ?_⟩⟩
    have s2 := same_upd (o := .lst vs) hp
    exact q _ _ (s1.trans s2) (.lst (fun z => c.hid p z (s1.free hp)) upd_same (repL_ext s2 r1))
  · cases h2
end
end
end DL
set_option Elab.async false
set_option linter.all false
set_option maxRecDepth 100000
namespace L2
open PySem
section
variable {X : Cx}
theorem PE.weakI {e : Expr} {t t' : TE} (h : PE X e t) (w : ∀ σ H Q, σ.length = X.N.length → t' σ H Q → t σ H Q) : PE X e t' := ⟨fun pins s σ H Q I hw => h.run pins s σ H Q I (w _ _ _ I.len hw)⟩
theorem PS.weakI {e : Stmt} {t t' : TS} (h : PS X e t) (w : ∀ E σ H, σ.length = X.N.length → t' E σ H → t E σ H) : PS X e t' := ⟨fun pins s σ H Q I hw => h.run pins s σ H Q I (w _ _ _ I.len hw)⟩
theorem PSs.weakI {e : List Stmt} {t t' : TS} (h : PSs X e t) (w : ∀ E σ H, σ.length = X.N.length → t' E σ H → t E σ H) : PSs X e t' := ⟨fun pins s σ H Q I hw => h.run pins s σ H Q I (w _ _ _ I.len hw)⟩
theorem PG.weakI {e : Expr} {t t' : TG} (h : PG X e t) (w : ∀ v σ H Q, σ.length = X.N.length → t' v σ H Q → t v σ H Q) : PG X e t' := ⟨fun pins s σ H v u Q I r hw => h.run pins s σ H v u Q I r (w _ _ _ _ I.len hw)⟩
theorem PGs.weakI {e : List Expr} {t t' : TGs} (h : PGs X e t) (w : ∀ v σ H Q, σ.length = X.N.length → t' v σ H Q → t v σ H Q) : PGs X e t' := ⟨fun pins s σ H v u Q I r hw => h.run pins s σ H v u Q I r (w _ _ _ _ I.len hw)⟩
theorem PI.weak {tg e : Expr} {t t' : TI} (h : PI X tg e t) (w : ∀ σ H R, t' σ H R → t σ H R) : PI X tg e t' := ⟨fun pins s σ H R I hw => h.run pins s σ H R I (w _ _ _ hw)⟩
end
end L2
namespace DL
open PySem L2
section
variable {X : Cx} {W : Wd} {m : Md}
/-! ### targets -/
def tG (K : PySem.W.Frag) (W : Wd) (is : List Nat) (g : D → Env → Option Env) : TG := fun v σ H Q => ∃ env att d env', Core K W env (σ ++ att) H ∧ Rep K H (okA W env (σ ++ att)) v d ∧ g d env = some env' ∧
  ∀ σ', σ'.length = σ.length → (∀ j, j ∉ is → σ'[j]? = σ[j]?) → Core K W env' (σ' ++ att) H → Q σ' H
/-- g changes the slots of is alone -/
def On (is : List Nat) (g : D → Env → Option Env) : Prop := ∀ d env env', g d env = some env' → (∀ j, j ∉ is → env'[j]? = env[j]?) ∧ env'.length = env.length
structure DG (X : Cx) (W : Wd) (tg : Expr) (is : List Nat) (g : D → Env → Option Env) : Prop where
  pg : PG X tg (tG X.K W is g)
  on : On is g
def put (i : Nat) (s : Slot) (env : Env) : Option Env := match env[i]? with | some s0 => if s0.free then some (env.set i s) else none | none => none
theorem put_some {i : Nat} {s : Slot} {env env' : Env} (h : put i s env = some env') : ∃ s0, env[i]? = some s0 ∧ s0.free = true ∧ env' = env.set i s := by
  unfold put at h
  split at h
  · split at h
    · cases h; exact ⟨_, ‹_›, ‹_›, rfl⟩
    · cases h
  · cases h
def gN (i : Nat) : D → Env → Option Env := fun d env => put i (.fz d) env
theorem app_set {σ att : St} {i : Nat} {x : Option V} (h : i < σ.length) : (σ ++ att).set i x = σ.set i x ++ att := by
  rw [List.set_append_left _ _ h]
theorem dg_name {i : Nat} {x : Str} {pos : Pos} (hW : W.n = X.N.length) (hN : X.N.Nodup) (hi : X.N[i]? = some x := by rfl) (hx : Loc X.env.scope x := by first | exact Or.inl rfl | exact Or.inr rfl) (hf : X.fn x = true ∨ X.env.scope.names.lookup x = some .local := by first | exact .inl rfl | exact .inr rfl | assumption) :
    DG X W (.Name x pos) [i] (gN i) := by
  refine ⟨(pg_name hN hi hx hf).weakI fun v σ H Q hl ⟨env, att, d, env', c, r, hg, q⟩ => ?_, fun d env env' h => ?_⟩
  · obtain ⟨s0, h0, hf0, rfl⟩ := put_some hg
    have hiσ : i < σ.length := by rw [hl]; exact (List.getElem?_eq_some_iff.mp hi).1
    refine q _ (by simp) (fun j hj => List.getElem?_set_ne (fun z => hj (by simp [z]))) ?_
    rw [← app_set hiσ]
    exact c.setFz h0 hf0 (by rw [hW, ← hl]; exact hiσ) (.inr ⟨d, v, rfl, rfl, r⟩)
  · obtain ⟨s0, h0, hf0, rfl⟩ := put_some h
    exact ⟨fun j hj => List.getElem?_set_ne (fun z => hj (by simp [z])), by simp⟩
def gNil : List D → Env → Option Env := fun ds env => match ds with | [] => some env | _ => none
def gCons (g : D → Env → Option Env) (gs : List D → Env → Option Env) : List D → Env → Option Env := fun ds env => match ds with | d :: r => (g d env).bind (gs r) | [] => none
def gTup (gs : List D → Env → Option Env) : D → Env → Option Env := fun d env => match d with | .tuple ds => gs ds env | _ => none
def tGs (K : PySem.W.Frag) (W : Wd) (is : List Nat) (g : List D → Env → Option Env) : TGs := fun vs σ H Q => ∃ env att ds env', Core K W env (σ ++ att) H ∧ RepL K H (okA W env (σ ++ att)) vs ds ∧ g ds env = some env' ∧
  ∀ σ', σ'.length = σ.length → (∀ j, j ∉ is → σ'[j]? = σ[j]?) → Core K W env' (σ' ++ att) H → Q σ' H
structure DGs (X : Cx) (ts : List Expr) (n : Nat) (is : List Nat) (g : List D → Env → Option Env) : Prop where
  pg : ∀ W : Wd, W.n = X.N.length → PGs X ts (tGs X.K W is g)
  on : ∀ ds env env', g ds env = some env' → (∀ j, j ∉ is → env'[j]? = env[j]?) ∧ env'.length = env.length
  len : ∀ ds env env', g ds env = some env' → ds.length = n
theorem okA_P {P : List (V × D)} {env : Env} {τ : St} : okA { W with P := P } env τ = okA W env τ := rfl
theorem Core.pinned {K : PySem.W.Frag} {env : Env} {τ : St} {H : Hp} (c : Core K W env τ H) (P : List (V × D)) (h : ∀ p ∈ P, Rep K H (okA W env τ) p.1 p.2) : Core K { W with P := P ++ W.P } env τ H :=
  ⟨c.len, c.same, c.tups, c.there, c.hid, c.fz, c.own, c.inj, fun p hp => (List.mem_append.mp hp).elim (h p) (c.pin p), c.fix, c.res, c.resX⟩
theorem Core.unpin {K : PySem.W.Frag} {env : Env} {τ : St} {H : Hp} {P : List (V × D)} (c : Core K { W with P := P ++ W.P } env τ H) : Core K W env τ H :=
  ⟨c.len, c.same, c.tups, c.there, c.hid, c.fz, c.own, c.inj, fun p hp => c.pin p (List.mem_append_right _ hp), c.fix, c.res, c.resX⟩
theorem Core.pinsOf {K : PySem.W.Frag} {env : Env} {τ : St} {H : Hp} {P : List (V × D)} (c : Core K { W with P := P ++ W.P } env τ H) : ∀ p ∈ P, Rep K H (okA W env τ) p.1 p.2 := fun p hp => c.pin p (List.mem_append_left _ hp)
def zipP : List V → List D → List (V × D)
  | v :: vs, d :: ds => (v, d) :: zipP vs ds
  | _, _ => []
theorem zipP_of {K : PySem.W.Frag} {H : Hp} {ok : Addr → Prop} : ∀ {vs : List V} {ds : List D}, RepL K H ok vs ds → ∀ p ∈ zipP vs ds, Rep K H ok p.1 p.2
  | _, _, .nil, p, hp => by cases hp
  | _, _, .cons r t, p, hp => by
    rcases List.mem_cons.mp hp with rfl | hp
    · exact r
    · exact zipP_of t p hp
theorem of_zipP {K : PySem.W.Frag} {H : Hp} {ok : Addr → Prop} : ∀ {vs : List V} {ds : List D}, vs.length = ds.length → (∀ p ∈ zipP vs ds, Rep K H ok p.1 p.2) → RepL K H ok vs ds
  | [], [], _, _ => .nil
  | v :: vs, d :: ds, hl, h => .cons (h (v, d) List.mem_cons_self) (of_zipP (by simpa using hl) fun p hp => h p (List.mem_cons_of_mem _ hp))
  | [], _ :: _, hl, _ => by cases hl
  | _ :: _, [], hl, _ => by cases hl
theorem dgs_nil : DGs X [] 0 [] gNil := by
  refine ⟨fun W _ => pgs_nil.weakI fun vs σ H Q hl ⟨env, att, ds, env', c, r, hg, q⟩ => ?_, fun ds env env' h => ?_, fun ds env env' h => ?_⟩
  · cases r with
    | nil =>
      cases hg
      exact ⟨rfl, q σ rfl (fun _ _ => rfl) c⟩
    | cons _ _ => cases hg
  · unfold gNil at h
    split at h
    · cases h; exact ⟨fun _ _ => rfl, rfl⟩
    · cases h
  · unfold gNil at h
    split at h
    · rfl
    · cases h
theorem dgs_cons {e : Expr} {es : List Expr} {is js : List Nat} {n : Nat} {g : D → Env → Option Env} {gs : List D → Env → Option Env} (h1 : ∀ W : Wd, W.n = X.N.length → DG X W e is g) (h2 : DGs X es n js gs)
    (hs : (assignEach (e :: es) X.env).map (·.2) = assign e X.env :: (assignEach es X.env).map (·.2) := by rfl) : DGs X (e :: es) (n + 1) (is ++ js) (gCons g gs) := by
  refine ⟨fun W hW => ⟨fun pins s σ H vs us Q I r ⟨env, att, ds, env', c, rr, hg, q⟩ => ?_⟩, fun ds env env' h => ?_, fun ds env env' h => ?_⟩
  · cases rr with
    | nil => cases hg
    | @cons v vr d dr rv rs =>
      obtain ⟨env1, g1, g2⟩ := bind_some hg
      refine (L2.pgs_cons (h1 { W with P := zipP vr dr ++ W.P } hW).pg (h2.pg W hW) hs).run pins s σ H (v :: vr) us Q I r ⟨v, vr, rfl, env, att, d, env1, c.pinned _ (zipP_of rs), rv, g1, fun σ1 l1 a1 c1 => ?_⟩
      refine ⟨env1, att, dr, env', c1.unpin, of_zipP rs.length c1.pinsOf, g2, fun σ2 l2 a2 c2 => ?_⟩
      exact q σ2 (l2.trans l1) (fun j hj => (a2 j fun z => hj (List.mem_append_right _ z)).trans (a1 j fun z => hj (List.mem_append_left _ z))) c2
  · unfold gCons at h
    split at h
    · obtain ⟨e1, h3, h4⟩ := bind_some h
      obtain ⟨a1, a2⟩ := (h1 ⟨X.N.length, fun _ => none, fun _ => False, fun _ => False, [], [], fun _ => none⟩ rfl).on _ _ _ h3
      obtain ⟨b1, b2⟩ := h2.on _ _ _ h4
      refine ⟨fun j hj => ?_, b2.trans a2⟩
      rw [b1 j fun z => hj (List.mem_append_right _ z), a1 j fun z => hj (List.mem_append_left _ z)]
    · cases h
  · unfold gCons at h
    split at h
    · obtain ⟨e1, h3, h4⟩ := bind_some h
      rw [List.length_cons, h2.len _ _ _ h4]
    · cases h
theorem dg_tup {es : List Expr} {k n : Nat} {is : List Nat} {pos : Pos} {gs : List D → Env → Option Env} (hW : W.n = X.N.length) (h : DGs X es n is gs) (hc : X.calm = true := by rfl)
    (hn : (assignEach es X.env).length = n := by rfl) (hst : (assignEach es X.env).findIdx? (·.1) = none := by rfl) : DG X W (.Tuple es k pos) is (gTup gs) := by
  refine ⟨(L2.pg_tup hc (h.pg W hW) hn hst).weakI fun v σ H Q hl ⟨env, att, d, env', c, r, hg, q⟩ => ?_, fun d env env' hg => ?_⟩
  · unfold gTup at hg
    split at hg
    · obtain ⟨a, xs, e, hq, rs⟩ := Rep.tup_inv r
      exact ⟨a, xs, e, hq, by rw [rs.length, h.len _ _ _ hg], env, att, _, env', c, rs, hg, q⟩
    · cases hg
  · unfold gTup at hg
    split at hg
    · exact h.on _ _ _ hg
    · cases hg
/-! ### blocks -/
def fSeq (f g : Env → Option Out) : Env → Option Out := fun env => (f env).bind fun o => match o with | .nx e => g e | o => some o
def fNop : Env → Option Out := fun env => some (.nx env)
theorem out_len {σ σ1 σ2 : St} (h : σ2.length = σ1.length) (h' : σ1.length = σ.length) : σ2.length = σ.length := h.trans h'
section
variable {st : Stmt} {rest : List Stmt} {f g : Env → Option Out} {pos : Pos}
theorem ds_nil : DSs X W [] fNop := pss_nil.weak fun E σ H ⟨env, att, o, c, hf, q⟩ => by
  cases hf
  exact q σ att H rfl c
theorem ds_cons (h1 : DS X W st f) (h2 : DSs X W rest g) : DSs X W (st :: rest) (fSeq f g) := (pss_cons h1 h2).weak fun E σ H ⟨env, att, o, c, hf, q⟩ => by
  obtain ⟨o1, h3, h4⟩ := bind_some hf
  refine ⟨env, att, o1, c, h3, ?_⟩
  cases o1 with
  | nx e1 =>
    intro σ1 att1 H1 l1 c1
    refine ⟨e1, att1, o, c1, h4, ?_⟩
    cases o with
    | nx e2 => exact fun σ2 att2 H2 l2 c2 => q σ2 att2 H2 (l2.trans l1) c2
    | bk e2 => exact fun σ2 att2 H2 l2 c2 => q σ2 att2 H2 (l2.trans l1) c2
    | ct e2 => exact fun σ2 att2 H2 l2 c2 => q σ2 att2 H2 (l2.trans l1) c2
    | rt d e2 => exact fun v σ2 att2 H2 l2 c2 => q v σ2 att2 H2 (l2.trans l1) c2
  | bk e1 => cases h4; exact q
  | ct e1 => cases h4; exact q
  | rt d e1 => cases h4; exact q
theorem ds_one (h1 : DS X W st f) : DSs X W [st] f := pss_one h1
theorem ds_pass : DS X W (.Pass pos) fNop := ps_pass.weak fun E σ H ⟨env, att, o, c, hf, q⟩ => by
  cases hf
  exact q σ att H rfl c
theorem ds_break : DS X W (.Break pos) (fun env => some (.bk env)) := ps_break.weak fun E σ H ⟨env, att, o, c, hf, q⟩ => by
  cases hf
  exact q σ att H rfl c
theorem ds_continue : DS X W (.Continue pos) (fun env => some (.ct env)) := ps_continue.weak fun E σ H ⟨env, att, o, c, hf, q⟩ => by
  cases hf
  exact q σ att H rfl c
def fRet (f : Env → Option D) : Env → Option Out := fun env => (f env).map fun d => .rt d env
theorem ds_ret {e : Expr} {f : Env → Option D} (h : DE X W .n e f) : DS X W (.Return (some e) pos) (fRet f) := (ps_ret h).weak fun E σ H ⟨env, att, o, c, hf, q⟩ => by
  unfold fRet at hf
  cases hd : f env with
  | none => rw [hd] at hf; cases hf
  | some d =>
    rw [hd] at hf
    cases hf
    exact ⟨env, att, d, c, hd, fun v H' s r => q v σ att H' rfl (c.ext s) r⟩
theorem ds_retN : DS X W (.Return none pos) (fun env => some (.rt .none env)) := ps_retN.weak fun E σ H ⟨env, att, o, c, hf, q⟩ => by
  cases hf
  exact q .non σ att H rfl c .non
def fIfS (t : Env → Option Bool) (f g : Env → Option Out) : Env → Option Out := fun env => (t env).bind fun b => if b = true then f env else g env
theorem ds_if {c : Expr} {a b : List Stmt} {t : Env → Option Bool} (hc : DT X W c t) (ha : DSs X W a f) (hb : DSs X W b g) : DS X W (.If c a b pos) (fIfS t f g) := (ps_if hc ha hb).weak fun E σ H ⟨env, att, o, c, hf, q⟩ => by
  obtain ⟨k, h1, h2⟩ := bind_some hf
  refine ⟨env, att, k, c, h1, fun H1 s1 => ?_⟩
  cases k with
  | true => exact ⟨env, att, o, c.ext s1, h2, q⟩
  | false => exact ⟨env, att, o, c.ext s1, h2, q⟩
/-- owned lists are given up ahead of a statement -/
def frz (i : Nat) (env : Env) : Env := match env[i]? with | some (.own d) => env.set i (.fz d) | _ => env
theorem Core.frz {K : PySem.W.Frag} {env : Env} {τ : St} {H : Hp} (c : Core K W env τ H) (i : Nat) : Core K W (frz i env) τ H := by
  unfold DL.frz
  split
  · exact c.freeze ‹_›
  · exact c
def fFrz (i : Nat) (f : Env → Option Out) : Env → Option Out := fun env => f (frz i env)
theorem ds_frz (i : Nat) (h : DS X W st f) : DS X W st (fFrz i f) := PS.weak h fun E σ H ⟨env, att, o, c, hf, q⟩ => ⟨frz i env, att, o, c.frz i, hf, q⟩
/-! ### x = e -/
def fSet (i : Nat) (f : Env → Option D) : Env → Option Out := fun env => (f env).bind fun d => (put i (.fz d) env).map .nx
def fSetF (i : Nat) (f : Env → Option D) : Env → Option Out := fun env => (f env).bind fun d => (put i (.own d) env).map .nx
theorem map_some {α β : Type} {x : Option α} {f : α → β} {b : β} (h : x.map f = some b) : ∃ a, x = some a ∧ f a = b := by
  cases x with
  | none => cases h
  | some a => exact ⟨a, rfl, Option.some.inj h⟩
section
variable {e : Expr} {f : Env → Option D} {i : Nat} {x : Str} {pos' : Pos}
theorem set_post {E : Ends} {σ : St} {H : Hp} (hW : W.n = X.N.length) (hl : σ.length = X.N.length) (hi : X.N[i]? = some x) (h : tS X.K W (fSet i f) E σ H) : tE X.K W .n f σ H fun v H1 => gName i v σ H1 E.nx := by
  obtain ⟨env, att, o, c, hf, q⟩ := h
  obtain ⟨d, h1, h2⟩ := bind_some hf
  obtain ⟨e1, h3, h4⟩ := map_some h2
  subst h4
  obtain ⟨s0, h0, hf0, rfl⟩ := put_some h3
  have hiσ : i < σ.length := by rw [hl]; exact (List.getElem?_eq_some_iff.mp hi).1
  refine ⟨env, att, d, c, h1, fun v H' s r => ?_⟩
  refine q _ att H' (by simp) ?_
  rw [← app_set hiσ]
  exact (c.ext s).setFz h0 hf0 (by rw [hW, ← hl]; exact hiσ) (.inr ⟨d, v, rfl, rfl, r⟩)
theorem setF_post {E : Ends} {σ : St} {H : Hp} (hW : W.n = X.N.length) (hl : σ.length = X.N.length) (hi : X.N[i]? = some x) (h : tS X.K W (fSetF i f) E σ H) : tE X.K W .f f σ H fun v H1 => gName i v σ H1 E.nx := by
  obtain ⟨env, att, o, c, hf, q⟩ := h
  obtain ⟨d, h1, h2⟩ := bind_some hf
  obtain ⟨e1, h3, h4⟩ := map_some h2
  subst h4
  obtain ⟨s0, h0, hf0, rfl⟩ := put_some h3
  have hiσ : i < σ.length := by rw [hl]; exact (List.getElem?_eq_some_iff.mp hi).1
  refine ⟨env, att, d, c, h1, fun v H' s ⟨p, ev, hp, ho⟩ => ?_⟩
  subst ev
  refine q _ att H' (by simp) ?_
  rw [← app_set hiσ]
  exact c.setOwn s h0 hf0 (by rw [hW, ← hl]; exact hiσ) hp ho
theorem ds_set (i : Nat) (hW : W.n = X.N.length) (hN : X.N.Nodup) (he : DE X W .n e f) (hi : X.N[i]? = some x := by rfl) (hx : Loc X.env.scope x := by first | exact Or.inl rfl | exact Or.inr rfl) (hs : swapsWith e (some (.Name x pos')) pos.line X.env = pure false := by rfl) (hf : X.fn x = true ∨ X.env.scope.names.lookup x = some .local := by first | exact .inl rfl | exact .inr rfl | assumption) :
    DS X W (.Assign [.Name x pos'] e pos) (fSet i f) := (ps_set hN hi hx he hs hf).weakI fun E σ H hl h => set_post hW hl hi h
theorem ds_setF (i : Nat) (hW : W.n = X.N.length) (hN : X.N.Nodup) (he : DE X W .f e f) (hi : X.N[i]? = some x := by rfl) (hx : Loc X.env.scope x := by first | exact Or.inl rfl | exact Or.inr rfl) (hs : swapsWith e (some (.Name x pos')) pos.line X.env = pure false := by rfl) (hf : X.fn x = true ∨ X.env.scope.names.lookup x = some .local := by first | exact .inl rfl | exact .inr rfl | assumption) :
    DS X W (.Assign [.Name x pos'] e pos) (fSetF i f) := (ps_set hN hi hx he hs hf).weakI fun E σ H hl h => setF_post hW hl hi h
/-- target = e, a pattern -/
def fAsg (g : D → Env → Option Env) (f : Env → Option D) : Env → Option Out := fun env => (f env).bind fun d => (g d env).map .nx
theorem ds_asg {tg : Expr} {is : List Nat} {g : D → Env → Option Env} (he : DE X W .n e f) (hg : DG X W tg is g) (hs : swapsWithSole [tg] e pos.line X.env = pure false := by rfl) (hw : swappedStores [tg] e X.env = pure none := by rfl)
    (h1 : (assignEach [tg] X.env).map (·.2) = [assign tg X.env] := by rfl) : DS X W (.Assign [tg] e pos) (fAsg g f) := (ps_asg he hg.pg hs hw h1).weakI fun E σ H hl ⟨env, att, o, c, hf, q⟩ => by
  obtain ⟨d, h1, h2⟩ := bind_some hf
  obtain ⟨e1, h3, h4⟩ := map_some h2
  subst h4
  exact ⟨env, att, d, c, h1, fun v H' s r => ⟨env, att, d, e1, c.ext s, r, h3, fun σ' l' a' c' => q σ' att H' l' c'⟩⟩
/-- a, b = x, y -/
def fPar (i j : Nat) (fs : Env → Option (List D)) : Env → Option Out := fun env => (fs env).bind fun ds => match ds with | [d, d'] => (put j (.fz d') env).bind fun e1 => (put i (.fz d) e1).map .nx | _ => none
theorem ds_par {i j : Nat} {x y : Str} {a b : Expr} {fs : Env → Option (List D)} {px py pt : Pos} {kt k2 pt2} (i0 j0 : Nat) (hi0 : i0 = i) (hj0 : j0 = j) (hW : W.n = X.N.length) (hN : X.N.Nodup) (ha : DA X W .n [a, b] fs) (hc : X.calm = true := by rfl) (hi : X.N[i]? = some x := by rfl) (hj : X.N[j]? = some y := by rfl) (hij : i ≠ j := by decide)
    (hx : X.env.scope.names.lookup x = some .local := by rfl) (hy : X.env.scope.names.lookup y = some .local := by rfl)
    (hw : swappedStores [.Tuple [.Name x px, .Name y py] kt pt] (.Tuple [a, b] k2 pt2) X.env = pure (some [x, y]) := by rfl)
    (hs : swapsWithSole [.Tuple [.Name x px, .Name y py] kt pt] (.Tuple [a, b] k2 pt2) pos.line X.env = pure false := by rfl) :
    DS X W (.Assign [.Tuple [.Name x px, .Name y py] kt pt] (.Tuple [a, b] k2 pt2) pos) (fPar i j fs) := (ps_par hc hN hi hj hij hx hy ha hw hs).weakI fun E σ H hl ⟨env, att, o, c, hf, q⟩ => by
  obtain ⟨ds, h1, h2⟩ := bind_some hf
  split at h2
  · obtain ⟨e1, h3, h4⟩ := bind_some h2
    obtain ⟨e2, h5, h6⟩ := map_some h4
    subst h6
    obtain ⟨s0, h0, hf0, rfl⟩ := put_some h3
    obtain ⟨s1, h01, hf1, rfl⟩ := put_some h5
    have hiσ : i < σ.length := by rw [hl]; exact (List.getElem?_eq_some_iff.mp hi).1
    have hjσ : j < σ.length := by rw [hl]; exact (List.getElem?_eq_some_iff.mp hj).1
    refine ⟨env, att, _, c, h1, fun vs H' s r => ?_⟩
    cases r with
    | cons r1 r' =>
      cases r' with
      | cons r2 r'' =>
        cases r''
        rename_i d d' v v'
        refine ⟨_, _, rfl, ?_⟩
        refine q _ att H' (by simp) ?_
        have c1 := ((c.ext s).pinned [(v, d)] (fun p hp => by
          have e : p = (v, d) := by simpa using hp
          subst e
          exact r1)).setFz h0 hf0 (by show j < W.n; rw [hW, ← hl]; exact hjσ) (.inr ⟨d', v', rfl, rfl, r2⟩)
        have r1' := c1.pinsOf (v, d) (by simp)
        have c2 := c1.unpin.setFz h01 hf1 (by rw [hW, ← hl]; exact hiσ) (.inr ⟨d, v, rfl, rfl, r1'⟩)
        rw [List.set_comm _ _ hij, ← app_set (by simpa using hiσ), ← app_set hjσ]
        exact c2
  · cases h2
end
end
end
end DL
set_option Elab.async false
set_option linter.all false
set_option maxRecDepth 100000
namespace DL
open PySem L2
section
variable {X : Cx} {W : Wd} {m : Md}
/-! ### what is walked -/
/-- J yields the data ds while the values of P stand -/
def Wk (K : PySem.W.Frag) (J : It) (ds : List D) (P : List (V × D)) : Prop :=
  ∃ (G : Hp → Prop) (Y : Nat → Hp → V → Hp → Prop), L2.Walk J ds.length G Y ∧ (∀ H ok, (∀ p ∈ P, Rep K H ok p.1 p.2) → G H) ∧
    ∀ i H x H' ok, i < ds.length → (∀ p ∈ P, Rep K H ok p.1 p.2) → Y i H x H' → Same H H' ∧ ∃ d, ds[i]? = some d ∧ Rep K H' (okN ok H) x d
/-- .. while the heap H0 stands -/
def WkC (K : PySem.W.Frag) (J : It) (ds : List D) (ok : Addr → Prop) (H0 : Hp) : Prop :=
  ∃ (G : Hp → Prop) (Y : Nat → Hp → V → Hp → Prop), L2.Walk J ds.length G Y ∧ (∀ H, Same H0 H → G H) ∧
    ∀ i H x H' ok', i < ds.length → Same H0 H → (∀ a, H0 a ≠ none → ok a → ok' a) → Y i H x H' → Same H H' ∧ ∃ d, ds[i]? = some d ∧ Rep K H' (okN ok' H) x d
def tI (K : PySem.W.Frag) (W : Wd) (fi : Env → Option (List D)) : TI := fun σ H R => ∃ env att ds, Core K W env (σ ++ att) H ∧ fi env = some ds ∧
  ∀ J H' P, Same H H' → (∀ p ∈ P, Rep K H' (okA W env (σ ++ att)) p.1 p.2) → Wk K J ds P → R J H'
def tIC (K : PySem.W.Frag) (W : Wd) (m : Md) (fi : Env → Option (List D)) : TI := fun σ H R => ∃ env att ds, Core K W env (σ ++ att) H ∧ fi env = some ds ∧
  ∀ J H', Same H H' → WkC K J ds (okM W env (σ ++ att) m) H' → R J H'
abbrev DI (X : Cx) (W : Wd) (tg e : Expr) (fi : Env → Option (List D)) : Prop := PI X tg e (tI X.K W fi)
abbrev DIC (X : Cx) (W : Wd) (m : Md) (tg e : Expr) (fi : Env → Option (List D)) : Prop := PI X tg e (tIC X.K W m fi)
/-- a list or a tuple -/
theorem pi_seq {l tg : Expr} {tl : TE} (hl : PE X l tl) : PI X tg l (fun σ H R => tl σ H fun x H1 => ∃ a, x = .ref a ∧ ((∃ xs, SqL X.K H1 a xs ∧ R (Itl X.K a) H1) ∨ (∃ xs, SqT X.K H1 a xs ∧ R (Itt X.K a) H1))) := by
  refine ⟨fun pins s σ H R I h => ?_⟩
  refine thn (hl.run pins s σ H _ I h) fun v s1 ⟨x, H1, I1, r1, q1⟩ => ?_
  obtain ⟨a, e, q1⟩ := q1
  subst e
  cases r1
  rcases q1 with ⟨xs, hq, q⟩ | ⟨xs, hq, q⟩
  · obtain ⟨its, rv, p, hz⟩ := I1.list hq
    refine wpAny_pyIter_list p.isList ?_
    refine ⟨s1.heap.objs.size, [s1.heap.objs.size], _, _, H1, rfl, I1.kept (t' := s1.toks) fun b o e => Heap.get?_push_of_some _ e, turn_list a _, ⟨_, Heap.get?_push_size _ rfl, rfl, rfl⟩, fun b hb => ?_, q⟩
    have e : b = s1.heap.objs.size := by simpa using hb
    subst e
    exact I1.fpOk (Nat.le_refl _) (I1.hok.fresh (Nat.le_refl _))
  · obtain ⟨its, rv, p, hz⟩ := I1.tuple hq
    refine wpAny_pyIter_tuple (show s1.heap.IsTuple a its.toArray from p) ?_
    refine ⟨s1.heap.objs.size, [s1.heap.objs.size], _, _, H1, rfl, I1.kept (t' := s1.toks) fun b o e => Heap.get?_push_of_some _ e, turn_tuple a _, ⟨_, Heap.get?_push_size _ rfl, rfl, rfl⟩, fun b hb => ?_, q⟩
    have e : b = s1.heap.objs.size := by simpa using hb
    subst e
    exact I1.fpOk (Nat.le_refl _) (I1.hok.fresh (Nat.le_refl _))
/-- the items of a list or a tuple -/
def itemsD : D → Option (List D)
  | .list ds => some ds
  | .tuple ds => some ds
  | _ => none
def fItems (f : Env → Option D) : Env → Option (List D) := fun env => (f env).bind itemsD
theorem wk_seq {K : PySem.W.Frag} {a : Addr} {xs : List V} {ds : List D} {d : D} {ok : Addr → Prop} {H : Hp} (hd : itemsD d = some ds) (h : Rep K H ok (.ref a) d) :
    (∃ xs, H a = some (.lst xs) ∧ Wk K (Itl K a) ds [(.ref a, d)] ∧ d = .list ds) ∨ (∃ xs, SqT K H a xs ∧ Wk K (Itt K a) ds [(.ref a, d)]) := by
  cases d with
  | list es =>
    cases hd
    obtain ⟨a', xs, e, hq, _, rs⟩ := Rep.lst_inv h
    cases e
    refine .inl ⟨xs, hq, ⟨fun H => ∃ ok, Rep K H ok (.ref a) (.list ds), fun i H x H' => H' = H ∧ ∀ ys, SqL K H a ys → ys[i]? = some x, ⟨?_, ?_, ?_⟩, ?_, ?_⟩, rfl⟩
    · rintro i H hi ⟨ok, h⟩
      obtain ⟨a', xs, e, hq, _, rs⟩ := Rep.lst_inv h
      cases e
      have hi' : i < xs.length := by rw [rs.length]; exact hi
      exact ⟨xs, xs[i], .of hq, by simp [hi']⟩
    · rintro H ⟨ok, h⟩
      obtain ⟨a', xs, e, hq, _, rs⟩ := Rep.lst_inv h
      cases e
      exact ⟨xs, .of hq, by rw [rs.length]; exact Nat.le_refl _⟩
    · exact fun i H x H' _ _ y => y
    · exact fun H ok h => ⟨ok, h _ List.mem_cons_self⟩
    · rintro i H x H' ok hi hp ⟨rfl, y⟩
      obtain ⟨a', xs, e, hq, _, rs⟩ := Rep.lst_inv (hp _ List.mem_cons_self)
      cases e
      obtain ⟨d, h1, h2⟩ := rs.get (y xs (.of hq))
      exact ⟨Same.refl _, d, h1, h2.kp (Kp.same (Same.refl _) fun _ _ x => .inl x)⟩
  | tuple es =>
    cases hd
    obtain ⟨a', xs, e, hq, rs⟩ := Rep.tup_inv h
    cases e
    refine .inr ⟨xs, hq, fun H => ∃ ok, Rep K H ok (.ref a) (.tuple ds), fun i H x H' => H' = H ∧ ∀ ys, SqT K H a ys → ys[i]? = some x, ⟨?_, ?_, ?_⟩, ?_, ?_⟩
    · rintro i H hi ⟨ok, h⟩
      obtain ⟨a', xs, e, hq, rs⟩ := Rep.tup_inv h
      cases e
      have hi' : i < xs.length := by rw [rs.length]; exact hi
      exact ⟨xs, xs[i], hq, by simp [hi']⟩
    · rintro H ⟨ok, h⟩
      obtain ⟨a', xs, e, hq, rs⟩ := Rep.tup_inv h
      cases e
      exact ⟨xs, hq, by rw [rs.length]; exact Nat.le_refl _⟩
    · exact fun i H x H' _ _ y => y
    · exact fun H ok h => ⟨ok, h _ List.mem_cons_self⟩
    · rintro i H x H' ok hi hp ⟨rfl, y⟩
      obtain ⟨a', xs, e, hq, rs⟩ := Rep.tup_inv (hp _ List.mem_cons_self)
      cases e
      obtain ⟨d, h1, h2⟩ := rs.get (y xs hq)
      exact ⟨Same.refl _, d, h1, h2.kp (Kp.same (Same.refl _) fun _ _ x => .inl x)⟩
  | _ => cases hd
theorem Wk.c {K : PySem.W.Frag} {J : It} {ds : List D} {P : List (V × D)} {ok : Addr → Prop} {H0 : Hp} (w : Wk K J ds P) (h : ∀ p ∈ P, Rep K H0 ok p.1 p.2) : WkC K J ds ok H0 := by
  obtain ⟨G, Y, w, h1, h2⟩ := w
  exact ⟨G, Y, w, fun H s => h1 H ok fun p hp => rep_ext s (h p hp), fun i H x H' ok' hi s k y => h2 i H x H' ok' hi (fun p hp => (h p hp).kp (Kp.same s k)) y⟩
theorem ref_of_items {K : PySem.W.Frag} {H : Hp} {ok : Addr → Prop} {v : V} {d : D} {ds : List D} (hd : itemsD d = some ds) (h : Rep K H ok v d) : ∃ a, v = .ref a := by
  cases d with
  | list es => obtain ⟨a, _, e, _⟩ := Rep.lst_inv h; exact ⟨a, e⟩
  | tuple es => obtain ⟨a, _, e, _⟩ := Rep.tup_inv h; exact ⟨a, e⟩
  | _ => cases hd
theorem di_seq {e tg : Expr} {f : Env → Option D} (h : DE X W .n e f) : DI X W tg e (fItems f) := (pi_seq h).weak fun σ H R ⟨env, att, ds, c, hf, q⟩ => by
  obtain ⟨d, h1, h2⟩ := bind_some hf
  refine ⟨env, att, d, c, h1, fun v H' s r => ?_⟩
  obtain ⟨a, rfl⟩ := ref_of_items h2 r
  refine ⟨a, rfl, ?_⟩
  rcases wk_seq (xs := []) h2 r with ⟨xs, hq, w, _⟩ | ⟨xs, hq, w⟩
  · exact .inl ⟨xs, .of hq, q _ H' _ s (fun p hp => by cases hp with | head => exact r | tail _ h => cases h) w⟩
  · exact .inr ⟨xs, hq, q _ H' _ s (fun p hp => by cases hp with | head => exact r | tail _ h => cases h) w⟩
theorem dic_seq {e tg : Expr} {f : Env → Option D} (h : DE X W m e f) (hm : m ≠ .f := by decide) : DIC X W m tg e (fItems f) := (pi_seq h).weak fun σ H R ⟨env, att, ds, c, hf, q⟩ => by
  obtain ⟨d, h1, h2⟩ := bind_some hf
  refine ⟨env, att, d, c, h1, fun v H' s r => ?_⟩
  have r := rep_of hm r
  obtain ⟨a, rfl⟩ := ref_of_items h2 r
  refine ⟨a, rfl, ?_⟩
  rcases wk_seq (xs := []) h2 r with ⟨xs, hq, w, _⟩ | ⟨xs, hq, w⟩
  · exact .inl ⟨xs, .of hq, q _ H' s (w.c fun p hp => by cases hp with | head => exact r | tail _ h => cases h)⟩
  · exact .inr ⟨xs, hq, q _ H' s (w.c fun p hp => by cases hp with | head => exact r | tail _ h => cases h)⟩
/-- an owned list, in a comprehension: its items may be stored -/
def fOwnItems (i : Nat) : Env → Option (List D) := fun env => match env[i]? with | some s => (match s.held with | some (.list ds) => some ds | _ => none) | none => none
theorem dic_own (i : Nat) {x : Str} {pos : Pos} {tg : Expr} (hN : X.N[i]? = some x := by rfl) (hv : Vis X.env.scope x := by first | exact Or.inl rfl | exact Or.inr (Or.inl rfl) | exact Or.inr (Or.inr rfl)) (hd : (x == ("__debug__" : Str)) = false := by decide)
    (hcd : (x == ("__classdict__" : Str)) = false := by decide) : DIC X W .n tg (.Name x pos) (fOwnItems i) := by
  have := pi_seq (tg := tg) (pe_var (X := X) (pos := pos) hN hv hd hcd)
  refine ⟨fun pins s σ H R I ⟨env, att, ds, c, hf, q⟩ => this.run pins s σ H R I ?_⟩
  have hi : i < σ.length := by rw [I.len]; exact (List.getElem?_eq_some_iff.mp hN).1
  unfold fOwnItems at hf
  split at hf
  · rename_i sl e1
    split at hf
    · rename_i ds' e2
      cases hf
      obtain ⟨p, h1, h2, vs, h3, h4⟩ := c.own i _ _ e1 e2
      rw [app_get hi] at h1
      refine ⟨_, h1, p, rfl, .inl ⟨vs, .of h3, q _ H (Same.refl H) ?_⟩⟩
      refine ⟨fun H => ∃ ok, H p = some (.lst vs) ∧ RepL X.K H ok vs ds, fun i H x H' => H' = H ∧ ∀ ys, SqL X.K H p ys → ys[i]? = some x, ⟨?_, ?_, ?_⟩, ?_, ?_⟩
      · rintro i H hi ⟨ok, h, rs⟩
        have hi' : i < vs.length := by rw [rs.length]; exact hi
        exact ⟨vs, vs[i], .of h, by simp [hi']⟩
      · rintro H ⟨ok, h, rs⟩
        exact ⟨vs, .of h, by rw [rs.length]; exact Nat.le_refl _⟩
      · exact fun i H x H' _ _ y => y
      · exact fun H' s => ⟨_, s _ _ h3, repL_ext s h4⟩
      · rintro i H1 x H' ok' hi s k ⟨rfl, y⟩
        obtain ⟨d, h5, h6⟩ := h4.get (y vs (.of (s _ _ h3)))
        exact ⟨Same.refl _, d, h5, h6.kp (Kp.same s fun a ha x => .inl (k a ha x))⟩
    · cases hf
  · cases hf
/-- range -/
def rngD (lo : Int) (n : Nat) : List D := (List.range n).map fun i => .int (lo + (i : Nat))
def B62 (i : Int) : Prop := -(2 ^ 62) ≤ i ∧ i < 2 ^ 62
instance (i : Int) : Decidable (B62 i) := by unfold B62; infer_instance
def fRange1 (f : Env → Option D) : Env → Option (List D) := fun env => (f env).bind fun d => match d with | .int j => if B62 j then some (rngD 0 j.toNat) else none | _ => none
def fRange2 (f g : Env → Option D) : Env → Option (List D) := fun env => (f env).bind fun d => (g env).bind fun e => match d, e with | .int i, .int j => if B62 i ∧ B62 j then some (rngD i (j - i).toNat) else none | _, _ => none
theorem wk_range {K : PySem.W.Frag} {lo : Int} {n : Nat} : Wk K (Itr lo n) (rngD lo n) [] := by
  refine ⟨fun _ => True, fun i H x H' => H' = H ∧ x = .int (lo + i), ?_, fun _ _ _ => trivial, ?_⟩
  · have : (rngD lo n).length = n := by simp [rngD]
    rw [this]
    exact walk_range
  · rintro i H x H' ok hi _ ⟨rfl, rfl⟩
    have hi' : i < n := by simpa [rngD] using hi
    exact ⟨Same.refl _, .int (lo + i), by simp [rngD, hi'], .int _⟩
section
variable {a b tg : Expr} {fa fb : Env → Option D} {p pos : Pos}
theorem di_range1 (h : DE X W .b a fa) (hm : X.mg "range" = none := by assumption) (hg : Gl X "range" := by rfl) (hst : starEach [a] X.env = [(false, eval a X.env)] := by rfl) : DI X W tg (.Call (.Name "range" p) [a] [] pos) (fRange1 fa) :=
  (pi_range1 hg hm (da_cons (m := .b) h da_nil hst) hst).weak fun σ H R ⟨env, att, ds, c, hf, q⟩ => by
    obtain ⟨d, h1, h2⟩ := bind_some hf
    split at h2
    · split at h2
      · cases h2
        refine ⟨env, att, _, c, (by simp [fCons, fNil, h1]; rfl), fun vs H1 s1 r1 => ?_⟩
        cases r1 with
        | cons r1 r2 =>
          cases r2
          cases r1
          exact ⟨_, rfl, (‹B62 _›).1, (‹B62 _›).2, q _ H1 [] s1 (fun _ z => nomatch z) wk_range⟩
      · cases h2
    · cases h2
theorem di_range2 (h : DE X W .b a fa) (h2 : DE X W .b b fb) (hm : X.mg "range" = none := by assumption) (hg : Gl X "range" := by rfl) (hst : starEach [a, b] X.env = [(false, eval a X.env), (false, eval b X.env)] := by rfl) (hst2 : starEach [b] X.env = [(false, eval b X.env)] := by rfl) :
    DI X W tg (.Call (.Name "range" p) [a, b] [] pos) (fRange2 fa fb) :=
  (pi_range2 hg hm (da_cons (m := .b) h (da_cons h2 da_nil hst2) (hst.trans (by rw [hst2]))) hst hst2).weak fun σ H R ⟨env, att, ds, c, hf, q⟩ => by
    obtain ⟨d, h1, h3⟩ := bind_some hf
    obtain ⟨e, h4, h5⟩ := bind_some h3
    split at h5
    · split at h5
      · cases h5
        refine ⟨env, att, _, c, (by simp [fCons, fNil, h1, h4]; rfl), fun vs H1 s1 r1 => ?_⟩
        cases r1 with
        | cons r1 r2 =>
          cases r2 with
          | cons r2 r3 =>
            cases r3
            cases r1
            cases r2
            have hb := ‹B62 _ ∧ B62 _›
            exact ⟨_, _, rfl, ⟨hb.1.1, hb.1.2, hb.2.1, hb.2.2⟩, q _ H1 [] s1 (fun _ z => nomatch z) wk_range⟩
      · cases h5
    · cases h5
end
theorem WkC.mono {K : PySem.W.Frag} {J : It} {ds : List D} {ok ok' : Addr → Prop} {H0 : Hp} (w : WkC K J ds ok H0) (h : ∀ a, ok a → ok' a) : WkC K J ds ok' H0 := by
  obtain ⟨G, Y, w1, w2, w3⟩ := w
  exact ⟨G, Y, w1, w2, fun i H x H' ok'' hi s k y => w3 i H x H' ok'' hi s (fun a ha z => k a ha (h a z)) y⟩
theorem dic_of {tg e : Expr} {fi : Env → Option (List D)} (h : DI X W tg e fi) (hm : m ≠ .f := by decide) : DIC X W m tg e fi := PI.weak h fun σ H R ⟨env, att, ds, c, hf, q⟩ => ⟨env, att, ds, c, hf, fun J H' P s hP w => q J H' s ((w.c hP).mono fun a z => by
  cases m with
  | n => exact z
  | b => exact z.1
  | f => exact absurd rfl hm)⟩
/-! ### for -/
def forGo (g : D → Env → Option Env) (fb : Env → Option Out) : List D → Env → Option Out
  | [], env => some (.nx env)
  | d :: ds, env => (g d env).bind fun e1 => (fb e1).bind fun o => match o with
    | .nx e => forGo g fb ds e
    | .ct e => forGo g fb ds e
    | .bk e => some (.nx e)
    | .rt d e => some (.rt d e)
def fFor (fi : Env → Option (List D)) (g : D → Env → Option Env) (fb : Env → Option Out) : Env → Option Out := fun env => (fi env).bind fun ds => forGo g fb ds env
theorem drop_cons {α : Type} {l : List α} {i : Nat} {x : α} (h : l[i]? = some x) : l.drop i = x :: l.drop (i + 1) := by
  obtain ⟨hi, e⟩ := List.getElem?_eq_some_iff.mp h
  rw [List.drop_eq_getElem_cons hi, e]
theorem Core.rep_new {K : PySem.W.Frag} {env : Env} {τ : St} {H H' : Hp} {v : V} {d : D} (c : Core K W env τ H) (h : Rep K H' (okN (okA W env τ) H) v d) : Rep K H' (okA W env τ) v d :=
  h.kp (Kp.same (Same.refl _) fun a _ z => z.elim id fun z => c.new_ok z)
theorem ds_for {iter tg : Expr} {body : List Stmt} {fi : Env → Option (List D)} {is : List Nat} {g : D → Env → Option Env} {fb : Env → Option Out} {pos : Pos} (hW : W.n = X.N.length) (hi : DI X W tg iter fi) (hg : ∀ W : Wd, W.n = X.N.length → DG X W tg is g) (hb : ∀ W : Wd, W.n = X.N.length → DSs X W body fb)
    (hp : PassesOwn (model X.prog X.w) X.A X.env X.xe := by exact PySem.PassesOwn.never) (hc : X.calm = true := by rfl) (hs : ∀ x, foldedSetIterable iter X.env x = pure x := by intro _; rfl) : DS X W (.For tg iter body [] pos) (fFor fi g fb) := by
  refine ⟨fun pins s σ H E I ⟨env, att, o, c, hf, q⟩ => ?_⟩
  obtain ⟨ds, h1, h2⟩ := bind_some hf
  -- the values that are walked are pinned: the body is read in a world of its own
  refine (ps_for (g := fun v σ H Q => ∃ W' : Wd, W'.n = X.N.length ∧ tG X.K W' is g v σ H Q) (tb := fun E σ H => ∃ W' : Wd, W'.n = X.N.length ∧ tS X.K W' fb E σ H) hp hc hi ⟨fun pins s σ H v u Q I r ⟨W', hW', h⟩ => (hg W' hW').pg.run pins s σ H v u Q I r h⟩ ⟨fun pins s σ H E I ⟨W', hW', h⟩ => (hb W' hW').run pins s σ H E I h⟩ hs).run pins s σ H E I ?_
  refine ⟨env, att, ds, c, h1, fun J H1 P s1 hP w => ?_⟩
  obtain ⟨G, Y, w1, w2, w3⟩ := w
  let W' : Wd := { W with P := P ++ W.P }
  refine for_it (g := fun v σ H Q => ∃ W' : Wd, W'.n = X.N.length ∧ tG X.K W' is g v σ H Q) (tb := fun E σ H => ∃ W' : Wd, W'.n = X.N.length ∧ tS X.K W' fb E σ H) (D := E) w1 (fun i σ' H' => σ'.length = σ.length ∧ ∃ env' att', Core X.K W' env' (σ' ++ att') H' ∧ forGo g fb (ds.drop i) env' = some o) ⟨rfl, env, att, (c.ext s1).pinned P hP, h2⟩ (fun i σ' H' _ ⟨_, env', att', c', _⟩ => w2 H' _ c'.pinsOf) ?_ ?_
  · rintro i x σ' H' H2 hi ⟨hl, env', att', c', hr⟩ y
    obtain ⟨s2, d, hd, r⟩ := w3 i H' x H2 _ hi c'.pinsOf y
    rw [drop_cons hd] at hr
    unfold forGo at hr
    obtain ⟨e1, g1, hr⟩ := bind_some hr
    obtain ⟨o1, b1, hr⟩ := bind_some hr
    refine ⟨W', hW, env', att', d, e1, c'.ext s2, Core.rep_new c' r, g1, fun σ2 l2 _ c2 => ⟨W', hW, e1, att', o1, c2, b1, ?_⟩⟩
    have hl2 : σ2.length = σ.length := l2.trans hl
    cases o1 with
    | nx e2 => exact fun σ3 att3 H3 l3 c3 => ⟨l3.trans hl2, e2, att3, c3, hr⟩
    | ct e2 => exact fun σ3 att3 H3 l3 c3 => ⟨l3.trans hl2, e2, att3, c3, hr⟩
    | bk e2 =>
      cases hr
      exact fun σ3 att3 H3 l3 c3 => q σ3 att3 H3 (l3.trans hl2) c3.unpin
    | rt d e2 =>
      cases hr
      exact fun v σ3 att3 H3 l3 c3 => q v σ3 att3 H3 (l3.trans hl2) c3.unpin
  · rintro σ' H' ⟨hl, env', att', c', hr⟩
    rw [List.drop_length] at hr
    cases hr
    exact q σ' att' H' hl c'.unpin
/-! ### while -/
inductive WOut where | again (e : Env) | done (o : Out)
def whStep (t : Env → Option Bool) (fb : Env → Option Out) (env : Env) : Option WOut := (t env).bind fun b => if b = true then (fb env).bind fun o => match o with
    | .nx e => some (.again e)
    | .ct e => some (.again e)
    | .bk e => some (.done (.nx e))
    | .rt d e => some (.done (.rt d e))
  else some (.done (.nx env))
def whGo (t : Env → Option Bool) (fb : Env → Option Out) : Nat → Env → Option Out
  | 0, _ => none
  | n + 1, env => (whStep t fb env).bind fun o => match o with | .again e => whGo t fb n e | .done o => some o
theorem whGo_mono {t : Env → Option Bool} {fb : Env → Option Out} : ∀ {n k : Nat} {env : Env} {o : Out}, n ≤ k → whGo t fb n env = some o → whGo t fb k env = some o
  | 0, _, _, _, _, h => by cases h
  | n + 1, 0, _, _, hk, _ => by omega
  | n + 1, k + 1, env, o, hk, h => by
    unfold whGo at h ⊢
    obtain ⟨x, h1, h2⟩ := bind_some h
    rw [h1]
    cases x with
    | again e => exact whGo_mono (n := n) (k := k) (by omega) h2
    | done o => exact h2
open Classical in
/-- while, whatever the number of its turns -/
noncomputable def fWhile (t : Env → Option Bool) (fb : Env → Option Out) : Env → Option Out := fun env => if h : ∃ n o, whGo t fb n env = some o then some h.choose_spec.choose else none
theorem fWhile_of {t : Env → Option Bool} {fb : Env → Option Out} {n : Nat} {env : Env} {o : Out} (h : whGo t fb n env = some o) : fWhile t fb env = some o := by
  unfold fWhile
  have hh : ∃ n o, whGo t fb n env = some o := ⟨n, o, h⟩
  rw [dif_pos hh]
  have h1 := hh.choose_spec.choose_spec
  have h2 := whGo_mono (Nat.le_max_left n hh.choose) h
  have h3 := whGo_mono (Nat.le_max_right n hh.choose) h1
  rw [h2] at h3
  exact h3.symm
theorem fWhile_some {t : Env → Option Bool} {fb : Env → Option Out} {env : Env} {o : Out} (h : fWhile t fb env = some o) : ∃ n, whGo t fb n env = some o := by
  unfold fWhile at h
  split at h
  · rename_i hh
    cases h
    exact ⟨_, hh.choose_spec.choose_spec⟩
  · cases h
theorem fWhile_eq (t : Env → Option Bool) (fb : Env → Option Out) (env : Env) : fWhile t fb env = (whStep t fb env).bind fun o => match o with | .again e => fWhile t fb e | .done o => some o := by
  cases h : (whStep t fb env).bind fun o => match o with | .again e => fWhile t fb e | .done o => some o with
  | some o =>
    obtain ⟨x, h1, h2⟩ := bind_some h
    cases x with
    | again e =>
      obtain ⟨n, h3⟩ := fWhile_some h2
      exact fWhile_of (n := n + 1) (by unfold whGo; rw [h1]; exact h3)
    | done o' => exact fWhile_of (n := 1) (by unfold whGo; rw [h1]; exact h2)
  | none =>
    cases h2 : fWhile t fb env with
    | none => rfl
    | some o =>
      obtain ⟨n, h3⟩ := fWhile_some h2
      cases n with
      | zero => cases h3
      | succ n =>
        unfold whGo at h3
        obtain ⟨x, h4, h5⟩ := bind_some h3
        rw [h4] at h
        cases x with
        | again e =>
          have := fWhile_of h5
          rw [show ((some (WOut.again e)).bind fun o => match o with | .again e => fWhile t fb e | .done o => some o) = fWhile t fb e from rfl, this] at h
          cases h
        | done o' => cases h
theorem ds_while {c : Expr} {body : List Stmt} {t : Env → Option Bool} {fb : Env → Option Out} {pos : Pos} (hc : DT X W c t) (hb : DSs X W body fb) (hp : PassesOwn (model X.prog X.w) X.A X.env X.xe := by exact PySem.PassesOwn.never) : DS X W (.While c body [] pos) (fWhile t fb) :=
  (ps_while hp hc hb).weak fun E σ H ⟨env, att, o, c0, hf, q⟩ => by
    obtain ⟨n, hn⟩ := fWhile_some hf
    refine ⟨fun n σ' H' => σ'.length = σ.length ∧ ∃ env' att', Core X.K W env' (σ' ++ att') H' ∧ whGo t fb n env' = some o, ⟨n, rfl, env, att, c0, hn⟩, ?_⟩
    rintro m σ1 H1 ⟨hl, env1, att1, c1, h1⟩
    cases m with
    | zero => cases h1
    | succ m =>
      unfold whGo at h1
      obtain ⟨x, h2, h3⟩ := bind_some h1
      obtain ⟨b, h4, h5⟩ := bind_some h2
      refine ⟨env1, att1, b, c1, h4, fun H2 s2 => ?_⟩
      cases b with
      | false =>
        cases h5
        cases h3
        exact q σ1 att1 H2 hl (c1.ext s2)
      | true =>
        obtain ⟨o1, h6, h7⟩ := bind_some h5
        refine ⟨fun σ' H' => σ'.length = σ.length ∧ ∃ env' att', Core X.K W env' (σ' ++ att') H' ∧ whGo t fb m env' = some o, fun σ' H' h => ⟨m, Nat.lt_succ_self m, h⟩, env1, att1, o1, c1.ext s2, h6, ?_⟩
        cases o1 with
        | nx e => cases h7; exact fun σ2 att2 H3 l2 c2 => ⟨l2.trans hl, e, att2, c2, h3⟩
        | ct e => cases h7; exact fun σ2 att2 H3 l2 c2 => ⟨l2.trans hl, e, att2, c2, h3⟩
        | bk e => cases h7; cases h3; exact fun σ2 att2 H3 l2 c2 => q σ2 att2 H3 (l2.trans hl) c2
        | rt d e => cases h7; cases h3; exact fun v σ2 att2 H3 l2 c2 => q v σ2 att2 H3 (l2.trans hl) c2
/-! ### a def -/
def runF (n N : Nat) (body : Env → Option Out) (ds : List D) : Option D :=
  if ds.length = n then (body (ds.map Slot.fz ++ List.replicate (N - n) Slot.emp)).bind fun o => match o with | .rt d _ => some d | .nx _ => some .none | _ => none else none
theorem fun_ok {P : Program} {w : World} {K : PySem.W.Frag} {mg : Str → Option Value} {base : Heap} {x qual : Str} {st : Stmt} {f : Addr} {fd : FuncData} {N ps : List Str} {k : Nat} {fb : Env → Option Out} (F : Fun K x qual st f fd) (S : FnScope N ps (defScope st))
    (hb : ∀ (cdv : Value) (A : Around) (outer : List PySem.Env) (s : Shared) (H : Hp) (E : XK) (W : Wd), Room k (A.deeper (PyProof.Rows.envOfC qual (defScope st) s.heap.objs.size f cdv)) → W.n = N.length → DSs (cxOf CX0 P w K mg base N qual (defScope st) f cdv A outer s H E).nox W (defBody st) fb) :
    FnOk P w K mg base CX0 (k + 1) f fd ps (pureSp K (runF ps.length N.length fb)) := by
  refine F.ok S (fun vs H Q E h => ?_) (fun cdv A outer s H vs Q E hr h => ?_)
  · obtain ⟨ok, ds, r, h1, h2, h3⟩ := h
    unfold runF at h2
    split at h2
    · rw [h1.length]; assumption
    · cases h2
  · obtain ⟨ok, ds, r, h1, h2, h3⟩ := h
    unfold runF at h2
    split at h2
    · rename_i hl
      obtain ⟨o, h4, h5⟩ := bind_some h2
      let W : Wd := ⟨N.length, H, fun a => ¬ ok a ∧ H a ≠ none, fun _ => False, [], [], fun _ => none⟩
      refine ⟨_, hb cdv A outer s H E W hr rfl, _, [], o, ?_, h4, ?_⟩
      · have hlen : ∀ (i : Nat) s, (ds.map Slot.fz ++ List.replicate (N.length - ps.length) Slot.emp)[i]? = some s → s = .emp ∨ ∃ d, s = .fz d ∧ ds[i]? = some d := fun i s e => by
          by_cases hi : i < ds.length
          · rw [List.getElem?_append_left (by simpa using hi), List.getElem?_map] at e
            cases e2 : ds[i]? with
            | none => rw [e2] at e; cases e
            | some d => rw [e2] at e; exact .inr ⟨d, (Option.some.inj e).symm, rfl⟩
          · rw [List.getElem?_append_right (by simpa using hi), List.getElem?_replicate] at e
            split at e
            · exact .inl (Option.some.inj e).symm
            · cases e
        have no : ∀ a, ¬ Own (ds.map Slot.fz ++ List.replicate (N.length - ps.length) Slot.emp) (L2.start N vs ++ []) a := fun a ⟨i, s, d, e, hs, _⟩ => by
          rcases hlen i s e with rfl | ⟨d, rfl, _⟩ <;> cases hs
        refine ⟨?_, fun _ _ _ e => e, fun _ _ e _ => e, fun _ e => e, fun _ e => e.2, fun i d e => ?_, fun i s d e hs => ?_, fun i j a s t d e e1 e2 => ?_, (fun _ z => nomatch z), (fun _ z => nomatch z), (fun _ _ z => nomatch z), (fun _ z => absurd rfl z)⟩
        · unfold L2.start
          simp [h1.length, hl]
        · rcases hlen i _ e with z | ⟨d', z, e2⟩
          · cases z
          · cases z
            obtain ⟨v, h6, h7⟩ := h1.getD e2
            refine ⟨v, ?_, h7.kp (Kp.same (Same.refl _) fun a ha x => ⟨fun z => z.1 x, no a⟩)⟩
            unfold L2.start
            have : i < vs.length := (List.getElem?_eq_some_iff.mp h6).1
            rw [List.append_nil, List.getElem?_append_left (by simpa using this), List.getElem?_map, h6]
            rfl
        · rcases hlen i s e with rfl | ⟨d', rfl, _⟩ <;> cases hs
        · rcases hlen i s e1 with rfl | ⟨d', rfl, _⟩ <;> cases e2
      · have fin : ∀ {v : V} {σ' att' : St} {env' : Env} {H' : Hp} {d : D}, Core K W env' (σ' ++ att') H' → Rep K H' (okA W env' (σ' ++ att')) v d → Same H H' ∧ Rep K H' (okN ok H) v d := fun {v σ' att' env' H' d} c r =>
          ⟨fun a o e => c.same a o (fun z => z) e, r.kp (Kp.same (Same.refl _) fun a _ z => by
            by_cases h1 : ok a
            · exact .inl h1
            · by_cases h2 : H a = none
              · exact .inr h2
              · exact absurd ⟨h1, h2⟩ z.1)⟩
        cases o with
        | nx e =>
          cases h5
          intro σ' att' H' _ c
          obtain ⟨a, b⟩ := fin (v := .non) (d := .none) c .non
          exact h3 _ H' a b
        | rt d e =>
          cases h5
          intro v σ' att' H' _ c r
          obtain ⟨a, b⟩ := fin c r
          exact h3 _ H' a b
        | bk e => cases h5
        | ct e => cases h5
    · cases h2
theorem def_ok {P : Program} {w : World} {K : PySem.W.Frag} {mg : Str → Option Value} {base : Heap} {x qual : Str} {st : Stmt} {f : Addr} {fd : FuncData} {N ps : List Str} {k pl nl : Nat} {fb : Env → Option Out} {g : List D → Option D} (F : Fun K x qual st f fd) (S : FnScope N ps (defScope st)) (hg : g = runF pl nl fb) (hp : ps.length = pl) (hn : N.length = nl)
    (hb : ∀ (cdv : Value) (A : Around) (outer : List PySem.Env) (s : Shared) (H : Hp) (E : XK) (W : Wd), Room k (A.deeper (PyProof.Rows.envOfC qual (defScope st) s.heap.objs.size f cdv)) → W.n = N.length → DSs (cxOf CX0 P w K mg base N qual (defScope st) f cdv A outer s H E).nox W (defBody st) fb) :
    FnOk P w K mg base CX0 (k + 1) f fd ps (pureSp K g) := by
  subst hg hp hn
  exact fun_ok F S hb
end
end DL
set_option Elab.async false
set_option linter.all false
set_option maxRecDepth 100000
namespace DL
open PySem L2
section
variable {X : Cx} {W : Wd} {m : Md}
/-! ### comprehensions -/
def lcOne (g : D → Env → Option Env) (ft : Env → Option Bool) (fe : Env → Option D) (env : Env) (d : D) : Option (List D) :=
  (g d env).bind fun e1 => (ft e1).bind fun b => if b = true then (fe e1).map fun r => [r] else some []
/-- all of them in a row -/
def lcGo (one : D → Option (List D)) : List D → Option (List D)
  | [] => some []
  | d :: ds => (one d).bind fun r => (lcGo one ds).map (r ++ ·)
theorem lcGo_snoc {one : D → Option (List D)} {d : D} : ∀ {ds : List D}, lcGo one (ds ++ [d]) = (lcGo one ds).bind fun rs => (one d).map (rs ++ ·)
  | [] => by
    show (one d).bind (fun r => (some []).map (r ++ ·)) = (one d).map ([] ++ ·)
    cases one d with
    | none => rfl
    | some r => simp
  | x :: ds => by
    show (one x).bind (fun r => (lcGo one (ds ++ [d])).map (r ++ ·)) = ((one x).bind fun r => (lcGo one ds).map (r ++ ·)).bind fun rs => (one d).map (rs ++ ·)
    rw [lcGo_snoc]
    cases one x with
    | none => rfl
    | some r =>
      cases lcGo one ds with
      | none => rfl
      | some rs =>
        cases one d with
        | none => rfl
        | some q => simp
theorem lcGo_take {one : D → Option (List D)} : ∀ {ds rs : List D} (i : Nat), lcGo one ds = some rs → ∃ r, lcGo one (ds.take i) = some r
  | _, _, 0, _ => ⟨[], rfl⟩
  | [], _, _ + 1, _ => ⟨[], rfl⟩
  | d :: ds, rs, i + 1, h => by
    unfold lcGo at h
    obtain ⟨r, h1, h2⟩ := bind_some h
    obtain ⟨q, h3, _⟩ := map_some h2
    obtain ⟨p, h4⟩ := lcGo_take i h3
    exact ⟨r ++ p, by rw [List.take_succ_cons]; unfold lcGo; rw [h1]; show (lcGo one (ds.take i)).map (r ++ ·) = _; rw [h4]; rfl⟩
def wipeE (env : Env) : List Nat → Env
  | [] => env
  | v :: vs => (wipeE env vs).set v .emp
def wipable (env : Env) (vs : List Nat) : Bool := vs.all fun i => match env[i]? with | some .emp => true | some (.fz _) => true | _ => false
def fLc (fi : Env → Option (List D)) (g : D → Env → Option Env) (ft : Env → Option Bool) (fe : Env → Option D) (vs : List Nat) : Env → Option D := fun env =>
  if wipable env vs = true then (fi env).bind fun ds => if ds.length ≤ sizeLine then (lcGo (lcOne g ft fe (wipeE env vs)) ds).map .list else none else none
theorem wipeE_get {env : Env} {j : Nat} : ∀ {vs : List Nat}, j ∉ vs → (wipeE env vs)[j]? = env[j]?
  | [], _ => rfl
  | v :: vs, h => by
    unfold wipeE
    rw [List.getElem?_set_ne (fun z => h (by simp [z]))]
    exact wipeE_get fun z => h (List.mem_cons_of_mem _ z)
theorem wipeE_in {env : Env} {j : Nat} {s : Slot} : ∀ {vs : List Nat}, j ∈ vs → (wipeE env vs)[j]? = some s → s = .emp
  | v :: vs, h, e => by
    unfold wipeE at e
    rcases get_set e with ⟨_, z⟩ | ⟨hj, e⟩
    · exact z
    · rcases List.mem_cons.mp h with z | h
      · exact absurd z hj
      · exact wipeE_in h e
theorem wipeE_length {env : Env} : ∀ {vs : List Nat}, (wipeE env vs).length = env.length
  | [] => rfl
  | v :: vs => by unfold wipeE; rw [List.length_set]; exact wipeE_length
theorem wipe_app {σ att : St} : ∀ {vs : List Nat}, (∀ v ∈ vs, v < σ.length) → L2.wipe σ vs ++ att = L2.wipe (σ ++ att) vs
  | [], _ => rfl
  | v :: vs, h => by
    unfold L2.wipe
    rw [← wipe_app fun u hu => h u (List.mem_cons_of_mem _ hu), app_set (by rw [L2.wipe_length]; exact h v List.mem_cons_self)]
theorem wipable_of {env : Env} {vs : List Nat} (h : wipable env vs = true) {i : Nat} (hi : i ∈ vs) : ∃ s, env[i]? = some s ∧ s.held = none ∧ s.free = true := by
  have := List.all_eq_true.mp h i hi
  split at this
  · exact ⟨_, ‹_›, rfl, rfl⟩
  · exact ⟨_, ‹_›, rfl, rfl⟩
  · cases this
theorem Core.wipe {K : PySem.W.Frag} {env : Env} {τ : St} {H : Hp} (c : Core K W env τ H) : ∀ {vs : List Nat}, (∀ v ∈ vs, v < W.n) → (∀ v ∈ vs, ∃ s, env[v]? = some s ∧ s.held = none ∧ s.free = true) → Core K W (wipeE env vs) (L2.wipe τ vs) H
  | [], _, _ => c
  | v :: vs, hn, h => by
    have ih := Core.wipe c (vs := vs) (fun u hu => hn u (List.mem_cons_of_mem _ hu)) fun u hu => h u (List.mem_cons_of_mem _ hu)
    unfold wipeE L2.wipe
    obtain ⟨s, h1, h2, h3⟩ := h v List.mem_cons_self
    by_cases hv : v ∈ vs
    · have hlt : v < (wipeE env vs).length := by rw [wipeE_length]; exact (List.getElem?_eq_some_iff.mp h1).1
      have e1 : (wipeE env vs)[v]? = some .emp := by
        cases e : (wipeE env vs)[v]? with
        | none => rw [List.getElem?_eq_getElem hlt] at e; cases e
        | some s => rw [wipeE_in hv e]
      exact ih.setFz e1 rfl (hn v List.mem_cons_self) (.inl rfl)
    · exact ih.setFz (by rw [wipeE_get hv]; exact h1) h3 (hn v List.mem_cons_self) (.inl rfl)
theorem own_wipe {env : Env} {τ : St} {vs : List Nat} (h : ∀ v ∈ vs, ∃ s, env[v]? = some s ∧ s.held = none ∧ s.free = true) {a : Addr} : Own env τ a → Own (wipeE env vs) (L2.wipe τ vs) a := fun ⟨i, s, d, e, hs, ht⟩ => by
  have hi : i ∉ vs := fun z => by
    obtain ⟨s', h1, h2, _⟩ := h i z
    rw [e] at h1; cases h1
    rw [hs] at h2; cases h2
  exact ⟨i, s, d, by rw [wipeE_get hi]; exact e, hs, by rw [L2.wipe_out hi]; exact ht⟩
theorem wipe_own {env : Env} {τ : St} {vs : List Nat} {a : Addr} : Own (wipeE env vs) (L2.wipe τ vs) a → Own env τ a := fun ⟨i, s, d, e, hs, ht⟩ => by
  have hi : i ∉ vs := fun z => by
    rw [wipeE_in z e] at hs; cases hs
  exact ⟨i, s, d, by rw [wipeE_get hi] at e; exact e, hs, by rw [L2.wipe_out hi] at ht; exact ht⟩
/-- D is hidden -/
theorem Core.hide {K : PySem.W.Frag} {env : Env} {τ : St} {H1 H : Hp} {p : Addr} (c : Core K W env τ H1) (s : Same H1 H) (h1 : H1 p = none) (h2 : H p ≠ none) : Core K { W with Ex := fun a => W.Ex a ∨ a = p } env τ H := by
  have up : ∀ a, H1 a ≠ none → okA W env τ a → okA { W with Ex := fun a => W.Ex a ∨ a = p } env τ a := fun a ha h => ⟨fun z => z.elim h.1 fun z => ha (z ▸ h1), h.2⟩
  have kp : Kp H1 H (okA W env τ) (okA { W with Ex := fun a => W.Ex a ∨ a = p } env τ) := Kp.same s up
  have c' := c.ext s
  have mu1 : ∀ q, MutO W q → H1 q ≠ none → MutO { W with Ex := fun a => W.Ex a ∨ a = p } q := fun q h hq => ⟨h.1, fun z => z.elim h.2 fun z => hq (z ▸ h1)⟩
  refine ⟨c.len, c'.same, c'.tups, c'.there, fun a z => z.elim (c'.hid a) fun z => z ▸ h2, fun i d e => ?_, fun i sl d e hs => ?_, c.inj, fun q hq => (c.pin q hq).kp kp, c'.fix, c'.res, fun a z => .inl (c.resX a z)⟩
  · obtain ⟨v, h3, h4⟩ := c.fz i d e
    exact ⟨v, h3, h4.kp kp⟩
  · obtain ⟨q, h3, h4, h5⟩ := c.own i sl d e hs
    obtain ⟨o, h6, _⟩ := h5.some
    exact ⟨q, h3, mu1 q h4 (by rw [h6]; intro z; cases z), h5.kp kp fun o z => s q o z⟩
theorem On.own {is : List Nat} {g : D → Env → Option Env} (ho : On is g) {d : D} {env env' : Env} {σ σ' : St} (hg : g d env = some env') (hs : ∀ j, j ∉ is → σ'[j]? = σ[j]?) (hi : ∀ j ∈ is, ∀ s, env[j]? = some s → s.held = none) {a : Addr} : Own env σ a → Own env' σ' a := fun ⟨i, s, d, e, hh, ht⟩ => by
  have hj : i ∉ is := fun z => by
    have := hi i z s e
    rw [hh] at this; cases this
  exact ⟨i, s, d, by rw [((ho _ _ _ hg).1 i hj)]; exact e, hh, by rw [hs i hj]; exact ht⟩
theorem app_get_of {σ σ' att : St} (hl : σ'.length = σ.length) {is : List Nat} (h : ∀ j, j ∉ is → σ'[j]? = σ[j]?) (j : Nat) (hj : j ∉ is) : (σ' ++ att)[j]? = (σ ++ att)[j]? := by
  by_cases hlt : j < σ.length
  · rw [List.getElem?_append_left (by rw [hl]; exact hlt), List.getElem?_append_left hlt]
    exact h j hj
  · rw [List.getElem?_append_right (by rw [hl]; omega), List.getElem?_append_right (by omega), hl]
theorem wipe_same {σ σ' : St} (hl : σ'.length = σ.length) : ∀ {vs is : List Nat}, (∀ j ∈ is, j ∈ vs) → (∀ j, j ∉ is → σ'[j]? = σ[j]?) → L2.wipe σ' vs = L2.wipe σ vs := by
  intro vs is hs h
  apply List.ext_getElem?
  intro j
  by_cases hj : j ∈ vs
  · have key : ∀ {σ : St} {vs : List Nat}, j ∈ vs → j < σ.length → (L2.wipe σ vs)[j]? = some none := by
      intro σ vs
      induction vs with
      | nil => intro h; cases h
      | cons v vs ih =>
        intro hv hlt
        unfold L2.wipe
        by_cases e : j = v
        · subst e
          rw [List.getElem?_set_self (by rw [L2.wipe_length]; exact hlt)]
        · rw [List.getElem?_set_ne (Ne.symm e)]
          exact ih ((List.mem_cons.mp hv).resolve_left e) hlt
    by_cases hlt : j < σ.length
    · rw [key hj hlt, key hj (by rw [hl]; exact hlt)]
    · rw [List.getElem?_eq_none (by rw [L2.wipe_length]; omega), List.getElem?_eq_none (by rw [L2.wipe_length]; omega)]
  · rw [L2.wipe_out hj, L2.wipe_out hj]
    exact h j fun z => hj (hs j z)
def fYes : Env → Option Bool := fun _ => some true
theorem dts_nil : PTs X [] (tT X.K W fYes) := ⟨fun pins s σ H Q I ⟨env, att, b, c, hf, q⟩ => pts_nil.run pins s σ H Q I (by cases hf; exact q H (Same.refl H))⟩
theorem dts_one {c : Expr} {t : Env → Option Bool} (h : DT X W c t) : PTs X [c] (tT X.K W t) := pts_one h
/-- the reading of a comprehension -/
theorem lc_read {fi : Env → Option (List D)} {is : List Nat} {g : D → Env → Option Env} {ft : Env → Option Bool} {fe : Env → Option D} {vs : List Nat} {σ : St} {H : Hp} {K : PySem.W.Frag} {me : Md} (hme : me ≠ .f) (hW : W.n = σ.length) (hv : ∀ v ∈ vs, v < W.n) (his : ∀ i ∈ is, i ∈ vs) (hon : On is g) {Q : VK}
    {env : Env} {att : St} {r : D} (c : Core K W env (σ ++ att) H) (hf : fLc fi g ft fe vs env = some r)
    (q : ∀ D rs H', Same H H' → H D = none → H' D = some (.lst rs) → (∃ ds, r = .list ds ∧ RepL K H' (fun a => okM W env (σ ++ att) me a ∧ a ≠ D) rs ds) → Q (.ref D) H') :
    tLc (tIC K W .n fi) (fun v σ H Q => ∃ W' : Wd, W'.n = W.n ∧ tG K W' is g v σ H Q) (fun σ H Q => ∃ W' : Wd, W'.n = W.n ∧ tT K W' ft σ H Q) (fun σ H Q => ∃ W' : Wd, W'.n = W.n ∧ tE K W' me fe σ H Q) vs σ H Q := by
  unfold fLc at hf
  split at hf
  · rename_i hwp
    obtain ⟨ds, h1, h2⟩ := bind_some hf
    split at h2
    · rename_i hsz
      obtain ⟨rs, h3, h4⟩ := map_some h2
      subst h4
      have hw := fun v hv => wipable_of hwp (i := v) hv
      refine ⟨env, att, ds, c, h1, fun J H1 s1 w p hp => ?_⟩
      obtain ⟨G, Y, w1, w2, w3⟩ := w
      have s1p : Same H1 (upd H1 p (.lst [])) := same_upd hp
      have hσ : ∀ v ∈ vs, v < σ.length := fun v h => by rw [← hW]; exact hv v h
      have cw : Core K W (wipeE env vs) (L2.wipe σ vs ++ att) H1 := by
        rw [wipe_app hσ]
        exact (c.ext s1).wipe hv hw
      refine lc_it (g := fun v σ H Q => ∃ W' : Wd, W'.n = W.n ∧ tG K W' is g v σ H Q) (tt := fun σ H Q => ∃ W' : Wd, W'.n = W.n ∧ tT K W' ft σ H Q) (te := fun σ H Q => ∃ W' : Wd, W'.n = W.n ∧ tE K W' me fe σ H Q) (vs := vs) (σ := σ) (Qd := Q (.ref p)) w1 (fun i H' => Same H1 H' ∧ ∃ acc as, H' p = some (.lst acc) ∧ lcGo (lcOne g ft fe (wipeE env vs)) (ds.take i) = some as ∧ RepL K H' (fun a => okM W env (σ ++ att) me a ∧ a ≠ p) acc as ∧ acc.length ≤ i) ⟨s1p, [], [], upd_same, rfl, .nil, Nat.le_refl _⟩ (fun i H' _ h => w2 H' h.1) ?_ ?_
      · rintro i x H' H2 hi ⟨sH, acc, as, hD, hgo, rr, hal⟩ y
        have hH'p : H' p ≠ none := by rw [hD]; intro z; cases z
        -- the world of an element: the new list is hidden (where its items are to be stored)
        let W' : Wd := { W with Ex := fun a => W.Ex a ∨ a = p }
        have cw' : Core K W' (wipeE env vs) (L2.wipe σ vs ++ att) H' := cw.hide sH hp hH'p
        have upk : ∀ a, okM W' (wipeE env vs) (L2.wipe σ vs ++ att) me a → okM W env (σ ++ att) me a ∧ a ≠ p := fun a z => by
          cases me with
          | n => exact ⟨⟨fun e => z.1 (.inl e), fun o => z.2 (by rw [wipe_app hσ]; exact own_wipe hw o)⟩, fun e => z.1 (.inr e)⟩
          | b => exact ⟨fun e => z (.inl e), fun e => z (.inr e)⟩
          | f => exact absurd rfl hme
        obtain ⟨s2, d, hd, rx⟩ := w3 i H' x H2 (okA W' (wipeE env vs) (L2.wipe σ vs ++ att)) hi sH (fun a ha z => ⟨fun e => e.elim z.1 fun e => ha (e ▸ hp), fun o => z.2 (by rw [wipe_app hσ] at o; exact wipe_own o)⟩) y
        have hto : ds.take (i + 1) = ds.take i ++ [d] := by rw [List.take_add_one, hd]; rfl
        obtain ⟨r, hr⟩ := lcGo_take (i + 1) h3
        rw [hto, lcGo_snoc, hgo] at hr
        obtain ⟨q1, ho, hq1⟩ := map_some (show (lcOne g ft fe (wipeE env vs) d).map (as ++ ·) = some r from hr)
        unfold lcOne at ho
        obtain ⟨e1, g1, ho⟩ := bind_some ho
        obtain ⟨b, b1, ho⟩ := bind_some ho
        have hgo' : lcGo (lcOne g ft fe (wipeE env vs)) (ds.take (i + 1)) = some r := by rw [hto, lcGo_snoc, hgo]; exact hr
        refine ⟨W', rfl, wipeE env vs, att, d, e1, cw'.ext s2, Core.rep_new cw' rx, g1, fun σ2 l2 a2 c2 => ⟨?_, W', rfl, e1, att, b, c2, b1, fun H3 s3 => ?_⟩⟩
        · rw [wipe_same l2 his a2]
          exact wipe_same (L2.wipe_length _ _) (fun j hj => hj) fun j hj => L2.wipe_out hj
        · have sH3 : Same H1 H3 := (sH.trans s2).trans s3
          have hD3 : H3 p = some (.lst acc) := s3 _ _ (s2 _ _ hD)
          cases b with
          | false =>
            cases ho
            refine ⟨sH3, acc, as, hD3, by rw [hgo', ← hq1]; simp, repL_ext (s2.trans s3) rr, Nat.le_succ_of_le hal⟩
          | true =>
            obtain ⟨y', hy, hq⟩ := map_some ho
            subst hq
            refine ⟨W', rfl, e1, att, y', c2.ext s3, hy, fun v H4 s4 post => ?_⟩
            have hD4 := s4 _ _ hD3
            refine ⟨acc, hD4, Nat.lt_of_le_of_lt hal (Nat.lt_of_lt_of_le hi hsz), ?_⟩
            have ry := rep_of hme post
            have upk2 : ∀ a, okM W' e1 (σ2 ++ att) me a → okM W env (σ ++ att) me a ∧ a ≠ p := fun a z => upk a (by
              cases me with
              | n => exact ⟨z.1, fun o => z.2 (hon.own g1 (fun j hj => app_get_of l2 a2 j hj) (fun j hj s e => by rw [wipeE_in (his j hj) e]; rfl) o)⟩
              | b => exact z
              | f => exact absurd rfl hme)
            have kp : ∀ {ok : Addr → Prop}, (∀ a, ok a → okM W env (σ ++ att) me a ∧ a ≠ p) → Kp H4 (upd H4 p (.lst (acc ++ [v]))) ok (fun a => okM W env (σ ++ att) me a ∧ a ≠ p) := fun {ok} h a o e => ⟨fun z => ⟨by rw [upd_ne (h a z).2]; exact e, h a z⟩, fun t => by
              have : a ≠ p := fun z => by
                rw [z, hD4] at e
                cases e
                exact t
              rw [upd_ne this]; exact e⟩
            refine ⟨fun a o e => ?_, acc ++ [v], as ++ [y'], upd_same, by rw [hgo', ← hq1], ((repL_ext ((s2.trans s3).trans s4) rr).kp (kp fun a z => z)).append (.cons (ry.kp (kp upk2)) .nil), by rw [List.length_append, List.length_singleton]; omega⟩
            rw [upd_ne (fun z => by rw [z, hp] at e; cases e)]
            exact s4 _ _ (sH3 _ _ e)
      · rintro H' ⟨sH, acc, as, hD, hgo, rr, _⟩
        rw [List.take_length] at hgo
        rw [h3] at hgo
        cases hgo
        refine q p acc H' (s1.trans sH) (s1.free hp) hD ⟨rs, rfl, rr⟩
    · cases h2
  · cases hf
end
end DL
set_option Elab.async false
set_option linter.all false
set_option maxRecDepth 100000
namespace DL
open PySem L2
section
variable {X : Cx} {W : Wd} {m : Md}
section
variable {elt tg iter : Expr} {ifs : List Expr} {scope : Scope} {own : List (Str × Nat)} {pos : Pos} {fi : Env → Option (List D)} {is : List Nat} {g : D → Env → Option Env} {ft : Env → Option Bool} {fe : Env → Option D}
theorem own_lt {N : List Str} {sc : Scope} (ok : BlkOk N sc scope own) : ∀ v ∈ own.map (·.2), v < N.length := fun v hv => by
  obtain ⟨p, hp, rfl⟩ := List.mem_map.mp hv
  exact (List.getElem?_eq_some_iff.mp (ok.ix p hp)).1
theorem de_lc (hW : W.n = X.N.length) (hN : X.N.Nodup) (hi : DIC X W .n tg iter fi) (ok : BlkOk X.N X.env.scope scope own)
    (hg : ∀ (s : Shared) (H : Hp) (C : Addr) (cl : List (Str × Addr)) (fp : List Addr) (W : Wd), W.n = X.N.length → DG (X.blk s H scope (compEnvC scope cl C X.env) fp) W tg is g)
    (ht : ∀ (s : Shared) (H : Hp) (C : Addr) (cl : List (Str × Addr)) (fp : List Addr) (W : Wd), W.n = X.N.length → PTs (X.blk s H scope (compEnvC scope cl C X.env) fp) ifs (tT X.K W ft))
    (he : ∀ (s : Shared) (H : Hp) (C : Addr) (cl : List (Str × Addr)) (fp : List Addr) (W : Wd), W.n = X.N.length → DE (X.blk s H scope (compEnvC scope cl C X.env) fp) W .n elt fe)
    (his : ∀ i ∈ is, i ∈ own.map (·.2) := by decide) (hon : On is g) (hc : X.calm = true := by rfl) (hs : ∀ x, foldedSetIterable iter X.env x = pure x := by intro _; rfl) :
    DE X W .f (.ListComp elt [⟨tg, iter, ifs, 0⟩] scope pos) (fLc fi g ft fe (own.map (·.2))) :=
  (pe_lc (g := fun v σ H Q => ∃ W' : Wd, W'.n = W.n ∧ tG X.K W' is g v σ H Q) (tt := fun σ H Q => ∃ W' : Wd, W'.n = W.n ∧ tT X.K W' ft σ H Q) (te := fun σ H Q => ∃ W' : Wd, W'.n = W.n ∧ tE X.K W' .n fe σ H Q) hc hN hi ok
    (fun s H C cl fp => ⟨fun pins s2 σ H v u Q I r ⟨W', hW', h⟩ => (hg s _ C cl fp W' (hW'.trans hW)).pg.run pins s2 σ H v u Q I r h⟩)
    (fun s H C cl fp => ⟨fun pins s2 σ H Q I ⟨W', hW', h⟩ => (ht s _ C cl fp W' (hW'.trans hW)).run pins s2 σ H Q I h⟩)
    (fun s H C cl fp => ⟨fun pins s2 σ H Q I ⟨W', hW', h⟩ => (he s _ C cl fp W' (hW'.trans hW)).run pins s2 σ H Q I h⟩) hs).weakI fun σ H Q hl ⟨env, att, r, c, hf, q⟩ => by
    refine lc_read (me := .n) (by decide) (hW.trans hl.symm) (fun v hv => by rw [hW]; exact own_lt ok v hv) his hon c hf fun D rs H' s hD hD' ⟨ds, hr, rr⟩ => ?_
    subst hr
    exact q _ H' s ⟨D, rfl, hD, rs, hD', rr⟩
theorem de_lcB (hW : W.n = X.N.length) (hN : X.N.Nodup) (hi : DIC X W .n tg iter fi) (ok : BlkOk X.N X.env.scope scope own)
    (hg : ∀ (s : Shared) (H : Hp) (C : Addr) (cl : List (Str × Addr)) (fp : List Addr) (W : Wd), W.n = X.N.length → DG (X.blk s H scope (compEnvC scope cl C X.env) fp) W tg is g)
    (ht : ∀ (s : Shared) (H : Hp) (C : Addr) (cl : List (Str × Addr)) (fp : List Addr) (W : Wd), W.n = X.N.length → PTs (X.blk s H scope (compEnvC scope cl C X.env) fp) ifs (tT X.K W ft))
    (he : ∀ (s : Shared) (H : Hp) (C : Addr) (cl : List (Str × Addr)) (fp : List Addr) (W : Wd), W.n = X.N.length → DE (X.blk s H scope (compEnvC scope cl C X.env) fp) W .b elt fe)
    (his : ∀ i ∈ is, i ∈ own.map (·.2) := by decide) (hon : On is g) (hc : X.calm = true := by rfl) (hs : ∀ x, foldedSetIterable iter X.env x = pure x := by intro _; rfl) :
    DE X W .b (.ListComp elt [⟨tg, iter, ifs, 0⟩] scope pos) (fLc fi g ft fe (own.map (·.2))) :=
  (pe_lc (g := fun v σ H Q => ∃ W' : Wd, W'.n = W.n ∧ tG X.K W' is g v σ H Q) (tt := fun σ H Q => ∃ W' : Wd, W'.n = W.n ∧ tT X.K W' ft σ H Q) (te := fun σ H Q => ∃ W' : Wd, W'.n = W.n ∧ tE X.K W' .b fe σ H Q) hc hN hi ok
    (fun s H C cl fp => ⟨fun pins s2 σ H v u Q I r ⟨W', hW', h⟩ => (hg s _ C cl fp W' (hW'.trans hW)).pg.run pins s2 σ H v u Q I r h⟩)
    (fun s H C cl fp => ⟨fun pins s2 σ H Q I ⟨W', hW', h⟩ => (ht s _ C cl fp W' (hW'.trans hW)).run pins s2 σ H Q I h⟩)
    (fun s H C cl fp => ⟨fun pins s2 σ H Q I ⟨W', hW', h⟩ => (he s _ C cl fp W' (hW'.trans hW)).run pins s2 σ H Q I h⟩) hs).weakI fun σ H Q hl ⟨env, att, r, c, hf, q⟩ => by
    refine lc_read (me := .b) (by decide) (hW.trans hl.symm) (fun v hv => by rw [hW]; exact own_lt ok v hv) his hon c hf fun D rs H' s hD hD' ⟨ds, hr, rr⟩ => ?_
    subst hr
    exact q _ H' s (.lst (fun z => c.hid D z hD) hD' (rr.kp (Kp.same (Same.refl _) fun a _ x => x.1)))
/-- x = [..] on one line, x no cell -/
theorem ps_lc {i : Nat} {y : Str} {py spos : Pos} (hW : W.n = X.N.length) (hN : X.N.Nodup) (hi : DIC X W .n tg iter fi) (ok : BlkOk X.N X.env.scope scope own)
    (hg : ∀ (s : Shared) (H : Hp) (C : Addr) (cl : List (Str × Addr)) (fp : List Addr) (W : Wd), W.n = X.N.length → DG (X.blk s H scope (compEnvC scope cl C X.env) fp) W tg is g)
    (ht : ∀ (s : Shared) (H : Hp) (C : Addr) (cl : List (Str × Addr)) (fp : List Addr) (W : Wd), W.n = X.N.length → PTs (X.blk s H scope (compEnvC scope cl C X.env) fp) ifs (tT X.K W ft))
    (he : ∀ (s : Shared) (H : Hp) (C : Addr) (cl : List (Str × Addr)) (fp : List Addr) (W : Wd), W.n = X.N.length → DE (X.blk s H scope (compEnvC scope cl C X.env) fp) W .n elt fe)
    (his : ∀ i ∈ is, i ∈ own.map (·.2)) (hon : On is g) (hc : X.calm = true) (hs : ∀ x, foldedSetIterable iter X.env x = pure x) (hy : X.N[i]? = some y) (hyl : X.env.scope.names.lookup y = some .local)
    (hsw : swapsWith (.ListComp elt [⟨tg, iter, ifs, 0⟩] scope pos) (some (.Name y py)) spos.line X.env = pure true) :
    PS X (.Assign [.Name y py] (.ListComp elt [⟨tg, iter, ifs, 0⟩] scope pos) spos) (tAsg (tE X.K W .f (fLc fi g ft fe (own.map (·.2)))) (gName i)) :=
  (ps_setLc (g := fun v σ H Q => ∃ W' : Wd, W'.n = W.n ∧ tG X.K W' is g v σ H Q) (tt := fun σ H Q => ∃ W' : Wd, W'.n = W.n ∧ tT X.K W' ft σ H Q) (te := fun σ H Q => ∃ W' : Wd, W'.n = W.n ∧ tE X.K W' .n fe σ H Q) hc hN hy hyl hsw hi ok
    (fun s H C cl fp => ⟨fun pins s2 σ H v u Q I r ⟨W', hW', h⟩ => (hg s _ C cl fp W' (hW'.trans hW)).pg.run pins s2 σ H v u Q I r h⟩)
    (fun s H C cl fp => ⟨fun pins s2 σ H Q I ⟨W', hW', h⟩ => (ht s _ C cl fp W' (hW'.trans hW)).run pins s2 σ H Q I h⟩)
    (fun s H C cl fp => ⟨fun pins s2 σ H Q I ⟨W', hW', h⟩ => (he s _ C cl fp W' (hW'.trans hW)).run pins s2 σ H Q I h⟩) hs).weakI fun E σ H hl ⟨env, att, r, c, hf, q⟩ => by
    refine lc_read (me := .n) (by decide) (hW.trans hl.symm) (fun v hv => by rw [hW]; exact own_lt ok v hv) his hon c hf fun D rs H' s hD hD' ⟨ds, hr, rr⟩ => ?_
    subst hr
    exact q _ H' s ⟨D, rfl, hD, rs, hD', rr⟩
theorem ds_setLcF (i : Nat) {y : Str} {py spos : Pos} (hW : W.n = X.N.length) (hN : X.N.Nodup) (hi : DIC X W .n tg iter fi) (ok : BlkOk X.N X.env.scope scope own)
    (hg : ∀ (s : Shared) (H : Hp) (C : Addr) (cl : List (Str × Addr)) (fp : List Addr) (W : Wd), W.n = X.N.length → DG (X.blk s H scope (compEnvC scope cl C X.env) fp) W tg is g)
    (ht : ∀ (s : Shared) (H : Hp) (C : Addr) (cl : List (Str × Addr)) (fp : List Addr) (W : Wd), W.n = X.N.length → PTs (X.blk s H scope (compEnvC scope cl C X.env) fp) ifs (tT X.K W ft))
    (he : ∀ (s : Shared) (H : Hp) (C : Addr) (cl : List (Str × Addr)) (fp : List Addr) (W : Wd), W.n = X.N.length → DE (X.blk s H scope (compEnvC scope cl C X.env) fp) W .n elt fe)
    (his : ∀ i ∈ is, i ∈ own.map (·.2) := by decide) (hon : On is g) (hc : X.calm = true := by rfl) (hs : ∀ x, foldedSetIterable iter X.env x = pure x := by intro _; rfl) (hy : X.N[i]? = some y := by rfl) (hyl : X.env.scope.names.lookup y = some .local := by rfl)
    (hsw : swapsWith (.ListComp elt [⟨tg, iter, ifs, 0⟩] scope pos) (some (.Name y py)) spos.line X.env = pure true := by exact sw_true rfl rfl rfl (by decide +kernel)) :
    DS X W (.Assign [.Name y py] (.ListComp elt [⟨tg, iter, ifs, 0⟩] scope pos) spos) (fSetF i (fLc fi g ft fe (own.map (·.2)))) :=
  (ps_lc hW hN hi ok hg ht he his hon hc hs hy hyl hsw).weakI fun E σ H hl h => setF_post hW hl hy h
theorem ds_setLc (i : Nat) {y : Str} {py spos : Pos} (hW : W.n = X.N.length) (hN : X.N.Nodup) (hi : DIC X W .n tg iter fi) (ok : BlkOk X.N X.env.scope scope own)
    (hg : ∀ (s : Shared) (H : Hp) (C : Addr) (cl : List (Str × Addr)) (fp : List Addr) (W : Wd), W.n = X.N.length → DG (X.blk s H scope (compEnvC scope cl C X.env) fp) W tg is g)
    (ht : ∀ (s : Shared) (H : Hp) (C : Addr) (cl : List (Str × Addr)) (fp : List Addr) (W : Wd), W.n = X.N.length → PTs (X.blk s H scope (compEnvC scope cl C X.env) fp) ifs (tT X.K W ft))
    (he : ∀ (s : Shared) (H : Hp) (C : Addr) (cl : List (Str × Addr)) (fp : List Addr) (W : Wd), W.n = X.N.length → DE (X.blk s H scope (compEnvC scope cl C X.env) fp) W .n elt fe)
    (his : ∀ i ∈ is, i ∈ own.map (·.2) := by decide) (hon : On is g) (hc : X.calm = true := by rfl) (hs : ∀ x, foldedSetIterable iter X.env x = pure x := by intro _; rfl) (hy : X.N[i]? = some y := by rfl) (hyl : X.env.scope.names.lookup y = some .local := by rfl)
    (hsw : swapsWith (.ListComp elt [⟨tg, iter, ifs, 0⟩] scope pos) (some (.Name y py)) spos.line X.env = pure true := by exact sw_true rfl rfl rfl (by decide +kernel)) :
    DS X W (.Assign [.Name y py] (.ListComp elt [⟨tg, iter, ifs, 0⟩] scope pos) spos) (fSet i (fLc fi g ft fe (own.map (·.2)))) :=
  (ps_lc hW hN hi ok hg ht he his hon hc hs hy hyl hsw).weakI fun E σ H hl h => by
    obtain ⟨env, att, d, c, hf, q⟩ := set_post hW hl hy h
    exact ⟨env, att, d, c, hf, fun v H' s ⟨p, e, hp, o⟩ => by
      subst e
      exact q _ H' s (o.rep (c.new_ok hp) fun a h => h.1)⟩
end
/-! ### lists changed in their place -/
def Slot.with : Slot → D → Slot
  | .own _, d => .own d
  | .lent _, d => .lent d
  | s, _ => s
def Slot.muta : Slot → Option D
  | .own d => some d
  | .lent d => some d
  | _ => none
theorem muta_some {s : Slot} {d : D} (h : s.muta = some d) : s.held = some d ∧ s.locked = false ∧ ∀ d', (s.with d').held = some d' ∧ (s.with d').free = s.free ∧ (s.with d').locked = false := by
  cases s with
  | own c => exact ⟨h, rfl, fun d' => ⟨rfl, rfl, rfl⟩⟩
  | lent c => exact ⟨h, rfl, fun d' => ⟨rfl, rfl, rfl⟩⟩
  | _ => cases h
/-- the content of slot i is changed by h -/
def chg (i : Nat) (h : D → Option D) (env : Env) : Option Env := match env[i]? with | some s => (match s.muta with | some d => (h d).map fun d' => env.set i (s.with d') | none => none) | none => none
theorem chg_some {i : Nat} {h : D → Option D} {env env' : Env} (e : chg i h env = some env') : ∃ s d d', env[i]? = some s ∧ s.muta = some d ∧ h d = some d' ∧ env' = env.set i (s.with d') := by
  unfold chg at e
  split at e
  · split at e
    · obtain ⟨d', h1, h2⟩ := map_some e
      exact ⟨_, _, d', ‹_›, ‹_›, h1, h2.symm⟩
    · cases e
  · cases e
/-- statement: xs.m(e) by h -/
def fMut (i : Nat) (h : D → D → Option D) (f : Env → Option D) : Env → Option Out := fun env => (f env).bind fun d => (chg i (fun c => h c d) env).map .nx
/-- a list's method of one argument that changes it and hands back None, by data -/
def MutR (X : Cx) (id : String) (h : D → D → Option D) : Prop := (∀ c d c', h c d = some c' → ∃ ds, c = .list ds) ∧ ∃ r : V → List V → Hp → VK → Prop, MtM X id r ∧ ∀ (p : Addr) (y : V) (H : Hp) (Q : VK) (ok : Addr → Prop) (d c c' : D), OwnAt X.K H ok p c → Rep X.K H ok y d → ¬ ok p → h c d = some c' →
  (∀ o, OwnAt X.K (upd H p o) ok p c' → Q .non (upd H p o)) → r (.ref p) [y] H Q
def appD : D → D → Option D
  | .list ds, d => if ds.length < sizeLine then some (.list (ds ++ [d])) else none
  | _, _ => none
theorem repL_upd {K : PySem.W.Frag} {H : Hp} {ok : Addr → Prop} {p : Addr} {o u : HO} {vs : List V} {ds : List D} (hu : H p = some u) (ht : ¬ TupO u) (hp : ¬ ok p) (h : RepL K H ok vs ds) : RepL K (upd H p o) ok vs ds :=
  h.kp fun a x e => ⟨fun k => ⟨by rw [upd_ne (fun z => hp (by rw [← z]; exact k))]; exact e, k⟩, fun t => by
    rw [upd_ne (fun z => by rw [z, hu] at e; cases e; exact ht t)]; exact e⟩
theorem rep_upd {K : PySem.W.Frag} {H : Hp} {ok : Addr → Prop} {p : Addr} {o u : HO} {v : V} {d : D} (hu : H p = some u) (ht : ¬ TupO u) (hp : ¬ ok p) (h : Rep K H ok v d) : Rep K (upd H p o) ok v d :=
  h.kp fun a x e => ⟨fun k => ⟨by rw [upd_ne (fun z => hp (by rw [← z]; exact k))]; exact e, k⟩, fun t => by
    rw [upd_ne (fun z => by rw [z, hu] at e; cases e; exact ht t)]; exact e⟩
theorem mu_append : MutR X "list.append" appD := ⟨fun c d c' h => (by
  unfold appD at h
  split at h
  · exact ⟨_, rfl⟩
  · cases h), rAppend, mt_append, fun p y H Q ok d c c' ho hy hp h q => by
  unfold appD at h
  split at h
  · split at h
    · cases h
      obtain ⟨vs, e, r⟩ := ho
      exact ⟨p, vs, y, rfl, rfl, e, by rw [r.length]; assumption, q _ ⟨_, upd_same, (repL_upd e (fun z => z) hp r).append (.cons (rep_upd e (fun z => z) hp hy) .nil)⟩⟩
    · cases h
  · cases h⟩
def extD : D → D → Option D
  | .list ds, .list es => if ds.length + es.length ≤ sizeLine then some (.list (ds ++ es)) else none
  | _, _ => none
theorem mu_extend : MutR X "list.extend" extD := ⟨fun c d c' h => (by
  unfold extD at h
  split at h
  · exact ⟨_, rfl⟩
  · cases h), rExtend, mt_extend, fun p y H Q ok d c c' ho hy hp h q => by
  unfold extD at h
  split at h
  · split at h
    · cases h
      obtain ⟨vs, e, r⟩ := ho
      obtain ⟨b, ws, rfl, hb, _, rs⟩ := Rep.lst_inv hy
      exact ⟨p, b, vs, ws, rfl, rfl, e, hb, by rw [r.length, rs.length]; assumption, q _ ⟨_, upd_same, (repL_upd e (fun z => z) hp r).append (repL_upd e (fun z => z) hp rs)⟩⟩
    · cases h
  · cases h⟩
section
variable {i : Nat} {x : Str} {e : Expr} {f : Env → Option D} {h : D → D → Option D} {name : Str} {id : String} {p1 p2 p3 p4 : Pos}
theorem chg_ok {env env1 : Env} {τ : St} {g : D → Option D} (h : chg i g env = some env1) {a : Addr} (ha : okA W env τ a) : okA W env1 τ a := by
  obtain ⟨s, d, d', h1, h2, h3, rfl⟩ := chg_some h
  obtain ⟨m1, m2, m3⟩ := muta_some h2
  refine ⟨ha.1, fun ⟨j, t, e, h4, h5, h6⟩ => ha.2 ?_⟩
  rcases get_set h4 with ⟨rfl, rfl⟩ | ⟨hj, h4⟩
  · exact ⟨_, s, d, h1, m1, h6⟩
  · exact ⟨j, t, e, h4, h5, h6⟩
theorem chg_core {env env1 : Env} {τ : St} {H : Hp} {K : PySem.W.Frag} {g : D → Option D} (c : Core K W env τ H) (h : chg i g env = some env1) : ∃ p d d', τ[i]? = some (some (.ref p)) ∧ g d = some d' ∧ OwnAt K H (okA W env τ) p d ∧ ¬ okA W env τ p ∧ ¬ W.Ex p ∧
    (∀ {H'}, Same H H' → ∀ o, OwnAt K (upd H' p o) (okA W env τ) p d' → Core K W env1 τ (upd H' p o)) := by
  obtain ⟨s, d, d', h1, h2, h3, rfl⟩ := chg_some h
  obtain ⟨m1, m2, m3⟩ := muta_some h2
  obtain ⟨p, hp, hm, ho⟩ := c.own i s d h1 m1
  exact ⟨p, d, d', hp, h3, ho, fun z => z.2 ⟨i, s, d, h1, m1, hp⟩, hm.2, fun {H'} sm o hoo => (c.ext sm).mutate h1 m1 m2 (m3 d').1 (m3 d').2.1 (m3 d').2.2 hp hoo⟩
theorem ds_mut (i : Nat) (slot : PySem.Slot "list" name id) (hty : typeOf (.builtin id) = pure (.type "method_descriptor")) (hm : MutR X id h) (he : DE X W .n e f) (hN : X.N[i]? = some x := by rfl) (hv : Vis X.env.scope x := by first | exact Or.inl rfl | exact Or.inr (Or.inl rfl) | exact Or.inr (Or.inr rfl)) (hd : (x == ("__debug__" : Str)) = false := by decide)
    (hcd : (x == ("__classdict__" : Str)) = false := by decide) (hbase : attributeBase (.Name x p1) name X.env (eval (.Name x p1) X.env) = eval (.Name x p1) X.env := by rfl)
    (hfew : ((backTo p3 (starEach [e] X.env)).all (fun x => !x.1) && (backToKw p3 (keywordEach [] X.env)).all (fun x => x.1.isSome)
      && decide ([e].length + ([] : List Keyword).length + (if ([] : List Keyword).isEmpty then 0 else 1) < 30)) = true := by rfl)
    (hline : (p2.endLine == p3.line) = true := by rfl) (hst : starEach [e] X.env = (false, eval e X.env) :: starEach [] X.env := by rfl) (hplain : (backTo p3 (starEach [] X.env)).any (·.1) = false := by rfl)
    (hsw : swapsWith (.Call (.Attribute (.Name x p1) name p2) [e] [] p3) none p4.line X.env = pure false := by rfl) :
    DS X W (.Expr (.Call (.Attribute (.Name x p1) name p2) [e] [] p3) p4) (fMut i h f) := by
  obtain ⟨hl, r, hmt, hr⟩ := hm
  refine (ps_expr (pe_bm PySem.F.plainAttrs_list slot hty hmt (pe_var hN hv hd hcd) (da_cons (m := .n) he da_nil hst) hbase hfew hline hst hplain) hsw).weakI fun E σ H hlen ⟨env, att, o, c, hf, q⟩ => ?_
  obtain ⟨d, h1, h2⟩ := bind_some hf
  obtain ⟨env1, h3, h4⟩ := map_some h2
  subst h4
  obtain ⟨p, a, a', hp, ha, ho, hno, hx, fin⟩ := chg_core c h3
  obtain ⟨ds, rfl⟩ := hl _ _ _ ha
  have hi : i < σ.length := by rw [hlen]; exact (List.getElem?_eq_some_iff.mp hN).1
  have hp' := hp
  rw [app_get hi] at hp'
  have ho2 := ho
  obtain ⟨vs, hl1, hl2⟩ := ho2
  refine ⟨_, hp', .inl ⟨rfl, vs, .of hl1⟩, env, att, [d], c, by simp [fCons, fNil, h1], fun ys H1 s1 r1 => ?_⟩
  cases r1 with
  | cons r1 r2 =>
    cases r2
    exact hr p _ H1 _ _ d _ a' (ho.kp (Kp.same s1 fun _ _ x => x) fun o z => s1 _ _ z) r1 hno ha fun o hoo => q σ att _ rfl (fin s1 o hoo)
/-- xs[k] = e -/
def ixD (n : Nat) (k : Int) : Option Nat := L2.ixN n k
def setD (k : Int) (d : D) : D → Option D
  | .list ds => (L2.ixN ds.length k).map fun j => .list (ds.set j d)
  | _ => none
def fSetI (i : Nat) (fk f : Env → Option D) : Env → Option Out := fun env => (f env).bind fun d => (fk env).bind fun k => match k with | .int k => (chg i (setD k d) env).map .nx | _ => none
theorem ds_setI (i : Nat) {k : Expr} {fk : Env → Option D} (hk : DE X W .b k fk) (he : DE X W .n e f) (hN : X.N[i]? = some x := by rfl) (hv : Vis X.env.scope x := by first | exact Or.inl rfl | exact Or.inr (Or.inl rfl) | exact Or.inr (Or.inr rfl)) (hd : (x == ("__debug__" : Str)) = false := by decide)
    (hcd : (x == ("__classdict__" : Str)) = false := by decide)
    (ha : ∀ v, assign (.Subscript (.Name x p1) k p2) X.env v = (do
      let ov ← holding [v] (eval (.Name x p1) X.env)
      let iv ← holding [v, ov] (eval k X.env)
      standAt p2
      holding [v, ov, iv] (setItem ov iv v)
      release [v, ov, iv] []) := by intro _; rfl)
    (hs : swapsWithSole [(.Subscript (.Name x p1) k p2)] e p3.line X.env = pure false := by rfl) (hw : swappedStores [(.Subscript (.Name x p1) k p2)] e X.env = pure none := by rfl)
    (h1 : (assignEach [(.Subscript (.Name x p1) k p2)] X.env).map (·.2) = [assign (.Subscript (.Name x p1) k p2) X.env] := by rfl) :
    DS X W (.Assign [.Subscript (.Name x p1) k p2] e p3) (fSetI i fk f) := by
  refine (ps_asg he (pg_sub (pe_var hN hv hd hcd) hk set_list ha) hs hw h1).weakI fun E σ H hlen ⟨env, att, o, c, hf, q⟩ => ?_
  obtain ⟨d, h1, h2⟩ := bind_some hf
  obtain ⟨kd, h3, h4⟩ := bind_some h2
  split at h4
  · rename_i kd k
    obtain ⟨env1, h5, h6⟩ := map_some h4
    subst h6
    obtain ⟨p, a, a', hp, ha, ho, hno, hx, fin⟩ := chg_core c h5
    have hi : i < σ.length := by rw [hlen]; exact (List.getElem?_eq_some_iff.mp hN).1
    rw [app_get hi] at hp
    unfold setD at ha
    split at ha
    · obtain ⟨j, hj, ha⟩ := map_some ha
      subst ha
      have ho2 := ho
      obtain ⟨vs, hl1, hl2⟩ := ho2
      refine ⟨env, att, d, c, h1, fun v H1 s1 r1 => ⟨_, hp, env, att, _, c.ext s1, h3, fun y H2 s2 r2 => ?_⟩⟩
      cases r2
      have hl3 := s2 _ _ (s1 _ _ hl1)
      refine ⟨p, vs, k, j, rfl, rfl, hl3, by rw [hl2.length]; exact hj, ?_⟩
      refine q σ att _ rfl (fin (s1.trans s2) _ ⟨_, upd_same, ?_⟩)
      exact (repL_upd hl3 (fun z => z) hno (repL_ext (s1.trans s2) hl2)).set (rep_upd hl3 (fun z => z) hno (rep_ext s2 r1)) j
    · cases ha
  · cases h4
end
end
end DL
set_option Elab.async false
set_option linter.all false
set_option maxRecDepth 100000
namespace DL
open PySem L2
section
variable {X : Cx} {W : Wd} {m : Md}
theorem res_val {K : PySem.W.Frag} {H : Hp} {ok : Addr → Prop} {r : D} {v : V} {Q : VK} (q : Res K H ok r Q) (h : ∀ {H' : Hp} {ok' : Addr → Prop}, Rep K H' ok' v r) : Q v H := q v H (Same.refl H) h
theorem res_same {K : PySem.W.Frag} {H : Hp} {ok : Addr → Prop} {r : D} {v : V} {Q : VK} (q : Res K H ok r Q) (h : Rep K H ok v r) : Q v H := q v H (Same.refl H) (h.kp (Kp.same (Same.refl H) fun _ _ x => .inl x))
theorem res_tup {K : PySem.W.Frag} {H : Hp} {ok : Addr → Prop} {vs : List V} {ds : List D} {p : Addr} {Q : VK} (q : Res K H ok (.tuple ds) Q) (h : RepL K H ok vs ds) (hp : H p = none) : Q (.ref p) (upd H p (.tup vs)) :=
  q _ _ (same_upd hp) (.tup (.inl upd_same) (h.kp (Kp.same (same_upd hp) fun _ _ x => .inl x)))
theorem res_lst {K : PySem.W.Frag} {H : Hp} {ok : Addr → Prop} {vs : List V} {ds : List D} {p : Addr} {Q : VK} (q : ResF K H ok (.list ds) Q) (h : RepL K H ok vs ds) (hp : H p = none) : Q (.ref p) (upd H p (.lst vs)) :=
  q _ _ (same_upd hp) hp ⟨vs, upd_same, h.kp (Kp.same (same_upd hp) fun a ha x => ⟨.inl x, fun z => ha (z ▸ hp)⟩)⟩
/-! ### + - * // % ** -/
def addD : D → D → Option D
  | .int i, .int j => some (.int (i + j))
  | .str a, .str b => if a.length + b.length ≤ sizeLine then some (.str (a ++ b)) else none
  | .tuple a, .tuple b => if a.length + b.length ≤ sizeLine then some (.tuple (a ++ b)) else none
  | .list a, .list b => if a.length + b.length ≤ sizeLine then some (.list (a ++ b)) else none
  | _, _ => none
theorem o_add : OpR X (binaryOp .Add) (S2 X.K addD) := by
  intro pins s σ H x y v u Q I rx ry ⟨ok, d, e, r, hd, he, hg, q⟩
  unfold addD at hg
  split at hg
  · cases hg; cases hd; cases he
    exact op_add pins s σ H _ _ v u Q I rx ry ⟨_, _, rfl, rfl, res_val q (.int _)⟩
  · split at hg
    · cases hg; cases hd; cases he
      exact op_add_str pins s σ H _ _ v u Q I rx ry ⟨_, _, rfl, rfl, ‹_›, res_val q (.str _)⟩
    · cases hg
  · split at hg
    · cases hg
      obtain ⟨a, xs, rfl, ha, hxs⟩ := Rep.tup_inv hd
      obtain ⟨b, ys, rfl, hb, hys⟩ := Rep.tup_inv he
      refine op_catA pins s σ H _ _ v u Q I rx ry ⟨a, b, xs, ys, rfl, rfl, ha, hb, by rw [hxs.length, hys.length]; assumption, fun e => ?_, fun _ e => ?_, fun _ _ p hp => res_tup q (hxs.append hys) hp⟩
      · subst e
        cases hxs
        exact res_same q he
      · subst e
        cases hys
        rw [List.append_nil] at q
        exact res_same q hd
    · cases hg
  · split at hg
    · cases hg
      obtain ⟨a, xs, rfl, ha, _, hxs⟩ := Rep.lst_inv hd
      obtain ⟨b, ys, rfl, hb, _, hys⟩ := Rep.lst_inv he
      exact op_cat pins s σ H _ _ v u Q I rx ry ⟨a, b, xs, ys, rfl, rfl, ha, hb, by rw [hxs.length, hys.length]; assumption, fun p hp => res_lst q.f (hxs.append hys) hp⟩
    · cases hg
  · cases hg
def catD : D → D → Option D
  | .list a, .list b => if a.length + b.length ≤ sizeLine then some (.list (a ++ b)) else none
  | _, _ => none
theorem o_cat : OpR X (binaryOp .Add) (S2F X.K catD) := by
  intro pins s σ H x y v u Q I rx ry ⟨ok, d, e, r, hd, he, hg, q⟩
  unfold catD at hg
  split at hg
  · split at hg
    · cases hg
      obtain ⟨a, xs, rfl, ha, _, hxs⟩ := Rep.lst_inv hd
      obtain ⟨b, ys, rfl, hb, _, hys⟩ := Rep.lst_inv he
      exact op_cat pins s σ H _ _ v u Q I rx ry ⟨a, b, xs, ys, rfl, rfl, ha, hb, by rw [hxs.length, hys.length]; assumption, fun p hp => res_lst q (hxs.append hys) hp⟩
    · cases hg
  · cases hg
/-- two ints -/
def iiD (C : Int → Int → Bool) (g : Int → Int → Int) : D → D → Option D
  | .int i, .int j => if C i j = true then some (.int (g i j)) else none
  | _, _ => none
theorem o_ii {f : Value → Value → Sem Value} {C : Int → Int → Bool} {P : Int → Int → Prop} {g : Int → Int → Int} (h : OpR X f (rI P fun i j => .int (g i j))) (hc : ∀ i j, C i j = true → P i j) : OpR X f (S2 X.K (iiD C g)) := by
  intro pins s σ H x y v u Q I rx ry ⟨ok, d, e, r, hd, he, hg, q⟩
  unfold iiD at hg
  split at hg
  · split at hg
    · cases hg; cases hd; cases he
      exact h pins s σ H _ _ v u Q I rx ry ⟨_, _, rfl, rfl, hc _ _ ‹_›, res_val q (.int _)⟩
    · cases hg
  · cases hg
def subD : D → D → Option D
  | .int i, .int j => some (.int (i - j))
  | _, _ => none
theorem o_sub : OpR X (binaryOp .Sub) (S2 X.K subD) := by
  intro pins s σ H x y v u Q I rx ry ⟨ok, d, e, r, hd, he, hg, q⟩
  unfold subD at hg
  split at hg
  · cases hg; cases hd; cases he
    exact op_sub pins s σ H _ _ v u Q I rx ry ⟨_, _, rfl, rfl, res_val q (.int _)⟩
  · cases hg
instance (i j : Int) : Decidable (CMul i j) := by unfold CMul; infer_instance
instance (i j : Int) : Decidable (CMulW i j) := by unfold CMulW; infer_instance
def mulD : D → D → Option D
  | .int i, .int j => if CMul i j ∨ CMulW i j then some (.int (i * j)) else none
  | .list a, .int k => if B62 k ∧ a.length * k.toNat ≤ sizeLine then some (.list (List.replicate k.toNat a).flatten) else none
  | _, _ => none
theorem repL_rep {K : PySem.W.Frag} {H : Hp} {ok : Addr → Prop} {vs : List V} {ds : List D} (h : RepL K H ok vs ds) : ∀ k : Nat, RepL K H ok (List.replicate k vs).flatten (List.replicate k ds).flatten
  | 0 => .nil
  | k + 1 => by
    rw [List.replicate_succ, List.replicate_succ, List.flatten_cons, List.flatten_cons]
    exact h.append (repL_rep h k)
theorem o_mul : OpR X (binaryOp .Mult) (S2 X.K mulD) := by
  intro pins s σ H x y v u Q I rx ry ⟨ok, d, e, r, hd, he, hg, q⟩
  unfold mulD at hg
  split at hg
  · split at hg
    · rename_i hc
      cases hg; cases hd; cases he
      rcases hc with hc | hc
      · exact op_mul pins s σ H _ _ v u Q I rx ry ⟨_, _, rfl, rfl, hc, res_val q (.int _)⟩
      · exact op_mulW pins s σ H _ _ v u Q I rx ry ⟨_, _, rfl, rfl, hc, res_val q (.int _)⟩
    · cases hg
  · split at hg
    · rename_i hc
      cases hg; cases he
      obtain ⟨a, xs, rfl, ha, _, hxs⟩ := Rep.lst_inv hd
      have h1 := hc.1.1
      have h2 := hc.1.2
      exact op_rep pins s σ H _ _ v u Q I rx ry ⟨a, _, xs, rfl, rfl, ha, by omega, by omega, by rw [hxs.length]; exact hc.2, fun p hp => res_lst q.f (repL_rep hxs _) hp⟩
    · cases hg
  · cases hg
def repD : D → D → Option D
  | .list a, .int k => if B62 k ∧ a.length * k.toNat ≤ sizeLine then some (.list (List.replicate k.toNat a).flatten) else none
  | _, _ => none
theorem o_rep : OpR X (binaryOp .Mult) (S2F X.K repD) := by
  intro pins s σ H x y v u Q I rx ry ⟨ok, d, e, r, hd, he, hg, q⟩
  unfold repD at hg
  split at hg
  · split at hg
    · rename_i hc
      cases hg; cases he
      obtain ⟨a, xs, rfl, ha, _, hxs⟩ := Rep.lst_inv hd
      have h1 := hc.1.1
      have h2 := hc.1.2
      exact op_rep pins s σ H _ _ v u Q I rx ry ⟨a, _, xs, rfl, rfl, ha, by omega, by omega, by rw [hxs.length]; exact hc.2, fun p hp => res_lst q (repL_rep hxs _) hp⟩
    · cases hg
  · cases hg
instance (i j : Int) : Decidable (CDiv i j) := by unfold CDiv; infer_instance
instance (i j : Int) : Decidable (CDivW i j) := by unfold CDivW; infer_instance
def fdivD : D → D → Option D
  | .int i, .int j => if CDiv i j ∨ CDivW i j then some (.int (i / j)) else none
  | _, _ => none
theorem o_fdiv : OpR X (binaryOp .FloorDiv) (S2 X.K fdivD) := by
  intro pins s σ H x y v u Q I rx ry ⟨ok, d, e, r, hd, he, hg, q⟩
  unfold fdivD at hg
  split at hg
  · split at hg
    · rename_i hc
      cases hg; cases hd; cases he
      rcases hc with hc | hc
      · exact op_fdiv pins s σ H _ _ v u Q I rx ry ⟨_, _, rfl, rfl, hc, res_val q (.int _)⟩
      · exact op_fdivW pins s σ H _ _ v u Q I rx ry ⟨_, _, rfl, rfl, hc, res_val q (.int _)⟩
    · cases hg
  · cases hg
def modD : D → D → Option D
  | .int i, .int j => if 0 < j then some (.int (i % j)) else none
  | _, _ => none
theorem o_mod : OpR X (binaryOp .Mod) (S2 X.K modD) := by
  intro pins s σ H x y v u Q I rx ry ⟨ok, d, e, r, hd, he, hg, q⟩
  unfold modD at hg
  split at hg
  · split at hg
    · cases hg; cases hd; cases he
      exact op_mod pins s σ H _ _ v u Q I rx ry ⟨_, _, rfl, rfl, ‹_›, res_val q (.int _)⟩
    · cases hg
  · cases hg
instance (i j : Int) : Decidable (CPow i j) := by unfold CPow; infer_instance
def powD : D → D → Option D
  | .int i, .int j => if CPow i j then some (.int (i ^ j.toNat)) else none
  | _, _ => none
theorem o_pow : OpR X (binaryOp .Pow) (S2 X.K powD) := by
  intro pins s σ H x y v u Q I rx ry ⟨ok, d, e, r, hd, he, hg, q⟩
  unfold powD at hg
  split at hg
  · split at hg
    · cases hg; cases hd; cases he
      exact op_pow pins s σ H _ _ v u Q I rx ry ⟨_, _, rfl, rfl, ‹_›, res_val q (.int _)⟩
    · cases hg
  · cases hg
def negD : D → Option D
  | .int i => some (.int (-i))
  | _ => none
theorem u_neg : UnR X (unaryOp .USub) (S1 X.K negD) := by
  intro pins s σ H x v Q I rx ⟨ok, d, r, hd, hg, q⟩
  unfold negD at hg
  split at hg
  · cases hg; cases hd
    exact un_neg pins s σ H _ v Q I rx ⟨_, rfl, res_val q (.int _)⟩
  · cases hg
/-! ### comparisons -/
def shapeD (d : D) : Bool := noDict d && SeqAt.shaped d
def eqD (d e : D) : Option Bool := if shapeD d && shapeD e then some (PyData.eqv d e) else none
def neD (d e : D) : Option Bool := if shapeD d && shapeD e then some (!PyData.eqv d e) else none
theorem o_eq (hu : X.A.units + 65 < cLine) : OpR X (compareOp .Eq) (SC eqD X.K) := by
  intro pins s σ H x y v u Q I rx ry ⟨ok, d, e, b, hd, he, hg, q⟩
  unfold eqD shapeD at hg
  split at hg
  · rename_i hc
    simp only [Bool.and_eq_true] at hc
    cases hg
    exact op_eqD (by omega) pins s σ H _ _ v u Q I rx ry ⟨d, e, hd.dp hc.1.1, he.dp hc.2.1, hc.1.2, hc.2.2, q⟩
  · cases hg
theorem o_ne (hu : X.A.units + 65 < cLine) : OpR X (compareOp .NotEq) (SC neD X.K) := by
  intro pins s σ H x y v u Q I rx ry ⟨ok, d, e, b, hd, he, hg, q⟩
  unfold neD shapeD at hg
  split at hg
  · rename_i hc
    simp only [Bool.and_eq_true] at hc
    cases hg
    exact op_neD (by omega) pins s σ H _ _ v u Q I rx ry ⟨d, e, hd.dp hc.1.1, he.dp hc.2.1, hc.1.2, hc.2.2, q⟩
  · cases hg
def icD (p : Int → Int → Bool) : D → D → Option Bool
  | .int i, .int j => some (p i j)
  | _, _ => none
abbrev ltD := icD fun i j => decide (i < j)
abbrev leD := icD fun i j => decide (i ≤ j)
abbrev gtD := icD fun i j => decide (j < i)
abbrev geD := icD fun i j => decide (j ≤ i)
theorem o_ic {cop : CmpOp} {p : Int → Int → Bool} (h : OpR X (compareOp cop) (rI0 fun i j => .bl (p i j))) : OpR X (compareOp cop) (SC (icD p) X.K) := by
  intro pins s σ H x y v u Q I rx ry ⟨ok, d, e, b, hd, he, hg, q⟩
  unfold icD at hg
  split at hg
  · cases hg; cases hd; cases he
    exact h pins s σ H _ _ v u Q I rx ry ⟨_, _, rfl, rfl, q⟩
  · cases hg
theorem o_lt : OpR X (compareOp .Lt) (SC ltD X.K) := o_ic op_lt
theorem o_le : OpR X (compareOp .LtE) (SC leD X.K) := o_ic op_le
theorem o_gt : OpR X (compareOp .Gt) (SC gtD X.K) := o_ic op_gt
theorem o_ge : OpR X (compareOp .GtE) (SC geD X.K) := o_ic op_ge
/-- is None -/
def isN : D → Bool
  | .none => true
  | _ => false
theorem Rep.isN {K : PySem.W.Frag} {H : Hp} {ok : Addr → Prop} {v : V} {d : D} (h : Rep K H ok v d) : decide (v = .non) = isN d := by cases h <;> rfl
def fIsN (f : Env → Option D) : Env → Option Bool := fun env => (f env).map isN
def fNotN (f : Env → Option D) : Env → Option Bool := fun env => (f env).map fun d => !isN d
section
variable {a : Expr} {fa : Env → Option D} {j : Nat} {pos pos' : Pos}
theorem dt_isN (ha : DE X W .b a fa) : DT X W (.Compare a [.Is] [.Constant .none j pos'] pos) (fIsN fa) := (pt_cmp (pc_isN ha) rfl).weak fun σ H Q ⟨env, att, r, c, hf, q⟩ => by
  obtain ⟨d, h1, h2⟩ := map_some hf
  subst h2
  exact ⟨env, att, d, c, h1, fun x H1 s1 r1 => ⟨_, rfl, by rw [Rep.isN r1]; exact q H1 s1⟩⟩
theorem dt_notN (ha : DE X W .b a fa) : DT X W (.Compare a [.IsNot] [.Constant .none j pos'] pos) (fNotN fa) := (pt_cmp (pc_notN ha) rfl).weak fun σ H Q ⟨env, att, r, c, hf, q⟩ => by
  obtain ⟨d, h1, h2⟩ := map_some hf
  subst h2
  exact ⟨env, att, d, c, h1, fun x H1 s1 r1 => ⟨_, rfl, by rw [Rep.isN r1]; exact q H1 s1⟩⟩
theorem de_isN (ha : DE X W .b a fa) (hm : m ≠ .f := by decide) : DE X W m (.Compare a [.Is] [.Constant .none j pos'] pos) (fB (fIsN fa)) := (pe_cmp (pc_isN ha) rfl).weak fun σ H Q ⟨env, att, r, c, hf, q⟩ => by
  obtain ⟨b, h1, h2⟩ := map_some hf
  obtain ⟨d, h3, h4⟩ := map_some h1
  subst h4 h2
  exact ⟨env, att, d, c, h3, fun x H1 s1 r1 => q _ H1 s1 (post_of hm (by rw [Rep.isN r1]; exact .bl _))⟩
theorem de_notN (ha : DE X W .b a fa) (hm : m ≠ .f := by decide) : DE X W m (.Compare a [.IsNot] [.Constant .none j pos'] pos) (fB (fNotN fa)) := (pe_cmp (pc_notN ha) rfl).weak fun σ H Q ⟨env, att, r, c, hf, q⟩ => by
  obtain ⟨b, h1, h2⟩ := map_some hf
  obtain ⟨d, h3, h4⟩ := map_some h1
  subst h4 h2
  exact ⟨env, att, d, c, h3, fun x H1 s1 r1 => q _ H1 s1 (post_of hm (by rw [Rep.isN r1]; exact .bl _))⟩
end
/-- in a list or a tuple of data -/
def inD (d : D) : D → Option Bool
  | .list es => if shapeD d && shapeD (.list es) then some (es.any fun z => PyData.eqv z d) else none
  | _ => none
def ninD (d : D) : D → Option Bool
  | .list es => if shapeD d && shapeD (.list es) then some (!es.any fun z => PyData.eqv z d) else none
  | _ => none
theorem o_in (hu : X.A.units + 65 < cLine) : OpR X (compareOp .In) (SC inD X.K) := by
  intro pins s σ H x y v u Q I rx ry ⟨ok, d, e, b, hd, he, hg, q⟩
  unfold inD shapeD at hg
  split at hg
  · split at hg
    · rename_i hc
      simp only [Bool.and_eq_true] at hc
      cases hg
      exact op_inD hu pins s σ H _ _ v u Q I rx ry ⟨d, _, hd.dp hc.1.1, he.dp hc.2.1, hc.1.2, hc.2.2, q⟩
    · cases hg
  · cases hg
theorem o_notin (hu : X.A.units + 65 < cLine) : OpR X (compareOp .NotIn) (SC ninD X.K) := by
  intro pins s σ H x y v u Q I rx ry ⟨ok, d, e, b, hd, he, hg, q⟩
  unfold ninD shapeD at hg
  split at hg
  · split at hg
    · rename_i hc
      simp only [Bool.and_eq_true] at hc
      cases hg
      exact op_notInD hu pins s σ H _ _ v u Q I rx ry ⟨d, _, hd.dp hc.1.1, he.dp hc.2.1, hc.1.2, hc.2.2, q⟩
    · cases hg
  · cases hg
/-! ### items, slices -/
def idxD : D → D → Option D
  | .list ds, .int i => L2.atI ds i
  | .tuple ds, .int i => L2.atI ds i
  | .dict [(.none, .list ds)], .int i => L2.atI ds i
  | .str z, .int i => if z.length ≤ sizeLine then (L2.atI z.cps.toList i).map fun c => .str ⟨#[c]⟩ else none
  | _, _ => none
theorem RepL.atI {K : PySem.W.Frag} {H : Hp} {ok : Addr → Prop} {vs : List V} {ds : List D} {i : Int} {d : D} (h : RepL K H ok vs ds) (e : L2.atI ds i = some d) : ∃ v, L2.atI vs i = some v ∧ Rep K H ok v d := by
  unfold L2.atI at e ⊢
  rw [h.length]
  obtain ⟨j, h1, h2⟩ := bind_some e
  obtain ⟨v, h3, h4⟩ := h.getD h2
  exact ⟨v, by rw [h1]; exact h3, h4⟩
theorem repL_ints {K : PySem.W.Frag} {H : Hp} {ok : Addr → Prop} : ∀ ns : List Int, RepL K H ok (ns.map V.int) (ns.map PyData.int)
  | [] => .nil
  | n :: ns => .cons (.int n) (repL_ints ns)
theorem keyD_ne (k : Key) : keyD k ≠ .none := by cases k <;> (intro h; cases h)
theorem scr_inv {K : PySem.W.Frag} {H : Hp} {ok : Addr → Prop} {v : V} {ds : List D} {es : List (D × D)} (h : Rep K H ok v (.dict es)) (he : es = [(.none, .list ds)]) : ∃ (a : Addr) (ns : List Int), v = .ref a ∧ SqL K H a (ns.map V.int) ∧ ((∃ o, H a = some (.frz o (.lst (ns.map V.int)))) ∨ LstK K a (ns.map V.int)) ∧ ds = ns.map PyData.int := by
  cases h with
  | scr ha hf e =>
    subst e
    injection he with h1 h2
    injection h1 with h3 h4
    injection h4 with h5
    exact ⟨_, _, rfl, ha, hf, h5.symm⟩
  | dK h1 h2 h3 =>
    cases h3 with
    | nil => cases he
    | @cons k v vs d ds' h4 h5 =>
      injection he with h6 h7
      injection h6 with h8 h9
      exact absurd h8 (keyD_ne k)
  | dT h1 h2 h3 =>
    injection he with h6 h7
    injection h6 with h8 h9
    cases h8
theorem i_idx : IxR X (S2 X.K idxD) := by
  intro val sl pins s σ H x y v u Q I rx ry ⟨ok, d, e, r, hd, he, hg, q⟩ hsub
  unfold idxD at hg
  split at hg
  · cases he
    obtain ⟨a, xs, rfl, ha, _, hxs⟩ := Rep.lst_inv hd
    obtain ⟨w, h1, h2⟩ := hxs.atI hg
    exact ix_list val sl pins s σ H _ _ v u Q I rx ry ⟨a, xs, _, w, rfl, rfl, .of ha, h1, res_same q h2⟩ hsub
  · cases he
    obtain ⟨a, xs, rfl, ha, hxs⟩ := Rep.tup_inv hd
    obtain ⟨w, h1, h2⟩ := hxs.atI hg
    exact ix_tup val sl pins s σ H _ _ v u Q I rx ry ⟨a, xs, _, w, rfl, rfl, ha, h1, res_same q h2⟩ hsub
  · cases he
    obtain ⟨a, ns, rfl, ha, _, rfl⟩ := scr_inv hd rfl
    obtain ⟨w, h1, h2⟩ := (repL_ints (K := X.K) (H := H) (ok := ok) _).atI hg
    exact ix_list val sl pins s σ H _ _ v u Q I rx ry ⟨_, _, _, w, rfl, rfl, ha, h1, res_same q h2⟩ hsub
  · split at hg
    · cases he; cases hd
      obtain ⟨c, h1, h2⟩ := map_some hg
      subst h2
      exact ix_str val sl pins s σ H _ _ v u Q I rx ry ⟨_, _, c, rfl, rfl, ‹_›, h1, res_val q (.str _)⟩ hsub
    · cases hg
  · cases hg
theorem de_ix {a b : Expr} {fa fb : Env → Option D} {pos : Pos} (ha : DE X W m a fa) (hb : DE X W .b b fb) (hs : PlainIx b := by intro _ _; rfl) (hm : m ≠ .f := by decide) : DE X W m (.Subscript a b pos) (f2 idxD fa fb) := by
  refine (pe_ix i_idx ha hb hs).weak fun σ H Q ⟨env, att, r, c, hf, q⟩ => ?_
  obtain ⟨d, h1, h2⟩ := bind_some hf
  obtain ⟨e, h3, h4⟩ := bind_some h2
  refine ⟨env, att, d, c, h1, fun x H1 s1 r1 => ⟨env, att, e, c.ext s1, h3, fun y H2 s2 r2 => ?_⟩⟩
  refine ⟨okM W env (σ ++ att) m, d, e, r, rep_ext s2 (rep_of hm r1), ?_, h4, res_post c (s1.trans s2) hm q⟩
  have he : ∃ i, e = .int i := by
    unfold idxD at h4
    split at h4 <;> first | exact ⟨_, rfl⟩ | cases h4
  obtain ⟨i, rfl⟩ := he
  cases r2
  exact .int i
def fIxOwn (i : Nat) (fb : Env → Option D) : Env → Option D := fun env => (fOwnItems i env).bind fun ds => (fb env).bind fun e => idxD (.list ds) e
/-- an item of an owned list may be stored -/
theorem de_ixOwn (i : Nat) {x : Str} {b : Expr} {fb : Env → Option D} {p1 pos : Pos} (hb : DE X W .b b fb) (hs : PlainIx b := by intro _ _; rfl) (hN : X.N[i]? = some x := by rfl) (hv : Vis X.env.scope x := by first | exact Or.inl rfl | exact Or.inr (Or.inl rfl) | exact Or.inr (Or.inr rfl)) (hd : (x == ("__debug__" : Str)) = false := by decide)
    (hcd : (x == ("__classdict__" : Str)) = false := by decide) : DE X W .n (.Subscript (.Name x p1) b pos) (fIxOwn i fb) := by
  have h0 := pe_ix (pos := pos) ix_list (pe_var (pos := p1) hN hv hd hcd) hb hs
  refine h0.weakI fun σ H Q hl ⟨env, att, r, c, hf, q⟩ => ?_
  have hi : i < σ.length := by rw [hl]; exact (List.getElem?_eq_some_iff.mp hN).1
  obtain ⟨ds, h1, h2⟩ := bind_some hf
  obtain ⟨e, h3, h4⟩ := bind_some h2
  unfold fOwnItems at h1
  split at h1
  · rename_i sl e1
    split at h1
    · rename_i ds' e2
      cases h1
      obtain ⟨p, h5, h6, vs, h7, h8⟩ := c.own i _ _ e1 e2
      rw [app_get hi] at h5
      refine ⟨_, h5, env, att, e, c, h3, fun y H2 s2 r2 => ?_⟩
      cases e with
      | int k =>
        cases r2
        obtain ⟨w, h9, h10⟩ := h8.atI (show L2.atI ds k = some r from h4)
        exact ⟨p, vs, k, w, rfl, rfl, .of (s2 _ _ h7), h9, q w H2 s2 (rep_ext s2 h10)⟩
      | _ => cases h4
    · cases h1
  · cases h1
def partD : Option D → Option (Option Int)
  | none => some none
  | some (.int i) => some (some i)
  | _ => none
def cutD (ds : List D) (lo hi : Option Int) : List D := (ds.drop (HT.sIx ds.length 0 lo)).take (HT.sIx ds.length ds.length hi - HT.sIx ds.length 0 lo)
def slD : D → Option Int → Option Int → Option D
  | .list ds, lo, hi => some (.list (cutD ds lo hi))
  | .tuple ds, lo, hi => some (.tuple (cutD ds lo hi))
  | _, _, _ => none
theorem RepL.cut {K : PySem.W.Frag} {H : Hp} {ok : Addr → Prop} {vs : List V} {ds : List D} (h : RepL K H ok vs ds) (lo hi : Option Int) : RepL K H ok (cutV vs lo hi) (cutD ds lo hi) := by
  unfold cutV cutD
  rw [h.length]
  exact (h.drop _).take _
def S3 (K : PySem.W.Frag) (fr : Bool) : V → Option Int → Option Int → Hp → VK → Prop := fun x lo hi H Q => ∃ ok d r, Rep K H ok x d ∧ slD d lo hi = some r ∧ (if fr = true then (∃ ds, r = .list ds) ∧ ResF K H ok r Q else Res K H ok r Q)
theorem s_sl {fr : Bool} : SlR X (S3 X.K fr) := by
  intro pins s σ H x v vl vu lo hi sl Q I rx hs pl pu ⟨ok, d, r, hd, hg, q⟩
  unfold slD at hg
  split at hg
  · cases hg
    obtain ⟨a, xs, rfl, ha, _, hxs⟩ := Rep.lst_inv hd
    refine sl_list pins s σ H _ v vl vu lo hi sl Q I rx hs pl pu ⟨a, xs, rfl, .of ha, fun p hp => res_lst ?_ (hxs.cut _ _) hp⟩
    cases fr with
    | true => exact q.2
    | false => exact Res.f q
  · cases hg
    cases fr with
    | true => obtain ⟨⟨ds, z⟩, _⟩ := q; cases z
    | false =>
      obtain ⟨a, xs, rfl, ha, hxs⟩ := Rep.tup_inv hd
      refine sl_tupA pins s σ H _ v vl vu lo hi sl Q I rx hs pl pu ⟨a, xs, rfl, ha, fun h => ?_, fun _ p hp => res_tup q (hxs.cut _ _) hp⟩
      refine res_same q ?_
      rename_i ds
      have e : cutD ds lo hi = ds := by
        unfold cutD
        rw [hxs.length] at h
        rw [h.1, h.2]
        rw [List.drop_zero, Nat.sub_zero, List.take_length]
      rw [e]
      exact hd
  · cases hg
/-- a slice's part -/
def tOD (K : PySem.W.Frag) (W : Wd) (f : Env → Option (Option Int)) : TO := fun σ H Q => ∃ env att o, Core K W env (σ ++ att) H ∧ f env = some o ∧ ∀ H', Same H H' → Q o H'
abbrev DO (X : Cx) (W : Wd) (e : Option Expr) (f : Env → Option (Option Int)) : Prop := PO X e (tOD X.K W f)
def fPart (f : Env → Option D) : Env → Option (Option Int) := fun env => (f env).bind fun d => match d with | .int i => some (some i) | _ => none
def fNoPart : Env → Option (Option Int) := fun _ => some none
theorem PO.weak {e : Option Expr} {t t' : TO} (h : PO X e t) (w : ∀ σ H Q, t' σ H Q → t σ H Q) : PO X e t' := ⟨fun pins s σ H Q I hw => h.run pins s σ H Q I (w _ _ _ hw)⟩
theorem do_none : DO X W none fNoPart := PO.weak po_none fun σ H Q ⟨env, att, o, c, hf, q⟩ => by
  cases hf
  exact q H (Same.refl H)
theorem do_some {e : Expr} {f : Env → Option D} (h : DE X W .b e f) : DO X W (some e) (fPart f) := PO.weak (po_some h) fun σ H Q ⟨env, att, o, c, hf, q⟩ => by
  obtain ⟨d, h1, h2⟩ := bind_some hf
  refine ⟨env, att, d, c, h1, fun v H1 s1 r1 => ?_⟩
  cases d with
  | int i =>
    cases h2
    exact ⟨i, Rep.int_inv r1, q H1 s1⟩
  | _ => cases h2
def fSl (fe : Env → Option D) (fl fh : Env → Option (Option Int)) : Env → Option D := fun env => (fe env).bind fun d => (fl env).bind fun lo => (fh env).bind fun hi => slD d lo hi
section
variable {e : Expr} {lo hi : Option Expr} {fe : Env → Option D} {fl fh : Env → Option (Option Int)} {p2 pos : Pos}
theorem de_sl (he : DE X W m e fe) (hl : DO X W lo fl) (hh : DO X W hi fh) (hm : m ≠ .f := by decide) : DE X W m (.Subscript e (.Slice lo hi none p2) pos) (fSl fe fl fh) :=
  (pe_slice (s_sl (fr := false)) he hl hh).weak fun σ H Q ⟨env, att, r, c, hf, q⟩ => by
    obtain ⟨d, h1, h2⟩ := bind_some hf
    obtain ⟨a, h3, h4⟩ := bind_some h2
    obtain ⟨b, h5, h6⟩ := bind_some h4
    exact ⟨env, att, d, c, h1, fun x H1 s1 r1 => ⟨env, att, a, c.ext s1, h3, fun H2 s2 => ⟨env, att, b, (c.ext s1).ext s2, h5, fun H3 s3 => ⟨_, d, r, rep_ext (s2.trans s3) (rep_of hm r1), h6, res_post c ((s1.trans s2).trans s3) hm q⟩⟩⟩⟩
def fSlF (fe : Env → Option D) (fl fh : Env → Option (Option Int)) : Env → Option D := fun env => (fe env).bind fun d => (fl env).bind fun lo => (fh env).bind fun hi => match d with | .list ds => some (.list (cutD ds lo hi)) | _ => none
theorem de_slF (he : DE X W .n e fe) (hl : DO X W lo fl) (hh : DO X W hi fh) : DE X W .f (.Subscript e (.Slice lo hi none p2) pos) (fSlF fe fl fh) :=
  (pe_slice (s_sl (fr := true)) he hl hh).weak fun σ H Q ⟨env, att, r, c, hf, q⟩ => by
    obtain ⟨d, h1, h2⟩ := bind_some hf
    obtain ⟨a, h3, h4⟩ := bind_some h2
    obtain ⟨b, h5, h6⟩ := bind_some h4
    split at h6
    · cases h6
      exact ⟨env, att, _, c, h1, fun x H1 s1 r1 => ⟨env, att, a, c.ext s1, h3, fun H2 s2 => ⟨env, att, b, (c.ext s1).ext s2, h5, fun H3 s3 => ⟨_, _, _, rep_ext (s2.trans s3) r1, rfl, ⟨_, rfl⟩, resF_post c ((s1.trans s2).trans s3) q⟩⟩⟩⟩
    · cases h6
end
end
end DL
set_option Elab.async false
set_option linter.all false
set_option maxRecDepth 100000
namespace DL
open PySem L2
section
variable {X : Cx} {W : Wd} {m : Md}
/-! ### built-ins -/
def len1 : D → Option Nat
  | .list ds => some ds.length
  | .tuple ds => some ds.length
  | .dict [(.none, .list ds)] => some ds.length
  | .str z => if z.length ≤ sizeLine then some z.length else none
  | _ => none
def lenD : List D → Option D
  | [d] => (len1 d).map fun n => .int n
  | _ => none
theorem repL1 {K : PySem.W.Frag} {H : Hp} {ok : Addr → Prop} {vs : List V} {d : D} (h : RepL K H ok vs [d]) : ∃ v, vs = [v] ∧ Rep K H ok v d := by
  cases h with
  | cons h1 h2 => cases h2; exact ⟨_, rfl, h1⟩
theorem repL2 {K : PySem.W.Frag} {H : Hp} {ok : Addr → Prop} {vs : List V} {d e : D} (h : RepL K H ok vs [d, e]) : ∃ v w, vs = [v, w] ∧ Rep K H ok v d ∧ Rep K H ok w e := by
  cases h with
  | cons h1 h2 =>
    obtain ⟨w, rfl, h3⟩ := repL1 h2
    exact ⟨_, _, rfl, h1, h3⟩
theorem c_len : CallR X (.builtin "len") (SL X.K lenD) := by
  intro pins s σ H xs us Q I rx ⟨ok, ds, r, hd, hg, q⟩
  unfold lenD at hg
  split at hg
  · obtain ⟨n, h1, h2⟩ := map_some hg
    subst h2
    obtain ⟨v, rfl, hv⟩ := repL1 hd
    unfold len1 at h1
    split at h1
    · cases h1
      obtain ⟨a, ys, rfl, ha, _, hys⟩ := Rep.lst_inv hv
      exact call_len_seq pins s σ H _ us Q I rx ⟨a, ys, rfl, .inl (.of ha), by rw [hys.length]; exact res_val q (.int _)⟩
    · cases h1
      obtain ⟨a, ys, rfl, ha, hys⟩ := Rep.tup_inv hv
      exact call_len_seq pins s σ H _ us Q I rx ⟨a, ys, rfl, .inr ha, by rw [hys.length]; exact res_val q (.int _)⟩
    · cases h1
      obtain ⟨a, ns, rfl, ha, _, rfl⟩ := scr_inv hv rfl
      exact call_len_seq pins s σ H _ us Q I rx ⟨a, _, rfl, .inl ha, by rw [List.length_map]; rw [List.length_map] at q; exact res_val q (.int _)⟩
    · split at h1
      · cases h1; cases hv
        exact call_len_str pins s σ H _ us Q I rx ⟨_, rfl, ‹_›, res_val q (.int _)⟩
      · cases h1
    · cases h1
  · cases hg
def intD : List D → Option D
  | [.int i] => some (.int i)
  | [.bool b] => some (.int (if b then 1 else 0))
  | _ => none
theorem c_int : CallR X (.type "int") (SL X.K intD) := by
  intro pins s σ H xs us Q I rx ⟨ok, ds, r, hd, hg, q⟩
  unfold intD at hg
  split at hg
  · cases hg
    obtain ⟨v, rfl, hv⟩ := repL1 hd
    cases hv
    exact call_int1 pins s σ H _ us Q I rx (.inl ⟨_, rfl, res_val q (.int _)⟩)
  · cases hg
    obtain ⟨v, rfl, hv⟩ := repL1 hd
    cases hv
    exact call_int1 pins s σ H _ us Q I rx (.inr ⟨_, rfl, res_val q (.int _)⟩)
  · cases hg
def absD : List D → Option D
  | [.int i] => some (.int (if i < 0 then -i else i))
  | _ => none
theorem c_abs : CallR X (.builtin "abs") (SL X.K absD) := by
  intro pins s σ H xs us Q I rx ⟨ok, ds, r, hd, hg, q⟩
  unfold absD at hg
  split at hg
  · cases hg
    obtain ⟨v, rfl, hv⟩ := repL1 hd
    cases hv
    exact call_abs pins s σ H _ us Q I rx ⟨_, rfl, res_val q (.int _)⟩
  · cases hg
def max2D : List D → Option D
  | [.int i, .int j] => some (.int (if j > i then j else i))
  | _ => none
theorem c_max2 (hc : X.calm = true) : CallR X (.builtin "max") (SL X.K max2D) := by
  intro pins s σ H xs us Q I rx ⟨ok, ds, r, hd, hg, q⟩
  unfold max2D at hg
  split at hg
  · cases hg
    obtain ⟨v, w, rfl, hv, hw⟩ := repL2 hd
    cases hv; cases hw
    exact call_max2 hc pins s σ H _ us Q I rx ⟨_, _, rfl, res_val q (.int _)⟩
  · cases hg
def min2D : List D → Option D
  | [.int i, .int j] => some (.int (if j < i then j else i))
  | _ => none
theorem c_min2 (hc : X.calm = true) : CallR X (.builtin "min") (SL X.K min2D) := by
  intro pins s σ H xs us Q I rx ⟨ok, ds, r, hd, hg, q⟩
  unfold min2D at hg
  split at hg
  · cases hg
    obtain ⟨v, w, rfl, hv, hw⟩ := repL2 hd
    cases hv; cases hw
    exact call_min2 hc pins s σ H _ us Q I rx ⟨_, _, rfl, res_val q (.int _)⟩
  · cases hg
/-- a list of ints -/
def intsD : List D → Option (List Int)
  | [] => some []
  | .int i :: ds => (intsD ds).map (i :: ·)
  | _ :: _ => none
theorem intsD_some : ∀ {ds : List D} {ns : List Int}, intsD ds = some ns → ds = ns.map PyData.int
  | [], _, h => by cases h; rfl
  | d :: ds, ns, h => by
    cases d with
    | int i =>
      obtain ⟨ms, h1, h2⟩ := map_some (show (intsD ds).map (i :: ·) = some ns from h)
      subst h2
      rw [intsD_some h1]
      rfl
    | _ => cases h
theorem intsD_map : ∀ ns : List Int, intsD (ns.map PyData.int) = some ns
  | [] => rfl
  | n :: ns => by
    show (intsD (ns.map PyData.int)).map (n :: ·) = some (n :: ns)
    rw [intsD_map ns]
    rfl
theorem repL_ints_inv {K : PySem.W.Frag} {H : Hp} {ok : Addr → Prop} : ∀ {vs : List V} {ns : List Int}, RepL K H ok vs (ns.map PyData.int) → vs = ns.map V.int
  | _, [], h => by cases h; rfl
  | _, n :: ns, h => by
    cases h with
    | cons h1 h2 =>
      cases h1
      rw [repL_ints_inv h2]
      rfl
def maxI : List Int → Option Int
  | [] => none
  | n :: ns => some (ns.foldl (fun a b => if b > a then b else a) n)
def minI : List Int → Option Int
  | [] => none
  | n :: ns => some (ns.foldl (fun a b => if b < a then b else a) n)
theorem maxI_spec : ∀ (ns : List Int) (n : Int), (ns.foldl (fun a b => if b > a then b else a) n) ∈ n :: ns ∧ ∀ y ∈ n :: ns, y ≤ ns.foldl (fun a b => if b > a then b else a) n
  | [], n => ⟨by simp, by simp⟩
  | b :: ns, n => by
    rw [List.foldl_cons]
    obtain ⟨h1, h2⟩ := maxI_spec ns (if b > n then b else n)
    refine ⟨?_, fun y hy => ?_⟩
    · rcases List.mem_cons.mp h1 with h | h
      · rw [h]; split <;> simp
      · exact List.mem_cons_of_mem _ (List.mem_cons_of_mem _ h)
    · have h3 := h2 _ List.mem_cons_self
      rcases List.mem_cons.mp hy with rfl | hy
      · refine Int.le_trans ?_ h3; split <;> omega
      · rcases List.mem_cons.mp hy with rfl | hy
        · refine Int.le_trans ?_ h3; split <;> omega
        · exact h2 y (List.mem_cons_of_mem _ hy)
theorem minI_spec : ∀ (ns : List Int) (n : Int), (ns.foldl (fun a b => if b < a then b else a) n) ∈ n :: ns ∧ ∀ y ∈ n :: ns, ns.foldl (fun a b => if b < a then b else a) n ≤ y
  | [], n => ⟨by simp, by simp⟩
  | b :: ns, n => by
    rw [List.foldl_cons]
    obtain ⟨h1, h2⟩ := minI_spec ns (if b < n then b else n)
    refine ⟨?_, fun y hy => ?_⟩
    · rcases List.mem_cons.mp h1 with h | h
      · rw [h]; split <;> simp
      · exact List.mem_cons_of_mem _ (List.mem_cons_of_mem _ h)
    · have h3 := h2 _ List.mem_cons_self
      rcases List.mem_cons.mp hy with rfl | hy
      · refine Int.le_trans h3 ?_; split <;> omega
      · rcases List.mem_cons.mp hy with rfl | hy
        · refine Int.le_trans h3 ?_; split <;> omega
        · exact h2 y (List.mem_cons_of_mem _ hy)
def maxLD : List D → Option D
  | [.list ds] => (intsD ds).bind fun ns => (maxI ns).map .int
  | _ => none
def minLD : List D → Option D
  | [.list ds] => (intsD ds).bind fun ns => (minI ns).map .int
  | _ => none
theorem c_maxL (hc : X.calm = true) : CallR X (.builtin "max") (SL X.K maxLD) := by
  intro pins s σ H xs us Q I rx ⟨ok, ds, r, hd, hg, q⟩
  unfold maxLD at hg
  split at hg
  · obtain ⟨ns, h1, h2⟩ := bind_some hg
    obtain ⟨v, rfl, hv⟩ := repL1 hd
    obtain ⟨a, ys, rfl, ha, _, hys⟩ := Rep.lst_inv hv
    rw [intsD_some h1] at hys
    have e := repL_ints_inv hys
    subst e
    obtain ⟨mx, h3, h4⟩ := map_some h2
    subst h4
    cases ns with
    | nil => cases h3
    | cons n ns =>
      refine cr_max hc pins s σ H _ us Q I rx ⟨a, n :: ns, rfl, .of ha, Nat.succ_pos _, fun k hk hle => ?_⟩
      have e : mx = ns.foldl (fun a b => if b > a then b else a) n := (Option.some.inj h3).symm
      obtain ⟨h5, h6⟩ := maxI_spec ns n
      have : k = mx := by
        rw [e]
        have := hle _ h5
        have := h6 _ hk
        omega
      subst this
      exact res_val q (.int _)
  · cases hg
theorem c_minL (hc : X.calm = true) : CallR X (.builtin "min") (SL X.K minLD) := by
  intro pins s σ H xs us Q I rx ⟨ok, ds, r, hd, hg, q⟩
  unfold minLD at hg
  split at hg
  · obtain ⟨ns, h1, h2⟩ := bind_some hg
    obtain ⟨v, rfl, hv⟩ := repL1 hd
    obtain ⟨a, ys, rfl, ha, _, hys⟩ := Rep.lst_inv hv
    rw [intsD_some h1] at hys
    have e := repL_ints_inv hys
    subst e
    obtain ⟨mx, h3, h4⟩ := map_some h2
    subst h4
    cases ns with
    | nil => cases h3
    | cons n ns =>
      refine cr_min hc pins s σ H _ us Q I rx ⟨a, n :: ns, rfl, .of ha, Nat.succ_pos _, fun k hk hle => ?_⟩
      have e : mx = ns.foldl (fun a b => if b < a then b else a) n := (Option.some.inj h3).symm
      obtain ⟨h5, h6⟩ := minI_spec ns n
      have : k = mx := by
        rw [e]
        have := hle _ h5
        have := h6 _ hk
        omega
      subst this
      exact res_val q (.int _)
  · cases hg
def sumLD : List D → Option D
  | [.list ds] => (intsD ds).map fun ns => .int ns.sum
  | _ => none
theorem c_sum (hc : X.calm = true) : CallR X (.builtin "sum") (SL X.K sumLD) := by
  intro pins s σ H xs us Q I rx ⟨ok, ds, r, hd, hg, q⟩
  unfold sumLD at hg
  split at hg
  · obtain ⟨ns, h1, h2⟩ := map_some hg
    subst h2
    obtain ⟨v, rfl, hv⟩ := repL1 hd
    obtain ⟨a, ys, rfl, ha, _, hys⟩ := Rep.lst_inv hv
    rw [intsD_some h1] at hys
    have e := repL_ints_inv hys
    subst e
    exact cr_sum hc pins s σ H _ us Q I rx ⟨a, ns, rfl, .of ha, res_val q (.int _)⟩
  · cases hg
/-- a list of bools -/
def bolsD : List D → Option (List Bool)
  | [] => some []
  | .bool i :: ds => (bolsD ds).map (i :: ·)
  | _ :: _ => none
theorem bolsD_some : ∀ {ds : List D} {ns : List Bool}, bolsD ds = some ns → ds = ns.map PyData.bool
  | [], _, h => by cases h; rfl
  | d :: ds, ns, h => by
    cases d with
    | bool i =>
      obtain ⟨ms, h1, h2⟩ := map_some (show (bolsD ds).map (i :: ·) = some ns from h)
      subst h2
      rw [bolsD_some h1]
      rfl
    | _ => cases h
theorem bolsD_map : ∀ ns : List Bool, bolsD (ns.map PyData.bool) = some ns
  | [] => rfl
  | n :: ns => by
    show (bolsD (ns.map PyData.bool)).map (n :: ·) = some (n :: ns)
    rw [bolsD_map ns]
    rfl
theorem repL_bols_inv {K : PySem.W.Frag} {H : Hp} {ok : Addr → Prop} : ∀ {vs : List V} {ns : List Bool}, RepL K H ok vs (ns.map PyData.bool) → vs = ns.map V.bl
  | _, [], h => by cases h; rfl
  | _, n :: ns, h => by
    cases h with
    | cons h1 h2 =>
      cases h1
      rw [repL_bols_inv h2]
      rfl
def anyD : List D → Option D
  | [.list ds] => (bolsD ds).map fun bs => .bool (bs.any id)
  | _ => none
def allD : List D → Option D
  | [.list ds] => (bolsD ds).map fun bs => .bool (bs.all id)
  | _ => none
theorem c_any (hc : X.calm = true) : CallR X (.builtin "any") (SL X.K anyD) := by
  intro pins s σ H xs us Q I rx ⟨ok, ds, r, hd, hg, q⟩
  unfold anyD at hg
  split at hg
  · obtain ⟨ns, h1, h2⟩ := map_some hg
    subst h2
    obtain ⟨v, rfl, hv⟩ := repL1 hd
    obtain ⟨a, ys, rfl, ha, _, hys⟩ := Rep.lst_inv hv
    rw [bolsD_some h1] at hys
    have e := repL_bols_inv hys
    subst e
    exact cr_any hc pins s σ H _ us Q I rx ⟨a, ns, rfl, .of ha, res_val q (.bl _)⟩
  · cases hg
theorem c_all (hc : X.calm = true) : CallR X (.builtin "all") (SL X.K allD) := by
  intro pins s σ H xs us Q I rx ⟨ok, ds, r, hd, hg, q⟩
  unfold allD at hg
  split at hg
  · obtain ⟨ns, h1, h2⟩ := map_some hg
    subst h2
    obtain ⟨v, rfl, hv⟩ := repL1 hd
    obtain ⟨a, ys, rfl, ha, _, hys⟩ := Rep.lst_inv hv
    rw [bolsD_some h1] at hys
    have e := repL_bols_inv hys
    subst e
    exact cr_all hc pins s σ H _ us Q I rx ⟨a, ns, rfl, .of ha, res_val q (.bl _)⟩
  · cases hg
/-- list(x), tuple(x) -/
def listD : List D → Option D
  | [.list ds] => some (.list ds)
  | [.tuple ds] => some (.list ds)
  | _ => none
theorem list_run {ok : Addr → Prop} {ds : List D} {r : D} {pins : List (Addr × Obj)} {s : Shared} {σ : L2.St} {H : Hp} {xs : List V} {us : List Value} {Q : VK} (I : L2.Inv X pins σ H s) (rx : Vals xs us) (hd : RepL X.K H ok xs ds) (hg : listD ds = some r) (q : ResF X.K H ok r Q) :
    wpAny (model X.prog X.w) X.A (call (.type "list") us) (EP X pins σ Q) X.xe s := by
  unfold listD at hg
  split at hg
  · cases hg
    obtain ⟨v, rfl, hv⟩ := repL1 hd
    obtain ⟨a, ys, rfl, ha, _, hys⟩ := Rep.lst_inv hv
    exact call_list_of pins s σ H _ us Q I rx ⟨a, ys, rfl, .inl (.of ha), fun p hp => res_lst q hys hp⟩
  · cases hg
    obtain ⟨v, rfl, hv⟩ := repL1 hd
    obtain ⟨a, ys, rfl, ha, hys⟩ := Rep.tup_inv hv
    exact call_list_of pins s σ H _ us Q I rx ⟨a, ys, rfl, .inr ha, fun p hp => res_lst q hys hp⟩
  · cases hg
theorem c_list : CallR X (.type "list") (SL X.K listD) := fun _ _ _ _ _ _ _ I rx ⟨_, _, _, hd, hg, q⟩ => list_run I rx hd hg q.f
theorem c_listF : CallR X (.type "list") (SLF X.K listD) := fun _ _ _ _ _ _ _ I rx ⟨_, _, _, hd, hg, q⟩ => list_run I rx hd hg q
def tupleD : List D → Option D
  | [.list ds] => some (.tuple ds)
  | [.tuple ds] => some (.tuple ds)
  | _ => none
theorem c_tuple : CallR X (.type "tuple") (SL X.K tupleD) := by
  intro pins s σ H xs us Q I rx ⟨ok, ds, r, hd, hg, q⟩
  unfold tupleD at hg
  split at hg
  · cases hg
    obtain ⟨v, rfl, hv⟩ := repL1 hd
    obtain ⟨a, ys, rfl, ha, _, hys⟩ := Rep.lst_inv hv
    exact call_tuple_of pins s σ H _ us Q I rx ⟨a, ys, rfl, .inl ⟨.of ha, fun p hp => res_tup q hys hp⟩⟩
  · cases hg
    obtain ⟨v, rfl, hv⟩ := repL1 hd
    obtain ⟨a, ys, rfl, ha, hys⟩ := Rep.tup_inv hv
    exact call_tuple_of pins s σ H _ us Q I rx ⟨a, ys, rfl, .inr ⟨ha, res_same q hv⟩⟩
  · cases hg
/-- isinstance(x, T) -/
def tyD : D → String
  | .none => "NoneType"
  | .bool _ => "bool"
  | .int _ => "int"
  | .str _ => "str"
  | .list _ => "list"
  | .tuple _ => "tuple"
  | .dict _ => "dict"
def scrB : D → Bool
  | .dict [(.none, _)] => true
  | _ => false
def isiD (T : String) (d : D) : Option Bool := if scrB d = true then none else kitB (tyD d) T
theorem Rep.ty {K : PySem.W.Frag} {H : Hp} {ok : Addr → Prop} {v : V} {d : D} (h : Rep K H ok v d) (hs : scrB d = false) : (∃ a, v = .ref a ∧ ∃ o, K.lookup a = some o ∧ o.cls = .type "tuple" ∧ tyD d = "tuple") ∨ TyX K H v (.type (tyD d)) := by
  cases h with
  | non => exact .inr (.base .non)
  | bl b => exact .inr (.base (.bl b))
  | int b => exact .inr (.base (.int b))
  | str b => exact .inr (.base (.str b))
  | lst _ e _ => exact .inr (.base (.lst e))
  | scr => cases hs
  | tup e _ =>
    rcases e.sq with (e | ⟨o, e⟩) | ⟨o, its, n, e, c, _⟩
    · exact .inr (.base (.tup e))
    · exact .inr (.fTuple e)
    · exact .inr (.kTuple e c)
  | dK _ e _ => exact .inr (.base (.dK e))
  | dT _ e _ => exact .inr (.base (.dT e))
def fIsi (T : String) (f : Env → Option D) : Env → Option D := fun env => (f env).bind fun d => (isiD T d).map .bool
theorem de_isi (T : String) {a : Expr} {fa : Env → Option D} {x : Str} {p p2 pos : Pos} (ha : DE X W .b a fa) (hmI : X.mg "isinstance" = none := by assumption) (hmT : X.mg x = none := by assumption) (hgI : Gl X "isinstance" := by rfl) (hgT : Gl X x := by rfl) (hvT : bootBuiltins x = some (.type T) := by decide +kernel) (hvI : bootBuiltins "isinstance" = some (.builtin "isinstance") := by decide +kernel)
    (hn : x ≠ "__name__" := by decide) (hdb : (x == ("__debug__" : Str)) = false := by decide) (hm : m ≠ .f := by decide)
    (he : starEach [a, .Name x p2] X.env = (false, eval a X.env) :: starEach [.Name x p2] X.env := by rfl) (hpl : (backTo pos (starEach [.Name x p2] X.env)).any (·.1) = false := by rfl) :
    DE X W m (.Call (.Name "isinstance" p) [a, .Name x p2] [] pos) (fIsi T fa) :=
  (pe_callB call_isi hgI hmI hvI (pa_cons ha (pa_cons (pe_bltn (v := .ty T) hgT hmT hvT rfl hn hdb) pa_nil) he) (by decide) (by decide) he hpl).weak fun σ H Q ⟨env, att, r, c, hf, q⟩ => by
    obtain ⟨d, h1, h2⟩ := bind_some hf
    obtain ⟨b, h3, h4⟩ := map_some h2
    subst h4
    refine ⟨env, att, d, c, h1, fun v H1 s1 r1 => ?_⟩
    unfold isiD at h3
    split at h3
    · cases h3
    · rename_i hs
      have ty : TyX X.K H1 v (.type (tyD d)) := by
        rcases Rep.ty r1 (by cases h : scrB d with | true => exact absurd h hs | false => rfl) with ⟨a, rfl, o, e, cc, et⟩ | t
        · rw [et]; exact .kTuple e cc
        · exact t
      exact ⟨v, .ty T, .type (tyD d), .type T, b, rfl, .ty T, ty, kit_ty h3, q _ H1 s1 (post_of hm (.bl b))⟩
theorem de_isiT (T : String) {a : Expr} {fa : Env → Option D} {x : Str} {p p2 pos : Pos} (ha : DE X W .b a fa) (hmI : X.mg "isinstance" = none := by assumption) (hmT : X.mg x = none := by assumption) (hgI : Gl X "isinstance" := by rfl) (hgT : Gl X x := by rfl) (hvT : bootBuiltins x = some (.type T) := by decide +kernel) (hvI : bootBuiltins "isinstance" = some (.builtin "isinstance") := by decide +kernel)
    (hn : x ≠ "__name__" := by decide) (hdb : (x == ("__debug__" : Str)) = false := by decide)
    (he : starEach [a, .Name x p2] X.env = (false, eval a X.env) :: starEach [.Name x p2] X.env := by rfl) (hpl : (backTo pos (starEach [.Name x p2] X.env)).any (·.1) = false := by rfl)
    (hi : ∀ whole, isTrue (.Call (.Name "isinstance" p) [a, .Name x p2] [] pos) X.env whole = (do let v ← whole; standAt (Expr.Call (.Name "isinstance" p) [a, .Name x p2] [] pos).pos; holding [v] (truthy v)) := by intro _; rfl) :
    DT X W (.Call (.Name "isinstance" p) [a, .Name x p2] [] pos) (fTB (fIsi T fa)) := dt_val (de_isi (m := .b) T ha hmI hmT hgI hgT hvT hvI hn hdb (by decide) he hpl) hi
end
/-! ### the law -/
/-- the script, as data -/
def scrD (ns : List Int) : D := .dict [(.none, .list (ns.map PyData.int))]
theorem law_sp {K : PySem.W.Frag} {g : List D → Option D} (hg : ∀ ns : List Int, ns.length ≤ 63 → g [scrD ns] = some (.bool true)) (H : Hp) (a : Addr) (ns : List Int) (hl : ns.length ≤ 63) (hO : Only H) (hS : SqL K H a (ns.map V.int)) : pureSp K g [.ref a] H (fun v _ => v = .bl true) fun _ _ _ => False := by
  refine ⟨fun _ => True, [scrD ns], .bool true, .cons (.scr hS ?_ rfl) .nil, hg ns hl, fun v H' s r => Rep.bl_inv r⟩
  rcases hS with (h | h) | h
  · rcases hO a with z | ⟨o, u, z⟩
    · rw [z] at h; cases h
    · rw [z] at h; cases h
  · exact .inl h
  · exact .inr h
theorem hu65 {k : Nat} {A : Around} (hr : Room k A) : A.units + 65 < cLine := by have := hr.un; omega
end DL
set_option Elab.async false
set_option linter.all false
set_option maxRecDepth 100000
namespace DL
open PySem L2
section
variable {X : Cx} {W : Wd} {m : Md}
/-! ### values without lists, whatever they are asked for -/
def Scal (f : Env → Option D) : Prop := ∀ env d, f env = some d → flat d = true
theorem de_s {e : Expr} {f : Env → Option D} (h : DE X W .b e f) (hs : Scal f) (hm : m ≠ .f := by decide) : DE X W m e f := h.weak fun σ H Q ⟨env, att, d, c, hf, q⟩ =>
  ⟨env, att, d, c, hf, fun v H' s r => q v H' s (post_of hm (Rep.flat r (hs env d hf)))⟩
theorem scal_call {g : List D → Option D} {fs : Env → Option (List D)} (h : ∀ ds r, g ds = some r → flat r = true) : Scal (fCall g fs) := fun env d e => by
  obtain ⟨ds, _, h2⟩ := bind_some e
  exact h ds d h2
theorem scal_f2 {g : D → D → Option D} {fa fb : Env → Option D} (h : ∀ d e r, g d e = some r → flat r = true) : Scal (f2 g fa fb) := fun env d e => by
  obtain ⟨_, _, h2⟩ := bind_some e
  obtain ⟨_, _, h3⟩ := bind_some h2
  exact h _ _ d h3
theorem scal_f1 {g : D → Option D} {fa : Env → Option D} (h : ∀ d r, g d = some r → flat r = true) : Scal (f1 g fa) := fun env d e => by
  obtain ⟨_, _, h2⟩ := bind_some e
  exact h _ d h2
theorem fl_len : ∀ ds r, lenD ds = some r → flat r = true := fun ds r h => by
  unfold lenD at h
  split at h
  · obtain ⟨n, _, e⟩ := map_some h
    subst e; rfl
  · cases h
theorem fl_int : ∀ ds r, intD ds = some r → flat r = true := fun ds r h => by
  unfold intD at h
  split at h <;> cases h <;> rfl
theorem fl_abs : ∀ ds r, absD ds = some r → flat r = true := fun ds r h => by
  unfold absD at h
  split at h <;> cases h <;> rfl
theorem fl_max2 : ∀ ds r, max2D ds = some r → flat r = true := fun ds r h => by
  unfold max2D at h
  split at h <;> cases h <;> rfl
theorem fl_min2 : ∀ ds r, min2D ds = some r → flat r = true := fun ds r h => by
  unfold min2D at h
  split at h <;> cases h <;> rfl
theorem fl_maxL : ∀ ds r, maxLD ds = some r → flat r = true := fun ds r h => by
  unfold maxLD at h
  split at h
  · obtain ⟨_, _, h⟩ := bind_some h
    obtain ⟨_, _, e⟩ := map_some h
    subst e; rfl
  · cases h
theorem fl_minL : ∀ ds r, minLD ds = some r → flat r = true := fun ds r h => by
  unfold minLD at h
  split at h
  · obtain ⟨_, _, h⟩ := bind_some h
    obtain ⟨_, _, e⟩ := map_some h
    subst e; rfl
  · cases h
theorem fl_sum : ∀ ds r, sumLD ds = some r → flat r = true := fun ds r h => by
  unfold sumLD at h
  split at h
  · obtain ⟨_, _, e⟩ := map_some h
    subst e; rfl
  · cases h
theorem fl_any : ∀ ds r, anyD ds = some r → flat r = true := fun ds r h => by
  unfold anyD at h
  split at h
  · obtain ⟨_, _, e⟩ := map_some h
    subst e; rfl
  · cases h
theorem fl_all : ∀ ds r, allD ds = some r → flat r = true := fun ds r h => by
  unfold allD at h
  split at h
  · obtain ⟨_, _, e⟩ := map_some h
    subst e; rfl
  · cases h
theorem fl_sub : ∀ d e r, subD d e = some r → flat r = true := fun d e r h => by
  unfold subD at h
  split at h <;> cases h <;> rfl
theorem fl_fdiv : ∀ d e r, fdivD d e = some r → flat r = true := fun d e r h => by
  unfold fdivD at h
  split at h
  · split at h <;> cases h
    rfl
  · cases h
theorem fl_mod : ∀ d e r, modD d e = some r → flat r = true := fun d e r h => by
  unfold modD at h
  split at h
  · split at h <;> cases h
    rfl
  · cases h
theorem fl_pow : ∀ d e r, powD d e = some r → flat r = true := fun d e r h => by
  unfold powD at h
  split at h
  · split at h <;> cases h
    rfl
  · cases h
theorem fl_neg : ∀ d r, negD d = some r → flat r = true := fun d r h => by
  unfold negD at h
  split at h <;> cases h
  rfl
/-! ### name op= e -/
def fAug (i : Nat) (g : D → D → Option D) (f : Env → Option D) : Env → Option Out := fun env => match env[i]? with
  | some (.fz d) => (f env).bind fun e => (g d e).bind fun r => (put i (.fz r) env).map .nx
  | _ => none
theorem ds_aug (i : Nat) {g : D → D → Option D} {op : Operator} {x : Str} {e : Expr} {f : Env → Option D} {pos' pos : Pos} (hW : W.n = X.N.length) (hN : X.N.Nodup) (ho : OpR X (inplaceOp op) (S2 X.K g)) (he : DE X W .n e f) (hi : X.N[i]? = some x := by rfl) (hx : Loc X.env.scope x := by first | exact Or.inl rfl | exact Or.inr rfl)
    (hf : X.fn x = true ∨ X.env.scope.names.lookup x = some .local := by first | exact .inl rfl | exact .inr rfl | assumption) : DS X W (.AugAssign (.Name x pos') op e pos) (fAug i g f) :=
  (ps_aug (ti := fun x y H Q => S2 X.K g x y H Q) hN hi hx he ho hf).weakI fun E σ H hl ⟨env, att, o, c, hf, q⟩ => by
    unfold fAug at hf
    split at hf
    · rename_i d h0
      obtain ⟨e', h1, h2⟩ := bind_some hf
      obtain ⟨r, h3, h4⟩ := bind_some h2
      obtain ⟨e1, h5, h6⟩ := map_some h4
      subst h6
      obtain ⟨s0, h7, hf0, rfl⟩ := put_some h5
      have hiσ : i < σ.length := by rw [hl]; exact (List.getElem?_eq_some_iff.mp hi).1
      obtain ⟨v, hv, rv⟩ := c.fz i d h0
      rw [app_get hiσ] at hv
      refine ⟨v, hv, env, att, e', c, h1, fun y H1 s1 r1 => ⟨okA W env (σ ++ att), d, e', r, rep_ext s1 rv, r1, h3, fun z H2 s2 r2 => ?_⟩⟩
      refine q _ att H2 (by simp) ?_
      rw [← app_set hiσ]
      exact ((c.ext s1).ext s2).setFz h7 hf0 (by rw [hW, ← hl]; exact hiσ) (.inr ⟨r, z, rfl, rfl, Core.rep_new (c.ext s1) r2⟩)
    · cases hf
def iiAdd : D → D → Option D
  | .int i, .int j => some (.int (i + j))
  | _, _ => none
theorem a_add : OpR X (inplaceOp .Add) (S2 X.K iiAdd) := by
  intro pins s σ H x y v u Q I rx ry ⟨ok, d, e, r, hd, he, hg, q⟩
  unfold iiAdd at hg
  split at hg
  · cases hg; cases hd; cases he
    exact iop_add pins s σ H _ _ v u Q I rx ry ⟨_, _, rfl, rfl, res_val q (.int _)⟩
  · cases hg
theorem a_sub : OpR X (inplaceOp .Sub) (S2 X.K subD) := by
  intro pins s σ H x y v u Q I rx ry ⟨ok, d, e, r, hd, he, hg, q⟩
  unfold subD at hg
  split at hg
  · cases hg; cases hd; cases he
    exact iop_sub pins s σ H _ _ v u Q I rx ry ⟨_, _, rfl, rfl, res_val q (.int _)⟩
  · cases hg
theorem on_name (i : Nat) : On [i] (gN i) := fun d env env' h => by
  obtain ⟨s0, h0, hf0, rfl⟩ := put_some h
  exact ⟨fun j hj => List.getElem?_set_ne (fun z => hj (by simp [z])), by simp⟩
def Ons (is : List Nat) (g : List D → Env → Option Env) : Prop := ∀ ds env env', g ds env = some env' → (∀ j, j ∉ is → env'[j]? = env[j]?) ∧ env'.length = env.length
theorem ons_nil : Ons [] gNil := fun ds env env' h => by
  unfold gNil at h
  split at h
  · cases h; exact ⟨fun _ _ => rfl, rfl⟩
  · cases h
theorem ons_cons {is js : List Nat} {g : D → Env → Option Env} {gs : List D → Env → Option Env} (h1 : On is g) (h2 : Ons js gs) : Ons (is ++ js) (gCons g gs) := fun ds env env' h => by
  unfold gCons at h
  split at h
  · obtain ⟨e1, h3, h4⟩ := bind_some h
    obtain ⟨a1, a2⟩ := h1 _ _ _ h3
    obtain ⟨b1, b2⟩ := h2 _ _ _ h4
    refine ⟨fun j hj => ?_, b2.trans a2⟩
    rw [b1 j fun z => hj (List.mem_append_right _ z), a1 j fun z => hj (List.mem_append_left _ z)]
  · cases h
theorem on_tup {is : List Nat} {gs : List D → Env → Option Env} (h : Ons is gs) : On is (gTup gs) := fun d env env' hg => by
  unfold gTup at hg
  split at hg
  · exact h _ _ _ hg
  · cases hg
end
end DL
set_option Elab.async false
set_option linter.all false
set_option maxRecDepth 100000
namespace DL
open PySem L2
section
variable {X : Cx} {W : Wd} {m : Md}
/-! ### dicts -/
mutual
def dkEq : D → D → Bool
  | .int a, .int b => a == b
  | .str a, .str b => decide (a = b)
  | .tuple as, .tuple bs => dkEqL as bs
  | _, _ => false
def dkEqL : List D → List D → Bool
  | [], [] => true
  | a :: as, b :: bs => dkEq a b && dkEqL as bs
  | _, _ => false
end
def isK : D → Option Key
  | .int i => some (.inl i)
  | .str x => some (.inr x)
  | _ => none
def isKs : List D → Option (List Key)
  | [] => some []
  | d :: ds => (isK d).bind fun k => (isKs ds).map (k :: ·)
def isT : D → Option (List Key)
  | .tuple ds => isKs ds
  | _ => none
theorem isK_some {d : D} {k : Key} (h : isK d = some k) : d = keyD k := by
  cases d <;> first | (cases h; rfl) | cases h
theorem isKs_some : ∀ {ds : List D} {ks : List Key}, isKs ds = some ks → ds = ks.map keyD
  | [], _, h => by cases h; rfl
  | d :: ds, ks, h => by
    unfold isKs at h
    obtain ⟨k, h1, h2⟩ := bind_some h
    obtain ⟨ks', h3, h4⟩ := map_some h2
    subst h4
    rw [isK_some h1, isKs_some h3]
    rfl
theorem isT_some {d : D} {ks : List Key} (h : isT d = some ks) : d = .tuple (ks.map keyD) := by
  cases d with
  | tuple ds => rw [isKs_some (show isKs ds = some ks from h)]
  | _ => cases h
theorem dkEq_key (a b : Key) : dkEq (keyD a) (keyD b) = decide (a = b) := by
  cases a with
  | inl i =>
    cases b with
    | inl j => show (i == j) = _; rw [key_ll]
    | inr y => rw [key_lr]; rfl
  | inr x =>
    cases b with
    | inl j => rw [key_rl]; rfl
    | inr y => show decide (x = y) = _; rw [key_rr]
theorem dkEq_keys : ∀ as bs : List Key, dkEqL (as.map keyD) (bs.map keyD) = decide (as = bs)
  | [], [] => rfl
  | [], b :: bs => by simp [dkEqL]
  | a :: as, [] => by simp [dkEqL]
  | a :: as, b :: bs => by
    show (dkEq (keyD a) (keyD b) && dkEqL (as.map keyD) (bs.map keyD)) = _
    rw [dkEq_key, dkEq_keys]
    by_cases h : a = b <;> by_cases h2 : as = bs <;> simp [h, h2]
theorem dkEq_tup (as bs : List Key) : dkEq (.tuple (as.map keyD)) (.tuple (bs.map keyD)) = decide (as = bs) := dkEq_keys as bs
def lookD (kvs : List (D × D)) (k : D) : Option D := (kvs.find? fun p => dkEq p.1 k).map (·.2)
def putDs (kvs : List (D × D)) (k d : D) : List (D × D) := if (kvs.any fun p => dkEq p.1 k) = true then kvs.map (fun p => if dkEq p.1 k = true then (p.1, d) else p) else kvs ++ [(k, d)]
/-- a dict whose keys are ints or texts, by its first pair -/
def fstK : List (D × D) → Bool
  | [] => true
  | (.int _, _) :: _ => true
  | (.str _, _) :: _ => true
  | _ => false
/-- what a dict has at a key -/
def dLook : D → D → Option (Option D)
  | .dict ((.bool true, .none) :: kvs), k => (isT k).map fun _ => lookD kvs k
  | .dict kvs, k => if fstK kvs = true then (isK k).map fun _ => lookD kvs k else none
  | _, _ => none
/-- a dict with one key more -/
def dPut : D → D → D → Option D
  | .dict ((.bool true, .none) :: kvs), k, d => (isT k).bind fun _ => if kvs.length < sizeLine then some (.dict (tMark :: putDs kvs k d)) else none
  | .dict kvs, k, d => if fstK kvs = true then (isK k).bind fun _ => if kvs.length < sizeLine then some (.dict (putDs kvs k d)) else none else none
  | _, _, _ => none
section
variable {K : PySem.W.Frag} {H : Hp} {ok : Addr → Prop}
theorem repK_val : ∀ {vs : List (Key × V)} {ds : List (D × D)}, RepK K H ok vs ds → ∀ k, (valV vs k = none ∧ lookD ds (keyD k) = none) ∨ ∃ v d, valV vs k = some v ∧ lookD ds (keyD k) = some d ∧ Rep K H ok v d
  | _, _, .nil, k => .inl ⟨rfl, rfl⟩
  | _, _, @RepK.cons _ _ _ k' v vs d ds r t, k => by
    by_cases e : k' = k
    · refine .inr ⟨v, d, valV_pos e, ?_, r⟩
      unfold lookD
      rw [List.find?_cons, dkEq_key, decide_eq_true e]
      rfl
    · have h1 : lookD ((keyD k', d) :: ds) (keyD k) = lookD ds (keyD k) := by
        unfold lookD
        rw [List.find?_cons, dkEq_key, decide_eq_false e]
      rw [valV_neg e, h1]
      exact repK_val t k
theorem repT_val : ∀ {vs : List (List Key × V)} {ds : List (D × D)}, RepT K H ok vs ds → ∀ k : List Key, (valV vs k = none ∧ lookD ds (.tuple (k.map keyD)) = none) ∨ ∃ v d, valV vs k = some v ∧ lookD ds (.tuple (k.map keyD)) = some d ∧ Rep K H ok v d
  | _, _, .nil, k => .inl ⟨rfl, rfl⟩
  | _, _, @RepT.cons _ _ _ k' v vs d ds r t, k => by
    by_cases e : k' = k
    · refine .inr ⟨v, d, valV_pos e, ?_, r⟩
      unfold lookD
      rw [List.find?_cons, dkEq_tup, decide_eq_true e]
      rfl
    · have h1 : lookD ((.tuple (k'.map keyD), d) :: ds) (.tuple (k.map keyD)) = lookD ds (.tuple (k.map keyD)) := by
        unfold lookD
        rw [List.find?_cons, dkEq_tup, decide_eq_false e]
      rw [valV_neg e, h1]
      exact repT_val t k
theorem repK_any : ∀ {vs : List (Key × V)} {ds : List (D × D)}, RepK K H ok vs ds → ∀ k, (ds.any fun p => dkEq p.1 (keyD k)) = vs.any fun kv => decide (kv.1 = k)
  | _, _, .nil, k => rfl
  | _, _, @RepK.cons _ _ _ k' v vs d ds r t, k => by
    rw [List.any_cons, List.any_cons, dkEq_key, repK_any t k]
theorem repT_any : ∀ {vs : List (List Key × V)} {ds : List (D × D)}, RepT K H ok vs ds → ∀ k : List Key, (ds.any fun p => dkEq p.1 (.tuple (k.map keyD))) = vs.any fun kv => decide (kv.1 = k)
  | _, _, .nil, k => rfl
  | _, _, @RepT.cons _ _ _ k' v vs d ds r t, k => by
    rw [List.any_cons, List.any_cons, dkEq_tup, repT_any t k]
theorem repK_mark {vs : List (Key × V)} {ds : List (D × D)} (h : RepK K H ok vs ((.bool true, .none) :: ds)) : False := by
  generalize hl : ((PyData.bool true, PyData.none) :: ds : List (D × D)) = l at h
  cases h with
  | nil => cases hl
  | @cons k' _ _ _ _ _ _ =>
    injection hl with hl _
    injection hl with hl _
    cases k' <;> cases hl
theorem repK_length : ∀ {vs : List (Key × V)} {ds : List (D × D)}, RepK K H ok vs ds → vs.length = ds.length
  | _, _, .nil => rfl
  | _, _, .cons _ t => congrArg (· + 1) (repK_length t)
theorem repT_length : ∀ {vs : List (List Key × V)} {ds : List (D × D)}, RepT K H ok vs ds → vs.length = ds.length
  | _, _, .nil => rfl
  | _, _, .cons _ t => congrArg (· + 1) (repT_length t)
theorem repK_app : ∀ {vs ws : List (Key × V)} {ds es : List (D × D)}, RepK K H ok vs ds → RepK K H ok ws es → RepK K H ok (vs ++ ws) (ds ++ es)
  | _, _, _, _, .nil, s => s
  | _, _, _, _, .cons r t, s => .cons r (repK_app t s)
theorem repT_app : ∀ {vs ws : List (List Key × V)} {ds es : List (D × D)}, RepT K H ok vs ds → RepT K H ok ws es → RepT K H ok (vs ++ ws) (ds ++ es)
  | _, _, _, _, .nil, s => s
  | _, _, _, _, .cons r t, s => .cons r (repT_app t s)
theorem repK_map {v : V} {d : D} (rv : Rep K H ok v d) (k : Key) : ∀ {vs : List (Key × V)} {ds : List (D × D)}, RepK K H ok vs ds → RepK K H ok (vs.map fun kv => if kv.1 = k then (kv.1, v) else kv) (ds.map fun p => if dkEq p.1 (keyD k) = true then (p.1, d) else p)
  | _, _, .nil => .nil
  | _, _, @RepK.cons _ _ _ k' v' vs d' ds r t => by
    rw [List.map_cons, List.map_cons, dkEq_key]
    by_cases e : k' = k
    · simp only [e, decide_true, if_true]
      exact .cons rv (repK_map rv k t)
    · simp only [e, decide_false, if_false, Bool.false_eq_true]
      exact .cons r (repK_map rv k t)
theorem repT_map {v : V} {d : D} (rv : Rep K H ok v d) (k : List Key) : ∀ {vs : List (List Key × V)} {ds : List (D × D)}, RepT K H ok vs ds → RepT K H ok (vs.map fun kv => if kv.1 = k then (kv.1, v) else kv) (ds.map fun p => if dkEq p.1 (.tuple (k.map keyD)) = true then (p.1, d) else p)
  | _, _, .nil => .nil
  | _, _, @RepT.cons _ _ _ k' v' vs d' ds r t => by
    rw [List.map_cons, List.map_cons, dkEq_tup]
    by_cases e : k' = k
    · simp only [e, decide_true, if_true]
      exact .cons rv (repT_map rv k t)
    · simp only [e, decide_false, if_false, Bool.false_eq_true]
      exact .cons r (repT_map rv k t)
theorem repK_put {v : V} {d : D} (rv : Rep K H ok v d) (k : Key) {vs : List (Key × V)} {ds : List (D × D)} (h : RepK K H ok vs ds) : RepK K H ok (putK vs k v) (putDs ds (keyD k) d) := by
  unfold putK putDs
  rw [repK_any h k]
  split
  · exact repK_map rv k h
  · exact repK_app h (.cons rv .nil)
theorem repT_put {v : V} {d : D} (rv : Rep K H ok v d) (k : List Key) {vs : List (List Key × V)} {ds : List (D × D)} (h : RepT K H ok vs ds) : RepT K H ok (putK vs k v) (putDs ds (.tuple (k.map keyD)) d) := by
  unfold putK putDs
  rw [repT_any h k]
  split
  · exact repT_map rv k h
  · exact repT_app h (.cons rv .nil)
/-- a key that is a tuple -/
theorem key_tup {y : V} {k : List Key} (h : Rep K H ok y (.tuple (k.map keyD))) (hk : KTup = false) : ∃ b, y = .ref b ∧ H b = some (.tup (k.map kV)) := by
  cases h with
  | tup h1 h2 =>
    rcases h1 with h1 | ⟨h1, _⟩
    · refine ⟨_, rfl, ?_⟩
      have e : ∀ {vs : List V} {k : List Key}, RepL K H ok vs (k.map keyD) → vs = k.map kV := by
        intro vs k
        induction k generalizing vs with
        | nil => intro h; cases h; rfl
        | cons a as ih =>
          intro h
          cases h with
          | cons r t =>
            rw [ih t]
            cases a with
            | inl i => cases r; rfl
            | inr x => cases r; rfl
      rw [← e h2]
      exact h1
    · rw [hk] at h1; cases h1
theorem key_kv {y : V} {k : Key} (h : Rep K H ok y (keyD k)) : y = kV k := by
  cases k with
  | inl i => cases h; rfl
  | inr x => cases h; rfl
/-- what is known of a dict's place -/
theorem dict_get {v y : V} {d k : D} {ok' : Addr → Prop} {o : Option D} (h : Rep K H ok v d) (hy : Rep K H ok' y k) (e : dLook d k = some o) (hk : KTup = false) :
    ∃ a o', v = .ref a ∧ DGet H a y o' ∧ ((o = none ∧ o' = none) ∨ ∃ w r, o = some r ∧ o' = some w ∧ Rep K H ok w r) := by
  unfold dLook at e
  split at e
  · obtain ⟨ks, h1, h2⟩ := map_some e
    subst h2
    have hk' := isT_some h1
    subst hk'
    generalize hd : PyData.dict _ = dd at h
    cases h with
    | dT ho ha hr =>
      injection hd with hd
      injection hd with _ hd
      subst hd
      obtain ⟨b, rfl, hb⟩ := key_tup hy hk
      refine ⟨_, _, rfl, DGet.t ha hb, ?_⟩
      rcases repT_val hr ks with ⟨h3, h4⟩ | ⟨w, r, h3, h4, h5⟩
      · exact .inl ⟨h4, h3⟩
      · exact .inr ⟨w, r, h4, h3, h5⟩
    | dK ho ha hr =>
      cases hr with
      | nil => cases hd
      | @cons k' _ _ _ _ _ _ =>
        injection hd with hd
        injection hd with hd _
        injection hd with hd _
        cases k' <;> cases hd
    | scr _ _ _ => cases hd
    | _ => cases hd
  · split at e
    · rename_i hf
      obtain ⟨kk, h1, h2⟩ := map_some e
      subst h2
      have hk' := isK_some h1
      subst hk'
      cases h with
      | dT ho ha hr => cases hf
      | dK ho ha hr =>
        have := key_kv hy
        subst this
        refine ⟨_, _, rfl, DGet.k ha, ?_⟩
        rcases repK_val hr kk with ⟨h3, h4⟩ | ⟨w, r, h3, h4, h5⟩
        · exact .inl ⟨h4, h3⟩
        · exact .inr ⟨w, r, h4, h3, h5⟩
      | scr _ _ _ => cases hf
    · cases e
  · cases e
theorem dict_put {p : Addr} {y v : V} {d k e d' : D} {ok' ok2 : Addr → Prop} (h : OwnAt K H ok p d) (hy : Rep K H ok' y k) (hv : Rep K H ok v e) (hg : dPut d k e = some d') (hk : KTup = false) (hp : ¬ ok p) :
    ∃ o, DPut H p y v (upd H p o) ∧ OwnAt K (upd H p o) ok p d' := by
  unfold dPut at hg
  split at hg
  · obtain ⟨ks, h1, h2⟩ := bind_some hg
    have hk' := isT_some h1
    subst hk'
    split at h2
    · cases h2
      rcases h with ⟨kvs, ha, hr⟩ | ⟨kvs, es, e0, ha, hr⟩
      · exact (repK_mark hr).elim
      · injection e0 with _ e0
        subst e0
        obtain ⟨b, rfl, hb⟩ := key_tup hy hk
        refine ⟨.dT (putK kvs ks v), DPut.t ha hb (by rw [repT_length hr]; assumption), .inr ⟨_, _, rfl, upd_same, ?_⟩⟩
        exact repT_put (rep_upd ha (fun z => z) hp hv) ks (hr.kp fun a x e => ⟨fun k => ⟨by rw [upd_ne (fun z => hp (by rw [← z]; exact k))]; exact e, k⟩, fun t => by
          rw [upd_ne (fun z => by rw [z, ha] at e; cases e; exact t)]; exact e⟩)
    · cases h2
  · split at hg
    · rename_i hf
      obtain ⟨kk, h1, h2⟩ := bind_some hg
      have hk' := isK_some h1
      subst hk'
      split at h2
      · cases h2
        rcases h with ⟨kvs, ha, hr⟩ | ⟨kvs, es, e0, ha, hr⟩
        · have := key_kv hy
          subst this
          refine ⟨.dK (putK kvs kk v), DPut.k ha (by rw [repK_length hr]; assumption), .inl ⟨_, upd_same, ?_⟩⟩
          exact repK_put (rep_upd ha (fun z => z) hp hv) kk (hr.kp fun a x e => ⟨fun k => ⟨by rw [upd_ne (fun z => hp (by rw [← z]; exact k))]; exact e, k⟩, fun t => by
            rw [upd_ne (fun z => by rw [z, ha] at e; cases e; exact t)]; exact e⟩)
        · subst e0; cases hf
      · cases h2
    · cases hg
  · cases hg
end
section
variable {a b : Expr} {fa fb : Env → Option D} {pos : Pos}
def fDIn (fk fd : Env → Option D) : Env → Option Bool := fun env => (fk env).bind fun k => (fd env).bind fun d => (dLook d k).map Option.isSome
def fDNin (fk fd : Env → Option D) : Env → Option Bool := fun env => (fk env).bind fun k => (fd env).bind fun d => (dLook d k).map fun o => !o.isSome
theorem din_read {neg : Bool} {σ : St} {H : Hp} {Q : VK} {env : Env} {att : St} {k d : D} {o : Option D} (c : Core X.K W env (σ ++ att) H) (h1 : fa env = some k) (h2 : fb env = some d) (h3 : dLook d k = some o) (q : ∀ H', Same H H' → Q (.bl (if neg = true then !o.isSome else o.isSome)) H') :
    (if neg = true then tDNotIn (tE X.K W .b fa) (tE X.K W .b fb) else tDIn (tE X.K W .b fa) (tE X.K W .b fb)) σ H Q := by
  have fin : ∀ (x y : V) (H2 : Hp), Rep X.K H2 (fun a => ¬ W.Ex a) x d → Rep X.K H2 (fun a => ¬ W.Ex a) y k → ∃ a o', x = .ref a ∧ DGet H2 a y o' ∧ o'.isSome = o.isSome := fun x y H2 hx hy => by
    obtain ⟨a, o', e, g, h⟩ := dict_get hx hy h3 rfl
    refine ⟨a, o', e, g, ?_⟩
    rcases h with ⟨rfl, rfl⟩ | ⟨w, r, rfl, rfl, _⟩ <;> rfl
  cases neg with
  | true =>
    refine ⟨env, att, k, c, h1, fun y H1 s1 r1 => ⟨env, att, d, c.ext s1, h2, fun x H2 s2 r2 => ?_⟩⟩
    obtain ⟨a, o', e, g, eo⟩ := fin x y H2 r2 (rep_ext s2 r1)
    exact ⟨a, o', e, g, by rw [eo]; exact q H2 (s1.trans s2)⟩
  | false =>
    refine ⟨env, att, k, c, h1, fun y H1 s1 r1 => ⟨env, att, d, c.ext s1, h2, fun x H2 s2 r2 => ?_⟩⟩
    obtain ⟨a, o', e, g, eo⟩ := fin x y H2 r2 (rep_ext s2 r1)
    exact ⟨a, o', e, g, by rw [eo]; exact q H2 (s1.trans s2)⟩
theorem dt_din (hu : X.A.units + 65 < cLine) (ha : DE X W .b a fa) (hb : DE X W .b b fb) (hm : behindInMarks .In b = false := by rfl) : DT X W (.Compare a [.In] [b] pos) (fDIn fa fb) := (pt_cmp (pc_din (by omega) ha hb) hm).weak fun σ H Q ⟨env, att, r, c, hf, q⟩ => by
  obtain ⟨k, h1, h2⟩ := bind_some hf
  obtain ⟨d, h3, h4⟩ := bind_some h2
  obtain ⟨o, h5, h6⟩ := map_some h4
  subst h6
  exact din_read (neg := false) c h1 h3 h5 fun H' s => ⟨_, rfl, q H' s⟩
theorem dt_dnin (hu : X.A.units + 65 < cLine) (ha : DE X W .b a fa) (hb : DE X W .b b fb) (hm : behindInMarks .NotIn b = false := by rfl) : DT X W (.Compare a [.NotIn] [b] pos) (fDNin fa fb) := (pt_cmp (pc_dnotin (by omega) ha hb) hm).weak fun σ H Q ⟨env, att, r, c, hf, q⟩ => by
  obtain ⟨k, h1, h2⟩ := bind_some hf
  obtain ⟨d, h3, h4⟩ := bind_some h2
  obtain ⟨o, h5, h6⟩ := map_some h4
  subst h6
  exact din_read (neg := true) c h1 h3 h5 fun H' s => ⟨_, rfl, q H' s⟩
theorem de_din (hu : X.A.units + 65 < cLine) (ha : DE X W .b a fa) (hb : DE X W .b b fb) (hmm : m ≠ .f := by decide) (hm : behindInMarks .In b = false := by rfl) : DE X W m (.Compare a [.In] [b] pos) (fB (fDIn fa fb)) := (pe_cmp (pc_din (by omega) ha hb) hm).weak fun σ H Q ⟨env, att, r, c, hf, q⟩ => by
  obtain ⟨bb, h0, h00⟩ := map_some hf
  subst h00
  obtain ⟨k, h1, h2⟩ := bind_some h0
  obtain ⟨d, h3, h4⟩ := bind_some h2
  obtain ⟨o, h5, h6⟩ := map_some h4
  subst h6
  exact din_read (neg := false) c h1 h3 h5 fun H' s => q _ H' s (post_of hmm (.bl _))
theorem de_dnin (hu : X.A.units + 65 < cLine) (ha : DE X W .b a fa) (hb : DE X W .b b fb) (hmm : m ≠ .f := by decide) (hm : behindInMarks .NotIn b = false := by rfl) : DE X W m (.Compare a [.NotIn] [b] pos) (fB (fDNin fa fb)) := (pe_cmp (pc_dnotin (by omega) ha hb) hm).weak fun σ H Q ⟨env, att, r, c, hf, q⟩ => by
  obtain ⟨bb, h0, h00⟩ := map_some hf
  subst h00
  obtain ⟨k, h1, h2⟩ := bind_some h0
  obtain ⟨d, h3, h4⟩ := bind_some h2
  obtain ⟨o, h5, h6⟩ := map_some h4
  subst h6
  exact din_read (neg := true) c h1 h3 h5 fun H' s => q _ H' s (post_of hmm (.bl _))
/-- d[k] -/
def fDGet (fd fk : Env → Option D) : Env → Option D := fun env => (fd env).bind fun d => (fk env).bind fun k => (dLook d k).bind id
theorem de_dget (hu : X.A.units + 65 < cLine) (ha : DE X W m a fa) (hb : DE X W .b b fb) (hs : NoSl b := by intro _ _; rfl) (hm : m ≠ .f := by decide) : DE X W m (.Subscript a b pos) (fDGet fa fb) := (pe_dget (by omega) ha hb hs).weak fun σ H Q ⟨env, att, r, c, hf, q⟩ => by
  obtain ⟨d, h1, h2⟩ := bind_some hf
  obtain ⟨k, h3, h4⟩ := bind_some h2
  obtain ⟨o, h5, h6⟩ := bind_some h4
  refine ⟨env, att, d, c, h1, fun x H1 s1 r1 => ⟨env, att, k, c.ext s1, h3, fun y H2 s2 r2 => ?_⟩⟩
  obtain ⟨p, o', e, g, h⟩ := dict_get (rep_ext s2 (rep_of hm r1)) r2 h5 rfl
  rcases h with ⟨rfl, rfl⟩ | ⟨w, r', rfl, rfl, rw'⟩
  · cases h6
  · cases h6
    exact ⟨p, w, e, g, q w H2 (s1.trans s2) (post_of hm rw')⟩
/-- what an owned dict has at a key may be stored -/
def fDGetOwn (i : Nat) (fk : Env → Option D) : Env → Option D := fun env => match env[i]? with | some s => (match s.held with | some d => (fk env).bind fun k => (dLook d k).bind id | none => none) | none => none
theorem de_dgetOwn (i : Nat) {x : Str} {p1 : Pos} (hu : X.A.units + 65 < cLine) (hb : DE X W .b b fb) (hs : NoSl b := by intro _ _; rfl) (hN : X.N[i]? = some x := by rfl) (hv : Vis X.env.scope x := by first | exact Or.inl rfl | exact Or.inr (Or.inl rfl) | exact Or.inr (Or.inr rfl)) (hd : (x == ("__debug__" : Str)) = false := by decide)
    (hcd : (x == ("__classdict__" : Str)) = false := by decide) : DE X W .n (.Subscript (.Name x p1) b pos) (fDGetOwn i fb) := by
  refine (pe_dget (pos := pos) (by omega) (pe_var (pos := p1) hN hv hd hcd) hb hs).weakI fun σ H Q hl ⟨env, att, r, c, hf, q⟩ => ?_
  have hi : i < σ.length := by rw [hl]; exact (List.getElem?_eq_some_iff.mp hN).1
  unfold fDGetOwn at hf
  split at hf
  · rename_i sl e1
    split at hf
    · rename_i d e2
      obtain ⟨k, h3, h4⟩ := bind_some hf
      obtain ⟨o, h5, h6⟩ := bind_some h4
      obtain ⟨p, h7, h8, h9⟩ := c.own i _ _ e1 e2
      rw [app_get hi] at h7
      refine ⟨_, h7, env, att, k, c, h3, fun y H2 s2 r2 => ?_⟩
      have hr : Rep X.K H (fun a => okA W env (σ ++ att) a ∨ a = p) (.ref p) d := h9.rep (.inr rfl) fun a z => .inl z
      obtain ⟨p', o', e, g, h⟩ := dict_get (rep_ext s2 hr) r2 h5 rfl
      rcases h with ⟨rfl, rfl⟩ | ⟨w, r', rfl, rfl, rw'⟩
      · cases h6
      · cases h6
        refine ⟨p', w, e, g, q w H2 s2 ?_⟩
        -- the value is one of the dict's own, told over the stored ones
        have hr2 := h9.kp (H' := H2) (ok' := okA W env (σ ++ att)) (Kp.same s2 fun _ _ x => x) fun o z => s2 _ _ z
        cases e
        unfold dLook at h5
        split at h5
        · obtain ⟨ks, h11, h12⟩ := map_some h5
          rcases hr2 with ⟨kvs, ha, hrr⟩ | ⟨kvs, es, e0, ha, hrr⟩
          · exact (repK_mark hrr).elim
          · injection e0 with _ e0
            subst e0
            have := isT_some h11
            subst this
            obtain ⟨b', rfl, hb'⟩ := key_tup r2 rfl
            rcases repT_val hrr ks with ⟨_, h14⟩ | ⟨w2, r2', h13, h14, h15⟩
            · rw [h14] at h12; cases h12
            · rw [h14] at h12; cases h12
              rcases g with ⟨kvs', kk, z, _⟩ | ⟨kvs', kk, bb, z, eb, hbb, hg⟩
              · rcases z with z | ⟨_, z⟩ <;> (rw [ha] at z; cases z)
              · cases eb
                rw [hb'] at hbb
                have : ks = kk := kVs_inj (by injection hbb with hbb; injection hbb)
                subst this
                rcases z with z | ⟨_, z⟩
                · rw [ha] at z; cases z
                  rw [h13] at hg; cases hg
                  exact h15
                · rw [ha] at z; cases z
        · split at h5
          · rename_i hf'
            obtain ⟨kk, h11, h12⟩ := map_some h5
            rcases hr2 with ⟨kvs, ha, hrr⟩ | ⟨kvs, es, e0, ha, hrr⟩
            · have := isK_some h11
              subst this
              have := key_kv r2
              subst this
              rcases repK_val hrr kk with ⟨_, h14⟩ | ⟨w2, r2', h13, h14, h15⟩
              · rw [h14] at h12; cases h12
              · rw [h14] at h12; cases h12
                rcases g with ⟨kvs', k2, z, ek, hg⟩ | ⟨kvs', k2, bb, z, eb, hbb, hg⟩
                · have := kV_inj ek
                  subst this
                  rcases z with z | ⟨_, z⟩
                  · rw [ha] at z; cases z
                    rw [h13] at hg; cases hg
                    exact h15
                  · rw [ha] at z; cases z
                · rcases z with z | ⟨_, z⟩ <;> (rw [ha] at z; cases z)
            · subst e0; cases hf'
          · cases h5
        · cases h5
    · cases hf
  · cases hf
/-- d[k] = e -/
def fDPut (i : Nat) (fk f : Env → Option D) : Env → Option Out := fun env => (f env).bind fun d => (fk env).bind fun k => (chg i (fun c => dPut c k d) env).map .nx
theorem ds_dput (i : Nat) {x : Str} {k e : Expr} {fk f : Env → Option D} {p1 p2 p3 : Pos} (hu : X.A.units + 65 < cLine) (hk : DE X W .b k fk) (he : DE X W .n e f) (hN : X.N[i]? = some x := by rfl) (hv : Vis X.env.scope x := by first | exact Or.inl rfl | exact Or.inr (Or.inl rfl) | exact Or.inr (Or.inr rfl)) (hd : (x == ("__debug__" : Str)) = false := by decide)
    (hcd : (x == ("__classdict__" : Str)) = false := by decide) (hs : swapsWith e (some (.Subscript (.Name x p1) k p2)) p3.line X.env = pure false := by rfl) : DS X W (.Assign [.Subscript (.Name x p1) k p2] e p3) (fDPut i fk f) := by
  refine (ps_dput (by omega) (pe_var hN hv hd hcd) hk he hs).weakI fun E σ H hlen ⟨env, att, o, c, hf, q⟩ => ?_
  obtain ⟨d, h1, h2⟩ := bind_some hf
  obtain ⟨kd, h3, h4⟩ := bind_some h2
  obtain ⟨env1, h5, h6⟩ := map_some h4
  subst h6
  obtain ⟨p, a, a', hp, ha, ho, hno, hx, fin⟩ := chg_core c h5
  have hi : i < σ.length := by rw [hlen]; exact (List.getElem?_eq_some_iff.mp hN).1
  rw [app_get hi] at hp
  refine ⟨env, att, d, c, h1, fun v H1 s1 r1 => ⟨_, hp, env, att, kd, c.ext s1, h3, fun y H2 s2 r2 => ?_⟩⟩
  have s12 := s1.trans s2
  obtain ⟨ob, g1, g2⟩ := dict_put (ok2 := fun _ => True) (ho.kp (H' := H2) (Kp.same s12 fun _ _ x => x) fun o z => s12 _ _ z) r2 (rep_ext s2 r1) ha rfl hno
  exact ⟨p, _, rfl, g1, q σ att _ rfl (fin s12 ob g2)⟩
/-- {} -/
theorem de_dnewK : DE X W .f (.Dict [] [] pos) (fC (.dict [])) := pe_dnewK.weak fun σ H Q ⟨env, att, r, c, hf, q⟩ => by
  cases hf
  exact fun p hp => q _ _ (same_upd hp) ⟨p, rfl, hp, .inl ⟨[], upd_same, .nil⟩⟩
theorem de_dnewT : DE X W .f (.Dict [] [] pos) (fC (.dict [tMark])) := pe_dnewT.weak fun σ H Q ⟨env, att, r, c, hf, q⟩ => by
  cases hf
  exact fun p hp => q _ _ (same_upd hp) ⟨p, rfl, hp, .inr ⟨[], [], rfl, upd_same, .nil⟩⟩
end
end
end DL
set_option Elab.async false
set_option linter.all false
set_option maxRecDepth 100000
namespace DL
open PySem L2
section
variable {X : Cx} {W : Wd} {m : Md}
/-! ### expressions that change an owned list (xs.pop()) -/
def tEX (K : PySem.W.Frag) (W : Wd) (f : Env → Option (D × Env)) : TE := fun σ H Q => ∃ env att d env', Core K W env (σ ++ att) H ∧ f env = some (d, env') ∧ ∀ v H', Core K W env' (σ ++ att) H' → Rep K H' (okA W env' (σ ++ att)) v d → Q v H'
abbrev DEX (X : Cx) (W : Wd) (e : Expr) (f : Env → Option (D × Env)) : Prop := PE X e (tEX X.K W f)
def tAX (K : PySem.W.Frag) (W : Wd) (f : Env → Option (List D × Env)) : TA := fun σ H Q => ∃ env att ds env', Core K W env (σ ++ att) H ∧ f env = some (ds, env') ∧ ∀ vs H', Core K W env' (σ ++ att) H' → RepL K H' (okA W env' (σ ++ att)) vs ds → Q vs H'
abbrev DAX (X : Cx) (W : Wd) (es : List Expr) (f : Env → Option (List D × Env)) : Prop := PA X es (tAX X.K W f)
def xP (f : Env → Option D) : Env → Option (D × Env) := fun env => (f env).map fun d => (d, env)
theorem dex_pure {e : Expr} {f : Env → Option D} (h : DE X W .n e f) : DEX X W e (xP f) := h.weak fun σ H Q ⟨env, att, d, env', c, hf, q⟩ => by
  obtain ⟨d', h1, h2⟩ := map_some hf
  cases h2
  exact ⟨env, att, d, c, h1, fun v H' s r => q v H' (c.ext s) r⟩
def xPop (i : Nat) : Env → Option (D × Env) := fun env => match env[i]? with
  | some s => (match s.muta with
    | some (.list ds) => (match ds[ds.length - 1]? with | some d => some (d, env.set i (s.with (.list ds.dropLast))) | none => none)
    | _ => none)
  | none => none
theorem RepL.dropLast {K : PySem.W.Frag} {H : Hp} {ok : Addr → Prop} {vs : List V} {ds : List D} (h : RepL K H ok vs ds) : RepL K H ok vs.dropLast ds.dropLast := by
  rw [List.dropLast_eq_take, List.dropLast_eq_take, h.length]
  exact h.take _
theorem dex_pop (i : Nat) {x : Str} {p1 p2 p3 : Pos} (hN : X.N[i]? = some x := by rfl) (hv : Vis X.env.scope x := by first | exact Or.inl rfl | exact Or.inr (Or.inl rfl) | exact Or.inr (Or.inr rfl)) (hd : (x == ("__debug__" : Str)) = false := by decide)
    (hcd : (x == ("__classdict__" : Str)) = false := by decide) (hbase : attributeBase (.Name x p1) "pop" X.env (eval (.Name x p1) X.env) = eval (.Name x p1) X.env := by rfl) (hline : (p2.endLine == p3.line) = true := by rfl) :
    DEX X W (.Call (.Attribute (.Name x p1) "pop" p2) [] [] p3) (xPop i) := by
  refine (pe_bm0 PySem.F.plainAttrs_list PySem.F.slot_list_pop PySem.F.type_list_pop mt_pop (pe_var hN hv hd hcd) hbase hline).weakI fun σ H Q hlen ⟨env, att, d, env', c, hf, q⟩ => ?_
  unfold xPop at hf
  split at hf
  · rename_i s h1
    split at hf
    · rename_i ds h2
      split at hf
      · rename_i dl h3
        cases hf
        have hc : chg i (fun _ => some (.list ds.dropLast)) env = some (env.set i (s.with (.list ds.dropLast))) := by
          unfold chg
          rw [h1]
          simp only [h2, Option.map_some]
        obtain ⟨p, a, a', hp, ha, ho, hno, hx, fin⟩ := chg_core c hc
        cases ha
        have hi : i < σ.length := by rw [hlen]; exact (List.getElem?_eq_some_iff.mp hN).1
        have hp' := hp
        rw [app_get hi] at hp'
        obtain ⟨s', d2, d2', g1, g2, g3, _⟩ := chg_some hc
        rw [h1] at g1; cases g1
        rw [h2] at g2; cases g2
        -- the list that stands there
        obtain ⟨p2, hp2, _, vs, hl1, hl2⟩ := c.own i s (.list ds) h1 (muta_some h2).1
        rw [hp] at hp2
        cases hp2
        obtain ⟨y, hy1, hy2⟩ := hl2.getD h3
        refine ⟨_, hp', .inl ⟨rfl, vs, .of hl1⟩, p, vs, y, rfl, rfl, hl1, by rw [hl2.length]; exact hy1, ?_⟩
        refine q _ _ (fin (Same.refl H) _ ⟨_, upd_same, repL_upd hl1 (fun z => z) hno hl2.dropLast⟩) ?_
        exact (rep_upd hl1 (fun z => z) hno hy2).kp (Kp.same (Same.refl _) fun a _ z => chg_ok hc z)
      · cases hf
    · cases hf
  · cases hf
def xNil : Env → Option (List D × Env) := fun env => some ([], env)
def xCons (f : Env → Option (D × Env)) (g : Env → Option (List D × Env)) : Env → Option (List D × Env) := fun env => (f env).bind fun r => (g r.2).bind fun s => some (r.1 :: s.1, s.2)
theorem dax_nil : DAX X W [] xNil := pa_nil.weak fun σ H Q ⟨env, att, r, env', c, hf, q⟩ => by
  cases hf
  exact q [] H c .nil
theorem dax_cons {e : Expr} {es : List Expr} {f : Env → Option (D × Env)} {g : Env → Option (List D × Env)} (h : ∀ W : Wd, W.n = X.N.length → DEX X W e f) (hs : ∀ W : Wd, W.n = X.N.length → DAX X W es g) (hW : W.n = X.N.length) (hst : starEach (e :: es) X.env = (false, eval e X.env) :: starEach es X.env := by rfl) :
    DAX X W (e :: es) (xCons f g) := by
  refine PA.weak (t := fun σ H Q => tEX X.K W f σ H fun x H1 => ∃ W' : Wd, W'.n = X.N.length ∧ tAX X.K W' g σ H1 fun xs H2 => Q (x :: xs) H2) ?_ fun σ H Q ⟨env, att, r, env', c, hf, q⟩ => ?_
  · have h2 : PA X es (fun σ H Q => ∃ W' : Wd, W'.n = X.N.length ∧ tAX X.K W' g σ H Q) := ⟨fun pos pins s σ H Q I ⟨W', hW', h⟩ => (hs W' hW').run pos pins s σ H Q I h⟩
    exact pa_cons (h W hW) h2 hst
  · obtain ⟨⟨d, e1⟩, h1, h2⟩ := bind_some hf
    obtain ⟨⟨ds, e2⟩, h3, h4⟩ := bind_some h2
    cases h4
    refine ⟨env, att, d, e1, c, h1, fun x H1 c1 r1 => ⟨{ W with P := [(x, d)] ++ W.P }, hW, e1, att, ds, e2, c1.pinned [(x, d)] (fun p hp => by
      have e : p = (x, d) := by simpa using hp
      subst e
      exact r1), h3, fun xs H2 c2 r2 => q _ H2 c2.unpin (.cons (c2.pinsOf (x, d) (by simp)) r2)⟩⟩
def xCall (g : List D → Option D) (fs : Env → Option (List D × Env)) : Env → Option (D × Env) := fun env => (fs env).bind fun r => (g r.1).map fun d => (d, r.2)
theorem dex_call {k : Nat} {ps : List Str} {e : Expr} {es : List Expr} {g : List D → Option D} {fs : Env → Option (List D × Env)} {x : Str} {p pos : Pos} (F : Df X.prog X.w X.K X.mg X.base k x ps g) (hr : Room k X.A) (ha : DAX X W (e :: es) fs) (hg : Gl X x := by rfl) (hdb : (x == ("__debug__" : Str)) = false := by decide)
    (he : starEach (e :: es) X.env = (false, eval e X.env) :: starEach es X.env := by rfl) (hpl : (backTo pos (starEach es X.env)).any (·.1) = false := by rfl) : DEX X W (.Call (.Name x p) (e :: es) [] pos) (xCall g fs) := by
  obtain ⟨f, fd, F, hm, hk, hb⟩ := F.ex
  refine (pe_call F hr hg hm hk hb .nil (pass0) ha hdb he hpl).weak fun σ H Q ⟨env, att, d, env', c, hf, q⟩ => ?_
  obtain ⟨⟨ds, e1⟩, h1, h2⟩ := bind_some hf
  obtain ⟨r, h3, h4⟩ := map_some h2
  cases h4
  refine ⟨env, att, ds, e1, c, h1, fun vs H1 c1 r1 => ?_⟩
  show SL X.K g (vs ++ []) H1 Q
  rw [List.append_nil]
  exact ⟨_, ds, d, r1, h3, fun v H2 s2 r2 => q v H2 (c1.ext s2) (c1.rep_new r2)⟩
/-- d.get(k, x), the key perhaps popped -/
def xGet (fd : Env → Option D) (fk : Env → Option (D × Env)) (fx : Env → Option D) : Env → Option (D × Env) := fun env => (fd env).bind fun d => (fk env).bind fun r => (fx r.2).bind fun x => (dLook d r.1).map fun o => (o.getD x, r.2)
theorem isD_of {K : PySem.W.Frag} {H : Hp} {ok : Addr → Prop} {v : V} {d k : D} {o : Option D} (h : Rep K H ok v d) (e : dLook d k = some o) : ∃ a, v = .ref a ∧ IsD H a := by
  cases h with
  | dK ho ha hr => exact ⟨_, rfl, .inl ⟨_, .inl ha⟩⟩
  | dT ho ha hr => exact ⟨_, rfl, .inr ⟨_, .inl ha⟩⟩
  | scr _ _ _ => cases e
  | _ => cases e
theorem dex_get {o e e2 : Expr} {fd fx : Env → Option D} {fk : Env → Option (D × Env)} {apos cpos : Pos} (hW : W.n = X.N.length) (hu : X.A.units + 65 < cLine) (ho : ∀ W : Wd, W.n = X.N.length → DE X W .n o fd) (hk : ∀ W : Wd, W.n = X.N.length → DEX X W e fk) (hx : ∀ W : Wd, W.n = X.N.length → DE X W .n e2 fx)
    (hM : M2 X o "get" apos e e2 cpos := by exact ⟨rfl, rfl, rfl, rfl⟩) : DEX X W (.Call (.Attribute o "get" apos) [e, e2] [] cpos) (xGet fd fk fx) := by
  have hk' : PE X e (fun σ H Q => ∃ W' : Wd, W'.n = X.N.length ∧ tEX X.K W' fk σ H Q) := ⟨fun pins s σ H Q I ⟨W', hW', h⟩ => (hk W' hW').run pins s σ H Q I h⟩
  have hx' : PE X e2 (fun σ H Q => ∃ W' : Wd, W'.n = X.N.length ∧ tE X.K W' .n fx σ H Q) := ⟨fun pins s σ H Q I ⟨W', hW', h⟩ => (hx W' hW').run pins s σ H Q I h⟩
  refine (pe_dget2 (by omega) (ho W hW) hk' hx' hM).weak fun σ H Q ⟨env, att, r, env', c, hf, q⟩ => ?_
  obtain ⟨d, h1, h2⟩ := bind_some hf
  obtain ⟨⟨k, e1⟩, h3, h4⟩ := bind_some h2
  obtain ⟨x, h5, h6⟩ := bind_some h4
  obtain ⟨oo, h7, h8⟩ := map_some h6
  cases h8
  refine ⟨env, att, d, c, h1, fun v H1 s1 r1 => ?_⟩
  obtain ⟨a, rfl, hD⟩ := isD_of r1 h7
  refine ⟨a, rfl, hD, { W with P := [(.ref a, d)] ++ W.P }, hW, env, att, k, e1, (c.ext s1).pinned [(.ref a, d)] (fun p hp => by
      have e : p = (V.ref a, d) := by simpa using hp
      subst e
      exact r1), h3, fun y H2 c2 r2 => ⟨W, hW, e1, att, x, c2.unpin, h5, fun z H3 s3 r3 => ?_⟩⟩
  have rd := rep_ext s3 (c2.pinsOf (V.ref a, d) (by simp))
  obtain ⟨a', o', ea, g, h⟩ := dict_get rd (rep_ext s3 r2) h7 rfl
  cases ea
  refine ⟨o', g, ?_⟩
  rcases h with ⟨rfl, rfl⟩ | ⟨w, r', rfl, rfl, rw'⟩
  · exact q z H3 (c2.unpin.ext s3) r3
  · exact q w H3 (c2.unpin.ext s3) rw'
/-- statements with such an expression -/
def fSetX (i : Nat) (f : Env → Option (D × Env)) : Env → Option Out := fun env => (f env).bind fun r => (put i (.fz r.1) r.2).map .nx
theorem ds_setX (i : Nat) {x : Str} {e : Expr} {f : Env → Option (D × Env)} {pos' pos : Pos} (hW : W.n = X.N.length) (hN : X.N.Nodup) (he : DEX X W e f) (hi : X.N[i]? = some x := by rfl) (hx : Loc X.env.scope x := by first | exact Or.inl rfl | exact Or.inr rfl) (hs : swapsWith e (some (.Name x pos')) pos.line X.env = pure false := by rfl) (hf : X.fn x = true ∨ X.env.scope.names.lookup x = some .local := by first | exact .inl rfl | exact .inr rfl | assumption) :
    DS X W (.Assign [.Name x pos'] e pos) (fSetX i f) := (ps_set hN hi hx he hs hf).weakI fun E σ H hl ⟨env, att, o, c, hf, q⟩ => by
  obtain ⟨⟨d, e1⟩, h1, h2⟩ := bind_some hf
  obtain ⟨e2, h3, h4⟩ := map_some h2
  subst h4
  obtain ⟨s0, h0, hf0, rfl⟩ := put_some h3
  have hiσ : i < σ.length := by rw [hl]; exact (List.getElem?_eq_some_iff.mp hi).1
  refine ⟨env, att, d, e1, c, h1, fun v H' c1 r => ?_⟩
  refine q _ att H' (by simp) ?_
  rw [← app_set hiσ]
  exact c1.setFz h0 hf0 (by rw [hW, ← hl]; exact hiσ) (.inr ⟨d, v, rfl, rfl, r⟩)
def fDropX (f : Env → Option (D × Env)) : Env → Option Out := fun env => (f env).map fun r => .nx r.2
theorem ds_dropX {e : Expr} {f : Env → Option (D × Env)} {pos : Pos} (he : DEX X W e f) (hs : swapsWith e none pos.line X.env = pure false := by rfl) : DS X W (.Expr e pos) (fDropX f) := (ps_expr he hs).weak fun E σ H ⟨env, att, o, c, hf, q⟩ => by
  obtain ⟨⟨d, e1⟩, h1, h2⟩ := map_some hf
  subst h2
  exact ⟨env, att, d, e1, c, h1, fun v H' c1 r => q σ att H' rfl c1⟩
def fForX (f : Env → Option (D × Env)) (g : D → Env → Option Env) (fb : Env → Option Out) : Env → Option Out := fun env => (f env).bind fun r => (itemsD r.1).bind fun ds => forGo g fb ds r.2
theorem ds_forX {iter tg : Expr} {body : List Stmt} {f : Env → Option (D × Env)} {is : List Nat} {g : D → Env → Option Env} {fb : Env → Option Out} {pos : Pos} (hW : W.n = X.N.length) (hi : DEX X W iter f) (hg : ∀ W : Wd, W.n = X.N.length → DG X W tg is g) (hb : ∀ W : Wd, W.n = X.N.length → DSs X W body fb)
    (hp : PassesOwn (model X.prog X.w) X.A X.env X.xe := by exact PySem.PassesOwn.never) (hc : X.calm = true := by rfl) (hs : ∀ x, foldedSetIterable iter X.env x = pure x := by intro _; rfl) : DS X W (.For tg iter body [] pos) (fForX f g fb) := by
  refine ⟨fun pins s σ H E I ⟨env, att, o, c, hf, q⟩ => ?_⟩
  obtain ⟨⟨d, e0⟩, h1, h2⟩ := bind_some hf
  obtain ⟨ds, h3, h4⟩ := bind_some h2
  refine (ps_for (g := fun v σ H Q => ∃ W' : Wd, W'.n = X.N.length ∧ tG X.K W' is g v σ H Q) (tb := fun E σ H => ∃ W' : Wd, W'.n = X.N.length ∧ tS X.K W' fb E σ H) hp hc (pi_seq hi) ⟨fun pins s σ H v u Q I r ⟨W', hW', h⟩ => (hg W' hW').pg.run pins s σ H v u Q I r h⟩ ⟨fun pins s σ H E I ⟨W', hW', h⟩ => (hb W' hW').run pins s σ H E I h⟩ hs).run pins s σ H E I ?_
  refine ⟨env, att, d, e0, c, h1, fun v H1 c1 r1 => ?_⟩
  obtain ⟨a, rfl⟩ := ref_of_items h3 r1
  refine ⟨a, rfl, ?_⟩
  have main : ∀ (J : It) (P : List (V × D)), (∀ p ∈ P, Rep X.K H1 (okA W e0 (σ ++ att)) p.1 p.2) → Wk X.K J ds P → ∃ W0 : Nat → Nat → L2.St → Hp → Prop, (∃ m, W0 0 m σ H1) ∧ ∀ i m σ H, W0 i m σ H →
      (J.stop i H ∧ E.nx σ H) ∨ (J.go i H ∧ ∃ N : L2.St → Hp → Prop, (∀ σ' H', N σ' H' → ∃ m', m' < m ∧ W0 (i + 1) m' σ' H') ∧ ∀ x H', J.yld i H x H' → (fun v σ H Q => ∃ W' : Wd, W'.n = X.N.length ∧ tG X.K W' is g v σ H Q) x σ H' fun σ2 H2 => (fun E σ H => ∃ W' : Wd, W'.n = X.N.length ∧ tS X.K W' fb E σ H) { E with nx := N, ct := N, bk := E.nx } σ2 H2) := by
    intro J P hP w
    obtain ⟨G, Y, w1, w2, w3⟩ := w
    let W' : Wd := { W with P := P ++ W.P }
    refine for_it (g := fun v σ H Q => ∃ W' : Wd, W'.n = X.N.length ∧ tG X.K W' is g v σ H Q) (tb := fun E σ H => ∃ W' : Wd, W'.n = X.N.length ∧ tS X.K W' fb E σ H) (D := E) w1 (fun i σ' H' => σ'.length = σ.length ∧ ∃ env' att', Core X.K W' env' (σ' ++ att') H' ∧ forGo g fb (ds.drop i) env' = some o) ⟨rfl, e0, att, c1.pinned P hP, h4⟩ (fun i σ' H' _ ⟨_, env', att', c', _⟩ => w2 H' _ c'.pinsOf) ?_ ?_
    · rintro i x σ' H' H2 hi ⟨hl, env', att', c', hr⟩ y
      obtain ⟨s2, d, hd, r⟩ := w3 i H' x H2 _ hi c'.pinsOf y
      rw [drop_cons hd] at hr
      unfold forGo at hr
      obtain ⟨e1, g1, hr⟩ := bind_some hr
      obtain ⟨o1, b1, hr⟩ := bind_some hr
      refine ⟨W', hW, env', att', d, e1, c'.ext s2, Core.rep_new c' r, g1, fun σ2 l2 _ c2 => ⟨W', hW, e1, att', o1, c2, b1, ?_⟩⟩
      have hl2 : σ2.length = σ.length := l2.trans hl
      cases o1 with
      | nx e2 => exact fun σ3 att3 H3 l3 c3 => ⟨l3.trans hl2, e2, att3, c3, hr⟩
      | ct e2 => exact fun σ3 att3 H3 l3 c3 => ⟨l3.trans hl2, e2, att3, c3, hr⟩
      | bk e2 =>
        cases hr
        exact fun σ3 att3 H3 l3 c3 => q σ3 att3 H3 (l3.trans hl2) c3.unpin
      | rt d e2 =>
        cases hr
        exact fun v σ3 att3 H3 l3 c3 => q v σ3 att3 H3 (l3.trans hl2) c3.unpin
    · rintro σ' H' ⟨hl, env', att', c', hr⟩
      rw [List.drop_length] at hr
      cases hr
      exact q σ' att' H' hl c'.unpin
  rcases wk_seq (xs := []) h3 r1 with ⟨xs, hq, w, _⟩ | ⟨xs, hq, w⟩
  · exact .inl ⟨xs, .of hq, main _ _ (fun p hp => by cases hp with | head => exact r1 | tail _ h => cases h) w⟩
  · exact .inr ⟨xs, hq, main _ _ (fun p hp => by cases hp with | head => exact r1 | tail _ h => cases h) w⟩
/-! ### truth of a value -/
def truD' : D → Option Bool
  | .none => some false
  | .bool b => some b
  | .int i => some (i != 0)
  | .list ds => some (!ds.isEmpty)
  | .tuple ds => some (!ds.isEmpty)
  | .str x => if x.length ≤ sizeLine then some ((x.length : Int) != 0) else none
  | .dict _ => none
def fTru (f : Env → Option D) : Env → Option Bool := fun env => (f env).bind truD'
theorem tru_of {K : PySem.W.Frag} {H : Hp} {ok : Addr → Prop} {v : V} {d : D} {b : Bool} (h : Rep K H ok v d) (e : truD' d = some b) : TruV K v H b := by
  cases h with
  | non => cases e; rfl
  | bl x => cases e; rfl
  | int x => cases e; rfl
  | str x =>
    have e : (if x.length ≤ sizeLine then some ((x.length : Int) != 0) else none) = some b := e
    split at e
    · cases e; exact ⟨‹_›, rfl⟩
    · cases e
  | @lst a xs ds o h1 h2 =>
    cases e
    refine .inl ⟨xs, .of h1, ?_⟩
    cases h2 <;> rfl
  | @tup a xs ds h1 h2 =>
    cases e
    refine .inr (.inl ⟨xs, h1.sq, ?_⟩)
    cases h2 <;> rfl
  | _ => cases e
theorem dt_tru {e : Expr} {f : Env → Option D} (h : DE X W .b e f) (he : ∀ whole, isTrue e X.env whole = (do let v ← whole; standAt e.pos; holding [v] (truthy v)) := by intro _; rfl) : DT X W e (fTru f) := (pt_truth h he).weak fun σ H Q ⟨env, att, r, c, hf, q⟩ => by
  obtain ⟨d, h1, h2⟩ := bind_some hf
  exact ⟨env, att, d, c, h1, fun v H1 s1 r1 => ⟨r, tru_of r1 h2, q H1 s1⟩⟩
/-! ### chains of comparisons -/
section
variable {a b c : Expr} {fa fb fc : Env → Option D} {op op' : CmpOp} {g g' : D → D → Option Bool} {pos : Pos}
def fChain (g g' : D → D → Option Bool) (fa fb fc : Env → Option D) : Env → Option Bool := fun env => (fa env).bind fun x => (fb env).bind fun y => (g x y).bind fun k => if k = true then (fc env).bind fun z => g' y z else some false
theorem chain_read {σ : L2.St} {H : Hp} {Q : VK} {env : Env} {att : L2.St} {r : Bool} (cc : Core X.K W env (σ ++ att) H) (hf : fChain g g' fa fb fc env = some r) (q : ∀ H', Same H H' → Q (.bl r) H') :
    tChain (SC g X.K) (SC g' X.K) (tE X.K W .b fa) (tE X.K W .b fb) (tE X.K W .b fc) σ H Q := by
  obtain ⟨x, h1, h2⟩ := bind_some hf
  obtain ⟨y, h3, h4⟩ := bind_some h2
  obtain ⟨k, h5, h6⟩ := bind_some h4
  refine ⟨env, att, x, cc, h1, fun v H1 s1 r1 => ⟨env, att, y, cc.ext s1, h3, fun u H2 s2 r2 => ⟨_, x, y, k, rep_ext s2 r1, r2, h5, k, rfl, ?_⟩⟩⟩
  cases k with
  | false => cases h6; exact q H2 (s1.trans s2)
  | true =>
    obtain ⟨z, h7, h8⟩ := bind_some h6
    exact ⟨env, att, z, (cc.ext s1).ext s2, h7, fun w H3 s3 r3 => ⟨_, y, z, r, rep_ext s3 r2, r3, h8, q H3 ((s1.trans s2).trans s3)⟩⟩
theorem dt_chain (ho : OpR X (compareOp op) (SC g X.K)) (ho' : OpR X (compareOp op') (SC g' X.K)) (ha : DE X W .b a fa) (hb : DE X W .b b fb) (hc : DE X W .b c fc) (hm : lastMarks [op, op'] [b, c] = false := by with_unfolding_all rfl) : DT X W (.Compare a [op, op'] [b, c] pos) (fChain g g' fa fb fc) :=
  (pt_chain ho ho' ha hb hc hm).weak fun σ H Q ⟨env, att, r, cc, hf, q⟩ => chain_read cc hf fun H' s => ⟨r, rfl, q H' s⟩
theorem de_chain (ho : OpR X (compareOp op) (SC g X.K)) (ho' : OpR X (compareOp op') (SC g' X.K)) (ha : DE X W .b a fa) (hb : DE X W .b b fb) (hc : DE X W .b c fc) (hmm : m ≠ .f := by decide) (hm : lastMarks [op, op'] [b, c] = false := by with_unfolding_all rfl) : DE X W m (.Compare a [op, op'] [b, c] pos) (fB (fChain g g' fa fb fc)) :=
  (pe_chain ho ho' ha hb hc hm).weak fun σ H Q ⟨env, att, r, cc, hf, q⟩ => by
    obtain ⟨k, h1, h2⟩ := map_some hf
    subst h2
    exact chain_read cc h1 fun H' s => q _ H' s (post_of hmm (.bl k))
end
/-! ### len of a dict, displays of dicts -/
def fDLen (f : Env → Option D) : Env → Option D := fun env => (f env).bind fun d => match d with
  | .dict ((.bool true, .none) :: _) => none
  | .dict kvs => if fstK kvs = true then some (.int kvs.length) else none
  | _ => none
theorem de_dlen {e : Expr} {f : Env → Option D} {p pos : Pos} (h : DE X W .b e f) (hm : X.mg "len" = none := by assumption) (hg : Gl X "len" := by rfl) (hmm : m ≠ .f := by decide)
    (he : starEach [e] X.env = (false, eval e X.env) :: starEach [] X.env := by rfl) (hpl : (backTo pos (starEach [] X.env)).any (·.1) = false := by rfl) : DE X W m (.Call (.Name "len" p) [e] [] pos) (fDLen f) :=
  (pe_callB call_lenD hg hm PySem.boot_len (pa_cons h pa_nil he) (by decide) (by decide) he hpl).weak fun σ H Q ⟨env, att, r, c, hf, q⟩ => by
    obtain ⟨d, h1, h2⟩ := bind_some hf
    refine ⟨env, att, d, c, h1, fun v H1 s1 r1 => ?_⟩
    cases r1 with
    | dT ho ha hr => cases h2
    | dK ho ha hr =>
      split at h2
      · cases h2
      · rename_i heq
        cases heq
        split at h2
        · cases h2
          refine ⟨_, _, rfl, ha, ?_⟩
          rw [repK_length hr]
          exact q _ H1 s1 (post_of hmm (.int _))
        · cases h2
      · cases h2
    | scr _ _ _ => cases h2
    | _ => cases h2
end
end DL
set_option Elab.async false
set_option linter.all false
set_option maxRecDepth 100000
namespace DL
open PySem L2
section
variable {X : Cx} {W : Wd} {m : Md}
/-! ### {k: v, ..} -/
def dispD : List ((Env → Option D) × (Env → Option D)) → Env → Option (List (D × D))
  | [], _ => some []
  | p :: r, env => (p.1 env).bind fun k => (isK k).bind fun _ => (p.2 env).bind fun v => (dispD r env).map ((k, v) :: ·)
def fDisp (fs : List ((Env → Option D) × (Env → Option D))) : Env → Option D := fun env => (dispD fs env).bind fun kds => if kds.length ≤ 15 then some (.dict (kds.foldl (fun acc p => putDs acc p.1 p.2) [])) else none
def trsW (K : PySem.W.Frag) (n : Nat) (fs : List ((Env → Option D) × (Env → Option D))) : List (TE × TE) := fs.map fun p => (fun σ H Q => ∃ W' : Wd, W'.n = n ∧ tE K W' .b p.1 σ H Q, fun σ H Q => ∃ W' : Wd, W'.n = n ∧ tE K W' .n p.2 σ H Q)
theorem repK_merge {K : PySem.W.Frag} {H : Hp} {ok : Addr → Prop} : ∀ {ms : List (Key × V)} {mds : List (D × D)}, RepK K H ok ms mds → ∀ {vs : List (Key × V)} {ds : List (D × D)}, RepK K H ok vs ds → RepK K H ok (mergeK vs ms) (mds.foldl (fun acc p => putDs acc p.1 p.2) ds)
  | _, _, .nil, _, _, h => h
  | _, _, @RepK.cons _ _ _ k v ms d mds r t, vs, ds, h => by
    show RepK K H ok (mergeK (putK vs k v) ms) (mds.foldl (fun acc p => putDs acc p.1 p.2) (putDs ds (keyD k) d))
    exact repK_merge t (repK_put r k h)
theorem pairs_read {K : PySem.W.Frag} {n : Nat} {σ : L2.St} {att : L2.St} {env : Env} (hW : W.n = n) : ∀ {fs : List ((Env → Option D) × (Env → Option D))} {kds : List (D × D)} {H : Hp} {R : List (V × V) → Hp → Prop}, Core K W env (σ ++ att) H → dispD fs env = some kds →
    (∀ ps H2, Same H H2 → (∃ kvs : List (Key × V), ps = kvs.map (fun kv => (kV kv.1, kv.2)) ∧ RepK K H2 (okA W env (σ ++ att)) kvs kds) → R ps H2) → L2.tPairs (trsW K n fs) σ H R
  | [], kds, H, R, c, h, q => by
    cases h
    exact q [] H (Same.refl H) ⟨[], rfl, .nil⟩
  | p :: r, kds, H, R, c, h, q => by
    unfold dispD at h
    obtain ⟨k, h1, h2⟩ := bind_some h
    obtain ⟨kk, h3, h4⟩ := bind_some h2
    obtain ⟨d, h5, h6⟩ := bind_some h4
    obtain ⟨kds', h7, h8⟩ := map_some h6
    subst h8
    have hk := isK_some h3
    subst hk
    refine ⟨W, hW, env, att, keyD kk, c, h1, fun y H1 s1 r1 => ⟨W, hW, env, att, d, c.ext s1, h5, fun v H2 s2 r2 => ?_⟩⟩
    refine pairs_read hW ((c.ext s1).ext s2) h7 fun ps H3 s3 ⟨kvs, e, rr⟩ => ?_
    refine q _ H3 ((s1.trans s2).trans s3) ⟨(kk, v) :: kvs, ?_, .cons (rep_ext s3 r2) rr⟩
    have := key_kv r1
    subst this
    rw [e]
    rfl
structure DPs (X : Cx) (pos : Pos) (keys : List (Option Expr)) (values : List Expr) (fs : List ((Env → Option D) × (Env → Option D))) : Prop where
  pps : PPs X pos keys values (trsW X.K X.N.length fs)
theorem dps_nil {pos : Pos} : DPs X pos [] [] [] := ⟨pps_nil⟩
theorem dps_cons {pos : Pos} {k v : Expr} {ks : List (Option Expr)} {vs : List Expr} {fk fv : Env → Option D} {fs : List ((Env → Option D) × (Env → Option D))} (hk : ∀ W : Wd, W.n = X.N.length → DE X W .b k fk) (hv : ∀ W : Wd, W.n = X.N.length → DE X W .n v fv) (h : DPs X pos ks vs fs) : DPs X pos (some k :: ks) (v :: vs) ((fk, fv) :: fs) :=
  ⟨pps_cons ⟨fun pins s σ H Q I ⟨W', hW', h⟩ => (hk W' hW').run pins s σ H Q I h⟩ ⟨fun pins s σ H Q I ⟨W', hW', h⟩ => (hv W' hW').run pins s σ H Q I h⟩ h.pps⟩
theorem de_disp {pos : Pos} {keys : List (Option Expr)} {values : List Expr} {fs : List ((Env → Option D) × (Env → Option D))} (hW : W.n = X.N.length) (h : DPs X pos keys values fs) (hall : keys.all (·.isSome) = true := by rfl) (hl : keys.length = values.length := by rfl) (h0 : keys ≠ [] := by (intro z; cases z)) (h15 : keys.length ≤ 15 := by decide) :
    DE X W .f (.Dict keys values pos) (fDisp fs) := (pe_disp h.pps hall hl h0 h15).weak fun σ H Q ⟨env, att, r, c, hf, q⟩ => by
  obtain ⟨kds, h1, h2⟩ := bind_some hf
  split at h2
  · cases h2
    intro p hp
    have s0 : Same H (upd H p (.dK [])) := same_upd hp
    have c' : Core X.K { W with Ex := fun a => W.Ex a ∨ a = p } env (σ ++ att) (upd H p (.dK [])) := c.hide s0 hp (by rw [upd_same]; intro z; cases z)
    refine pairs_read (W := { W with Ex := fun a => W.Ex a ∨ a = p }) hW c' h1 fun ps H2 s2 ⟨kvs, e, rr⟩ => ?_
    have hp2 : H2 p = some (.dK []) := s2 _ _ upd_same
    refine ⟨hp2, kvs, e, by rw [repK_length rr]; assumption, q _ _ ?_ ⟨p, rfl, hp, .inl ⟨_, upd_same, ?_⟩⟩⟩
    · intro a o e
      rw [upd_ne (fun z => by rw [z, hp] at e; cases e)]
      exact s2 _ _ (s0 _ _ e)
    · refine repK_merge (RepK.kp (ok' := fun a => okA W env (σ ++ att) a ∧ a ≠ p) ?_ rr) .nil
      intro a o e
      refine ⟨fun z => ?_, fun t => ?_⟩
      · have hne : a ≠ p := fun x => z.1 (.inr x)
        exact ⟨by rw [upd_ne hne]; exact e, ⟨fun x => z.1 (.inl x), z.2⟩, hne⟩
      · rw [upd_ne (fun x => by rw [x, hp2] at e; cases e; exact t)]
        exact e
  · cases h2
/-! ### sorted -/
def sortOk (ds : List D) : Bool := noDictL ds && ds.all (fun d => decide (d.depth ≤ 64)) && ds.all (fun d => ds.all fun e => PySem.W.alike d e) && (ds.all (fun d => match d with | .tuple (_ :: _) => true | _ => false) || ds.all (fun d => match d with | .none => false | .tuple _ => false | _ => true)) && decide (ds.length ≤ sizeLine)
def sortD : List D → Option D
  | [.list ds] => if sortOk ds = true then some (.list (ds.mergeSort (PySem.W.dataLe false id))) else none
  | _ => none
theorem each_of {K : PySem.W.Frag} {H : Hp} {ok : Addr → Prop} : ∀ {vs : List V} {us : List Value} {ds : List D}, Vals vs us → RepL K H ok vs ds → PySem.W.EachIs (fun u d => ∃ v, RelV v u ∧ Rep K H ok v d) us ds
  | _, _, _, .nil, .nil => .nil
  | _, _, _, .cons r t, .cons r' t' => .cons ⟨_, r, r'⟩ (each_of t t')
theorem of_each {K : PySem.W.Frag} {H : Hp} {ok : Addr → Prop} : ∀ {us : List Value} {ds : List D}, PySem.W.EachIs (fun u d => ∃ v, RelV v u ∧ Rep K H ok v d) us ds → ∃ vs, Vals vs us ∧ RepL K H ok vs ds
  | _, _, .nil => ⟨[], .nil, .nil⟩
  | _, _, .cons ⟨v, r, h⟩ t => let ⟨vs, h1, h2⟩ := of_each t; ⟨v :: vs, .cons r h1, .cons h h2⟩
theorem noDictL_mem : ∀ {ds : List D} {d : D}, noDictL ds = true → d ∈ ds → noDict d = true
  | e :: ds, d, h, hd => by
    have h' := Bool.and_eq_true_iff.mp h
    rcases List.mem_cons.mp hd with rfl | hd
    · exact h'.1
    · exact noDictL_mem h'.2 hd
theorem sort_run {ok : Addr → Prop} {ds : List D} {r : D} {pins : List (Addr × Obj)} {s : Shared} {σ : L2.St} {H : Hp} {xs : List V} {us : List Value} {Q : VK} (hu : X.A.units + 100 < cLine) (I : L2.Inv X pins σ H s) (rx : Vals xs us) (hd : RepL X.K H ok xs ds) (hg : sortD ds = some r) (q : ResF X.K H ok r Q) :
    wpAny (model X.prog X.w) X.A (call (.builtin "sorted") us) (EP X pins σ Q) X.xe s := by
  unfold sortD at hg
  split at hg
  · rename_i ds'
    split at hg
    · rename_i hok
      cases hg
      unfold sortOk at hok
      simp only [Bool.and_eq_true, Bool.or_eq_true, List.all_eq_true, decide_eq_true_eq] at hok
      obtain ⟨⟨⟨⟨h1, h2⟩, h3⟩, h4⟩, h5⟩ := hok
      obtain ⟨v, rfl, hv⟩ := repL1 hd
      obtain ⟨a, ys, rfl, ha, _, hys⟩ := Rep.lst_inv hv
      obtain ⟨its, rv, hl, hz⟩ := I.list (SqL.of ha)
      rw [Vals.ref1 rx]
      have e0 := each_of rv hys
      refine PySem.W.sorted_data (enc := id) (bs := ds') (R := fun u d => ∃ v, RelV v u ∧ Rep X.K H ok v d) hl.isList e0 ?_ ?_ ?_ h5 (fun b hb => ?_) fun out hol eo => ?_
      · refine PySem.W.EachIs.of_zip e0.length fun p hp => ?_
        obtain ⟨v, r1, r2⟩ := e0.zip p hp
        exact Dp.reads I p.2 v p.1 (r2.dp (noDictL_mem h1 (List.of_mem_zip hp).2)) r1
      · rw [List.map_id]
        exact fun d hd d' hd' => h3 d hd d' hd'
      · rw [List.map_id]
        rcases h4 with h4 | h4
        · refine .inl fun d hd => ?_
          have := h4 d hd
          split at this
          · exact ⟨_, _, rfl⟩
          · cases this
        · refine .inr fun d hd => ?_
          have := h4 d hd
          split at this
          · cases this
          · cases this
          · rename_i n1 n2
            exact ⟨n1, n2⟩
      · have := h2 b hb
        show X.A.units + 2 + b.depth < cLine
        omega
      · obtain ⟨zs, hz1, hz2⟩ := of_each eo
        obtain ⟨ep, he'⟩ := PyProof.Rows.sortedAll_at s.heap its out.toArray
        have hlen : zs.length ≤ sizeLine := by rw [hz1.length, hol]; exact h5
        exact ⟨.ref _, upd H (s.heap.objs.size + 1) (.lst zs), I.laid (t' := s.toks) (fun _ _ => PyProof.Rows.sortedAll_old) (Nat.le_succ _) ⟨hlen, out, ep, hz1, he'⟩, rfl, res_lst q hz2 (I.hok.fresh (Nat.le_succ _))⟩
    · cases hg
  · cases hg
theorem c_sorted (hu : X.A.units + 100 < cLine) : CallR X (.builtin "sorted") (SL X.K sortD) := fun _ _ _ _ _ _ _ I rx ⟨_, _, _, hd, hg, q⟩ => sort_run hu I rx hd hg q.f
theorem c_sortedF (hu : X.A.units + 100 < cLine) : CallR X (.builtin "sorted") (SLF X.K sortD) := fun _ _ _ _ _ _ _ I rx ⟨_, _, _, hd, hg, q⟩ => sort_run hu I rx hd hg q
theorem hu100 {k : Nat} {A : Around} (hr : Room k A) : A.units + 100 < cLine := by have := hr.un; omega
end
end DL
set_option Elab.async false
set_option linter.all false
set_option maxRecDepth 100000
namespace DL
open PySem L2
/-! D13: a part of the heap that a def holds as a whole (a resource), told by data of its own: nested lists, instances. -/
abbrev Rsc := Addr → Option HO
def Wd.rs (W : Wd) (i : Nat) (p : Addr) (R : Rsc) : Wd := { W with Ex := fun a => W.Ex a ∨ R a ≠ none, L := (i, p, none) :: W.L, R := fun a => (R a).or (W.R a) }
section
variable {ρ : Type}
/-- how data stand in a resource at an address -/
abbrev Rd (ρ : Type) := PySem.W.Frag → ρ → Addr → Rsc → Prop
/-- the world lets the resource be changed -/
structure Adm (W0 : Wd) (R : Rsc) : Prop where
  mu : ∀ a, R a ≠ none → W0.H0 a = none ∨ W0.Mu a
  ex : ∀ a, R a ≠ none → ¬ W0.Ex a
  tup : ∀ a o, R a = some o → ¬ TupO o
def ZA (Z : Rd ρ) (K : PySem.W.Frag) (W0 : Wd) (r : ρ) (p : Addr) (R : Rsc) : Prop := Z K r p R ∧ Adm W0 R
def tR (K : PySem.W.Frag) (W0 : Wd) (i : Nat) (Z : Rd ρ) (f : ρ → Env → Option (Out × ρ)) : TS := fun E σ H => ∃ p R env att r o r', ZA Z K W0 r p R ∧ Core K (W0.rs i p R) env (σ ++ att) H ∧ f r env = some (o, r') ∧
  match o with
  | .nx env' => ∀ R' σ' att' H', σ'.length = σ.length → ZA Z K W0 r' p R' → Core K (W0.rs i p R') env' (σ' ++ att') H' → E.nx σ' H'
  | .bk env' => ∀ R' σ' att' H', σ'.length = σ.length → ZA Z K W0 r' p R' → Core K (W0.rs i p R') env' (σ' ++ att') H' → E.bk σ' H'
  | .ct env' => ∀ R' σ' att' H', σ'.length = σ.length → ZA Z K W0 r' p R' → Core K (W0.rs i p R') env' (σ' ++ att') H' → E.ct σ' H'
  | .rt d env' => ∀ v R' σ' att' H', σ'.length = σ.length → ZA Z K W0 r' p R' → Core K (W0.rs i p R') env' (σ' ++ att') H' → Rep K H' (okA (W0.rs i p R') env' (σ' ++ att')) v d → E.rt v H'
abbrev RS (X : Cx) (W0 : Wd) (i : Nat) (Z : Rd ρ) (st : Stmt) (f : ρ → Env → Option (Out × ρ)) : Prop := PS X st (tR X.K W0 i Z f)
abbrev RSs (X : Cx) (W0 : Wd) (i : Nat) (Z : Rd ρ) (st : List Stmt) (f : ρ → Env → Option (Out × ρ)) : Prop := PSs X st (tR X.K W0 i Z f)
/-- tests that may change the resource -/
def tRT (K : PySem.W.Frag) (W0 : Wd) (i : Nat) (Z : Rd ρ) (f : ρ → Env → Option (Bool × ρ)) : TT := fun σ H Q => ∃ p R env att r b r', ZA Z K W0 r p R ∧ Core K (W0.rs i p R) env (σ ++ att) H ∧ f r env = some (b, r') ∧
  ∀ R' H', ZA Z K W0 r' p R' → Core K (W0.rs i p R') env (σ ++ att) H' → Q b H'
abbrev RT (X : Cx) (W0 : Wd) (i : Nat) (Z : Rd ρ) (e : Expr) (f : ρ → Env → Option (Bool × ρ)) : Prop := PT X e (tRT X.K W0 i Z f)
abbrev RW (X : Cx) (W0 : Wd) (i : Nat) (Z : Rd ρ) (e : Expr) (f : ρ → Env → Option (Bool × ρ)) : Prop := PW X e (tRT X.K W0 i Z f)
end
section
variable {ρ : Type} {X : Cx} {W0 : Wd} {i : Nat} {Z : Rd ρ} {st : Stmt} {rest : List Stmt} {pos : Pos} {f g : ρ → Env → Option (Out × ρ)}
def rLift (f : ρ → Env → Option Out) : ρ → Env → Option (Out × ρ) := fun r env => (f r env).map fun o => (o, r)
theorem rs_lift {f : ρ → Env → Option Out} (h : ∀ r p R, ZA Z X.K W0 r p R → DS X (W0.rs i p R) st (f r)) : RS X W0 i Z st (rLift f) := by
  refine ⟨fun pins s σ H E I ⟨p, R, env, att, r, o, r', hD, c, hf, q⟩ => ?_⟩
  obtain ⟨o', h1, h2⟩ := map_some hf
  cases h2
  refine (h r p R hD).run pins s σ H E I ⟨env, att, o, c, h1, ?_⟩
  cases o with
  | nx e => exact fun σ' att' H' l c' => q R σ' att' H' l hD c'
  | bk e => exact fun σ' att' H' l c' => q R σ' att' H' l hD c'
  | ct e => exact fun σ' att' H' l c' => q R σ' att' H' l hD c'
  | rt d e => exact fun v σ' att' H' l c' => q v R σ' att' H' l hD c'
theorem rs_liftS {f : ρ → Env → Option Out} (h : ∀ r p R, ZA Z X.K W0 r p R → DSs X (W0.rs i p R) rest (f r)) : RSs X W0 i Z rest (rLift f) := by
  refine ⟨fun pins s σ H E I ⟨p, R, env, att, r, o, r', hD, c, hf, q⟩ => ?_⟩
  obtain ⟨o', h1, h2⟩ := map_some hf
  cases h2
  refine (h r p R hD).run pins s σ H E I ⟨env, att, o, c, h1, ?_⟩
  cases o with
  | nx e => exact fun σ' att' H' l c' => q R σ' att' H' l hD c'
  | bk e => exact fun σ' att' H' l c' => q R σ' att' H' l hD c'
  | ct e => exact fun σ' att' H' l c' => q R σ' att' H' l hD c'
  | rt d e => exact fun v σ' att' H' l c' => q v R σ' att' H' l hD c'
def rNop : ρ → Env → Option (Out × ρ) := fun r env => some (.nx env, r)
theorem rs_nil : RSs X W0 i Z [] rNop := pss_nil.weak fun E σ H ⟨p, R, env, att, r, o, r', hD, c, hf, q⟩ => by
  cases hf
  exact q R σ att H rfl hD c
def rSeq (f g : ρ → Env → Option (Out × ρ)) : ρ → Env → Option (Out × ρ) := fun r env => (f r env).bind fun x => match x.1 with | .nx e => g x.2 e | o => some (o, x.2)
theorem rs_cons (h1 : RS X W0 i Z st f) (h2 : RSs X W0 i Z rest g) : RSs X W0 i Z (st :: rest) (rSeq f g) := (pss_cons h1 h2).weak fun E σ H ⟨p, R, env, att, r, o, r', hD, c, hf, q⟩ => by
  obtain ⟨⟨o1, r1⟩, h3, h4⟩ := bind_some hf
  refine ⟨p, R, env, att, r, o1, r1, hD, c, h3, ?_⟩
  cases o1 with
  | nx e1 =>
    intro R1 σ1 att1 H1 l1 hD1 c1
    refine ⟨p, R1, e1, att1, r1, o, r', hD1, c1, h4, ?_⟩
    cases o with
    | nx e2 => exact fun R2 σ2 att2 H2 l2 d2 c2 => q R2 σ2 att2 H2 (l2.trans l1) d2 c2
    | bk e2 => exact fun R2 σ2 att2 H2 l2 d2 c2 => q R2 σ2 att2 H2 (l2.trans l1) d2 c2
    | ct e2 => exact fun R2 σ2 att2 H2 l2 d2 c2 => q R2 σ2 att2 H2 (l2.trans l1) d2 c2
    | rt d e2 => exact fun v R2 σ2 att2 H2 l2 d2 c2 => q v R2 σ2 att2 H2 (l2.trans l1) d2 c2
  | bk e1 => cases h4; exact q
  | ct e1 => cases h4; exact q
  | rt d e1 => cases h4; exact q
theorem rs_one (h1 : RS X W0 i Z st f) : RSs X W0 i Z [st] f := pss_one h1
def tLift (t : ρ → Env → Option Bool) : ρ → Env → Option (Bool × ρ) := fun r env => (t r env).map fun b => (b, r)
theorem rt_lift {e : Expr} {t : ρ → Env → Option Bool} (h : ∀ r p R, ZA Z X.K W0 r p R → DT X (W0.rs i p R) e (t r)) : RT X W0 i Z e (tLift t) := by
  refine ⟨fun pins s σ H Q I ⟨p, R, env, att, r, b, r', hD, c, hf, q⟩ => ?_⟩
  obtain ⟨o', h1, h2⟩ := map_some hf
  cases h2
  exact (h r p R hD).run pins s σ H Q I ⟨env, att, b, c, h1, fun H' s' => q R H' hD (c.ext s')⟩
def rIf (t : ρ → Env → Option (Bool × ρ)) (f g : ρ → Env → Option (Out × ρ)) : ρ → Env → Option (Out × ρ) := fun r env => (t r env).bind fun x => if x.1 = true then f x.2 env else g x.2 env
theorem rs_if {c : Expr} {a b : List Stmt} {t : ρ → Env → Option (Bool × ρ)} (hc : RT X W0 i Z c t) (ha : RSs X W0 i Z a f) (hb : RSs X W0 i Z b g) : RS X W0 i Z (.If c a b pos) (rIf t f g) := (ps_if hc ha hb).weak fun E σ H ⟨p, R, env, att, r, o, r', hD, c, hf, q⟩ => by
  obtain ⟨⟨k, r1⟩, h1, h2⟩ := bind_some hf
  refine ⟨p, R, env, att, r, k, r1, hD, c, h1, fun R1 H1 hD1 c1 => ?_⟩
  cases k with
  | true => exact ⟨p, R1, env, att, r1, o, r', hD1, c1, h2, q⟩
  | false => exact ⟨p, R1, env, att, r1, o, r', hD1, c1, h2, q⟩
def rForGo (g : D → Env → Option Env) (fb : ρ → Env → Option (Out × ρ)) : List D → ρ → Env → Option (Out × ρ)
  | [], r, env => some (.nx env, r)
  | d :: ds, r, env => (g d env).bind fun e1 => (fb r e1).bind fun x => match x.1 with
    | .nx e => rForGo g fb ds x.2 e
    | .ct e => rForGo g fb ds x.2 e
    | .bk e => some (.nx e, x.2)
    | .rt d e => some (.rt d e, x.2)
def rFor (fi : ρ → Env → Option (List D)) (g : D → Env → Option Env) (fb : ρ → Env → Option (Out × ρ)) : ρ → Env → Option (Out × ρ) := fun r env => (fi r env).bind fun ds => rForGo g fb ds r env
theorem rs_for {iter tg : Expr} {body : List Stmt} {fi : ρ → Env → Option (List D)} {is : List Nat} {g : D → Env → Option Env} {fb : ρ → Env → Option (Out × ρ)} (hW : W0.n = X.N.length) (hi : ∀ r p R, ZA Z X.K W0 r p R → DI X (W0.rs i p R) tg iter (fi r)) (hg : ∀ W : Wd, W.n = X.N.length → DG X W tg is g) (hb : ∀ W0 : Wd, W0.n = X.N.length → RSs X W0 i Z body fb)
    (hp : PassesOwn (model X.prog X.w) X.A X.env X.xe := by exact PySem.PassesOwn.never) (hc : X.calm = true := by rfl) (hs : ∀ x, foldedSetIterable iter X.env x = pure x := by intro _; rfl) : RS X W0 i Z (.For tg iter body [] pos) (rFor fi g fb) := by
  refine ⟨fun pins s σ H E I ⟨p, R, env, att, r, o, r', hD, c, hf, q⟩ => ?_⟩
  obtain ⟨ds, h1, h2⟩ := bind_some hf
  refine (ps_for (g := fun v σ H Q => ∃ W' : Wd, W'.n = X.N.length ∧ tG X.K W' is g v σ H Q) (tb := fun E σ H => ∃ W' : Wd, W'.n = X.N.length ∧ tR X.K W' i Z fb E σ H) hp hc (hi r p R hD) ⟨fun pins s σ H v u Q I r ⟨W', hW', h⟩ => (hg W' hW').pg.run pins s σ H v u Q I r h⟩ ⟨fun pins s σ H E I ⟨W', hW', h⟩ => (hb W' hW').run pins s σ H E I h⟩ hs).run pins s σ H E I ?_
  refine ⟨env, att, ds, c, h1, fun J H1 P s1 hP w => ?_⟩
  obtain ⟨G, Y, w1, w2, w3⟩ := w
  let W1 : Wd := { W0 with P := P ++ W0.P }
  have up : ∀ {r R}, ZA Z X.K W0 r p R → ZA Z X.K W1 r p R := fun h => ⟨h.1, ⟨h.2.mu, h.2.ex, h.2.tup⟩⟩
  have dn : ∀ {r R}, ZA Z X.K W1 r p R → ZA Z X.K W0 r p R := fun h => ⟨h.1, ⟨h.2.mu, h.2.ex, h.2.tup⟩⟩
  have e1 : ∀ R, W1.rs i p R = { W0.rs i p R with P := P ++ (W0.rs i p R).P } := fun R => rfl
  refine for_it (g := fun v σ H Q => ∃ W' : Wd, W'.n = X.N.length ∧ tG X.K W' is g v σ H Q) (tb := fun E σ H => ∃ W' : Wd, W'.n = X.N.length ∧ tR X.K W' i Z fb E σ H) (D := E) w1 (fun j σ' H' => σ'.length = σ.length ∧ ∃ env' att' r1 R1, ZA Z X.K W0 r1 p R1 ∧ Core X.K (W1.rs i p R1) env' (σ' ++ att') H' ∧ rForGo g fb (ds.drop j) r1 env' = some (o, r')) ⟨rfl, env, att, r, R, hD, (c.ext s1).pinned P hP, h2⟩ (fun j σ' H' _ ⟨_, env', att', r1, R1, _, c', _⟩ => w2 H' _ (Core.pinsOf (W := W0.rs i p R1) (P := P) c')) ?_ ?_
  · rintro j x σ' H' H2 hj ⟨hl, env', att', r1, R1, hD1, c', hr⟩ y
    obtain ⟨s2, d, hd, rx⟩ := w3 j H' x H2 _ hj (Core.pinsOf (W := W0.rs i p R1) (P := P) c') y
    rw [drop_cons hd] at hr
    unfold rForGo at hr
    obtain ⟨e1, g1, hr⟩ := bind_some hr
    obtain ⟨⟨o1, r2⟩, b1, hr⟩ := bind_some hr
    refine ⟨W1.rs i p R1, hW, env', att', d, e1, c'.ext s2, Core.rep_new c' rx, g1, fun σ2 l2 _ c2 => ⟨W1, hW, p, R1, e1, att', r1, o1, r2, up hD1, c2, b1, ?_⟩⟩
    have hl2 : σ2.length = σ.length := l2.trans hl
    cases o1 with
    | nx e2 => exact fun R3 σ3 att3 H3 l3 d3 c3 => ⟨l3.trans hl2, e2, att3, r2, R3, dn d3, c3, hr⟩
    | ct e2 => exact fun R3 σ3 att3 H3 l3 d3 c3 => ⟨l3.trans hl2, e2, att3, r2, R3, dn d3, c3, hr⟩
    | bk e2 =>
      cases hr
      exact fun R3 σ3 att3 H3 l3 d3 c3 => q R3 σ3 att3 H3 (l3.trans hl2) (dn d3) (Core.unpin (W := W0.rs i p R3) (P := P) c3)
    | rt d e2 =>
      cases hr
      exact fun v R3 σ3 att3 H3 l3 d3 c3 => q v R3 σ3 att3 H3 (l3.trans hl2) (dn d3) (Core.unpin (W := W0.rs i p R3) (P := P) c3)
  · rintro σ' H' ⟨hl, env', att', r1, R1, hD1, c', hr⟩
    rw [List.drop_length] at hr
    cases hr
    exact q R1 σ' att' H' hl hD1 (Core.unpin (W := W0.rs i p R1) (P := P) c')
/-! ### while -/
inductive ROut (ρ : Type) where | again (e : Env) (r : ρ) | done (o : Out) (r : ρ)
def rwStep (t : ρ → Env → Option (Bool × ρ)) (fb : ρ → Env → Option (Out × ρ)) (r : ρ) (env : Env) : Option (ROut ρ) := (t r env).bind fun b => if b.1 = true then (fb b.2 env).bind fun x => match x.1 with
    | .nx e => some (.again e x.2)
    | .ct e => some (.again e x.2)
    | .bk e => some (.done (.nx e) x.2)
    | .rt d e => some (.done (.rt d e) x.2)
  else some (.done (.nx env) b.2)
def rwGo (t : ρ → Env → Option (Bool × ρ)) (fb : ρ → Env → Option (Out × ρ)) : Nat → ρ → Env → Option (Out × ρ)
  | 0, _, _ => none
  | n + 1, r, env => (rwStep t fb r env).bind fun o => match o with | .again e r => rwGo t fb n r e | .done o r => some (o, r)
theorem rwGo_mono {t : ρ → Env → Option (Bool × ρ)} {fb : ρ → Env → Option (Out × ρ)} : ∀ {n k : Nat} {r : ρ} {env : Env} {o : Out × ρ}, n ≤ k → rwGo t fb n r env = some o → rwGo t fb k r env = some o
  | 0, _, _, _, _, _, h => by cases h
  | n + 1, 0, _, _, _, hk, _ => by omega
  | n + 1, k + 1, r, env, o, hk, h => by
    unfold rwGo at h ⊢
    obtain ⟨x, h1, h2⟩ := bind_some h
    rw [h1]
    cases x with
    | again e r => exact rwGo_mono (n := n) (k := k) (by omega) h2
    | done o r => exact h2
open Classical in
noncomputable def rWhile (t : ρ → Env → Option (Bool × ρ)) (fb : ρ → Env → Option (Out × ρ)) : ρ → Env → Option (Out × ρ) := fun r env => if h : ∃ n o, rwGo t fb n r env = some o then some h.choose_spec.choose else none
theorem rWhile_of {t : ρ → Env → Option (Bool × ρ)} {fb : ρ → Env → Option (Out × ρ)} {n : Nat} {r : ρ} {env : Env} {o : Out × ρ} (h : rwGo t fb n r env = some o) : rWhile t fb r env = some o := by
  unfold rWhile
  have hh : ∃ n o, rwGo t fb n r env = some o := ⟨n, o, h⟩
  rw [dif_pos hh]
  have h1 := hh.choose_spec.choose_spec
  have h2 := rwGo_mono (Nat.le_max_left n hh.choose) h
  have h3 := rwGo_mono (Nat.le_max_right n hh.choose) h1
  rw [h2] at h3
  exact h3.symm
theorem rWhile_some {t : ρ → Env → Option (Bool × ρ)} {fb : ρ → Env → Option (Out × ρ)} {r : ρ} {env : Env} {o : Out × ρ} (h : rWhile t fb r env = some o) : ∃ n, rwGo t fb n r env = some o := by
  unfold rWhile at h
  split at h
  · rename_i hh
    cases h
    exact ⟨_, hh.choose_spec.choose_spec⟩
  · cases h
theorem rWhile_step {t : ρ → Env → Option (Bool × ρ)} {fb : ρ → Env → Option (Out × ρ)} {r : ρ} {env : Env} {x : ROut ρ} (h : rwStep t fb r env = some x) : (∃ o r', x = .done o r' ∧ rWhile t fb r env = some (o, r')) ∨ ∃ e r', x = .again e r' ∧ ∀ o, rWhile t fb r' e = some o → rWhile t fb r env = some o := by
  cases x with
  | done o r' => exact .inl ⟨o, r', rfl, rWhile_of (n := 1) (by unfold rwGo; rw [h]; rfl)⟩
  | again e r' => exact .inr ⟨e, r', rfl, fun o ho => by
      obtain ⟨n, hn⟩ := rWhile_some ho
      exact rWhile_of (n := n + 1) (by unfold rwGo; rw [h]; exact hn)⟩
theorem rs_while {c : Expr} {body : List Stmt} {t : ρ → Env → Option (Bool × ρ)} {fb : ρ → Env → Option (Out × ρ)} (hc : RT X W0 i Z c t) (hb : RSs X W0 i Z body fb) (hp : PassesOwn (model X.prog X.w) X.A X.env X.xe := by exact PySem.PassesOwn.never) : RS X W0 i Z (.While c body [] pos) (rWhile t fb) :=
  (ps_while hp hc hb).weak fun E σ H ⟨p, R, env, att, r, o, r', hD, c0, hf, q⟩ => by
    obtain ⟨n, hn⟩ := rWhile_some hf
    refine ⟨fun n σ' H' => σ'.length = σ.length ∧ ∃ env' att' r1 R1, ZA Z X.K W0 r1 p R1 ∧ Core X.K (W0.rs i p R1) env' (σ' ++ att') H' ∧ rwGo t fb n r1 env' = some (o, r'), ⟨n, rfl, env, att, r, R, hD, c0, hn⟩, ?_⟩
    rintro m σ1 H1 ⟨hl, env1, att1, r1, R1, hD1, c1, h1⟩
    cases m with
    | zero => cases h1
    | succ m =>
      unfold rwGo at h1
      obtain ⟨x, h2, h3⟩ := bind_some h1
      obtain ⟨⟨b, r2⟩, h4, h5⟩ := bind_some h2
      refine ⟨p, R1, env1, att1, r1, b, r2, hD1, c1, h4, fun R2 H2 d2 c2 => ?_⟩
      cases b with
      | false =>
        cases h5
        cases h3
        exact q R2 σ1 att1 H2 hl d2 c2
      | true =>
        obtain ⟨⟨o1, r3⟩, h6, h7⟩ := bind_some h5
        refine ⟨fun σ' H' => σ'.length = σ.length ∧ ∃ env' att' r1 R1, ZA Z X.K W0 r1 p R1 ∧ Core X.K (W0.rs i p R1) env' (σ' ++ att') H' ∧ rwGo t fb m r1 env' = some (o, r'), fun σ' H' h => ⟨m, Nat.lt_succ_self m, h⟩, p, R2, env1, att1, r2, o1, r3, d2, c2, h6, ?_⟩
        cases o1 with
        | nx e => cases h7; exact fun R3 σ2 att2 H3 l2 d3 c3 => ⟨l2.trans hl, e, att2, r3, R3, d3, c3, h3⟩
        | ct e => cases h7; exact fun R3 σ2 att2 H3 l2 d3 c3 => ⟨l2.trans hl, e, att2, r3, R3, d3, c3, h3⟩
        | bk e => cases h7; cases h3; exact fun R3 σ2 att2 H3 l2 d3 c3 => q R3 σ2 att2 H3 (l2.trans hl) d3 c3
        | rt d e => cases h7; cases h3; exact fun v R3 σ2 att2 H3 l2 d3 c3 => q v R3 σ2 att2 H3 (l2.trans hl) d3 c3
/-! ### and -/
def rAnd (t u : ρ → Env → Option (Bool × ρ)) : ρ → Env → Option (Bool × ρ) := fun r env => (t r env).bind fun x => if x.1 = true then u x.2 env else some (false, x.2)
end
theorem or_l {α : Type} {x y : Option α} {o : α} (h : x = some o) : x.or y = some o := by rw [h]; rfl
theorem or_r {α : Type} {x y : Option α} (h : x = none) : x.or y = y := by rw [h]; rfl
/-- the resource changes, all else stands -/
theorem Core.resStep {K : PySem.W.Frag} {W0 : Wd} {i : Nat} {p : Addr} {R R' : Rsc} {env : Env} {τ : St} {H H' : Hp} (c : Core K (W0.rs i p R) env τ H) (A : Adm W0 R)
    (hs : ∀ a o, R a = none → H a = some o → H' a = some o) (hR : ∀ a o, R' a = some o → H' a = some o) (hn : ∀ a, R a ≠ none → R' a ≠ none) (hf : ∀ a, R' a ≠ none → R a ≠ none ∨ H a = none) : Core K (W0.rs i p R') env τ H' := by
  have ne : ∀ a, H a ≠ none → H' a ≠ none := fun a h => by
    cases e : R a with
    | none =>
      cases e2 : H a with
      | none => exact absurd e2 h
      | some o => rw [hs a o e e2]; intro z; cases z
    | some o =>
      have := hn a (by rw [e]; intro z; cases z)
      cases e2 : R' a with
      | none => exact absurd e2 this
      | some o' => rw [hR a o' e2]; intro z; cases z
  have okup : ∀ a, H a ≠ none → okA (W0.rs i p R) env τ a → okA (W0.rs i p R') env τ a := fun a h z => ⟨fun e => by
    rcases e with e | e
    · exact z.1 (.inl e)
    · rcases hf a e with e | e
      · exact z.1 (.inr e)
      · exact h e, z.2⟩
  have kp : Kp H H' (okA (W0.rs i p R) env τ) (okA (W0.rs i p R') env τ) := fun a o e => ⟨fun z => by
      have hr : R a = none := by
        cases e2 : R a with
        | none => rfl
        | some o => exact absurd (.inr (by rw [e2]; intro z; cases z)) z.1
      exact ⟨hs a o hr e, okup a (by rw [e]; intro z; cases z) z⟩, fun t => by
      have hr : R a = none := by
        cases e2 : R a with
        | none => rfl
        | some o' =>
          have := c.res a o' (or_l e2)
          rw [e] at this
          cases this
          exact absurd t (A.tup a o e2)
      exact hs a o hr e⟩
  have nR : ∀ a, R' a = none → R a = none := fun a h => by
    cases e : R a with
    | none => rfl
    | some o => exact absurd h (hn a (by rw [e]; intro z; cases z))
  refine ⟨c.len, fun a o m e => ?_, fun a o e t => ?_, fun a e => ne a (c.there a e), fun a x => ?_, fun j d e => ?_, fun j s d e hh => ?_, c.inj, fun q hq => (c.pin q hq).kp kp, fun q hq => ?_, fun a o e => ?_, fun a h => ?_⟩
  · have h1 := c.same a o m e
    have hr : R a = none := by
      cases e2 : R a with
      | none => rfl
      | some o' =>
        rcases A.mu a (by rw [e2]; intro z; cases z) with z | z
        · rw [show W0.H0 a = some o from e] at z; cases z
        · exact absurd z m
    exact hs a o hr h1
  · have h1 := c.tups a o e t
    have hr : R a = none := by
      cases e2 : R a with
      | none => rfl
      | some o' =>
        have := c.res a o' (or_l e2)
        rw [h1] at this
        cases this
        exact absurd t (A.tup a o e2)
    exact hs a o hr h1
  · rcases x with x | x
    · exact ne a (c.hid a (.inl x))
    · cases e : R' a with
      | none => exact absurd e x
      | some o => rw [hR a o e]; intro z; cases z
  · obtain ⟨v, h1, h2⟩ := c.fz j d e
    exact ⟨v, h1, h2.kp kp⟩
  · obtain ⟨a, h1, h2, h3⟩ := c.own j s d e hh
    obtain ⟨o, h4, _⟩ := h3.some
    have hx : R a = none := by
      cases e2 : R a with
      | none => rfl
      | some o => exact absurd (.inr (by rw [e2]; intro z; cases z)) h2.2
    exact ⟨a, h1, ⟨h2.1, fun z => by
      rcases z with z | z
      · exact h2.2 (.inl z)
      · rcases hf a z with z | z
        · exact z hx
        · rw [h4] at z; cases z⟩, h3.kp kp fun o e => hs a o hx e⟩
  · obtain ⟨h1, sl, h2, h3, h4⟩ := c.fix q hq
    refine ⟨h1, sl, h2, h3, fun o e => ?_⟩
    obtain ⟨h5, h6⟩ := h4 o e
    refine ⟨h5, hs _ _ ?_ h6⟩
    obtain ⟨d, hd⟩ : ∃ d, sl.held = some d := by
      cases sl <;> first | exact ⟨_, rfl⟩ | cases h5
    obtain ⟨a, e1, e2, e3⟩ := c.own _ _ _ h2 hd
    rw [h1] at e1
    cases e1
    cases e3 : R q.2.1 with
    | none => rfl
    | some o => exact absurd (.inr (by rw [e3]; intro z; cases z)) e2.2
  · cases e2 : R' a with
    | some o' =>
      rw [show (W0.rs i p R').R a = (R' a).or (W0.R a) from rfl, or_l e2] at e
      cases e
      exact hR _ _ e2
    | none =>
      have e3 := nR a e2
      rw [show (W0.rs i p R').R a = (R' a).or (W0.R a) from rfl, or_r e2] at e
      exact hs a o e3 (c.res a o ((or_r e3).trans e))
  · cases e2 : R' a with
    | some o' => exact .inr (by rw [e2]; intro z; cases z)
    | none =>
      have e3 := nR a e2
      rcases c.resX a (by
        show (R a).or (W0.R a) ≠ none
        rw [or_r e3]
        rw [show (W0.rs i p R').R a = (R' a).or (W0.R a) from rfl, or_r e2] at h
        exact h) with z | z
      · exact .inl z
      · exact absurd e3 z
/-- a resource, made since Hb, is laid into a free slot -/
theorem Core.enter {K : PySem.W.Frag} {W : Wd} {i : Nat} {p : Addr} {R : Rsc} {env : Env} {τ : St} {Hb H : Hp} {s0 : Slot} (cb : Core K W env τ Hb) (s : Same Hb H) (h0 : env[i]? = some s0) (hf : s0.free = true) (hn : i < W.n)
    (hfr : ∀ a, R a ≠ none → Hb a = none) (hR : ∀ a o, R a = some o → H a = some o) : Core K (W.rs i p R) (env.set i .res) (τ.set i (some (.ref p))) H := by
  have c := cb.ext s
  have own1 : ∀ a, Own (env.set i .res) (τ.set i (some (.ref p))) a → Own env τ a := fun a o => by
    rcases own_set o with o | ⟨d, e, _⟩
    · exact o
    · cases e
  have up : ∀ a, Hb a ≠ none → okA W env τ a → okA (W.rs i p R) (env.set i .res) (τ.set i (some (.ref p))) a := fun a h z => ⟨fun e => e.elim z.1 fun e => h (hfr a e), fun o => z.2 (own1 a o)⟩
  have kp : Kp Hb H (okA W env τ) (okA (W.rs i p R) (env.set i .res) (τ.set i (some (.ref p)))) := Kp.same s up
  have hi : i < τ.length := by rw [c.len]; exact (List.getElem?_eq_some_iff.mp h0).1
  refine ⟨by simpa using c.len, c.same, c.tups, c.there, fun a x => ?_, fun j d e => ?_, fun j t d e ht => ?_, fun j k a t t' d d' e1 e2 e3 e4 e5 e6 => ?_, fun q hq => (cb.pin q hq).kp kp, fun q hq => ?_, fun a o e => ?_, fun a h => ?_⟩
  · rcases x with x | x
    · exact c.hid a x
    · cases e : R a with
      | none => exact absurd e x
      | some o => rw [hR a o e]; intro z; cases z
  · rcases get_set e with ⟨rfl, z⟩ | ⟨hj, e⟩
    · cases z
    · obtain ⟨v, h1, h2⟩ := cb.fz j d e
      exact ⟨v, set_get h1 hj, h2.kp kp⟩
  · rcases get_set e with ⟨rfl, rfl⟩ | ⟨hj, e⟩
    · cases ht
    · obtain ⟨q, h1, h2, h3⟩ := cb.own j t d e ht
      obtain ⟨o, h4, _⟩ := h3.some
      exact ⟨q, set_get h1 hj, ⟨h2.1, fun z => z.elim h2.2 fun z => by rw [hfr q z] at h4; cases h4⟩, h3.kp kp fun o z => s _ _ z⟩
  · rcases get_set e1 with ⟨rfl, rfl⟩ | ⟨hj, e1⟩
    · cases e2
    rcases get_set e3 with ⟨rfl, rfl⟩ | ⟨hk, e3⟩
    · cases e4
    rcases get_set e5 with ⟨z, _⟩ | ⟨_, e5⟩
    · exact absurd z hj
    rcases get_set e6 with ⟨z, _⟩ | ⟨_, e6⟩
    · exact absurd z hk
    exact c.inj j k a t t' d d' e1 e2 e3 e4 e5 e6
  · rcases List.mem_cons.mp hq with rfl | hq
    · exact ⟨by show (τ.set i (some (.ref p)))[i]? = _; rw [List.getElem?_set_self hi], .res, set_self h0, rfl, fun o e => nomatch e⟩
    obtain ⟨h1, sl, h2, h3, h4⟩ := c.fix q hq
    have hj : q.1 ≠ i := fun z => by
      rw [z, h0] at h2
      cases h2
      rw [hf] at h3; cases h3
    exact ⟨set_get h1 hj, sl, set_get h2 hj, h3, h4⟩
  · cases e2 : R a with
    | some o' =>
      rw [show (W.rs i p R).R a = (R a).or (W.R a) from rfl, or_l e2] at e
      cases e
      exact hR _ _ e2
    | none =>
      rw [show (W.rs i p R).R a = (R a).or (W.R a) from rfl, or_r e2] at e
      exact c.res a o e
  · cases e2 : R a with
    | some o' => exact .inr (by rw [e2]; intro z; cases z)
    | none =>
      rw [show (W.rs i p R).R a = (R a).or (W.R a) from rfl, or_r e2] at h
      exact .inl (c.resX a h)
/-- the resource is let go: its slot knows nothing any more -/
theorem Core.leave {K : PySem.W.Frag} {W : Wd} {i : Nat} {p : Addr} {R : Rsc} {env : Env} {τ : St} {H : Hp} (c : Core K (W.rs i p R) env τ H) (A : Adm W R) (hr : env[i]? = some .res) (hX : ∀ a, W.R a ≠ none → W.Ex a) (hL : ∀ q ∈ W.L, q.1 ≠ i) : Core K W (env.set i .emp) τ H := by
  have own1 : ∀ a, Own (env.set i .emp) τ a → Own env τ a := fun a ⟨j, s, d, e, hh, ht⟩ => by
    rcases get_set e with ⟨rfl, rfl⟩ | ⟨hj, e⟩
    · cases hh
    · exact ⟨j, s, d, e, hh, ht⟩
  have kp : Kp H H (okA (W.rs i p R) env τ) (okA W (env.set i .emp) τ) := Kp.same (Same.refl H) fun a _ z => ⟨fun e => z.1 (.inl e), fun o => z.2 (own1 a o)⟩
  refine ⟨by simpa using c.len, c.same, c.tups, c.there, fun a x => c.hid a (.inl x), fun j d e => ?_, fun j t d e ht => ?_, fun j k a t t' d d' e1 e2 e3 e4 e5 e6 => ?_, fun q hq => (c.pin q hq).kp kp, fun q hq => ?_, fun a o e => ?_, hX⟩
  · rcases get_set e with ⟨rfl, z⟩ | ⟨hj, e⟩
    · cases z
    · obtain ⟨v, h1, h2⟩ := c.fz j d e
      exact ⟨v, h1, h2.kp kp⟩
  · rcases get_set e with ⟨rfl, rfl⟩ | ⟨hj, e⟩
    · cases ht
    · obtain ⟨q, h1, h2, h3⟩ := c.own j t d e ht
      exact ⟨q, h1, ⟨h2.1, fun z => h2.2 (.inl z)⟩, h3.kp kp fun o z => z⟩
  · rcases get_set e1 with ⟨rfl, rfl⟩ | ⟨hj, e1⟩
    · cases e2
    rcases get_set e3 with ⟨rfl, rfl⟩ | ⟨hk, e3⟩
    · cases e4
    exact c.inj j k a t t' d d' e1 e2 e3 e4 e5 e6
  · obtain ⟨h1, sl, h2, h3, h4⟩ := c.fix q (List.mem_cons_of_mem _ hq)
    exact ⟨h1, sl, set_get h2 (hL q hq), h3, h4⟩
  · have hr : R a = none := by
      cases e2 : R a with
      | none => rfl
      | some o' => exact absurd (hX a (by rw [e]; intro z; cases z)) (A.ex a (by rw [e2]; intro z; cases z))
    exact c.res a o ((or_r hr).trans e)
end DL
set_option Elab.async false
set_option linter.all false
set_option maxRecDepth 100000
namespace DL
open PySem L2
/-! D14: a dict of lists of ints, filled by d.setdefault(k, []).append(x). -/
abbrev DLi := List (Key × List Int)
inductive DlL (R : Rsc) : DLi → List (Key × V) → List Addr → Prop
  | nil : DlL R [] [] []
  | cons {k xs a r kvs as} : R a = some (.lst (xs.map V.int)) → DlL R r kvs as → DlL R ((k, xs) :: r) ((k, .ref a) :: kvs) (a :: as)
def DlD : Rd DLi := fun K r p R => ∃ kvs as, R p = some (.dK kvs) ∧ DlL R r kvs as ∧ (p :: as).Nodup ∧ (∀ a, R a ≠ none → a ∈ p :: as) ∧ (r.map (·.1)).Nodup
section
variable {R : Rsc} {r : DLi} {kvs : List (Key × V)} {as : List Addr}
theorem DlL.length (h : DlL R r kvs as) : kvs.length = r.length ∧ as.length = r.length := by
  induction h with
  | nil => exact ⟨rfl, rfl⟩
  | cons _ _ ih => exact ⟨by simp [ih.1], by simp [ih.2]⟩
theorem DlL.find (h : DlL R r kvs as) (k : Key) : (valV kvs k = none ∧ k ∉ r.map (·.1)) ∨ ∃ a xs, valV kvs k = some (.ref a) ∧ a ∈ as ∧ R a = some (.lst (xs.map V.int)) ∧ (k, xs) ∈ r := by
  induction h with
  | nil => exact .inl ⟨rfl, by simp⟩
  | @cons k' xs a r kvs as h1 h2 ih =>
    by_cases e : k' = k
    · subst e
      exact .inr ⟨a, xs, valV_pos rfl, by simp, h1, by simp⟩
    · rw [valV_neg (p := (k', V.ref a)) e]
      rcases ih with ⟨i1, i2⟩ | ⟨a', xs', i1, i2, i3, i4⟩
      · exact .inl ⟨i1, by simp only [List.map_cons, List.mem_cons, not_or]; exact ⟨Ne.symm e, i2⟩⟩
      · exact .inr ⟨a', xs', i1, by simp [i2], i3, by simp [i4]⟩
theorem DlL.mem (h : DlL R r kvs as) {a : Addr} (ha : a ∈ as) : ∃ o, R a = some o := by
  induction h with
  | nil => cases ha
  | cons h1 h2 ih =>
    rcases List.mem_cons.mp ha with rfl | e
    · exact ⟨_, h1⟩
    · exact ih e
theorem DlL.frame {R' : Rsc} (h : DlL R r kvs as) (e : ∀ a ∈ as, R' a = R a) : DlL R' r kvs as := by
  induction h with
  | nil => exact .nil
  | cons h1 h2 ih => exact .cons ((e _ (by simp)).trans h1) (ih fun a ha => e a (by simp [ha]))
theorem DlL.snoc {k : Key} {xs : List Int} {a : Addr} (h : DlL R r kvs as) (ha : R a = some (.lst (xs.map V.int))) : DlL R (r ++ [(k, xs)]) (kvs ++ [(k, .ref a)]) (as ++ [a]) := by
  induction h with
  | nil => exact .cons ha .nil
  | cons h1 h2 ih => exact .cons h1 ih
def addIn (r : DLi) (k : Key) (x : Int) : DLi := r.map fun kv => if kv.1 = k then (kv.1, kv.2 ++ [x]) else kv
theorem addIn_keys (r : DLi) (k : Key) (x : Int) : (addIn r k x).map (·.1) = r.map (·.1) := by
  unfold addIn
  rw [List.map_map]
  apply List.map_congr_left
  intro kv _
  show (if kv.1 = k then (kv.1, kv.2 ++ [x]) else kv).1 = kv.1
  split <;> rfl
theorem addIn_no {r : DLi} {k : Key} {x : Int} (h : k ∉ r.map (·.1)) : addIn r k x = r := by
  unfold addIn
  conv => rhs; rw [← List.map_id r]
  apply List.map_congr_left
  intro kv hm
  rw [if_neg (fun e => h (List.mem_map.mpr ⟨kv, hm, e⟩))]
  rfl
theorem DlL.app {k : Key} {xs : List Int} {a : Addr} {x : Int} (h : DlL R r kvs as) (hn : as.Nodup) (hk : (r.map (·.1)).Nodup) (hv : valV kvs k = some (.ref a)) (ha : R a = some (.lst (xs.map V.int))) :
    DlL (upd R a (.lst (xs.map V.int ++ [V.int x]))) (addIn r k x) kvs as := by
  induction h with
  | nil => cases hv
  | @cons k' ys b r kvs as h1 h2 ih =>
    have hn' := List.nodup_cons.mp hn
    have hk' := (List.nodup_cons (a := k') (l := List.map Prod.fst r)).mp hk
    by_cases e : k' = k
    · subst e
      rw [valV_pos (p := (k', V.ref b)) rfl] at hv
      cases hv
      rw [ha] at h1
      have e2 : xs.map V.int = ys.map V.int := by
        have := Option.some.inj h1
        injection this
      show DlL _ ((if k' = k' then (k', ys ++ [x]) else (k', ys)) :: addIn r k' x) _ _
      rw [if_pos rfl, addIn_no (by simpa using hk'.1)]
      refine .cons ?_ (h2.frame fun c hc => upd_ne fun z => hn'.1 (by rw [← z]; exact hc))
      rw [upd_same, e2, List.map_append]; rfl
    · rw [valV_neg (p := (k', V.ref b)) e] at hv
      show DlL _ ((if k' = k then (k', ys ++ [x]) else (k', ys)) :: addIn r k x) _ _
      rw [if_neg e]
      have hab : a ∈ as := by
        rcases h2.find k with ⟨i1, _⟩ | ⟨a', xs', i1, i2, i3, i4⟩
        · rw [i1] at hv; cases hv
        · rw [i1] at hv; cases hv; exact i2
      refine .cons ?_ (ih hn'.2 hk'.2 hv)
      rw [upd_ne (fun z => hn'.1 (by rw [z]; exact hab))]
      exact h1
end
/-- r after d.setdefault(k, []).append(x) -/
def addDl (r : DLi) (k : Key) (x : Int) : DLi := if (r.any fun kv => decide (kv.1 = k)) = true then addIn r k x else r ++ [(k, [x])]
theorem any_key {r : DLi} {k : Key} : (r.any fun kv => decide (kv.1 = k)) = true ↔ k ∈ r.map (·.1) := by
  simp [List.any_eq_true]
def dlFit (r : DLi) : Bool := decide (r.length < sizeLine) && r.all fun kv => decide (kv.2.length < sizeLine)
def dInt : D → Option Int
  | .int i => some i
  | _ => none
def rSetdApp (fk fx : Env → Option D) : DLi → Env → Option (Out × DLi) := fun r env => (fk env).bind fun k => (isK k).bind fun k => (fx env).bind fun x => (dInt x).bind fun x => if dlFit r = true then some (.nx env, addDl r k x) else none
theorem dInt_some {d : D} {i : Int} (h : dInt d = some i) : d = .int i := by
  cases d <;> cases h
  rfl
section
variable {X : Cx} {W0 : Wd} {i : Nat} {x : Str} {k e : Expr} {fk fx : Env → Option D} {p1 p2 p3 p4 p5 p6 pl : Pos}
theorem rs_setdApp (hk : ∀ W : Wd, W.n = X.N.length → DE X W .b k fk) (he : ∀ W : Wd, W.n = X.N.length → DE X W .b e fx) (hW : W0.n = X.N.length) (hN : X.N[i]? = some x := by rfl) (hv : Vis X.env.scope x := by first | exact Or.inl rfl | exact Or.inr (Or.inl rfl) | exact Or.inr (Or.inr rfl)) (hd : (x == ("__debug__" : Str)) = false := by decide)
    (hcd : (x == ("__classdict__" : Str)) = false := by decide) (hM : M2 X (.Name x p1) "setdefault" p2 k (.List [] pl) p3 := by exact ⟨rfl, rfl, rfl, rfl⟩)
    (hbase : attributeBase (.Call (.Attribute (.Name x p1) "setdefault" p2) [k, .List [] pl] [] p3) "append" X.env (eval (.Call (.Attribute (.Name x p1) "setdefault" p2) [k, .List [] pl] [] p3) X.env) = eval (.Call (.Attribute (.Name x p1) "setdefault" p2) [k, .List [] pl] [] p3) X.env := by rfl)
    (hfew : ((backTo p5 (starEach [e] X.env)).all (fun x => !x.1) && (backToKw p5 (keywordEach [] X.env)).all (fun x => x.1.isSome)
      && decide ([e].length + ([] : List Keyword).length + (if ([] : List Keyword).isEmpty then 0 else 1) < 30)) = true := by rfl)
    (hline : (p4.endLine == p5.line) = true := by rfl) (hst : starEach [e] X.env = (false, eval e X.env) :: starEach [] X.env := by rfl) (hplain : (backTo p5 (starEach [] X.env)).any (·.1) = false := by rfl)
    (hsw : swapsWith (.Call (.Attribute (.Call (.Attribute (.Name x p1) "setdefault" p2) [k, .List [] pl] [] p3) "append" p4) [e] [] p5) none p6.line X.env = pure false := by rfl) :
    RS X W0 i DlD (.Expr (.Call (.Attribute (.Call (.Attribute (.Name x p1) "setdefault" p2) [k, .List [] pl] [] p3) "append" p4) [e] [] p5) p6) (rSetdApp fk fx) := by
  have hk' : PE X k (fun σ H Q => ∃ W' : Wd, W'.n = X.N.length ∧ tE X.K W' .b fk σ H Q) := ⟨fun pins s σ H Q I ⟨W', hW', h⟩ => (hk W' hW').run pins s σ H Q I h⟩
  have he' : PA X [e] (fun σ H Q => ∃ W' : Wd, W'.n = X.N.length ∧ tA X.K W' .b (fCons fx fNil) σ H Q) := ⟨fun pos pins s σ H Q I ⟨W', hW', h⟩ => (da_cons (m := .b) (he W' hW') da_nil hst).run pos pins s σ H Q I h⟩
  have hl' : PE X (.List [] pl) (fun σ H Q => ∃ W' : Wd, W'.n = X.N.length ∧ tE X.K W' .f (fLst fNil) σ H Q) := ⟨fun pins s σ H Q I ⟨W', hW', h⟩ => (de_lst (X := X) (W := W') da_nil).run pins s σ H Q I h⟩
  refine (ps_expr (pe_bm PySem.F.plainAttrs_list PySem.F.slot_list_append PySem.F.type_list_append mt_append (pe_dsetd (pe_var hN hv hd hcd) hk' hl' hM) he' hbase hfew hline hst hplain) hsw).weakI fun E σ H hlen ⟨p, R, env, att, r, o, r', hZ, c, hf, q⟩ => ?_
  obtain ⟨kd, h1, hf⟩ := bind_some hf
  obtain ⟨kk, h2, hf⟩ := bind_some hf
  obtain ⟨xd, h3, hf⟩ := bind_some hf
  obtain ⟨xi, h4, hf⟩ := bind_some hf
  have e2 := isK_some h2
  subst e2
  have e4 := dInt_some h4
  subst e4
  split at hf
  · rename_i hfit
    cases hf
    obtain ⟨⟨kvs, as, hp, hL, hnd, hdom, hkn⟩, A⟩ := hZ
    have hfit' : r.length < sizeLine ∧ ∀ kv ∈ r, kv.2.length < sizeLine := by
      unfold dlFit at hfit
      rw [Bool.and_eq_true, decide_eq_true_eq, List.all_eq_true] at hfit
      exact ⟨hfit.1, fun kv h => by simpa using hfit.2 kv h⟩
    have hi : i < σ.length := by rw [hlen]; exact (List.getElem?_eq_some_iff.mp hN).1
    have hσ : σ[i]? = some (some (.ref p)) := by
      have := (c.fix (i, p, none) (by simp [Wd.rs])).1
      rwa [app_get hi] at this
    have hHp : H p = some (.dK kvs) := c.res _ _ (or_l hp)
    refine ⟨_, hσ, p, rfl, .inl ⟨kvs, .of hHp⟩, W0.rs i p R, hW, env, att, keyD kk, c, h1, fun y H1 s1 r1 => ?_⟩
    have ey := key_kv r1
    subst ey
    refine ⟨W0.rs i p R, hW, env, att, .list [], c.ext s1, rfl, fun zl H2 s2 ⟨z, ez, hz, zs, hz2, hzs⟩ => ?_⟩
    subst ez
    cases hzs
    have c2 := (c.ext s1).ext s2
    have hHp2 : H2 p = some (.dK kvs) := c2.res _ _ (or_l hp)
    refine ⟨kvs, kk, hHp2, rfl, by rw [hL.length.1]; exact hfit'.1, fun v hv => ?_, fun hv => ?_⟩
    · -- the key is there
      rcases hL.find kk with ⟨i1, _⟩ | ⟨a, xs, i1, i2, i3, i4⟩
      · rw [i1] at hv; cases hv
      · rw [i1] at hv; cases hv
        have hHa : H2 a = some (.lst (xs.map V.int)) := c2.res _ _ (or_l i3)
        refine ⟨.inl ⟨rfl, _, .of hHa⟩, W0.rs i p R, hW, env, att, [.int xi], c2, by simp [fCons, fNil, h3], fun ys H3 s3 r3 => ?_⟩
        cases r3 with
        | cons r3 r4 =>
          cases r4
          cases r3
          have c3 := c2.ext s3
          have hHa3 : H3 a = some (.lst (xs.map V.int)) := s3 _ _ hHa
          refine ⟨a, xs.map V.int, _, rfl, rfl, hHa3, by rw [List.length_map]; exact hfit'.2 _ i4, ?_⟩
          have hin : kk ∈ r.map (·.1) := List.mem_map.mpr ⟨_, i4, rfl⟩
          have hZ' : DlD X.K (addDl r kk xi) p (upd R a (.lst (xs.map V.int ++ [V.int xi]))) := by
            have hpa : p ≠ a := fun z => (List.nodup_cons.mp hnd).1 (z ▸ i2)
            refine ⟨kvs, as, (upd_ne hpa).trans hp, ?_, hnd, fun b hb => ?_, ?_⟩
            · unfold addDl; rw [if_pos (any_key.mpr hin)]; exact hL.app (List.nodup_cons.mp hnd).2 hkn i1 i3
            · by_cases eb : b = a
              · rw [eb]; exact List.mem_cons_of_mem _ i2
              · rw [upd_ne eb] at hb; exact hdom b hb
            · unfold addDl; rw [if_pos (any_key.mpr hin), addIn_keys]; exact hkn
          refine q _ σ att _ rfl ⟨hZ', fun b hb => ?_, fun b hb => ?_, fun b o hb => ?_⟩ (c3.resStep A (R' := upd R a (.lst (xs.map V.int ++ [V.int xi]))) (fun b o hb e => ?_) (fun b o hb => ?_) (fun b hb => ?_) fun b hb => ?_)
          · by_cases eb : b = a
            · rw [eb]; exact A.mu a (by rw [i3]; intro z; cases z)
            · rw [upd_ne eb] at hb; exact A.mu b hb
          · by_cases eb : b = a
            · rw [eb]; exact A.ex a (by rw [i3]; intro z; cases z)
            · rw [upd_ne eb] at hb; exact A.ex b hb
          · by_cases eb : b = a
            · rw [eb, upd_same] at hb; cases hb; intro z; exact z
            · rw [upd_ne eb] at hb; exact A.tup b o hb
          · rw [upd_ne (fun z => by rw [z, i3] at hb; cases hb)]; exact e
          · by_cases eb : b = a
            · rw [eb, upd_same] at hb ⊢; exact hb
            · rw [upd_ne eb] at hb ⊢; exact c3.res _ _ (or_l hb)
          · by_cases eb : b = a
            · rw [eb, upd_same]; intro z; cases z
            · rw [upd_ne eb]; exact hb
          · by_cases eb : b = a
            · exact .inl (by rw [eb, i3]; intro z; cases z)
            · rw [upd_ne eb] at hb; exact .inl hb
    · -- a new key
      have hnk : kk ∉ r.map (·.1) := by
        rcases hL.find kk with ⟨_, i2⟩ | ⟨a, xs, i1, i2, i3, i4⟩
        · exact i2
        · rw [i1] at hv; cases hv
      rw [putK_new _ hv]
      have hzR : R z = none := by
        cases e : R z with
        | none => rfl
        | some o => have := (c.ext s1).res z o (or_l e); rw [hz] at this; cases this
      have hzp : z ≠ p := fun e => by rw [e, hp] at hzR; cases hzR
      have hzas : z ∉ as := fun e => by
        obtain ⟨o, ho⟩ := hL.mem e
        rw [hzR] at ho; cases ho
      let kvs' := kvs ++ [(kk, V.ref z)]
      let R1 : Rsc := upd (upd R p (.dK kvs')) z (.lst [])
      have hZ1 : DlD X.K (r ++ [(kk, [])]) p R1 := by
        refine ⟨kvs', as ++ [z], (upd_ne (Ne.symm hzp)).trans upd_same, ?_, ?_, fun b hb => ?_, ?_⟩
        · refine DlL.snoc (hL.frame fun a ha => ?_) upd_same
          show upd (upd R p (.dK kvs')) z (.lst []) a = R a
          rw [upd_ne (fun e => hzas (by rw [← e]; exact ha)), upd_ne (fun e => (List.nodup_cons.mp hnd).1 (by rw [← e]; exact ha))]
        · rw [show p :: (as ++ [z]) = (p :: as) ++ [z] from rfl]
          exact List.nodup_append.mpr ⟨hnd, by simp, fun a ha b hb => by
            have : b = z := by simpa using hb
            rw [this]
            rcases List.mem_cons.mp ha with rfl | ha
            · exact Ne.symm hzp
            · exact fun e => hzas (e ▸ ha)⟩
        · show b ∈ p :: (as ++ [z])
          by_cases e1 : b = z
          · simp [e1]
          · by_cases e2 : b = p
            · simp [e2]
            · have : R b ≠ none := by
                rw [show R1 b = upd (upd R p (.dK kvs')) z (.lst []) b from rfl, upd_ne e1, upd_ne e2] at hb
                exact hb
              have := hdom b this
              simp at this ⊢
              rcases this with h | h
              · exact .inl h
              · exact .inr (.inl h)
        · rw [List.map_append]
          exact List.nodup_append.mpr ⟨hkn, by simp, fun a ha b hb => by
            have : b = kk := by simpa using hb
            rw [this]
            exact fun e => hnk (e ▸ ha)⟩
      have zfree : W0.H0 z = none := by
        cases e : W0.H0 z with
        | none => rfl
        | some o => exact absurd hz ((c.ext s1).there z (by rw [show (W0.rs i p R).H0 z = W0.H0 z from rfl, e]; intro y; cases y))
      have zEx : ¬ W0.Ex z := fun e => absurd hz ((c.ext s1).hid z (.inl e))
      have A1 : Adm W0 R1 := ⟨fun b hb => by
          by_cases e1 : b = z
          · rw [e1]; exact .inl zfree
          · by_cases e2 : b = p
            · rw [e2]; exact A.mu p (by rw [hp]; intro y; cases y)
            · rw [show R1 b = upd (upd R p (.dK kvs')) z (.lst []) b from rfl, upd_ne e1, upd_ne e2] at hb
              exact A.mu b hb, fun b hb => by
          by_cases e1 : b = z
          · rw [e1]; exact zEx
          · by_cases e2 : b = p
            · rw [e2]; exact A.ex p (by rw [hp]; intro y; cases y)
            · rw [show R1 b = upd (upd R p (.dK kvs')) z (.lst []) b from rfl, upd_ne e1, upd_ne e2] at hb
              exact A.ex b hb, fun b o hb => by
          by_cases e1 : b = z
          · rw [e1, show R1 z = some (.lst []) from upd_same] at hb; cases hb; intro y; exact y
          · rw [show R1 b = upd (upd R p (.dK kvs')) z (.lst []) b from rfl, upd_ne e1] at hb
            by_cases e2 : b = p
            · rw [e2, upd_same] at hb; cases hb; intro y; exact y
            · rw [upd_ne e2] at hb
              exact A.tup b o hb⟩
      have c3 : Core X.K (W0.rs i p R1) env (σ ++ att) (upd H2 p (.dK kvs')) := by
        have cc := (c.ext s1).resStep (H' := upd H2 p (.dK kvs')) A (R' := R1) (fun b o hb e => ?_) (fun b o hb => ?_) (fun b hb => ?_) fun b hb => ?_
        · exact cc
        · rw [upd_ne (fun z => by rw [z, hp] at hb; cases hb)]; exact s2 _ _ e
        · by_cases e1 : b = z
          · rw [e1, show R1 z = some (.lst []) from upd_same] at hb
            rw [e1, upd_ne hzp, hz2]; exact hb
          · rw [show R1 b = upd (upd R p (.dK kvs')) z (.lst []) b from rfl, upd_ne e1] at hb
            by_cases e2 : b = p
            · rw [e2, upd_same] at hb ⊢; exact hb
            · rw [upd_ne e2] at hb ⊢; exact c2.res _ _ (or_l hb)
        · by_cases e1 : b = z
          · rw [e1, show R1 z = some (.lst []) from upd_same]; intro y; cases y
          · rw [show R1 b = upd (upd R p (.dK kvs')) z (.lst []) b from rfl, upd_ne e1]
            by_cases e2 : b = p
            · rw [e2, upd_same]; intro y; cases y
            · rw [upd_ne e2]; exact hb
        · by_cases e1 : b = z
          · exact .inr (e1 ▸ hz)
          · by_cases e2 : b = p
            · exact .inl (by rw [e2, hp]; intro y; cases y)
            · rw [show R1 b = upd (upd R p (.dK kvs')) z (.lst []) b from rfl, upd_ne e1, upd_ne e2] at hb
              exact .inl hb
      refine ⟨.inl ⟨rfl, _, .of (xs := []) (by rw [upd_ne hzp]; exact hz2)⟩, W0.rs i p R1, hW, env, att, [.int xi], c3, by simp [fCons, fNil, h3], fun ys H3 s3 r3 => ?_⟩
      cases r3 with
      | cons r3 r4 =>
        cases r4
        cases r3
        have c4 := c3.ext s3
        have hHz : H3 z = some (.lst []) := s3 _ _ (by rw [upd_ne hzp]; exact hz2)
        refine ⟨z, [], _, rfl, rfl, hHz, by decide, ?_⟩
        have hZ2 : DlD X.K (addDl r kk xi) p (upd R1 z (.lst [V.int xi])) := by
          obtain ⟨kvs2, as2, g1, g2, g3, g4, g5⟩ := hZ1
          have ek : kvs2 = kvs' := by
            rw [show R1 p = some (.dK kvs') from (upd_ne (Ne.symm hzp)).trans upd_same] at g1
            cases g1; rfl
          subst ek
          have hv2 : valV kvs' kk = some (V.ref z) := by
            show valV (kvs ++ [(kk, V.ref z)]) kk = _
            rw [← putK_new (V.ref z) hv]
            rw [valV_put, if_pos rfl]
          have hz1 : R1 z = some (.lst (([] : List Int).map V.int)) := upd_same
          refine ⟨kvs', as2, (upd_ne (Ne.symm hzp)).trans g1, ?_, g3, fun b hb => ?_, ?_⟩
          · have := g2.app (x := xi) (List.nodup_cons.mp g3).2 g5 hv2 hz1
            unfold addDl
            rw [if_neg (fun z => hnk (any_key.mp z))]
            have e : addIn (r ++ [(kk, [])]) kk xi = r ++ [(kk, [xi])] := by
              unfold addIn
              rw [List.map_append]
              have := addIn_no (x := xi) hnk
              unfold addIn at this
              rw [this]
              simp
            rw [e] at this
            exact this
          · by_cases e1 : b = z
            · exact g4 b (by rw [e1, hz1]; intro y; cases y)
            · rw [upd_ne e1] at hb; exact g4 b hb
          · unfold addDl
            rw [if_neg (fun z => hnk (any_key.mp z))]
            simpa using g5
        refine q _ σ att _ rfl ⟨hZ2, fun b hb => ?_, fun b hb => ?_, fun b o hb => ?_⟩ (c4.resStep A1 (R' := upd R1 z (.lst [V.int xi])) (fun b o hb e => ?_) (fun b o hb => ?_) (fun b hb => ?_) fun b hb => ?_)
        · by_cases eb : b = z
          · rw [eb]; exact .inl zfree
          · rw [upd_ne eb] at hb; exact A1.mu b hb
        · by_cases eb : b = z
          · rw [eb]; exact zEx
          · rw [upd_ne eb] at hb; exact A1.ex b hb
        · by_cases eb : b = z
          · rw [eb, upd_same] at hb; cases hb; intro y; exact y
          · rw [upd_ne eb] at hb; exact A1.tup b o hb
        · rw [upd_ne (fun e => by rw [e, show R1 z = some (.lst []) from upd_same] at hb; cases hb)]; exact e
        · by_cases eb : b = z
          · rw [eb, upd_same] at hb ⊢; exact hb
          · rw [upd_ne eb] at hb ⊢; exact c4.res _ _ (or_l hb)
        · by_cases eb : b = z
          · rw [eb, upd_same]; intro y; cases y
          · rw [upd_ne eb]; exact hb
        · by_cases eb : b = z
          · exact .inl (by rw [eb, show R1 z = some (.lst []) from upd_same]; intro y; cases y)
          · rw [upd_ne eb] at hb; exact .inl hb
  · cases hf
end
end DL
set_option Elab.async false
set_option linter.all false
set_option maxRecDepth 100000
namespace DL
open PySem L2
/-! D15: found = {}; a loop that fills it; return found. -/
def dlD (r : DLi) : D := .dict (r.map fun kv => (keyD kv.1, .list (kv.2.map .int)))
def fDl (i : Nat) (f : DLi → Env → Option (Out × DLi)) : Env → Option Out := fun env => match env[i]? with
  | some s => if s.free = true then (f [] (env.set i .res)).bind fun x => match x.1 with
    | .nx env' => match env'[i]? with
      | some .res => some (.rt (dlD x.2) (env'.set i .emp))
      | _ => none
    | _ => none else none
  | none => none
theorem DlL.rep {K : PySem.W.Frag} {H : Hp} {ok : Addr → Prop} {R : Rsc} {r : DLi} {kvs : List (Key × V)} {as : List Addr} (h : DlL R r kvs as) (hR : ∀ a o, R a = some o → H a = some o ∧ ok a) : RepK K H ok kvs (r.map fun kv => (keyD kv.1, .list (kv.2.map .int))) := by
  induction h with
  | nil => exact .nil
  | cons h1 h2 ih => exact .cons (.lst (hR _ _ h1).2 (hR _ _ h1).1 (repL_ints _)) ih
section
variable {X : Cx} {W : Wd} {i : Nat} {x : Str} {st : Stmt} {f : DLi → Env → Option (Out × DLi)} {p1 p2 p3 p4 p5 : Pos}
theorem ds_dl (i : Nat) (hW : W.n = X.N.length) (hNd : X.N.Nodup) (hst : ∀ W0 : Wd, W0.n = X.N.length → RS X W0 i DlD st f) (hN : X.N[i]? = some x := by rfl) (hx : Loc X.env.scope x := by first | exact Or.inl rfl | exact Or.inr rfl) (hv : Vis X.env.scope x := by first | exact Or.inl rfl | exact Or.inr (Or.inl rfl) | exact Or.inr (Or.inr rfl)) (hd : (x == ("__debug__" : Str)) = false := by decide)
    (hcd : (x == ("__classdict__" : Str)) = false := by decide) (hs : swapsWith (.Dict [] [] p2) (some (.Name x p1)) p3.line X.env = pure false := by rfl) (hf : X.fn x = true ∨ X.env.scope.names.lookup x = some .local := by first | exact .inl rfl | exact .inr rfl | assumption) :
    DSs X W [.Assign [.Name x p1] (.Dict [] [] p2) p3, st, .Return (some (.Name x p4)) p5] (fDl i f) := by
  refine (pss_cons (ps_set hNd hN hx pe_dnewK hs hf) (pss_cons (t := fun (E : Ends) σ H => ∃ W0 : Wd, W0.n = X.N.length ∧ tR X.K W0 i DlD f E σ H) ⟨fun pins s σ H E I ⟨W', hW', h⟩ => (hst W' hW').run pins s σ H E I h⟩ (pss_one (ps_ret (pe_var hN hv hd hcd))))).weakI fun E σ H hl ⟨env, att, o, c, hf0, q⟩ => ?_
  unfold fDl at hf0
  split at hf0
  · rename_i s0 h0
    split at hf0
    · rename_i hfr
      obtain ⟨⟨o1, r⟩, h1, h2⟩ := bind_some hf0
      have hi : i < σ.length := by rw [hl]; exact (List.getElem?_eq_some_iff.mp hN).1
      refine fun p hp => ?_
      have h0' : env[i]? = some s0 := h0
      let R : Rsc := fun a => if a = p then some (.dK []) else none
      have Rp : R p = some (.dK []) := by show (if p = p then _ else _) = _; rw [if_pos rfl]
      have Rne : ∀ a, a ≠ p → R a = none := fun a h => by show (if a = p then _ else _) = _; rw [if_neg h]
      have Rdom : ∀ a, R a ≠ none → a = p := fun a h => by
        by_cases e : a = p
        · exact e
        · exact absurd (Rne a e) h
      have hZ : ZA DlD X.K W [] p R := by
        refine ⟨⟨[], [], Rp, .nil, by simp, fun a h => by simp [Rdom a h], by simp⟩, fun a h => ?_, fun a h e => ?_, fun a o h => ?_⟩
        · rw [Rdom a h]
          cases e : W.H0 p with
          | none => exact .inl rfl
          | some o => exact absurd hp (c.there p (by rw [e]; intro z; cases z))
        · rw [Rdom a h] at e
          exact absurd hp (c.hid p e)
        · rw [Rdom a (by rw [h]; intro z; cases z), Rp] at h
          cases h; intro z; exact z
      have c1 : Core X.K (W.rs i p R) (env.set i .res) (σ.set i (some (.ref p)) ++ att) (upd H p (.dK [])) := by
        rw [← app_set hi]
        refine Core.enter c (same_upd hp) h0 hfr (by rw [hW, ← hl]; exact hi) (fun a h => by rw [Rdom a h]; exact hp) fun a o h => ?_
        have e := Rdom a (by rw [h]; intro z; cases z)
        rw [e] at h ⊢
        rw [Rp] at h; cases h
        exact upd_same
      refine ⟨W, hW, p, R, env.set i .res, att, [], o1, r, hZ, c1, h1, ?_⟩
      cases o1 with
      | bk e => cases h2
      | ct e => cases h2
      | rt d e => cases h2
      | nx env1 =>
        intro R1 σ1 att1 H1 l1 hZ1 c2
        have h2 : (match env1[i]? with | some .res => some (Out.rt (dlD r) (env1.set i .emp)) | _ => none) = some o := h2
        split at h2
        · rename_i hr
          cases h2
          obtain ⟨⟨kvs, as, g1, g2, g3, g4, g5⟩, A⟩ := hZ1
          have l1' : σ1.length = σ.length := by rw [l1, List.length_set]
          have hi1 : i < σ1.length := by rw [l1']; exact hi
          have hσ : σ1[i]? = some (some (.ref p)) := by
            have := (c2.fix (i, p, none) (by simp [Wd.rs])).1
            rwa [app_get hi1] at this
          have c3 := c2.leave A hr c.resX fun q hq z => by
            obtain ⟨_, sl, h2, h3, _⟩ := c.fix q hq
            rw [z, h0] at h2
            cases h2
            rw [hfr] at h3; cases h3
          have ok : ∀ a o, R1 a = some o → H1 a = some o ∧ okA W (env1.set i .emp) (σ1 ++ att1) a := fun a o h => ⟨c2.res a o (or_l h), fun e => A.ex a (by rw [h]; intro z; cases z) e, fun ⟨j, s, d, e, hh, ht⟩ => by
            rcases get_set e with ⟨rfl, rfl⟩ | ⟨hj, e⟩
            · cases hh
            · obtain ⟨q', h3, h4, _⟩ := c2.own j s d e hh
              rw [ht] at h3
              cases h3
              exact h4.2 (.inr (by rw [h]; intro z; cases z))⟩
          refine ⟨_, hσ, q (.ref p) σ1 att1 H1 l1' c3 ?_⟩
          exact .dK (ok _ _ g1).2 (ok _ _ g1).1 (g2.rep ok)
        · cases h2
    · cases hf0
  · cases hf0
end
end DL
set_option Elab.async false
set_option linter.all false
set_option maxRecDepth 100000
set_option maxHeartbeats 4000000
/-! D16: set(xs), xs a list of ints, ahead of sorted(..). -/
namespace DL
open PySem PySem.Spec PyProof.Rows L2
/-- a set object that is made just now -/
def noSet (w : World) : Obj := { cls := .type "set", dict := none, data := .set #[] 0 (.fresh 0 0 (!w.params.followText "set-order")) }
section
variable {P : Program} {w : World} {A : Around} {E : Value → Shared → Prop} {s : Shared}
theorem set_of_list {at1 : Addr} {vals : Array Value} (ks : List Int) {G : Value → Shared → Prop} (hA : A.handled = none) (hL : s.heap.IsList at1 vals) (hI : IntsAre vals.toList ks) (hB : ks.length + 1 < scanBound)
    (fin : ∀ (h1 : Heap) (tk m : Nat), SetR w h1 s.heap.objs.size (fun j => decide (j ∈ ks)) m → m ≤ ks.length → (∀ b u, s.heap.get? b = some u → h1.get? b = some u) → G (.ref s.heap.objs.size) { s with heap := h1, toks := tk }) :
    wpAny (model P w) A (call (.type "set") [.ref at1]) G E s := by
  have size_eq : vals.size = ks.length := (Array.length_toList (xs := vals)).symm.trans (IntsAre.length hI)
  obtain ⟨mro0, tail0, mroE⟩ := F.called_set.mro
  have f1 := F.called_set.made
  have f2 := F.called_set.sub
  have f3 := F.called_set.notType
  have f4 := F.called_set.canCreate
  have f5 := F.typeCall_set_1 (.ref at1)
  have f6 := F.called_set.init.lookup
  have f7 := F.sub_list_set
  have f8 := F.sub_list_frozenset
  have f9 : (Value.type "list" == Value.type "dict") = false := by decide
  refine wpAny_call (codeAny_of_tree ?_)
  show wpAny _ A.in1 (callAny (.type "set") _) _ _ _
  refine wpAny_pure ⟨Code.quiet_builtin _ (by decide +kernel), codeAny_builtin F.entry_type_call ?_⟩
  rw [Around.under_plain (weight_type_call_type "set" [.ref at1] []) rfl]
  repeat (any_goals (first | assumption | wp_step))
  let s1 : Shared := { s with heap := s.heap.push (noSet w) }
  refine codeAny_mono (code_set_led1 (.ref at1) (E := E) (Q₁ := fun ob sh => ob = .ref s.heap.objs.size ∧ sh = s1) ⟨rfl, rfl⟩) fun res sh hres => ?_
  have newAt : s1.heap.get? s.heap.objs.size = some (noSet w) := Heap.get?_push_size _ rfl
  have newTy : Shared.TypeIs s1 (.ref s.heap.objs.size) "set" := ⟨_, newAt, rfl⟩
  have f10 := F.called_set.init.bind (.ref s.heap.objs.size)
  match res, hres with
  | .error e, hres => exact hres
  | .ok (.ret ob), ⟨e1, e2⟩ =>
    subst e1 e2
    repeat (any_goals (first | assumption | wp_step))
    refine codeAny_mono (codeAny_call_builtin (R := wants (fun r sh => r = .none ∧ ∃ h1 tk m, sh = { s with heap := h1, toks := tk } ∧ SetR w h1 s.heap.objs.size (fun j => decide (j ∈ ks)) m ∧ m ≤ ks.length ∧ ∀ b u, s.heap.get? b = some u → h1.get? b = some u) E)
      F.called_set.init.plain F.entry_set_init (check_set_init_1 newTy ?_)) fun res2 sh2 hres2 => ?_
    · obtain ⟨⟨oc, od, odat, osl⟩, og, oe, on, oq⟩ := hL
      simp only at oe oq
      subst oe oq
      have og1 : s1.heap.get? at1 = some ⟨.type "list", od, .seq vals on, osl⟩ := Heap.get?_push_of_some _ og
      have lst1 : s1.heap.IsList at1 vals := ⟨_, og1, rfl, on, rfl⟩
      have ltA : at1 < s.heap.objs.size := Heap.lt_size og
      have sz1 : s1.heap.objs.size = s.heap.objs.size + 1 := Heap.size_push ..
      unfold Builtin.«set.__init__» noKeywords Builtin.Frozenset.updateFrom
      generalize hPI : pyIter = PI
      wp_walk
      subst hPI
      refine wpAny_pyIter_list lst1 (wpAny_bind (wpAny_runValue ?_))
      have h3 : A.in1.in1.in1.handled = none := by simp [hA]
      have apart : at1 ≠ s1.heap.objs.size := Nat.ne_of_lt (Nat.lt_trans ltA (by rw [sz1]; exact Nat.lt_succ_self _))
      have out1 : s.heap.objs.size ∉ [s1.heap.objs.size, at1] := by
        intro z
        rcases List.mem_cons.mp z with z | z
        · rw [sz1] at z; exact absurd z (Nat.ne_of_lt (Nat.lt_succ_self _))
        · exact absurd (List.mem_singleton.mp z) (Nat.ne_of_gt ltA)
      refine set_update_ints ((Walks.list h3 _ at1 apart vals).toS) s.heap.objs.size out1 ks size_eq hB (fun i v hv => ?_) (vals.size - 0) 0 _ (by omega) (Nat.zero_le _) ⟨⟨_, Heap.get?_push_size _ rfl, rfl, rfl⟩, lst1.push _⟩
        ⟨0, Nat.le_refl 0, setR_new_at (Heap.get?_push_of_some _ newAt)⟩ fun sh m mv hm hS => ?_
      · have hi : i < ks.length := size_eq ▸ (Array.getElem?_eq_some_iff.mp hv).1
        obtain ⟨t, e⟩ := IntsAre.int_at hI i v (by rw [Array.getElem?_toList]; exact hv)
        exact ⟨ks[i], t, List.getElem?_eq_getElem hi, by rw [e, List.getD_eq_getElem?_getD, List.getElem?_eq_getElem hi]; rfl⟩
      · obtain ⟨h1, g1, d1, t1, o1⟩ := sh
        obtain rfl : g1 = s.gens := mv.gens
        obtain rfl : d1 = s.drawn := mv.drawn
        obtain rfl : o1 = s.os := mv.os
        refine wpAny_pure (show wpAny _ _ (ret Value.none) _ _ _ from wpAny_pure ⟨rfl, h1, t1, m, rfl, hS, by omega, fun b u e => ?_⟩)
        have lt := Heap.lt_size e
        refine mv.heap b u ?_ (Heap.get?_push_of_some _ (Heap.get?_push_of_some _ e))
        intro z
        rcases List.mem_cons.mp z with z | z
        · exact absurd z (Nat.ne_of_lt lt)
        · refine absurd ((List.mem_singleton.mp z).trans ?_) (Nat.ne_of_lt (Nat.lt_succ_of_lt lt))
          exact Heap.size_push ..
    · match res2, hres2 with
      | .error e, hres2 => exact hres2
      | .ok (.ret r), ⟨e1, h1, tk, m, e2, hS, hm, hk⟩ =>
        subst e1 e2
        repeat (any_goals (first | assumption | wp_step))
        exact fin _ _ _ hS hm hk
end
end DL
set_option Elab.async false
set_option linter.all false
set_option maxRecDepth 100000
/-! D17: sorted(set(xs)) of a list of ints. -/
namespace DL
open PySem PySem.Spec L2
/-- the members of a list, ascending, each once -/
def insU (x : Int) : List Int → List Int
  | [] => [x]
  | y :: l => if x < y then x :: y :: l else if x = y then y :: l else y :: insU x l
def ssI (l : List Int) : List Int := l.foldr insU []
theorem insU_mem {x k : Int} : ∀ {l : List Int}, k ∈ insU x l ↔ k = x ∨ k ∈ l
  | [] => by simp [insU]
  | y :: l => by
    unfold insU
    split
    · simp
    · split
      · rename_i h; subst h; simp
      · simp only [List.mem_cons, insU_mem (l := l)]
        constructor
        · rintro (h | h | h)
          · exact .inr (.inl h)
          · exact .inl h
          · exact .inr (.inr h)
        · rintro (h | h | h)
          · exact .inr (.inl h)
          · exact .inl h
          · exact .inr (.inr h)
theorem insU_up {x : Int} : ∀ {l : List Int}, l.Pairwise (· < ·) → (insU x l).Pairwise (· < ·)
  | [], _ => by simp [insU]
  | y :: l, h => by
    have ⟨h1, h2⟩ := List.pairwise_cons.mp h
    unfold insU
    split
    · rename_i hx
      refine List.pairwise_cons.mpr ⟨fun k hk => ?_, h⟩
      rcases List.mem_cons.mp hk with rfl | hk
      · exact hx
      · exact Int.lt_trans hx (h1 k hk)
    · split
      · exact h
      · rename_i h3 h4
        refine List.pairwise_cons.mpr ⟨fun k hk => ?_, insU_up h2⟩
        rcases insU_mem.mp hk with rfl | hk
        · omega
        · exact h1 k hk
theorem ssI_mem {k : Int} : ∀ {l : List Int}, k ∈ ssI l ↔ k ∈ l
  | [] => by simp [ssI]
  | x :: l => by
    show k ∈ insU x (ssI l) ↔ _
    rw [insU_mem, ssI_mem, List.mem_cons]
theorem ssI_up : ∀ l : List Int, (ssI l).Pairwise (· < ·)
  | [] => by simp [ssI]
  | x :: l => insU_up (ssI_up l)
theorem up_ext : ∀ {a b : List Int}, a.Pairwise (· < ·) → b.Pairwise (· < ·) → (∀ k, k ∈ a ↔ k ∈ b) → a = b
  | [], [], _, _, _ => rfl
  | [], y :: b, _, _, h => absurd ((h y).mpr (by simp)) (by simp)
  | x :: a, [], _, _, h => absurd ((h x).mp (by simp)) (by simp)
  | x :: a, y :: b, ha, hb, h => by
    have ⟨a1, a2⟩ := List.pairwise_cons.mp ha
    have ⟨b1, b2⟩ := List.pairwise_cons.mp hb
    have e : x = y := by
      rcases List.mem_cons.mp ((h x).mp (by simp)) with z | z
      · exact z
      · rcases List.mem_cons.mp ((h y).mpr (by simp)) with z2 | z2
        · exact z2.symm
        · have := b1 x z; have := a1 y z2; omega
    subst e
    rw [up_ext a2 b2 fun k => ?_]
    constructor
    · intro hk
      rcases List.mem_cons.mp ((h k).mp (List.mem_cons_of_mem _ hk)) with z | z
      · have := a1 k hk; omega
      · exact z
    · intro hk
      rcases List.mem_cons.mp ((h k).mpr (List.mem_cons_of_mem _ hk)) with z | z
      · have := b1 k hk; omega
      · exact z
def ssD : D → Option D
  | .list ds => if ds.length ≤ 63 then (intsD ds).map fun ns => .list ((ssI ns).map .int) else none
  | _ => none
def rSetLst (w : World) (K : PySem.W.Frag) : List V → Hp → VK → Prop := fun xs H Q => ∃ (l : Addr) (ns : List Int), xs = [.ref l] ∧ SqL K H l (ns.map V.int) ∧ ns.length ≤ 1000 ∧ ∀ p c, H p = none → c ≤ ns.length → Q (.ref p) (upd H p (SetO w p (fun j => decide (j ∈ ns)) c))
theorem cr_setLst {X : Cx} (hc : X.calm = true) : CallR X (.type "set") (rSetLst X.w X.K) := by
  intro pins s σ H xs us Q I r ⟨l, ns, e, hq, hn, q⟩
  subst e
  cases r with
  | cons r rr =>
    cases rr
    cases r
    obtain ⟨its, rv, p, hz⟩ := I.list hq
    refine set_of_list ns (I.ok.hd hc) p.isList (ints_of_vals rv) (by unfold scanBound; omega) fun h1 tk m R hm k => ?_
    exact ⟨.ref _, upd H s.heap.objs.size (SetO X.w s.heap.objs.size (fun j => decide (j ∈ ns)) m), I.laid (t' := tk) k (Nat.le_refl _) (setO_new R), rfl, q _ m (I.hok.fresh (Nat.le_refl _)) hm⟩
section
variable {X : Cx} {W : Wd}
def fSortedSet (f : Env → Option D) : Env → Option D := fun env => (f env).bind ssD
theorem de_sortedSet {e : Expr} {f : Env → Option D} {p1 p2 p3 p4 : Pos} (h : DE X W .b e f) (hm : X.mg "sorted" = none := by assumption) (hm2 : X.mg "set" = none := by assumption) (hc : X.calm = true := by rfl) (hg : Gl X "sorted" := by rfl) (hg2 : Gl X "set" := by rfl)
    (hs2 : starEach [e] X.env = (false, eval e X.env) :: starEach [] X.env := by rfl) (hpl2 : (backTo p3 (starEach [] X.env)).any (·.1) = false := by rfl) (hpl1 : (backTo p4 (starEach [] X.env)).any (·.1) = false := by rfl)
    (hs1 : starEach [.Call (.Name "set" p2) [e] [] p3] X.env = (false, eval (.Call (.Name "set" p2) [e] [] p3) X.env) :: starEach [] X.env := by rfl) :
    DE X W .f (.Call (.Name "sorted" p1) [.Call (.Name "set" p2) [e] [] p3] [] p4) (fSortedSet f) := by
  refine (pe_callB (cr_sortedSet hc) hg hm PyProof.Rows.boot_sorted (pa_cons (pe_callTy (cr_setLst hc) hg2 hm2 PyProof.Rows.boot_set (pa_cons h pa_nil hs2) (by decide) (by decide) hs2 hpl2) pa_nil hs1) (by decide) (by decide) hs1 hpl1).weak fun σ H Q ⟨env, att, r, c, hf, q⟩ => ?_
  obtain ⟨d, h1, h2⟩ := bind_some hf
  unfold ssD at h2
  split at h2
  · rename_i ds
    split at h2
    · rename_i hlen
      obtain ⟨ns, h3, h4⟩ := map_some h2
      subst h4
      have e1 := intsD_some h3
      subst e1
      rw [List.length_map] at hlen
      refine ⟨env, att, _, c, h1, fun v H1 s1 r1 => ?_⟩
      obtain ⟨a, ys, rfl, ha, _, hys⟩ := Rep.lst_inv (rep_of (m := .b) (by decide) r1)
      have e2 := repL_ints_inv hys
      subst e2
      refine ⟨a, ns, rfl, .of ha, by omega, fun p c' hp hc' => ⟨p, _, c', rfl, upd_same, by omega, fun out p2 hup hmem hlen2 hp2 => ?_⟩⟩
      have eo : out = ssI ns := up_ext hup (ssI_up ns) fun k => by rw [hmem, ssI_mem, decide_eq_true_eq]
      subst eo
      have sm : Same H (upd (upd H1 p (SetO X.w p (fun j => decide (j ∈ ns)) c')) p2 (.lst ((ssI ns).map V.int))) := (s1.trans (same_upd hp)).trans (same_upd hp2)
      exact q _ _ sm ⟨p2, rfl, s1.free ((same_upd hp).free hp2), _, upd_same, repL_ints _⟩
    · cases h2
  · cases h2
end
end DL
set_option Elab.async false
set_option linter.all false
set_option maxRecDepth 100000
namespace DL
open PySem L2
/-! E0: how the data functions run. -/
def Run (f : Env → Option Out) (env : Env) (Q : Out → Prop) : Prop := ∃ o, f env = some o ∧ Q o
def seqK (g : Env → Option Out) (Q : Out → Prop) : Out → Prop
  | .nx e => Run g e Q
  | o => Q o
section
variable {f g fb : Env → Option Out} {env : Env} {Q : Out → Prop}
theorem Run.mono {Q' : Out → Prop} (h : Run f env Q) (k : ∀ o, Q o → Q' o) : Run f env Q' := let ⟨o, e, q⟩ := h; ⟨o, e, k o q⟩
theorem run_seq (h : Run f env (seqK g Q)) : Run (fSeq f g) env Q := by
  obtain ⟨o, e, q⟩ := h
  cases o with
  | nx e1 => obtain ⟨o2, e2, q2⟩ := q; exact ⟨o2, by unfold fSeq; rw [e]; exact e2, q2⟩
  | bk e1 => exact ⟨.bk e1, by unfold fSeq; rw [e]; rfl, q⟩
  | ct e1 => exact ⟨.ct e1, by unfold fSeq; rw [e]; rfl, q⟩
  | rt d e1 => exact ⟨.rt d e1, by unfold fSeq; rw [e]; rfl, q⟩
theorem run_nop (h : Q (.nx env)) : Run fNop env Q := ⟨_, rfl, h⟩
theorem run_set {i : Nat} {fe : Env → Option D} {d : D} {env' : Env} (h : fe env = some d) (hp : put i (.fz d) env = some env') (q : Q (.nx env')) : Run (fSet i fe) env Q :=
  ⟨_, by unfold fSet; rw [h]; show (put i (.fz d) env).map Out.nx = _; rw [hp]; rfl, q⟩
theorem run_setF {i : Nat} {fe : Env → Option D} {d : D} {env' : Env} (h : fe env = some d) (hp : put i (.own d) env = some env') (q : Q (.nx env')) : Run (fSetF i fe) env Q :=
  ⟨_, by unfold fSetF; rw [h]; show (put i (.own d) env).map Out.nx = _; rw [hp]; rfl, q⟩
theorem run_asg {gt : D → Env → Option Env} {fe : Env → Option D} {d : D} {env' : Env} (h : fe env = some d) (hp : gt d env = some env') (q : Q (.nx env')) : Run (fAsg gt fe) env Q :=
  ⟨_, by unfold fAsg; rw [h]; show (gt d env).map Out.nx = _; rw [hp]; rfl, q⟩
theorem run_ret {fe : Env → Option D} {d : D} (h : fe env = some d) (q : Q (.rt d env)) : Run (fRet fe) env Q := ⟨_, by unfold fRet; rw [h]; rfl, q⟩
theorem run_frz {i : Nat} (h : Run f (frz i env) Q) : Run (fFrz i f) env Q := h
theorem run_if {t : Env → Option Bool} {b : Bool} (h : t env = some b) (h1 : b = true → Run f env Q) (h2 : b = false → Run g env Q) : Run (fIfS t f g) env Q := by
  cases b with
  | true => obtain ⟨o, e, q⟩ := h1 rfl; exact ⟨o, by unfold fIfS; rw [h]; exact e, q⟩
  | false => obtain ⟨o, e, q⟩ := h2 rfl; exact ⟨o, by unfold fIfS; rw [h]; exact e, q⟩
theorem run_mut {i : Nat} {h : D → D → Option D} {fe : Env → Option D} {d : D} {env' : Env} (he : fe env = some d) (hc : chg i (fun c => h c d) env = some env') (q : Q (.nx env')) : Run (fMut i h fe) env Q :=
  ⟨_, by unfold fMut; rw [he]; show (chg i (fun c => h c d) env).map Out.nx = _; rw [hc]; rfl, q⟩
theorem run_for {fi : Env → Option (List D)} {gt : D → Env → Option Env} {ds : List D} (hi : fi env = some ds) (P : Nat → Env → Prop) (h0 : P 0 env)
    (step : ∀ i d env, ds[i]? = some d → P i env → ∃ e1, gt d env = some e1 ∧ Run fb e1 fun o => match o with | .nx e => P (i + 1) e | .ct e => P (i + 1) e | .bk e => Q (.nx e) | .rt d e => Q (.rt d e))
    (hend : ∀ env, P ds.length env → Q (.nx env)) : Run (fFor fi gt fb) env Q := by
  have key : ∀ (n i : Nat) (env : Env), ds.length - i = n → i ≤ ds.length → P i env → ∃ o, forGo gt fb (ds.drop i) env = some o ∧ Q o := by
    intro n
    induction n with
    | zero =>
      intro i env hn hi h
      have : i = ds.length := by omega
      subst this
      rw [List.drop_length]
      exact ⟨_, rfl, hend env h⟩
    | succ n ih =>
      intro i env hn hi h
      have hlt : i < ds.length := by omega
      rw [drop_cons (List.getElem?_eq_getElem hlt)]
      obtain ⟨e1, h1, o, h2, h3⟩ := step i _ env (List.getElem?_eq_getElem hlt) h
      unfold forGo
      rw [h1]
      show ∃ o, ((fb e1).bind _) = some o ∧ Q o
      rw [h2]
      cases o with
      | nx e => exact ih (i + 1) e (by omega) (by omega) h3
      | ct e => exact ih (i + 1) e (by omega) (by omega) h3
      | bk e => exact ⟨_, rfl, h3⟩
      | rt d e => exact ⟨_, rfl, h3⟩
  obtain ⟨o, h, q⟩ := key _ 0 env rfl (Nat.zero_le _) h0
  exact ⟨o, by unfold fFor; rw [hi]; exact h, q⟩
theorem run_forX {f0 : Env → Option (D × Env)} {gt : D → Env → Option Env} {d0 : D} {env0 : Env} {ds : List D} (hx : f0 env = some (d0, env0)) (hi : itemsD d0 = some ds) (P : Nat → Env → Prop) (h0 : P 0 env0)
    (step : ∀ i d env, ds[i]? = some d → P i env → ∃ e1, gt d env = some e1 ∧ Run fb e1 fun o => match o with | .nx e => P (i + 1) e | .ct e => P (i + 1) e | .bk e => Q (.nx e) | .rt d e => Q (.rt d e))
    (hend : ∀ env, P ds.length env → Q (.nx env)) : Run (fForX f0 gt fb) env Q := by
  obtain ⟨o, h, q⟩ := run_for (fi := fun _ => some ds) (env := env0) rfl P h0 step hend
  exact ⟨o, by unfold fForX; rw [hx]; show (itemsD d0).bind _ = _; rw [hi]; exact h, q⟩
noncomputable def whNext (t : Env → Option Bool) (fb : Env → Option Out) : Out → Option Out
  | .nx e => fWhile t fb e
  | .ct e => fWhile t fb e
  | .bk e => some (.nx e)
  | .rt d e => some (.rt d e)
theorem run_while {t : Env → Option Bool} (P : Nat → Env → Prop)
    (step : ∀ n env, P n env → ∃ b, t env = some b ∧ (b = false → Q (.nx env)) ∧ (b = true → Run fb env fun o => match o with | .nx e => ∃ m, m < n ∧ P m e | .ct e => ∃ m, m < n ∧ P m e | .bk e => Q (.nx e) | .rt d e => Q (.rt d e)))
    {n : Nat} (h0 : P n env) : Run (fWhile t fb) env Q := by
  induction n using Nat.strongRecOn generalizing env with
  | ind n ih =>
    obtain ⟨b, h1, h2, h3⟩ := step n env h0
    cases b with
    | false => exact ⟨.nx env, by rw [fWhile_eq]; unfold whStep; rw [h1]; rfl, h2 rfl⟩
    | true =>
      obtain ⟨o, h4, h5⟩ := h3 rfl
      have e : fWhile t fb env = whNext t fb o := by
        clear h5
        rw [fWhile_eq]
        unfold whStep
        rw [h1]
        show ((fb env).bind _).bind _ = _
        rw [h4]
        cases o <;> rfl
      cases o with
      | nx e1 => obtain ⟨m, hm, hp⟩ := h5; obtain ⟨o2, e2, q2⟩ := ih m hm hp; exact ⟨o2, e.trans e2, q2⟩
      | ct e1 => obtain ⟨m, hm, hp⟩ := h5; obtain ⟨o2, e2, q2⟩ := ih m hm hp; exact ⟨o2, e.trans e2, q2⟩
      | bk e1 => exact ⟨_, e, h5⟩
      | rt d e1 => exact ⟨_, e, h5⟩
end
/-- a def's value -/
theorem runF_of {n N : Nat} {body : Env → Option Out} {ds : List D} {r : D} (hl : ds.length = n) (h : Run body (ds.map Slot.fz ++ List.replicate (N - n) Slot.emp) fun o => (∃ e, o = .rt r e) ∨ (r = .none ∧ ∃ e, o = .nx e)) : runF n N body ds = some r := by
  obtain ⟨o, e, q⟩ := h
  unfold runF
  rw [if_pos hl, e]
  rcases q with ⟨e, rfl⟩ | ⟨rfl, e, rfl⟩ <;> rfl
theorem runF_inv {n N : Nat} {body : Env → Option Out} {ds : List D} {Q : D → Prop} (hl : ds.length = n) (h : Run body (ds.map Slot.fz ++ List.replicate (N - n) Slot.emp) fun o => (∃ r e, o = .rt r e ∧ Q r) ∨ (Q .none ∧ ∃ e, o = .nx e)) : ∃ r, runF n N body ds = some r ∧ Q r := by
  obtain ⟨o, e, q⟩ := h
  rcases q with ⟨r, e', rfl, q⟩ | ⟨q, e', rfl⟩
  · exact ⟨r, by unfold runF; rw [if_pos hl, e]; rfl, q⟩
  · exact ⟨.none, by unfold runF; rw [if_pos hl, e]; rfl, q⟩
/-- a comprehension's value -/
theorem lc_of {fi : Env → Option (List D)} {g : D → Env → Option Env} {ft : Env → Option Bool} {fe : Env → Option D} {vs : List Nat} {env : Env} {ds : List D} (r : D → List D) (hw : wipable env vs = true) (hi : fi env = some ds) (hs : ds.length ≤ sizeLine)
    (h : ∀ d ∈ ds, lcOne g ft fe (wipeE env vs) d = some (r d)) : fLc fi g ft fe vs env = some (.list (ds.flatMap r)) := by
  have key : ∀ {es : List D}, (∀ d ∈ es, lcOne g ft fe (wipeE env vs) d = some (r d)) → lcGo (lcOne g ft fe (wipeE env vs)) es = some (es.flatMap r) := by
    intro es
    induction es with
    | nil => intro _; rfl
    | cons d es ih =>
      intro h
      unfold lcGo
      rw [h d (by simp), List.flatMap_cons]
      show (lcGo _ es).map _ = _
      rw [ih fun x hx => h x (by simp [hx])]
      rfl
  unfold fLc
  rw [if_pos hw, hi]
  show (if ds.length ≤ sizeLine then _ else _) = _
  rw [if_pos hs, key h]
  rfl
theorem one_of {g : D → Env → Option Env} {ft : Env → Option Bool} {fe : Env → Option D} {env e1 : Env} {d r : D} (h1 : g d env = some e1) (h2 : ft e1 = some true) (h3 : fe e1 = some r) : lcOne g ft fe env d = some [r] := by
  unfold lcOne; rw [h1]; show (ft e1).bind _ = _; rw [h2]; show (fe e1).map _ = _; rw [h3]; rfl
theorem one_no {g : D → Env → Option Env} {ft : Env → Option Bool} {fe : Env → Option D} {env e1 : Env} {d : D} (h1 : g d env = some e1) (h2 : ft e1 = some false) : lcOne g ft fe env d = some [] := by
  unfold lcOne; rw [h1]; show (ft e1).bind _ = _; rw [h2]; rfl
theorem one_if {g : D → Env → Option Env} {ft : Env → Option Bool} {fe : Env → Option D} {env e1 : Env} {d r : D} {b : Bool} (h1 : g d env = some e1) (h2 : ft e1 = some b) (h3 : fe e1 = some r) : lcOne g ft fe env d = some (if b = true then [r] else []) := by
  cases b with
  | true => exact one_of h1 h2 h3
  | false => exact one_no h1 h2
theorem sizeLine_big : 1000000 ≤ sizeLine := by decide
/-! ### ints -/
theorem fr1 {fe : Env → Option D} {env : Env} {j : Int} (h : fe env = some (.int j)) (hb : B62 j) : fRange1 fe env = some (rngD 0 j.toNat) := by
  unfold fRange1; rw [h]; show (if B62 j then _ else _) = _; rw [if_pos hb]
theorem rngD_len (lo : Int) (n : Nat) : (rngD lo n).length = n := by simp [rngD]
theorem rngD_get {lo : Int} {n i : Nat} {d : D} (h : (rngD lo n)[i]? = some d) : i < n ∧ d = .int (lo + (i : Nat)) := by
  unfold rngD at h
  rw [List.getElem?_map] at h
  by_cases hi : i < n
  · rw [List.getElem?_range hi] at h
    cases h
    exact ⟨hi, rfl⟩
  · rw [List.getElem?_eq_none (by simpa using hi)] at h; cases h
theorem two62 : (2 : Int) ^ 62 = 4611686018427387904 := by decide
theorem B62_small {j : Int} (h0 : 0 ≤ j) (h1 : j ≤ 1000000) : B62 j := by
  have := two62
  unfold B62
  omega
/-! ### the drawn parts, as every law reckons them -/
def cellI (ns : List Int) (k : Nat) : Int := ns.getD k 0
def partsGo : List Int → Nat → Int → Int → List Int
  | [], _, _, _ => []
  | m :: ms, k, cell, left => if 0 ≤ left then left % m :: partsGo ms (k + 1) cell (left / m)
    else (((cell * 48271 + (k : Int) * 69621 + 11) % 2147483647 * ((cell * 48271 + (k : Int) * 69621 + 11) % 2147483647) + 16807 * (k : Int) + 5) % 998244353 / 7) % m :: partsGo ms (k + 1) cell left
def partsI (cell : Int) (sizes : List Int) : List Int := partsGo sizes 0 cell (cell - 10 ^ 18)
theorem partsGo_len : ∀ (ms : List Int) (k : Nat) (c l : Int), (partsGo ms k c l).length = ms.length
  | [], _, _, _ => rfl
  | m :: ms, k, c, l => by unfold partsGo; split <;> simp [partsGo_len ms]
theorem partsI_len (c : Int) (ms : List Int) : (partsI c ms).length = ms.length := partsGo_len ms 0 c _
theorem partsGo_get : ∀ (ms : List Int) (k : Nat) (c l : Int), (∀ m ∈ ms, 0 < m) → ∀ (i : Nat) (m x : Int), ms[i]? = some m → (partsGo ms k c l)[i]? = some x → 0 ≤ x ∧ x < m
  | [], _, _, _, _, i, m, x, h, _ => by simp at h
  | m0 :: ms, k, c, l, hp, i, m, x, h, h2 => by
    have hm := hp m0 (by simp)
    unfold partsGo at h2
    cases i with
    | zero =>
      cases h
      split at h2 <;> (cases h2; exact ⟨Int.emod_nonneg _ (by omega), Int.emod_lt_of_pos _ hm⟩)
    | succ i =>
      split at h2
      · exact partsGo_get ms _ _ _ (fun m hm => hp m (by simp [hm])) i m x h h2
      · exact partsGo_get ms _ _ _ (fun m hm => hp m (by simp [hm])) i m x h h2
theorem partsI_get {c : Int} {ms : List Int} (hp : ∀ m ∈ ms, 0 < m) {i : Nat} {m : Int} (h : ms[i]? = some m) : ∃ x, (partsI c ms)[i]? = some x ∧ 0 ≤ x ∧ x < m := by
  have hi : i < (partsI c ms).length := by rw [partsI_len]; exact (List.getElem?_eq_some_iff.mp h).1
  exact ⟨_, List.getElem?_eq_getElem hi, partsGo_get ms 0 c _ hp i m _ h (List.getElem?_eq_getElem hi)⟩
end DL
set_option Elab.async false
set_option linter.all false
set_option maxRecDepth 100000
namespace DL
open PySem L2
/-! E1: _law_cell, _law_parts. -/
theorem atI_nat {α : Type} (xs : List α) (i : Nat) : L2.atI xs (i : Int) = xs[i]? := by
  unfold L2.atI L2.ixN
  rw [if_pos (Int.natCast_nonneg i)]
  by_cases h : i < xs.length
  · rw [if_pos (by exact_mod_cast h)]; rfl
  · rw [if_neg (by intro z; exact h (by exact_mod_cast z)), List.getElem?_eq_none (by omega)]; rfl
theorem f2_of {g : D → D → Option D} {fa fb : Env → Option D} {env : Env} {d e r : D} (h1 : fa env = some d) (h2 : fb env = some e) (h3 : g d e = some r) : f2 g fa fb env = some r := by
  unfold f2; rw [h1]; show (fb env).bind _ = _; rw [h2]; exact h3
theorem f1_of {g : D → Option D} {fa : Env → Option D} {env : Env} {d r : D} (h1 : fa env = some d) (h3 : g d = some r) : f1 g fa env = some r := by
  unfold f1; rw [h1]; exact h3
theorem cmp_of {g : D → D → Option Bool} {fa fb : Env → Option D} {env : Env} {d e : D} {r : Bool} (h1 : fa env = some d) (h2 : fb env = some e) (h3 : g d e = some r) : fCmp g fa fb env = some r := by
  unfold fCmp; rw [h1]; show (fb env).bind _ = _; rw [h2]; exact h3
theorem cons_of {f : Env → Option D} {g : Env → Option (List D)} {env : Env} {d : D} {ds : List D} (h1 : f env = some d) (h2 : g env = some ds) : fCons f g env = some (d :: ds) := by
  unfold fCons; rw [h1]; show (g env).bind _ = _; rw [h2]; rfl
theorem nil_of {env : Env} : fNil env = some [] := rfl
theorem call_of {g : List D → Option D} {fs : Env → Option (List D)} {env : Env} {ds : List D} {r : D} (h1 : fs env = some ds) (h2 : g ds = some r) : fCall g fs env = some r := by
  unfold fCall; rw [h1]; exact h2
theorem call1 {g : List D → Option D} {f : Env → Option D} {env : Env} {d r : D} (h1 : f env = some d) (h2 : g [d] = some r) : fCall g (fCons f fNil) env = some r := call_of (cons_of h1 rfl) h2
theorem call2 {g : List D → Option D} {f f' : Env → Option D} {env : Env} {d d' r : D} (h1 : f env = some d) (h1' : f' env = some d') (h2 : g [d, d'] = some r) : fCall g (fCons f (fCons f' fNil)) env = some r := call_of (cons_of h1 (cons_of h1' rfl)) h2
theorem call3 {g : List D → Option D} {f f' f'' : Env → Option D} {env : Env} {d d' d'' r : D} (h1 : f env = some d) (h1' : f' env = some d') (h1'' : f'' env = some d'') (h2 : g [d, d', d''] = some r) : fCall g (fCons f (fCons f' (fCons f'' fNil))) env = some r := call_of (cons_of h1 (cons_of h1' (cons_of h1'' rfl))) h2
theorem tup_of {fs : Env → Option (List D)} {env : Env} {ds : List D} (h1 : fs env = some ds) (h : ds.length ≤ 1000000) : fTup fs env = some (.tuple ds) := by
  unfold fTup; rw [h1]; show (if _ then _ else _) = _; rw [if_pos (Nat.le_trans h sizeLine_big)]
theorem lst_of {fs : Env → Option (List D)} {env : Env} {ds : List D} (h1 : fs env = some ds) (h : ds.length ≤ 1000000) : fLst fs env = some (.list ds) := by
  unfold fLst; rw [h1]; show (if _ then _ else _) = _; rw [if_pos (Nat.le_trans h sizeLine_big)]
theorem mulD_r {i j : Int} (h0 : -18446744073709551616 < j) (h1 : j < 18446744073709551616) : mulD (.int i) (.int j) = some (.int (i * j)) := by
  show (if CMul i j ∨ CMulW i j then _ else _) = _
  rw [if_pos (.inl (.inr ⟨h0, h1⟩))]
theorem mulD_l {i j : Int} (h0 : -18446744073709551616 < i) (h1 : i < 18446744073709551616) : mulD (.int i) (.int j) = some (.int (i * j)) := by
  show (if CMul i j ∨ CMulW i j then _ else _) = _
  rw [if_pos (.inl (.inl ⟨h0, h1⟩))]
theorem modD_p {i j : Int} (h : 0 < j) : modD (.int i) (.int j) = some (.int (i % j)) := by
  show (if 0 < j then _ else _) = _
  rw [if_pos h]
theorem fdivD_p {i j : Int} (h : 0 < j) (h2 : j < 1073741824) : fdivD (.int i) (.int j) = some (.int (i / j)) := by
  show (if CDiv i j ∨ CDivW i j then _ else _) = _
  rw [if_pos (.inl ⟨h, h2⟩)]
theorem appD_of {ds : List D} {d : D} (h : ds.length < 1000000) : appD (.list ds) d = some (.list (ds ++ [d])) := by
  show (if ds.length < sizeLine then _ else _) = _
  rw [if_pos (Nat.lt_of_lt_of_le h sizeLine_big)]
def B_cell : DL.Env → Option Out :=
  (fSeq (fIfS (fCmp ltD (fVb 1) (fCall lenD (fCons (fVb 0) fNil))) (fRet (f2 idxD (fV 0) (fVb 1))) fNop)
  (fRet (fC (.int 0))))
theorem cell_base (ns : List Int) (k : Nat) : runF 2 2 B_cell [scrD ns, .int k] = some (.int (cellI ns k)) := by
  refine runF_of rfl (run_seq (run_if (b := decide ((k : Int) < ((ns.map PyData.int).length : Nat))) rfl (fun h => ?_) fun h => run_nop ?_))
  · have hk : k < ns.length := by simpa using of_decide_eq_true h
    refine run_ret (d := .int (cellI ns k)) ?_ (.inl ⟨_, rfl⟩)
    show L2.atI (ns.map PyData.int) (k : Int) = _
    rw [atI_nat, List.getElem?_map, List.getElem?_eq_getElem hk]
    unfold cellI
    rw [List.getD_eq_getElem?_getD, List.getElem?_eq_getElem hk]
    rfl
  · have hk : ¬ k < ns.length := by simpa using of_decide_eq_false h
    have : cellI ns k = 0 := by unfold cellI; rw [List.getD_eq_getElem?_getD, List.getElem?_eq_none (by omega)]; rfl
    rw [this]
    exact run_ret (d := .int 0) rfl (.inl ⟨_, rfl⟩)
def B_parts : DL.Env → Option Out :=
  (fSeq (fSetF 2 (fLst fNil))
  (fSeq (fSet 3 (f2 subD (fVb 0) (f2 powD (fC (.int 10)) (fC (.int 18)))))
  (fSeq (fFor (fRange1 (fCall lenD (fCons (fVb 1) fNil))) (gN 4) (fIfS (fCmp geD (fVb 3) (fC (.int 0))) (fSeq (fMut 2 appD (f2 modD (fCall intD (fCons (fVb 3) fNil)) (f2 idxD (fVb 1) (fVb 4))))
  (fSet 3 (f2 fdivD (fVb 3) (f2 idxD (fVb 1) (fVb 4))))) (fSeq (fSet 5 (f2 modD (fCall intD (fCons (f2 addD (f2 addD (f2 mulD (fVb 0) (fC (.int 48271))) (f2 mulD (fVb 4) (fC (.int 69621)))) (fC (.int 11))) fNil)) (fC (.int 2147483647))))
  (fSeq (fSet 5 (f2 modD (fCall intD (fCons (f2 addD (f2 addD (f2 mulD (fVb 5) (fVb 5)) (f2 mulD (fC (.int 16807)) (fVb 4))) (fC (.int 5))) fNil)) (fC (.int 998244353))))
  (fMut 2 appD (f2 modD (fCall intD (fCons (f2 fdivD (fVb 5) (fC (.int 7))) fNil)) (f2 idxD (fVb 1) (fVb 4))))))))
  (fFrz 2 (fRet (fV 2))))))
theorem pw18 {env : Env} : f2 powD (fC (.int 10)) (fC (.int 18)) env = some (.int (10 ^ 18)) := by
  show (if CPow 10 18 then some (PyData.int ((10 : Int) ^ (18 : Int).toNat)) else none) = _
  rw [if_pos ⟨by decide, by decide, by decide⟩]
  rfl
theorem parts_base (c : Int) (ms : List Int) (hp : ∀ m ∈ ms, 0 < m ∧ m < 1000000) (hl : ms.length ≤ 100000) : runF 2 6 B_parts [.int c, .list (ms.map .int)] = some (.list ((partsI c ms).map .int)) := by
  refine runF_of rfl (run_seq (run_setF (d := .list []) rfl rfl (run_seq (run_set (d := .int (c - 10 ^ 18)) (f2_of rfl pw18 rfl) rfl (run_seq ?_)))))
  have hr : fRange1 (fCall lenD (fCons (fVb 1) fNil)) [Slot.fz (.int c), .fz (.list (ms.map .int)), .own (.list []), .fz (.int (c - 10 ^ 18)), .emp, .emp] = some (rngD 0 ms.length) := by
    have h1 : fCall lenD (fCons (fVb 1) fNil) [Slot.fz (.int c), .fz (.list (ms.map .int)), .own (.list []), .fz (.int (c - 10 ^ 18)), .emp, .emp] = some (.int ((ms.length : Nat) : Int)) := by
      refine call1 (d := .list (ms.map .int)) rfl ?_
      show some (PyData.int (((ms.map PyData.int).length : Nat) : Int)) = _
      rw [List.length_map]
    exact fr1 h1 (B62_small (by omega) (by omega))
  refine run_for hr (fun i env => ∃ (acc : List Int) (l : Int) (x y : Slot), env = [.fz (.int c), .fz (.list (ms.map .int)), .own (.list (acc.map .int)), .fz (.int l), x, y] ∧ x.free = true ∧ y.free = true ∧ acc.length = i ∧ acc ++ partsGo (ms.drop i) i c l = partsI c ms)
    ⟨[], _, _, _, rfl, rfl, rfl, rfl, rfl⟩ ?_ ?_
  · rintro i d env hd ⟨acc, l, x, y, rfl, hx, hy, ha, hE⟩
    obtain ⟨hi, rfl⟩ := rngD_get hd
    rw [Int.zero_add]
    have hm := hp ms[i] (List.getElem_mem hi)
    have hdr : ms.drop i = ms[i] :: ms.drop (i + 1) := List.drop_eq_getElem_cons hi
    rw [hdr] at hE
    have hix : ∀ s2 s3 s5, f2 idxD (fVb 1) (fVb 4) [Slot.fz (.int c), .fz (.list (ms.map .int)), s2, s3, .fz (.int i), s5] = some (.int ms[i]) := fun s2 s3 s5 => by
      show L2.atI (ms.map PyData.int) (i : Int) = _
      rw [atI_nat, List.getElem?_map, List.getElem?_eq_getElem hi]
      rfl
    have hal : (acc.map PyData.int).length < 1000000 := by rw [List.length_map]; omega
    have mapp : ∀ v : Int, acc.map PyData.int ++ [.int v] = (acc ++ [v]).map PyData.int := fun v => by simp
    refine ⟨[.fz (.int c), .fz (.list (ms.map .int)), .own (.list (acc.map .int)), .fz (.int l), .fz (.int i), y], ?_, ?_⟩
    · show (if x.free = true then _ else _) = _
      rw [if_pos hx]; rfl
    refine run_if (b := decide (l ≥ 0)) rfl (fun h => ?_) fun h => ?_
    · have h0 : 0 ≤ l := of_decide_eq_true h
      refine run_seq (run_mut (d := .int (l % ms[i])) (env' := [.fz (.int c), .fz (.list (ms.map .int)), .own (.list ((acc ++ [l % ms[i]]).map .int)), .fz (.int l), .fz (.int i), y]) (f2_of (d := .int l) rfl (hix _ _ _) (modD_p hm.1)) ?_ ?_)
      · show (appD (.list (acc.map .int)) (.int (l % ms[i]))).map _ = _
        rw [appD_of hal, mapp]; rfl
      · refine run_set (d := .int (l / ms[i])) (f2_of (d := .int l) rfl (hix _ _ _) (fdivD_p hm.1 (by omega))) rfl ?_
        refine ⟨_, _, _, _, rfl, rfl, hy, by simp [ha], ?_⟩
        unfold partsGo at hE
        rw [if_pos h0] at hE
        simpa using hE
    · have h0 : ¬ 0 ≤ l := of_decide_eq_false h
      let a1 : Int := (c * 48271 + (i : Int) * 69621 + 11) % 2147483647
      have b1 : 0 ≤ a1 := Int.emod_nonneg _ (by decide)
      have b2 : a1 < 2147483647 := Int.emod_lt_of_pos _ (by decide)
      let a2 : Int := (a1 * a1 + 16807 * (i : Int) + 5) % 998244353
      refine run_seq (run_set (d := .int a1) (env' := [.fz (.int c), .fz (.list (ms.map .int)), .own (.list (acc.map .int)), .fz (.int l), .fz (.int i), .fz (.int a1)]) ?_ ?_ ?_)
      · exact f2_of (call1 (f2_of (f2_of (f2_of (d := .int c) rfl rfl (mulD_r (by decide) (by decide))) (f2_of (d := .int i) rfl rfl (mulD_r (by decide) (by decide))) rfl) rfl rfl) rfl) rfl (modD_p (by decide))
      · show (if y.free = true then _ else _) = _
        rw [if_pos hy]; rfl
      refine run_seq (run_set (d := .int a2) (env' := [.fz (.int c), .fz (.list (ms.map .int)), .own (.list (acc.map .int)), .fz (.int l), .fz (.int i), .fz (.int a2)]) ?_ rfl ?_)
      · exact f2_of (call1 (f2_of (f2_of (f2_of (d := .int a1) rfl rfl (mulD_r (by omega) (by omega))) (f2_of (e := .int i) rfl rfl (mulD_l (by decide) (by decide))) rfl) rfl rfl) rfl) rfl (modD_p (by decide))
      refine run_mut (d := .int (a2 / 7 % ms[i])) (env' := [.fz (.int c), .fz (.list (ms.map .int)), .own (.list ((acc ++ [a2 / 7 % ms[i]]).map .int)), .fz (.int l), .fz (.int i), .fz (.int a2)]) (f2_of (call1 (f2_of (d := .int a2) rfl rfl (fdivD_p (by decide) (by decide))) rfl) (hix _ _ _) (modD_p hm.1)) ?_ ?_
      · show (appD (.list (acc.map .int)) (.int (a2 / 7 % ms[i]))).map _ = _
        rw [appD_of hal, mapp]; rfl
      · refine ⟨_, _, _, _, rfl, rfl, rfl, by simp [ha], ?_⟩
        unfold partsGo at hE
        rw [if_neg h0] at hE
        simpa using hE
  · rintro env ⟨acc, l, x, y, rfl, hx, hy, ha, hE⟩
    rw [rngD_len] at ha
    rw [rngD_len, List.drop_length] at hE
    have e : acc = partsI c ms := by rw [← hE]; unfold partsGo; simp
    refine run_frz (run_ret (d := .list (acc.map .int)) rfl (.inl ⟨_, by rw [e]⟩))
end DL
set_option Elab.async false
set_option linter.all false
set_option maxRecDepth 100000
namespace DL
open PySem L2
/-! E2: shapes, ==, in. -/
structure OkD (k : Nat) (d : D) : Prop where
  nd : noDict d = true
  cl : d.canLay0 = true
  dp : d.depth ≤ k
theorem OkD.mono {k m : Nat} {d : D} (h : OkD k d) (hm : k ≤ m := by omega) : OkD m d := ⟨h.nd, h.cl, Nat.le_trans h.dp hm⟩
theorem ok_int {k : Nat} {i : Int} : OkD k (.int i) := ⟨rfl, rfl, Nat.zero_le _⟩
theorem ok_bool {k : Nat} {i : Bool} : OkD k (.bool i) := ⟨rfl, rfl, Nat.zero_le _⟩
theorem ok_none {k : Nat} : OkD k .none := ⟨rfl, rfl, Nat.zero_le _⟩
theorem ok_str {k : Nat} {x : Str} (h : (PyData.str x).canLay0 = true) : OkD k (.str x) := ⟨rfl, h, Nat.zero_le _⟩
theorem ok_all {k : Nat} : ∀ {ds : List D}, (∀ d ∈ ds, OkD k d) → noDictL ds = true ∧ PyData.canLayAll0 ds = true ∧ PyData.depthAll ds ≤ k
  | [], _ => ⟨rfl, rfl, Nat.zero_le _⟩
  | d :: ds, h => by
    obtain ⟨h1, h2, h3⟩ := ok_all (ds := ds) fun x hx => h x (by simp [hx])
    have h0 := h d (by simp)
    refine ⟨?_, ?_, ?_⟩
    · show (noDict d && noDictL ds) = true
      rw [h0.nd, h1]; rfl
    · show (d.canLay0 && PyData.canLayAll0 ds) = true
      rw [h0.cl, h2]; rfl
    · show max d.depth (PyData.depthAll ds) ≤ k
      have := h0.dp
      omega
theorem ok_list {k : Nat} {ds : List D} (h : ∀ d ∈ ds, OkD k d) : OkD (k + 1) (.list ds) := by
  obtain ⟨h1, h2, h3⟩ := ok_all h
  exact ⟨h1, h2, Nat.succ_le_succ h3⟩
theorem ok_tup {k : Nat} {ds : List D} (h : ∀ d ∈ ds, OkD k d) : OkD (k + 1) (.tuple ds) := by
  obtain ⟨h1, h2, h3⟩ := ok_all h
  exact ⟨h1, h2, Nat.succ_le_succ h3⟩
theorem OkD.shape {d : D} (h : OkD 64 d) : shapeD d = true := by
  unfold shapeD SeqAt.shaped
  rw [h.nd, h.cl, decide_eq_true h.dp]
  rfl
theorem ok_ints {k : Nat} (ns : List Int) : OkD (k + 1) (.list (ns.map .int)) := ok_list fun d hd => by
  obtain ⟨i, _, rfl⟩ := List.mem_map.mp hd
  exact ok_int
theorem eqD_of {d e : D} (h1 : OkD 64 d) (h2 : OkD 64 e) : eqD d e = some (PyData.eqv d e) := by
  unfold eqD; rw [h1.shape, h2.shape]; rfl
theorem neD_of {d e : D} (h1 : OkD 64 d) (h2 : OkD 64 e) : neD d e = some (!PyData.eqv d e) := by
  unfold neD; rw [h1.shape, h2.shape]; rfl
theorem inD_of {d : D} {es : List D} (h1 : OkD 64 d) (h2 : OkD 64 (.list es)) : inD d (.list es) = some (es.any fun z => PyData.eqv z d) := by
  show (if shapeD d && shapeD (.list es) then _ else _) = _
  rw [h1.shape, h2.shape]; rfl
theorem ninD_of {d : D} {es : List D} (h1 : OkD 64 d) (h2 : OkD 64 (.list es)) : ninD d (.list es) = some (!es.any fun z => PyData.eqv z d) := by
  show (if shapeD d && shapeD (.list es) then _ else _) = _
  rw [h1.shape, h2.shape]; rfl
theorem eqv_int (a b : Int) : PyData.eqv (.int a) (.int b) = decide (a = b) := by
  show (a == b) = _
  by_cases h : a = b
  · rw [h]; simp
  · simp [h]
theorem eqv_bool (a b : Bool) : PyData.eqv (.bool a) (.bool b) = decide (a = b) := by cases a <;> cases b <;> rfl
theorem any_int (v : Int) : ∀ ns : List Int, ((ns.map PyData.int).any fun z => PyData.eqv z (.int v)) = decide (v ∈ ns)
  | [] => by simp
  | n :: ns => by
    rw [List.map_cons, List.any_cons, any_int v ns, eqv_int]
    by_cases h : n = v
    · subst h; simp
    · have h' : ¬ v = n := fun z => h z.symm
      simp [h, h']
theorem inD_ints {v : Int} {ns : List Int} : inD (.int v) (.list (ns.map .int)) = some (decide (v ∈ ns)) := by rw [inD_of ok_int (ok_ints ns), any_int]
theorem ninD_ints {v : Int} {ns : List Int} : ninD (.int v) (.list (ns.map .int)) = some (!decide (v ∈ ns)) := by rw [ninD_of ok_int (ok_ints ns), any_int]
theorem eqvAll_map {α : Type} {f : α → D} (h : ∀ a b, PyData.eqv (f a) (f b) = true ↔ a = b) : ∀ as bs : List α, PyData.eqvAll (as.map f) (bs.map f) = true ↔ as = bs
  | [], [] => by simp [PyData.eqvAll]
  | [], b :: bs => by simp [PyData.eqvAll]
  | a :: as, [] => by simp [PyData.eqvAll]
  | a :: as, b :: bs => by
    rw [List.map_cons, List.map_cons]
    unfold PyData.eqvAll
    rw [Bool.and_eq_true, h, eqvAll_map h as bs]
    simp
theorem eqv_ints (as bs : List Int) : PyData.eqv (.list (as.map .int)) (.list (bs.map .int)) = decide (as = bs) := by
  show PyData.eqvAll _ _ = _
  have := eqvAll_map (f := PyData.int) (fun a b => by rw [eqv_int]; simp) as bs
  by_cases h : as = bs
  · rw [this.mpr h]; simp [h]
  · cases e : PyData.eqvAll (as.map .int) (bs.map .int) with
    | true => exact absurd (this.mp e) h
    | false => simp [h]
/-! ### lists of ints -/
theorem nodup_bound {L : List Int} (h : L.Nodup) {n : Nat} (hb : ∀ v ∈ L, 0 ≤ v ∧ v < n) : L.length ≤ n := by
  have := h.length_le_of_subset (l₂ := (List.range n).map fun i => ((i : Nat) : Int)) fun v hv => by
    obtain ⟨h0, h1⟩ := hb v hv
    exact List.mem_map.mpr ⟨v.toNat, List.mem_range.mpr (by omega), by omega⟩
  simpa using this
theorem len_eq {A B : List Int} (ha : A.Nodup) (hb : B.Nodup) (h : ∀ v, v ∈ A ↔ v ∈ B) : A.length = B.length := ((List.perm_ext_iff_of_nodup ha hb).mpr h).length_eq
end DL
set_option Elab.async false
set_option linter.all false
set_option maxRecDepth 100000
namespace DL
open PySem L2
/-! Q42: ways in a grid: closed sets. -/
inductive Kd where | bar | up | down
deriving DecidableEq
def kS : Kd → Str
  | .bar => "bar"
  | .up => "up"
  | .down => "down"
abbrev Br := Int × Int × Kd
def brD (b : Br) : D := .tuple [.int b.1, .int b.2.1, .str (kS b.2.2)]
def edg (r : Int) (b : Br) : List (Int × Int) := (if b.2.2 = .down then [] else [(b.1, r + b.2.1)]) ++ (if b.2.2 = .up then [] else [(r + b.2.1, b.1)])
def edges (r : Int) (bs : List Br) : List (Int × Int) := bs.flatMap (edg r)
abbrev Edges := List (Int × Int)
structure IsCl (E : Edges) (S L : List Int) : Prop where
  nd : L.Nodup
  sub : ∀ s ∈ S, s ∈ L
  cl : ∀ p ∈ E, p.1 ∈ L → p.2 ∈ L
  least : ∀ T : Int → Prop, (∀ s ∈ S, T s) → (∀ p ∈ E, T p.1 → T p.2) → ∀ v ∈ L, T v
theorem IsCl.mem_iff {E : Edges} {S L M : List Int} (h : IsCl E S L) (k : IsCl E S M) (v : Int) : v ∈ L ↔ v ∈ M :=
  ⟨h.least (· ∈ M) k.sub k.cl v, k.least (· ∈ L) h.sub h.cl v⟩
theorem IsCl.len {E : Edges} {S L M : List Int} (h : IsCl E S L) (k : IsCl E S M) : L.length = M.length := len_eq h.nd k.nd (h.mem_iff k)
def add1 (L : List Int) (p : Int × Int) : List Int := if p.1 ∈ L ∧ p.2 ∉ L then L ++ [p.2] else L
def rnd (E : Edges) (L : List Int) : List Int := E.foldl add1 L
theorem add1_len (L : List Int) (p : Int × Int) : L.length ≤ (add1 L p).length := by unfold add1; split <;> simp
theorem rnd_len : ∀ (E : Edges) (L : List Int), L.length ≤ (rnd E L).length
  | [], L => Nat.le_refl _
  | p :: E, L => Nat.le_trans (add1_len L p) (rnd_len E (add1 L p))
theorem rnd_stop : ∀ {E : Edges} {L : List Int}, (rnd E L).length = L.length → ∀ p ∈ E, p.1 ∈ L → p.2 ∈ L
  | [], L, _, p, hp, _ => by simp at hp
  | q :: E, L, h, p, hp, h1 => by
    have h2 := rnd_len E (add1 L q)
    have h3 := add1_len L q
    have h4 : (rnd E (add1 L q)).length = L.length := h
    have e : add1 L q = L := by
      unfold add1 at h2 h3 h4 ⊢
      split
      · rename_i hc; rw [if_pos hc] at h2 h3 h4; simp at h2 h3 h4; omega
      · rfl
    rw [e] at h4
    rcases List.mem_cons.mp hp with rfl | hp
    · unfold add1 at e
      split at e
      · have := congrArg List.length e; simp at this
      · rename_i hc
        by_cases h5 : p.2 ∈ L
        · exact h5
        · exact absurd ⟨h1, h5⟩ hc
    · exact rnd_stop h4 p hp h1
theorem rnd_closed : ∀ {E : Edges} {L : List Int}, (∀ p ∈ E, p.1 ∈ L → p.2 ∈ L) → rnd E L = L
  | [], L, _ => rfl
  | q :: E, L, h => by
    have e : add1 L q = L := by
      unfold add1
      rw [if_neg (fun z => z.2 (h q (by simp) z.1))]
    show rnd E (add1 L q) = L
    rw [e]
    exact rnd_closed fun p hp => h p (by simp [hp])
def rnds (E : Edges) : Nat → List Int → List Int
  | 0, L => L
  | n + 1, L => rnd E (rnds E n L)
theorem rnds_grow {E : Edges} {L : List Int} : ∀ n, (∀ p ∈ E, p.1 ∈ rnds E n L → p.2 ∈ rnds E n L) ∨ L.length + n ≤ (rnds E n L).length
  | 0 => .inr (Nat.le_refl _)
  | n + 1 => by
    rcases rnds_grow (E := E) (L := L) n with h | h
    · left
      show ∀ p ∈ E, p.1 ∈ rnd E (rnds E n L) → p.2 ∈ rnd E (rnds E n L)
      rw [rnd_closed h]; exact h
    · have h2 := rnd_len E (rnds E n L)
      by_cases e : (rnd E (rnds E n L)).length = (rnds E n L).length
      · left
        have h3 := rnd_stop e
        show ∀ p ∈ E, p.1 ∈ rnd E (rnds E n L) → p.2 ∈ rnd E (rnds E n L)
        rw [rnd_closed h3]; exact h3
      · right
        show L.length + (n + 1) ≤ (rnd E (rnds E n L)).length
        omega
/-- what every list keeps that is made so -/
structure Mk (E : Edges) (S L : List Int) : Prop where
  nd : L.Nodup
  sub : ∀ s ∈ S, s ∈ L
  least : ∀ T : Int → Prop, (∀ s ∈ S, T s) → (∀ p ∈ E, T p.1 → T p.2) → ∀ v ∈ L, T v
theorem Mk.add {E : Edges} {S L : List Int} (h : Mk E S L) {w : Int} (hw : w ∉ L) (hE : ∃ p ∈ E, p.1 ∈ L ∧ p.2 = w) : Mk E S (L ++ [w]) := by
  obtain ⟨p, hp, h1, h2⟩ := hE
  refine ⟨?_, fun s hs => by simp [h.sub s hs], fun T h3 h4 v hv => ?_⟩
  · exact List.nodup_append.mpr ⟨h.nd, by simp, fun a ha b hb => by
      have : b = w := by simpa using hb
      rw [this]; exact fun e => hw (e ▸ ha)⟩
  · rcases List.mem_append.mp hv with hv | hv
    · exact h.least T h3 h4 v hv
    · have : v = w := by simpa using hv
      rw [this, ← h2]
      exact h4 p hp (h.least T h3 h4 _ h1)
theorem Mk.add1 {E : Edges} {S L : List Int} (h : Mk E S L) {p : Int × Int} (hp : p ∈ E) : Mk E S (add1 L p) := by
  unfold DL.add1
  split
  · rename_i hc; exact h.add hc.2 ⟨p, hp, hc.1, rfl⟩
  · exact h
theorem Mk.rnd {E : Edges} {S : List Int} : ∀ {F : Edges} {L : List Int}, (∀ p ∈ F, p ∈ E) → Mk E S L → Mk E S (rnd F L)
  | [], L, _, h => h
  | q :: F, L, hF, h => Mk.rnd (F := F) (fun p hp => hF p (by simp [hp])) (h.add1 (hF q (by simp)))
theorem Mk.rnds {E : Edges} {S L : List Int} (h : Mk E S L) : ∀ n, Mk E S (rnds E n L)
  | 0 => h
  | n + 1 => (Mk.rnds h n).rnd fun p hp => hp
theorem Mk.bound {E : Edges} {S L : List Int} (h : Mk E S L) {n : Int} (hS : ∀ s ∈ S, 0 ≤ s ∧ s < n) (hE : ∀ p ∈ E, 0 ≤ p.2 ∧ p.2 < n) : ∀ v ∈ L, 0 ≤ v ∧ v < n :=
  h.least (fun v => 0 ≤ v ∧ v < n) hS fun p hp _ => hE p hp
theorem Mk.start {E : Edges} {S : List Int} (h : S.Nodup) : Mk E S S := ⟨h, fun s h => h, fun T h1 _ v hv => h1 v hv⟩
theorem leads_cl {E : Edges} {S : List Int} {n : Nat} (hS : S.Nodup) (hn : n ≤ 6) (hb : ∀ s ∈ S, 0 ≤ s ∧ s < n) (hE : ∀ p ∈ E, 0 ≤ p.2 ∧ p.2 < n) : IsCl E S (rnds E 7 S) := by
  have hM := (Mk.start (E := E) hS).rnds 7
  refine ⟨hM.nd, hM.sub, ?_, hM.least⟩
  rcases rnds_grow (E := E) (L := S) 7 with h | h
  · exact h
  · have := nodup_bound hM.nd (n := n) (hM.bound hb hE)
    omega
/-! ### the dict of ways -/
def succ (dl : DLi) (v : Int) : List Int := match dl.find? fun kv => decide (kv.1 = .inl v) with | some kv => kv.2 | none => []
theorem any_find {dl : DLi} {k : Key} : (dl.any fun kv => decide (kv.1 = k)) = (dl.find? fun kv => decide (kv.1 = k)).isSome := by
  induction dl with
  | nil => rfl
  | cons p dl ih =>
    rw [List.any_cons, List.find?_cons]
    cases h : decide (p.1 = k) with
    | true => rfl
    | false => simpa using ih
theorem succ_add (dl : DLi) (a b v : Int) : succ (addDl dl (.inl a) b) v = if v = a then succ dl v ++ [b] else succ dl v := by
  unfold addDl
  by_cases h : (dl.any fun kv => decide (kv.1 = .inl a)) = true
  · rw [if_pos h]
    induction dl with
    | nil => cases h
    | cons p dl ih =>
      show succ ((if p.1 = .inl a then (p.1, p.2 ++ [b]) else p) :: addIn dl (.inl a) b) v = _
      by_cases hp : p.1 = .inl a
      · rw [if_pos hp]
        by_cases hv : v = a
        · subst hv
          simp [succ, List.find?_cons, hp]
        · have hva : ¬ (p.1 = Sum.inl v) := fun z => hv (by rw [hp] at z; cases z; rfl)
          rw [if_neg hv]
          have e : succ (addIn dl (.inl a) b) v = succ dl v := by
            clear ih h
            induction dl with
            | nil => rfl
            | cons q dl ih2 =>
              show succ ((if q.1 = .inl a then (q.1, q.2 ++ [b]) else q) :: addIn dl (.inl a) b) v = _
              by_cases hq : q.1 = .inl a
              · rw [if_pos hq]
                have hqa : ¬ (q.1 = Sum.inl v) := fun z => hv (by rw [hq] at z; cases z; rfl)
                simpa [succ, List.find?_cons, hqa] using ih2
              · rw [if_neg hq]
                by_cases hqv : q.1 = .inl v
                · simp [succ, List.find?_cons, hqv]
                · simpa [succ, List.find?_cons, hqv] using ih2
          simpa [succ, List.find?_cons, hva] using e
      · rw [if_neg hp]
        have h' : (dl.any fun kv => decide (kv.1 = .inl a)) = true := by simpa [List.any_cons, hp] using h
        by_cases hpv : p.1 = .inl v
        · have hv : ¬ v = a := fun z => hp (by rw [hpv, z])
          simp [succ, List.find?_cons, hpv, hv]
        · simpa [succ, List.find?_cons, hpv] using ih h'
  · rw [if_neg h]
    have hno : dl.find? (fun kv => decide (kv.1 = Sum.inl a)) = none := by
      rw [any_find] at h
      cases e : dl.find? (fun kv => decide (kv.1 = Sum.inl a)) with
      | none => rfl
      | some x => rw [e] at h; exact absurd rfl h
    unfold succ
    rw [List.find?_append]
    by_cases hv : v = a
    · subst hv
      rw [hno]; simp [List.find?_cons]
    · rw [if_neg hv]
      cases e : dl.find? (fun kv => decide (kv.1 = Sum.inl v)) with
      | some x => rfl
      | none =>
        have : ¬ (Sum.inl a = (Sum.inl v : Key)) := fun z => hv (by cases z; rfl)
        simp [List.find?_cons, this]
def waysE (E : Edges) (dl : DLi) : DLi := E.foldl (fun dl p => addDl dl (.inl p.1) p.2) dl
theorem succ_ways : ∀ (E : Edges) (dl : DLi) (v w : Int), w ∈ succ (waysE E dl) v ↔ w ∈ succ dl v ∨ (v, w) ∈ E
  | [], dl, v, w => by simp [waysE]
  | p :: E, dl, v, w => by
    show w ∈ succ (waysE E (addDl dl (.inl p.1) p.2)) v ↔ _
    rw [succ_ways E, succ_add]
    by_cases h : v = p.1
    · rw [if_pos h, List.mem_append, List.mem_singleton, List.mem_cons, or_assoc]
      have : (v, w) = p ↔ w = p.2 := ⟨fun z => by rw [← z], fun z => by rw [h, z]⟩
      rw [this]
    · rw [if_neg h, List.mem_cons]
      have : ¬ (v, w) = p := fun z => h (by rw [← z])
      simp [this]
def szDl (dl : DLi) : Nat := dl.length + (dl.map fun kv => kv.2.length).sum
theorem sz_addIn (dl : DLi) (hk : (dl.map (·.1)).Nodup) (k : Key) (x : Int) : szDl (addIn dl k x) ≤ szDl dl + 1 := by
  induction dl with
  | nil => simp [addIn, szDl]
  | cons p dl ih =>
    have hk' := (List.nodup_cons (a := p.1) (l := List.map Prod.fst dl)).mp hk
    have ih := ih hk'.2
    show szDl ((if p.1 = k then (p.1, p.2 ++ [x]) else p) :: addIn dl k x) ≤ _
    by_cases h : p.1 = k
    · rw [if_pos h]
      have : addIn dl k x = dl := addIn_no (by rw [← h]; exact hk'.1)
      rw [this]
      simp [szDl]; omega
    · rw [if_neg h]
      unfold szDl at ih ⊢
      simp only [List.length_cons, List.map_cons, List.sum_cons] at ih ⊢
      omega
theorem keys_add {dl : DLi} (hk : (dl.map (·.1)).Nodup) (k : Key) (x : Int) : ((addDl dl k x).map (·.1)).Nodup := by
  unfold addDl
  split
  · rw [addIn_keys]; exact hk
  · rename_i h
    rw [List.map_append]
    refine List.nodup_append.mpr ⟨hk, by simp, fun a ha b hb => ?_⟩
    have : b = k := by simpa using hb
    rw [this]
    exact fun e => h (any_key.mpr (e ▸ ha))
theorem sz_add {dl : DLi} (hk : (dl.map (·.1)).Nodup) (k : Key) (x : Int) : szDl (addDl dl k x) ≤ szDl dl + 2 := by
  unfold addDl
  split
  · have := sz_addIn dl hk k x; omega
  · simp [szDl]; omega
theorem fit_of {dl : DLi} (h : szDl dl < 1000000) : dlFit dl = true := by
  have hb := sizeLine_big
  unfold szDl at h
  unfold dlFit
  rw [Bool.and_eq_true, decide_eq_true_eq, List.all_eq_true]
  refine ⟨by omega, fun kv hkv => decide_eq_true ?_⟩
  have : kv.2.length ≤ (dl.map fun kv => kv.2.length).sum := by
    clear h
    induction dl with
    | nil => simp at hkv
    | cons p dl ih =>
      rw [List.map_cons, List.sum_cons]
      rcases List.mem_cons.mp hkv with rfl | hkv
      · omega
      · have := ih hkv; omega
  omega
/-! ### dicts of places -/
def setDD (F : List Int) : D := .dict (F.map fun v => (.int v, .bool true))
theorem lookD_set (w : Int) : ∀ F : List Int, lookD (F.map fun v => (PyData.int v, PyData.bool true)) (.int w) = if w ∈ F then some (.bool true) else none
  | [] => rfl
  | v :: F => by
    by_cases h : v = w
    · subst h; simp [lookD, List.find?_cons, dkEq]
    · have ih := lookD_set w F
      have h' : ¬ w = v := fun z => h z.symm
      unfold lookD at ih ⊢
      simp [List.find?_cons, dkEq, h, h'] at ih ⊢
      exact ih
theorem look_set (F : List Int) (w : Int) : dLook (setDD F) (.int w) = some (if w ∈ F then some (.bool true) else none) := by
  cases F with
  | nil => rfl
  | cons v F => exact congrArg some (lookD_set w (v :: F))
theorem any_set (w : Int) : ∀ F : List Int, ((F.map fun v => (PyData.int v, PyData.bool true)).any fun p => dkEq p.1 (.int w)) = decide (w ∈ F)
  | [] => rfl
  | v :: F => by
    rw [List.map_cons, List.any_cons, any_set w F]
    by_cases h : v = w
    · subst h; simp [dkEq]
    · have h' : ¬ w = v := fun z => h z.symm
      simp [dkEq, h, h']
theorem put_set {F : List Int} {w : Int} (h : w ∉ F) (hF : F.length < 1000000) : dPut (setDD F) (.int w) (.bool true) = some (setDD (F ++ [w])) := by
  have e : putDs (F.map fun v => (PyData.int v, PyData.bool true)) (.int w) (.bool true) = (F ++ [w]).map fun v => (PyData.int v, PyData.bool true) := by
    unfold putDs
    rw [any_set, if_neg (by simpa using h)]
    simp
  cases F with
  | nil => exact congrArg (fun x => some (PyData.dict x)) e
  | cons v F =>
    show (if (List.map (fun v => (PyData.int v, PyData.bool true)) (v :: F)).length < sizeLine then some (PyData.dict (putDs (List.map (fun v => (PyData.int v, PyData.bool true)) (v :: F)) (.int w) (.bool true))) else none) = _
    rw [e, if_pos (by rw [List.length_map]; exact Nat.lt_of_lt_of_le hF sizeLine_big)]; rfl
theorem dlen_set {f : Env → Option D} {env : Env} {F : List Int} (h : f env = some (setDD F)) : fDLen f env = some (.int (F.length : Nat)) := by
  unfold fDLen
  rw [h]
  cases F with
  | nil => rfl
  | cons v F => show some (PyData.int (((List.map _ (v :: F)).length : Nat) : Int)) = _; rw [List.length_map]
theorem look_dl (dl : DLi) (hI : ∀ kv ∈ dl, ∃ i, kv.1 = .inl i) (u : Int) : dLook (dlD dl) (.int u) = some ((dl.find? fun kv => decide (kv.1 = .inl u)).map fun kv => .list (kv.2.map .int)) := by
  have key : ∀ dl : DLi, (∀ kv ∈ dl, ∃ i, kv.1 = .inl i) → lookD (dl.map fun kv => (keyD kv.1, PyData.list (kv.2.map .int))) (.int u) = (dl.find? fun kv => decide (kv.1 = .inl u)).map fun kv => PyData.list (kv.2.map .int) := by
    intro dl
    induction dl with
    | nil => intro _; rfl
    | cons p dl ih =>
      intro h
      obtain ⟨i, hi⟩ := h p (by simp)
      have ih := ih fun kv hkv => h kv (by simp [hkv])
      obtain ⟨k, xs⟩ := p
      simp only at hi
      subst hi
      unfold lookD at ih ⊢
      by_cases hu : i = u
      · subst hu; simp [List.find?_cons, keyD, dkEq]
      · have hne : ¬ ((Sum.inl i : Key) = Sum.inl u) := fun z => hu (by cases z; rfl)
        simp [List.find?_cons, keyD, dkEq, hu, hne] at ih ⊢
        exact ih
  cases dl with
  | nil => rfl
  | cons p dl =>
    obtain ⟨i, hi⟩ := hI p (by simp)
    have := key (p :: dl) hI
    obtain ⟨k, xs⟩ := p
    simp only at hi
    subst hi
    exact congrArg some this
end DL
set_option Elab.async false
set_option linter.all false
set_option maxRecDepth 100000
set_option maxHeartbeats 4000000
namespace G
open PySem L2 DL
def topS (i : Nat) : Stmt := PySem.Challenge.pw_loadorloose_k43_motions_of_grids.main.body.getD i (.Pass ⟨0, 0, 0, 0⟩)
structure Bl (mg : Str → Option Value) : Prop where
  abs : mg "abs" = none
  bool : mg "bool" = none
  int : mg "int" = none
  isinstance : mg "isinstance" = none
  len : mg "len" = none
  list : mg "list" = none
  max : mg "max" = none
  min : mg "min" = none
  range : mg "range" = none
  sum : mg "sum" = none
  tuple : mg "tuple" = none
abbrev s_ways : Stmt := topS 1
abbrev N_ways : List Str := ["r", "braces", "found", "row", "column", "kind"]
theorem sc_ways : FnScope N_ways ["r", "braces"] (defScope s_ways) := ⟨rfl, rfl, rfl, by decide +kernel, rfl, by decide +kernel, by decide +kernel⟩
def e_ways : DL.Env → Option Out :=
  (fDl 2 (rFor (fun r => (fItems (fV 1))) (gTup (gCons (gN 3) (gCons (gN 4) (gCons (gN 5) gNil)))) (rSeq (rIf (tLift fun r => (fCmp neD (fVb 5) (fC (.str "down")))) (rSetdApp (fVb 3) (f2 addD (fVb 0) (fVb 4))) rNop)
  (rIf (tLift fun r => (fCmp neD (fVb 5) (fC (.str "up")))) (rSetdApp (f2 addD (fVb 0) (fVb 4)) (fVb 3)) rNop))))
def f_ways : List D → Option D := runF 2 6 e_ways
abbrev s_come_to : Stmt := topS 2
abbrev N_come_to : List Str := ["leading", "start", "found", "waiting", "following"]
theorem sc_come_to : FnScope N_come_to ["leading", "start"] (defScope s_come_to) := ⟨rfl, rfl, rfl, by decide +kernel, rfl, by decide +kernel, by decide +kernel⟩
noncomputable def e_come_to : DL.Env → Option Out :=
  (fSeq (fSetF 2 (fDisp (((fVb 1), (fC (.bool true))) :: [])))
  (fSeq (fSetF 3 (fLst (fCons (fV 1) fNil)))
  (fSeq (fWhile (fTru (fVb 3)) (fForX (xGet (fV 0) (xPop 3) (fLst fNil)) (gN 4) (fIfS (fDNin (fVb 4) (fVb 2)) (fSeq (fDPut 2 (fVb 4) (fC (.bool true)))
  (fMut 3 appD (fV 4))) fNop)))
  (fFrz 2 (fRet (fV 2))))))
noncomputable def f_come_to : List D → Option D := runF 2 5 e_come_to
abbrev s_parted : Stmt := topS 3
abbrev N_parted : List Str := ["r", "c", "braces", "leading", "start", "found", "row", "j"]
theorem sc_parted : FnScope N_parted ["r", "c", "braces"] (defScope s_parted) := ⟨rfl, rfl, rfl, by decide +kernel, rfl, by decide +kernel, by decide +kernel⟩
noncomputable def e_parted : DL.Env → Option Out :=
  (fSeq (fSet 3 (fCall f_ways (fCons (fV 0) (fCons (fV 2) fNil))))
  (fSeq (fFor (fRange1 (f2 addD (fVb 0) (fVb 1))) (gN 4) (fSeq (fSet 5 (fCall f_come_to (fCons (fV 3) (fCons (fV 4) fNil))))
  (fIfS (fCmp ltD (fDLen (fVb 5)) (f2 addD (fVb 0) (fVb 1))) (fRet (fTup (fCons (fLc (fRange1 (fVb 0)) (gN 6) (fDIn (fVb 6) (fVb 5)) (fV 6) [6]) (fCons (fLc (fRange1 (fVb 1)) (gN 7) (fDIn (f2 addD (fVb 0) (fVb 7)) (fVb 5)) (fV 7) [7]) fNil)))) fNop)))
  (fRet (fC .none))))
noncomputable def f_parted : List D → Option D := runF 3 8 e_parted
abbrev s_grid_motion : Stmt := topS 4
abbrev N_grid_motion : List Str := ["r", "c", "braces", "pair", "rows", "columns", "motion", "y", "x", "left", "row", "column"]
theorem sc_grid_motion : FnScope N_grid_motion ["r", "c", "braces"] (defScope s_grid_motion) := ⟨rfl, rfl, rfl, by decide +kernel, rfl, by decide +kernel, by decide +kernel⟩
noncomputable def e_grid_motion : DL.Env → Option Out :=
  (fSeq (fSet 3 (fCall f_parted (fCons (fV 0) (fCons (fV 1) (fCons (fV 2) fNil)))))
  (fSeq (fIfS (fIsN (fVb 3)) (fRet (fC .none)) fNop)
  (fSeq (fAsg (gTup (gCons (gN 4) (gCons (gN 5) gNil))) (fV 3))
  (fSeq (fSetF 6 (fLst fNil))
  (fSeq (fFor (fRange1 (f2 addD (fVb 0) (fC (.int 1)))) (gN 7) (fFor (fRange1 (f2 addD (fVb 1) (fC (.int 1)))) (gN 8) (fSeq (fSet 9 (fCall lenD (fCons (fLc (fRange1 (fVb 7)) (gN 10) (fCmp ninD (fVb 10) (fVb 4)) (fVb 10) [10]) fNil)))
  (fMut 6 appD (fTup (fCons (f1 negD (fVb 9)) (fCons (fCall lenD (fCons (fLc (fRange1 (fVb 8)) (gN 11) (fCmp ninD (fVb 11) (fVb 5)) (fVb 11) [11]) fNil)) fNil)))))))
  (fFrz 6 (fRet (fCall tupleD (fCons (fV 6) fNil)))))))))
noncomputable def f_grid_motion : List D → Option D := runF 3 12 e_grid_motion
abbrev s__law_cell : Stmt := topS 6
abbrev N__law_cell : List Str := ["_law_script", "_law_k"]
theorem sc__law_cell : FnScope N__law_cell ["_law_script", "_law_k"] (defScope s__law_cell) := ⟨rfl, rfl, rfl, by decide +kernel, rfl, by decide +kernel, by decide +kernel⟩
def e__law_cell : DL.Env → Option Out :=
  (fSeq (fIfS (fCmp ltD (fVb 1) (fCall lenD (fCons (fVb 0) fNil))) (fRet (f2 idxD (fV 0) (fVb 1))) fNop)
  (fRet (fC (.int 0))))
def f__law_cell : List D → Option D := runF 2 2 e__law_cell
abbrev s__law_parts : Stmt := topS 7
abbrev N__law_parts : List Str := ["_law_cell_here", "_law_sizes", "_law_parts_here", "_law_left", "_law_k", "_law_mixed"]
theorem sc__law_parts : FnScope N__law_parts ["_law_cell_here", "_law_sizes"] (defScope s__law_parts) := ⟨rfl, rfl, rfl, by decide +kernel, rfl, by decide +kernel, by decide +kernel⟩
def e__law_parts : DL.Env → Option Out :=
  (fSeq (fSetF 2 (fLst fNil))
  (fSeq (fSet 3 (f2 subD (fVb 0) (f2 powD (fC (.int 10)) (fC (.int 18)))))
  (fSeq (fFor (fRange1 (fCall lenD (fCons (fVb 1) fNil))) (gN 4) (fIfS (fCmp geD (fVb 3) (fC (.int 0))) (fSeq (fMut 2 appD (f2 modD (fCall intD (fCons (fVb 3) fNil)) (f2 idxD (fVb 1) (fVb 4))))
  (fSet 3 (f2 fdivD (fVb 3) (f2 idxD (fVb 1) (fVb 4))))) (fSeq (fSet 5 (f2 modD (fCall intD (fCons (f2 addD (f2 addD (f2 mulD (fVb 0) (fC (.int 48271))) (f2 mulD (fVb 4) (fC (.int 69621)))) (fC (.int 11))) fNil)) (fC (.int 2147483647))))
  (fSeq (fSet 5 (f2 modD (fCall intD (fCons (f2 addD (f2 addD (f2 mulD (fVb 5) (fVb 5)) (f2 mulD (fC (.int 16807)) (fVb 4))) (fC (.int 5))) fNil)) (fC (.int 998244353))))
  (fMut 2 appD (f2 modD (fCall intD (fCons (f2 fdivD (fVb 5) (fC (.int 7))) fNil)) (f2 idxD (fVb 1) (fVb 4))))))))
  (fFrz 2 (fRet (fV 2))))))
def f__law_parts : List D → Option D := runF 2 6 e__law_parts
abbrev s__law_is_integer : Stmt := topS 8
abbrev N__law_is_integer : List Str := ["_law_actual"]
theorem sc__law_is_integer : FnScope N__law_is_integer ["_law_actual"] (defScope s__law_is_integer) := ⟨rfl, rfl, rfl, by decide +kernel, rfl, by decide +kernel, by decide +kernel⟩
def e__law_is_integer : DL.Env → Option Out :=
  (fRet (fAnd (fIsi "int" (fVb 0)) (fNot (fIsi "bool" (fVb 0)))))
def f__law_is_integer : List D → Option D := runF 1 1 e__law_is_integer
abbrev s__law_divisor : Stmt := topS 9
abbrev N__law_divisor : List Str := ["_law_a", "_law_b", "_law_k"]
theorem sc__law_divisor : FnScope N__law_divisor ["_law_a", "_law_b"] (defScope s__law_divisor) := ⟨rfl, rfl, rfl, by decide +kernel, rfl, by decide +kernel, by decide +kernel⟩
def e__law_divisor : DL.Env → Option Out :=
  (fSeq (fSet 0 (fCall absD (fCons (fVb 0) fNil)))
  (fSeq (fSet 1 (fCall absD (fCons (fVb 1) fNil)))
  (fSeq (fFor (fRange1 (fC (.int 4000))) (gN 2) (fSeq (fIfS (fCmp eqD (fVb 1) (fC (.int 0))) (fRet (fV 0)) fNop)
  (fPar 0 1 (fCons (fV 1) (fCons (f2 modD (fCall intD (fCons (fVb 0) fNil)) (fVb 1)) fNil)))))
  (fRet (fV 0)))))
def f__law_divisor : List D → Option D := runF 2 3 e__law_divisor
abbrev s__law_number : Stmt := topS 10
abbrev N__law_number : List Str := ["_law_n", "_law_d", "_law_divisor_here"]
theorem sc__law_number : FnScope N__law_number ["_law_n", "_law_d"] (defScope s__law_number) := ⟨rfl, rfl, rfl, by decide +kernel, rfl, by decide +kernel, by decide +kernel⟩
def e__law_number : DL.Env → Option Out :=
  (fSeq (fSet 2 (fCall f__law_divisor (fCons (fV 0) (fCons (fV 1) fNil))))
  (fSeq (fIfS (fCmp ltD (fVb 1) (fC (.int 0))) (fSet 2 (f1 negD (fVb 2))) fNop)
  (fRet (fTup (fCons (f2 fdivD (fVb 0) (fVb 2)) (fCons (f2 fdivD (fVb 1) (fVb 2)) fNil))))))
def f__law_number : List D → Option D := runF 2 3 e__law_number
abbrev s__law_plus : Stmt := topS 11
abbrev N__law_plus : List Str := ["_law_a", "_law_b"]
theorem sc__law_plus : FnScope N__law_plus ["_law_a", "_law_b"] (defScope s__law_plus) := ⟨rfl, rfl, rfl, by decide +kernel, rfl, by decide +kernel, by decide +kernel⟩
def e__law_plus : DL.Env → Option Out :=
  (fRet (fCall f__law_number (fCons (f2 addD (f2 mulD (f2 idxD (fV 0) (fC (.int 0))) (f2 idxD (fV 1) (fC (.int 1)))) (f2 mulD (f2 idxD (fV 1) (fC (.int 0))) (f2 idxD (fV 0) (fC (.int 1))))) (fCons (f2 mulD (f2 idxD (fV 0) (fC (.int 1))) (f2 idxD (fV 1) (fC (.int 1)))) fNil))))
def f__law_plus : List D → Option D := runF 2 2 e__law_plus
abbrev s__law_times : Stmt := topS 12
abbrev N__law_times : List Str := ["_law_a", "_law_b"]
theorem sc__law_times : FnScope N__law_times ["_law_a", "_law_b"] (defScope s__law_times) := ⟨rfl, rfl, rfl, by decide +kernel, rfl, by decide +kernel, by decide +kernel⟩
def e__law_times : DL.Env → Option Out :=
  (fRet (fCall f__law_number (fCons (f2 mulD (f2 idxD (fV 0) (fC (.int 0))) (f2 idxD (fV 1) (fC (.int 0)))) (fCons (f2 mulD (f2 idxD (fV 0) (fC (.int 1))) (f2 idxD (fV 1) (fC (.int 1)))) fNil))))
def f__law_times : List D → Option D := runF 2 2 e__law_times
abbrev s__law_less : Stmt := topS 13
abbrev N__law_less : List Str := ["_law_a", "_law_b"]
theorem sc__law_less : FnScope N__law_less ["_law_a", "_law_b"] (defScope s__law_less) := ⟨rfl, rfl, rfl, by decide +kernel, rfl, by decide +kernel, by decide +kernel⟩
def e__law_less : DL.Env → Option Out :=
  (fRet (fB (fCmp ltD (f2 mulD (f2 idxD (fVb 0) (fC (.int 0))) (f2 idxD (fVb 1) (fC (.int 1)))) (f2 mulD (f2 idxD (fVb 1) (fC (.int 0))) (f2 idxD (fVb 0) (fC (.int 1)))))))
def f__law_less : List D → Option D := runF 2 2 e__law_less
abbrev s__law_total : Stmt := topS 14
abbrev N__law_total : List Str := ["_law_numbers", "_law_found", "_law_part"]
theorem sc__law_total : FnScope N__law_total ["_law_numbers"] (defScope s__law_total) := ⟨rfl, rfl, rfl, by decide +kernel, rfl, by decide +kernel, by decide +kernel⟩
def e__law_total : DL.Env → Option Out :=
  (fSeq (fSet 1 (fTup (fCons (fC (.int 0)) (fCons (fC (.int 1)) fNil))))
  (fSeq (fFor (fItems (fV 0)) (gN 2) (fSet 1 (fCall f__law_plus (fCons (fV 1) (fCons (fV 2) fNil)))))
  (fRet (fV 1))))
def f__law_total : List D → Option D := runF 1 3 e__law_total
abbrev s__law_growth : Stmt := topS 15
abbrev N__law_growth : List Str := ["_law_frame", "_law_k", "_law_motion", "_law_i", "_law_j", "_law_p", "_law_q", "_law_v", "_law_w"]
theorem sc__law_growth : FnScope N__law_growth ["_law_frame", "_law_k", "_law_motion"] (defScope s__law_growth) := ⟨rfl, rfl, rfl, by decide +kernel, rfl, by decide +kernel, by decide +kernel⟩
def e__law_growth : DL.Env → Option Out :=
  (fSeq (fAsg (gTup (gCons (gN 3) (gCons (gN 4) gNil))) (fSl (f2 idxD (f2 idxD (fV 0) (fC (.int 1))) (fVb 1)) fNoPart (fPart (fC (.int 2)))))
  (fSeq (fSet 5 (f2 idxD (f2 idxD (fV 0) (fC (.int 0))) (fVb 3)))
  (fSeq (fSet 6 (f2 idxD (f2 idxD (fV 0) (fC (.int 0))) (fVb 4)))
  (fSeq (fSet 7 (f2 idxD (fV 2) (fVb 3)))
  (fSeq (fSet 8 (f2 idxD (fV 2) (fVb 4)))
  (fRet (f2 addD (f2 mulD (f2 subD (f2 idxD (fVb 5) (fC (.int 0))) (f2 idxD (fVb 6) (fC (.int 0)))) (f2 subD (f2 idxD (fVb 7) (fC (.int 0))) (f2 idxD (fVb 8) (fC (.int 0))))) (f2 mulD (f2 subD (f2 idxD (fVb 5) (fC (.int 1))) (f2 idxD (fVb 6) (fC (.int 1)))) (f2 subD (f2 idxD (fVb 7) (fC (.int 1))) (f2 idxD (fVb 8) (fC (.int 1))))))))))))
def f__law_growth : List D → Option D := runF 3 9 e__law_growth
abbrev s__law_work : Stmt := topS 16
abbrev N__law_work : List Str := ["_law_load", "_law_motion", "_law_k"]
theorem sc__law_work : FnScope N__law_work ["_law_load", "_law_motion"] (defScope s__law_work) := ⟨rfl, rfl, rfl, by decide +kernel, rfl, by decide +kernel, by decide +kernel⟩
def e__law_work : DL.Env → Option Out :=
  (fRet (fCall sumLD (fCons (fLc (fRange1 (fCall lenD (fCons (fVb 0) fNil))) (gN 2) fYes (f2 addD (f2 mulD (f2 idxD (f2 idxD (fVb 0) (fVb 2)) (fC (.int 0))) (f2 idxD (f2 idxD (fVb 1) (fVb 2)) (fC (.int 0)))) (f2 mulD (f2 idxD (f2 idxD (fVb 0) (fVb 2)) (fC (.int 1))) (f2 idxD (f2 idxD (fVb 1) (fVb 2)) (fC (.int 1))))) [2]) fNil)))
def f__law_work : List D → Option D := runF 2 3 e__law_work
abbrev s__law_allowed : Stmt := topS 17
abbrev N__law_allowed : List Str := ["_law_frame", "_law_motion", "_law_k", "_law_grown", "_law_pin"]
theorem sc__law_allowed : FnScope N__law_allowed ["_law_frame", "_law_motion"] (defScope s__law_allowed) := ⟨rfl, rfl, rfl, by decide +kernel, rfl, by decide +kernel, by decide +kernel⟩
def e__law_allowed : DL.Env → Option Out :=
  (fSeq (fFor (fRange1 (fCall lenD (fCons (f2 idxD (fVb 0) (fC (.int 1))) fNil))) (gN 2) (fSeq (fSet 3 (fCall f__law_growth (fCons (fV 0) (fCons (fV 2) (fCons (fV 1) fNil)))))
  (fIfS (fOrB (fAndB (fIsN (f2 idxD (f2 idxD (f2 idxD (fVb 0) (fC (.int 1))) (fVb 2)) (fC (.int 2)))) (fCmp gtD (fVb 3) (fC (.int 0)))) (fAndB (fIsN (f2 idxD (f2 idxD (f2 idxD (fVb 0) (fC (.int 1))) (fVb 2)) (fC (.int 3)))) (fCmp ltD (fVb 3) (fC (.int 0))))) (fRet (fC (.bool false))) fNop)))
  (fRet (fB (fCmp eqD (fCall lenD (fCons (fLc (fItems (f2 idxD (fV 0) (fC (.int 2)))) (gN 4) (fCmp neD (f2 idxD (fVb 1) (fVb 4)) (fTup (fCons (fC (.int 0)) (fCons (fC (.int 0)) fNil)))) (fVb 4) [4]) fNil)) (fC (.int 0))))))
def f__law_allowed : List D → Option D := runF 2 5 e__law_allowed
abbrev s__law_resistance : Stmt := topS 18
abbrev N__law_resistance : List Str := ["_law_frame", "_law_motion", "_law_found", "_law_k", "_law_grown"]
theorem sc__law_resistance : FnScope N__law_resistance ["_law_frame", "_law_motion"] (defScope s__law_resistance) := ⟨rfl, rfl, rfl, by decide +kernel, rfl, by decide +kernel, by decide +kernel⟩
def e__law_resistance : DL.Env → Option Out :=
  (fSeq (fSet 2 (fC (.int 0)))
  (fSeq (fFor (fRange1 (fCall lenD (fCons (f2 idxD (fVb 0) (fC (.int 1))) fNil))) (gN 3) (fSeq (fSet 4 (fCall f__law_growth (fCons (fV 0) (fCons (fV 3) (fCons (fV 1) fNil)))))
  (fSeq (fIfS (fCmp gtD (fVb 4) (fC (.int 0))) (fSet 2 (f2 addD (fV 2) (f2 mulD (f2 idxD (f2 idxD (f2 idxD (fV 0) (fC (.int 1))) (fVb 3)) (fC (.int 2))) (fV 4)))) fNop)
  (fIfS (fCmp ltD (fVb 4) (fC (.int 0))) (fSet 2 (f2 subD (fVb 2) (f2 mulD (f2 idxD (f2 idxD (f2 idxD (fVb 0) (fC (.int 1))) (fVb 3)) (fC (.int 3))) (fVb 4)))) fNop))))
  (fRet (fV 2))))
def f__law_resistance : List D → Option D := runF 2 5 e__law_resistance
abbrev s__law_is_motion : Stmt := topS 19
abbrev N__law_is_motion : List Str := ["_law_actual", "_law_n", "_law_v"]
theorem sc__law_is_motion : FnScope N__law_is_motion ["_law_actual", "_law_n"] (defScope s__law_is_motion) := ⟨rfl, rfl, rfl, by decide +kernel, rfl, by decide +kernel, by decide +kernel⟩
def e__law_is_motion : DL.Env → Option Out :=
  (fSeq (fIfS (fOrB (fNotB (fTB (fIsi "tuple" (fVb 0)))) (fCmp neD (fCall lenD (fCons (fVb 0) fNil)) (fVb 1))) (fRet (fC (.bool false))) fNop)
  (fSeq (fFor (fItems (fV 0)) (gN 2) (fIfS (fOrB (fNotB (fTB (fIsi "tuple" (fVb 2)))) (fOrB (fCmp neD (fCall lenD (fCons (fVb 2) fNil)) (fC (.int 2))) (fOrB (fNotB (fTB (fCall f__law_is_integer (fCons (f2 idxD (fVb 2) (fC (.int 0))) fNil)))) (fNotB (fTB (fCall f__law_is_integer (fCons (f2 idxD (fVb 2) (fC (.int 1))) fNil))))))) (fRet (fC (.bool false))) fNop))
  (fRet (fC (.bool true)))))
def f__law_is_motion : List D → Option D := runF 2 3 e__law_is_motion
abbrev s__law_is_lowest : Stmt := topS 20
abbrev N__law_is_lowest : List Str := ["_law_integers", "_law_divisor_here", "_law_integer"]
theorem sc__law_is_lowest : FnScope N__law_is_lowest ["_law_integers"] (defScope s__law_is_lowest) := ⟨rfl, rfl, rfl, by decide +kernel, rfl, by decide +kernel, by decide +kernel⟩
def e__law_is_lowest : DL.Env → Option Out :=
  (fSeq (fSet 1 (fC (.int 0)))
  (fSeq (fFor (fItems (fV 0)) (gN 2) (fSet 1 (fCall f__law_divisor (fCons (fV 1) (fCons (fV 2) fNil)))))
  (fRet (fB (fCmp ltD (fVb 1) (fC (.int 2)))))))
def f__law_is_lowest : List D → Option D := runF 1 3 e__law_is_lowest
abbrev s__law_flat : Stmt := topS 21
abbrev N__law_flat : List Str := ["_law_motion", "_law_flat_here", "_law_v"]
theorem sc__law_flat : FnScope N__law_flat ["_law_motion"] (defScope s__law_flat) := ⟨rfl, rfl, rfl, by decide +kernel, rfl, by decide +kernel, by decide +kernel⟩
def e__law_flat : DL.Env → Option Out :=
  (fSeq (fSet 1 (fLst fNil))
  (fSeq (fFor (fItems (fV 0)) (gN 2) (fSet 1 (f2 addD (fV 1) (fLst (fCons (f2 idxD (fV 2) (fC (.int 0))) (fCons (f2 idxD (fV 2) (fC (.int 1))) fNil))))))
  (fRet (fV 1))))
def f__law_flat : List D → Option D := runF 1 3 e__law_flat
abbrev s__law_rigid : Stmt := topS 22
abbrev N__law_rigid : List Str := ["_law_points", "_law_motion", "_law_pairs", "_law_i", "_law_j", "_law_d", "_law_w", "_law_spin", "_law_size_here", "_law_other", "_law_less_here"]
theorem sc__law_rigid : FnScope N__law_rigid ["_law_points", "_law_motion"] (defScope s__law_rigid) := ⟨rfl, rfl, rfl, by decide +kernel, rfl, by decide +kernel, by decide +kernel⟩
def e__law_rigid : DL.Env → Option Out :=
  (fSeq (fSetF 2 (fLst fNil))
  (fSeq (fFor (fRange1 (fCall lenD (fCons (fVb 0) fNil))) (gN 3) (fFor (fRange1 (fVb 3)) (gN 4) (fSeq (fSet 5 (fTup (fCons (f2 subD (f2 idxD (f2 idxD (fVb 0) (fVb 3)) (fC (.int 0))) (f2 idxD (f2 idxD (fVb 0) (fVb 4)) (fC (.int 0)))) (fCons (f2 subD (f2 idxD (f2 idxD (fVb 0) (fVb 3)) (fC (.int 1))) (f2 idxD (f2 idxD (fVb 0) (fVb 4)) (fC (.int 1)))) fNil))))
  (fSeq (fSet 6 (fTup (fCons (f2 subD (f2 idxD (f2 idxD (fVb 1) (fVb 3)) (fC (.int 0))) (f2 idxD (f2 idxD (fVb 1) (fVb 4)) (fC (.int 0)))) (fCons (f2 subD (f2 idxD (f2 idxD (fVb 1) (fVb 3)) (fC (.int 1))) (f2 idxD (f2 idxD (fVb 1) (fVb 4)) (fC (.int 1)))) fNil))))
  (fSeq (fIfS (fOrB (fCmp neD (f2 addD (f2 mulD (f2 idxD (fVb 5) (fC (.int 0))) (f2 idxD (fVb 6) (fC (.int 0)))) (f2 mulD (f2 idxD (fVb 5) (fC (.int 1))) (f2 idxD (fVb 6) (fC (.int 1))))) (fC (.int 0))) (fAndB (fCmp eqD (fVb 5) (fTup (fCons (fC (.int 0)) (fCons (fC (.int 0)) fNil)))) (fCmp neD (fVb 6) (fTup (fCons (fC (.int 0)) (fCons (fC (.int 0)) fNil)))))) (fRet (fC (.bool false))) fNop)
  (fMut 2 appD (fTup (fCons (f2 subD (f2 mulD (f2 idxD (fVb 5) (fC (.int 0))) (f2 idxD (fVb 6) (fC (.int 1)))) (f2 mulD (f2 idxD (fVb 5) (fC (.int 1))) (f2 idxD (fVb 6) (fC (.int 0))))) (fCons (f2 addD (f2 mulD (f2 idxD (fV 5) (fC (.int 0))) (f2 idxD (fV 5) (fC (.int 0)))) (f2 mulD (f2 idxD (fV 5) (fC (.int 1))) (f2 idxD (fV 5) (fC (.int 1))))) fNil)))))))))
  (fSeq (fFrz 2 (fFor (fItems (fV 2)) (gTup (gCons (gN 7) (gCons (gN 8) gNil))) (fFrz 2 (fFor (fItems (fV 2)) (gTup (gCons (gN 9) (gCons (gN 10) gNil))) (fIfS (fCmp neD (f2 mulD (fVb 7) (fVb 10)) (f2 mulD (fVb 9) (fVb 8))) (fRet (fC (.bool false))) fNop)))))
  (fRet (fC (.bool true))))))
def f__law_rigid : List D → Option D := runF 2 11 e__law_rigid
abbrev s__law_braces : Stmt := topS 23
abbrev N__law_braces : List Str := ["_law_script", "_law_r", "_law_c", "_law_braces_here", "_law_row", "_law_column", "_law_digit", "_law_kinds", "_law_kind", "_law_turn"]
theorem sc__law_braces : FnScope N__law_braces ["_law_script", "_law_r", "_law_c"] (defScope s__law_braces) := ⟨rfl, rfl, rfl, by decide +kernel, rfl, by decide +kernel, by decide +kernel⟩
def e__law_braces : DL.Env → Option Out :=
  (fSeq (fSetF 3 (fLst fNil))
  (fSeq (fFor (fRange1 (fVb 1)) (gN 4) (fFor (fRange1 (fVb 2)) (gN 5) (fSeq (fSet 6 (fCall f__law_parts (fCons (f2 addD (f2 addD (fCall f__law_cell (fCons (fV 0) (fCons (fC (.int 1)) fNil))) (f2 mulD (fC (.int 5)) (fV 4))) (f2 mulD (fC (.int 29)) (fV 5))) (fCons (fLst (fCons (fC (.int 8)) (fCons (fC (.int 8)) fNil))) fNil))))
  (fSeq (fSet 7 (f2 idxD (fLst (fCons (fLst fNil) (fCons (fLst fNil) (fCons (fLst (fCons (fC (.str "bar")) fNil)) (fCons (fLst (fCons (fC (.str "up")) fNil)) (fCons (fLst (fCons (fC (.str "down")) fNil)) (fCons (fLst (fCons (fC (.str "up")) (fCons (fC (.str "down")) fNil))) (fCons (fLst (fCons (fC (.str "down")) (fCons (fC (.str "up")) fNil))) (fCons (fLst (fCons (fC (.str "bar")) fNil)) fNil))))))))) (f2 idxD (fVb 6) (fC (.int 0)))))
  (fFor (fItems (fV 7)) (gN 8) (fMut 3 appD (fTup (fCons (fV 4) (fCons (fV 5) (fCons (fV 8) fNil))))))))))
  (fSeq (fSet 9 (f2 modD (fCall intD (fCons (f2 idxD (fCall f__law_parts (fCons (fCall f__law_cell (fCons (fVb 0) (fCons (fC (.int 2)) fNil))) (fCons (fLst (fCons (fC (.int 19)) fNil)) fNil))) (fC (.int 0))) fNil)) (fCall max2D (fCons (fC (.int 1)) (fCons (fCall lenD (fCons (fVb 3) fNil)) fNil)))))
  (fFrz 3 (fRet (f2 addD (fSl (fV 3) (fPart (fVb 9)) fNoPart) (fSl (fV 3) fNoPart (fPart (fVb 9)))))))))
def f__law_braces : List D → Option D := runF 3 10 e__law_braces
abbrev s__law_size : Stmt := topS 24
abbrev N__law_size : List Str := ["_law_script", "_law_parts_here"]
theorem sc__law_size : FnScope N__law_size ["_law_script"] (defScope s__law_size) := ⟨rfl, rfl, rfl, by decide +kernel, rfl, by decide +kernel, by decide +kernel⟩
def e__law_size : DL.Env → Option Out :=
  (fSeq (fSet 1 (fCall f__law_parts (fCons (fCall f__law_cell (fCons (fV 0) (fCons (fC (.int 0)) fNil))) (fCons (fLst (fCons (fC (.int 3)) (fCons (fC (.int 3)) fNil))) fNil))))
  (fRet (fTup (fCons (f2 addD (fC (.int 1)) (f2 idxD (fV 1) (fC (.int 0)))) (fCons (f2 addD (fC (.int 1)) (f2 idxD (fV 1) (fC (.int 1)))) fNil)))))
def f__law_size : List D → Option D := runF 1 2 e__law_size
abbrev s__law_pulls : Stmt := topS 25
abbrev N__law_pulls : List Str := ["_law_r", "_law_c", "_law_braces_here", "_law_points", "_law_members", "_law_i", "_law_j", "_law_step", "_law_low", "_law_k"]
theorem sc__law_pulls : FnScope N__law_pulls ["_law_r", "_law_c", "_law_braces_here"] (defScope s__law_pulls) := ⟨rfl, rfl, rfl, by decide +kernel, rfl, by decide +kernel, by decide +kernel⟩
def e__law_pulls : DL.Env → Option Out :=
  (fSeq (fSet 3 (fLc (fRange1 (f2 mulD (f2 addD (fVb 0) (fC (.int 1))) (f2 addD (fVb 1) (fC (.int 1))))) (gN 9) fYes (fTup (fCons (f2 modD (fCall intD (fCons (fVb 9) fNil)) (f2 addD (fVb 1) (fC (.int 1)))) (fCons (f2 fdivD (fCall intD (fCons (fVb 9) fNil)) (f2 addD (fVb 1) (fC (.int 1)))) fNil))) [9]))
  (fSeq (fSetF 4 (fLst fNil))
  (fSeq (fFor (fRange1 (fCall lenD (fCons (fVb 3) fNil))) (gN 5) (fFor (fRange2 (f2 addD (fVb 5) (fC (.int 1))) (fCall lenD (fCons (fVb 3) fNil))) (gN 6) (fSeq (fSet 7 (fTup (fCons (f2 subD (f2 idxD (f2 idxD (fVb 3) (fVb 6)) (fC (.int 0))) (f2 idxD (f2 idxD (fVb 3) (fVb 5)) (fC (.int 0)))) (fCons (f2 subD (f2 idxD (f2 idxD (fVb 3) (fVb 6)) (fC (.int 1))) (f2 idxD (f2 idxD (fVb 3) (fVb 5)) (fC (.int 1)))) fNil))))
  (fSeq (fIfS (fCmp inD (fVb 7) (fLst (fCons (fTup (fCons (fC (.int 1)) (fCons (fC (.int 0)) fNil))) (fCons (fTup (fCons (fC (.int 0)) (fCons (fC (.int 1)) fNil))) fNil)))) (fMut 4 appD (fTup (fCons (fV 5) (fCons (fV 6) (fCons (fC .none) (fCons (fC .none) fNil)))))) fNop)
  (fSeq (fSet 8 (fTup (fCons (f2 idxD (f2 idxD (fV 3) (fVb 5)) (fC (.int 1))) (fCons (fCall minLD (fCons (fLst (fCons (f2 idxD (f2 idxD (fVb 3) (fVb 5)) (fC (.int 0))) (fCons (f2 idxD (f2 idxD (fVb 3) (fVb 6)) (fC (.int 0))) fNil))) fNil)) fNil))))
  (fSeq (fIfS (fAndB (fCmp eqD (fVb 7) (fTup (fCons (fC (.int 1)) (fCons (fC (.int 1)) fNil)))) (fCmp inD (f2 addD (fVb 8) (fTup (fCons (fC (.str "bar")) fNil))) (fVb 2))) (fMut 4 appD (fTup (fCons (fV 5) (fCons (fV 6) (fCons (fC .none) (fCons (fC .none) fNil)))))) fNop)
  (fIfS (fOrB (fAndB (fCmp eqD (fVb 7) (fTup (fCons (fC (.int 1)) (fCons (fC (.int 1)) fNil)))) (fCmp inD (f2 addD (fVb 8) (fTup (fCons (fC (.str "up")) fNil))) (fVb 2))) (fAndB (fCmp eqD (fVb 7) (fTup (fCons (f1 negD (fC (.int 1))) (fCons (fC (.int 1)) fNil)))) (fCmp inD (f2 addD (fVb 8) (fTup (fCons (fC (.str "down")) fNil))) (fVb 2)))) (fMut 4 appD (fTup (fCons (fV 5) (fCons (fV 6) (fCons (fC .none) (fCons (fC (.int 0)) fNil)))))) fNop)))))))
  (fFrz 4 (fRet (fTup (fCons (fCall tupleD (fCons (fV 3) fNil)) (fCons (fCall tupleD (fCons (fV 4) fNil)) (fCons (fTup fNil) fNil)))))))))
def f__law_pulls : List D → Option D := runF 3 10 e__law_pulls
abbrev s__law_leads : Stmt := topS 26
abbrev N__law_leads : List Str := ["_law_r", "_law_braces_here", "_law_starts", "_law_found", "_law_turn", "_law_row", "_law_column", "_law_kind"]
theorem sc__law_leads : FnScope N__law_leads ["_law_r", "_law_braces_here", "_law_starts"] (defScope s__law_leads) := ⟨rfl, rfl, rfl, by decide +kernel, rfl, by decide +kernel, by decide +kernel⟩
def e__law_leads : DL.Env → Option Out :=
  (fSeq (fSetF 3 (fCall listD (fCons (fV 2) fNil)))
  (fSeq (fFor (fRange1 (fC (.int 7))) (gN 4) (fFor (fItems (fV 1)) (gTup (gCons (gN 5) (gCons (gN 6) (gCons (gN 7) gNil)))) (fSeq (fIfS (fAndB (fCmp neD (fVb 7) (fC (.str "down"))) (fAndB (fCmp inD (fVb 5) (fVb 3)) (fCmp ninD (f2 addD (fVb 0) (fVb 6)) (fVb 3)))) (fMut 3 appD (f2 addD (fV 0) (fV 6))) fNop)
  (fIfS (fAndB (fCmp neD (fVb 7) (fC (.str "up"))) (fAndB (fCmp inD (f2 addD (fVb 0) (fVb 6)) (fVb 3)) (fCmp ninD (fVb 5) (fVb 3)))) (fMut 3 appD (fV 5)) fNop))))
  (fFrz 3 (fRet (fV 3)))))
def f__law_leads : List D → Option D := runF 3 8 e__law_leads
abbrev s__law_is_stiff : Stmt := topS 27
abbrev N__law_is_stiff : List Str := ["_law_r", "_law_c", "_law_braces_here", "_law_start"]
theorem sc__law_is_stiff : FnScope N__law_is_stiff ["_law_r", "_law_c", "_law_braces_here"] (defScope s__law_is_stiff) := ⟨rfl, rfl, rfl, by decide +kernel, rfl, by decide +kernel, by decide +kernel⟩
def e__law_is_stiff : DL.Env → Option Out :=
  (fRet (fB (fCmp eqD (fCall lenD (fCons (fLc (fRange1 (f2 addD (fVb 0) (fVb 1))) (gN 3) (fCmp ltD (fCall lenD (fCons (fCall f__law_leads (fCons (fVb 0) (fCons (fVb 2) (fCons (fLst (fCons (fVb 3) fNil)) fNil)))) fNil)) (f2 addD (fVb 0) (fVb 1))) (fVb 3) [3]) fNil)) (fC (.int 0)))))
def f__law_is_stiff : List D → Option D := runF 3 4 e__law_is_stiff
abbrev s_law : Stmt := topS 28
abbrev N_law : List Str := ["_law_script", "_law_r", "_law_c", "_law_braces_here", "_law_motion", "_law_frame"]
theorem sc_law : FnScope N_law ["_law_script"] (defScope s_law) := ⟨rfl, rfl, rfl, by decide +kernel, rfl, by decide +kernel, by decide +kernel⟩
noncomputable def e_law : DL.Env → Option Out :=
  (fSeq (fAsg (gTup (gCons (gN 1) (gCons (gN 2) gNil))) (fCall f__law_size (fCons (fV 0) fNil)))
  (fSeq (fSet 3 (fCall f__law_braces (fCons (fV 0) (fCons (fV 1) (fCons (fV 2) fNil)))))
  (fSeq (fSet 4 (fCall f_grid_motion (fCons (fV 1) (fCons (fV 2) (fCons (fV 3) fNil)))))
  (fSeq (fIfS (fTB (fCall f__law_is_stiff (fCons (fVb 1) (fCons (fVb 2) (fCons (fVb 3) fNil))))) (fRet (fB (fIsN (fVb 4)))) fNop)
  (fSeq (fSet 5 (fCall f__law_pulls (fCons (fV 1) (fCons (fV 2) (fCons (fV 3) fNil)))))
  (fSeq (fIfS (fOrB (fNotB (fTB (fCall f__law_is_motion (fCons (fVb 4) (fCons (fCall lenD (fCons (f2 idxD (fVb 5) (fC (.int 0))) fNil)) fNil))))) (fNotB (fTB (fCall f__law_is_lowest (fCons (fCall f__law_flat (fCons (fVb 4) fNil)) fNil))))) (fRet (fC (.bool false))) fNop)
  (fRet (fAnd (fCall f__law_allowed (fCons (fV 5) (fCons (fV 4) fNil))) (fNot (fCall f__law_rigid (fCons (f2 idxD (fVb 5) (fC (.int 0))) (fCons (fVb 4) fNil))))))))))))
noncomputable def f_law : List D → Option D := runF 1 6 e_law
theorem ok_ways {P : Program} {w : World} {K : PySem.W.Frag} {mg : Str → Option Value} {base : Heap} {f : Addr} {fd : FuncData} (F : Fun K "ways" "ways" s_ways f fd) (B : Bl mg)  : FnOk P w K mg base CX0 1 f fd ["r", "braces"] (pureSp K f_ways) :=
  def_ok (k := 0) (fb := e_ways) (g := f_ways) F sc_ways rfl rfl rfl fun cdv A outer s H E W hr hW =>
  (ds_dl 2 hW sc_ways.nd (fun W0 hW => (rs_for hW (fun r p R hZ => (di_seq (vn 1))) (fun W hW => (dg_tup hW (dgs_cons (fun W hW => (dg_name (i := 3) hW sc_ways.nd)) (dgs_cons (fun W hW => (dg_name (i := 4) hW sc_ways.nd)) (dgs_cons (fun W hW => (dg_name (i := 5) hW sc_ways.nd)) dgs_nil))))) (fun W0 hW => (rs_cons (rs_if (rt_lift fun r p R hZ => (dt_cmp (o_ne (hu65 hr)) (vb 5) cs)) (rs_one (rs_setdApp (fun W hW => (vb 3)) (fun W hW => (de_bin o_add (vb 0) (vb 4))) hW)) rs_nil)
  (rs_one (rs_if (rt_lift fun r p R hZ => (dt_cmp (o_ne (hu65 hr)) (vb 5) cs)) (rs_one (rs_setdApp (fun W hW => (de_bin o_add (vb 0) (vb 4))) (fun W hW => (vb 3)) hW)) rs_nil)))))))
theorem ok_come_to {P : Program} {w : World} {K : PySem.W.Frag} {mg : Str → Option Value} {base : Heap} {f : Addr} {fd : FuncData} (F : Fun K "come_to" "come_to" s_come_to f fd) (B : Bl mg)  : FnOk P w K mg base CX0 1 f fd ["leading", "start"] (pureSp K f_come_to) :=
  def_ok (k := 0) (fb := e_come_to) (g := f_come_to) F sc_come_to rfl rfl rfl fun cdv A outer s H E W hr hW =>
  (ds_cons (ds_setF 2 hW sc_come_to.nd (de_disp hW (dps_cons (fun W hW => (vb 1)) (fun W hW => cb) dps_nil)))
  (ds_cons (ds_setF 3 hW sc_come_to.nd (de_lst (da_cons (vn 1) da_nil)))
  (ds_cons (ds_while (dt_tru (vb 3)) (ds_one (ds_forX hW (dex_get hW (hu65 hr) (fun W hW => (vn 0)) (fun W hW => (dex_pop 3)) (fun W hW => (de_fn (de_lst da_nil)))) (fun W hW => (dg_name (i := 4) hW sc_come_to.nd)) (fun W hW => (ds_one (ds_if (dt_dnin (hu65 hr) (vb 4) (vb 2)) (ds_cons (ds_dput 2 (hu65 hr) (vb 4) cb)
  (ds_one (ds_mut 3 PySem.F.slot_list_append PySem.F.type_list_append mu_append (vn 4)))) ds_nil))))))
  (ds_one (ds_frz 2 (ds_ret (vn 2)))))))
theorem ok_parted {P : Program} {w : World} {K : PySem.W.Frag} {mg : Str → Option Value} {base : Heap} {f : Addr} {fd : FuncData} (F : Fun K "parted" "parted" s_parted f fd) (B : Bl mg) (C_come_to : Df P w K mg base 1 "come_to" ["leading", "start"] f_come_to) (C_ways : Df P w K mg base 1 "ways" ["r", "braces"] f_ways) : FnOk P w K mg base CX0 2 f fd ["r", "c", "braces"] (pureSp K f_parted) :=
  def_ok (k := 1) (fb := e_parted) (g := f_parted) F sc_parted rfl rfl rfl fun cdv A outer s H E W hr hW =>
  (ds_cons (ds_set 3 hW sc_parted.nd (de_call C_ways (hr.mono (by decide)) (da_cons (vn 0) (da_cons (vn 2) da_nil))))
  (ds_cons (ds_for hW (di_range1 (de_bin o_add (vb 0) (vb 1)) (hm := B.range)) (fun W hW => (dg_name (i := 4) hW sc_parted.nd)) (fun W hW => (ds_cons (ds_set 5 hW sc_parted.nd (de_call C_come_to (hr.mono (by decide)) (da_cons (vn 3) (da_cons (vn 4) da_nil))))
  (ds_one (ds_if (dt_cmp o_lt (de_dlen (vb 5) (hm := B.len)) (de_bin o_add (vb 0) (vb 1))) (ds_one (ds_ret (de_tup (da_cons (de_fn (de_lc (own := [("row", 6)]) hW sc_parted.nd (dic_of (di_range1 (vb 0) (hm := B.range))) (blkOk_by (own := [("row", 6)]) (N := N_parted) (sc := defScope s_parted) (by decide +kernel)) (fun s H C cl fp W hW => (dg_name (i := 6) hW sc_parted.nd)) (fun s H C cl fp W hW => (dts_one (dt_din (hu65 hr) (vb 6) (vb 5)))) (fun s H C cl fp W hW => (vn 6)) (hon := (on_name 6)))) (da_cons (de_fn (de_lc (own := [("j", 7)]) hW sc_parted.nd (dic_of (di_range1 (vb 1) (hm := B.range))) (blkOk_by (own := [("j", 7)]) (N := N_parted) (sc := defScope s_parted) (by decide +kernel)) (fun s H C cl fp W hW => (dg_name (i := 7) hW sc_parted.nd)) (fun s H C cl fp W hW => (dts_one (dt_din (hu65 hr) (de_bin o_add (vb 0) (vb 7)) (vb 5)))) (fun s H C cl fp W hW => (vn 7)) (hon := (on_name 7)))) da_nil))))) ds_nil)))))
  (ds_one (ds_ret cn))))
theorem ok_grid_motion {P : Program} {w : World} {K : PySem.W.Frag} {mg : Str → Option Value} {base : Heap} {f : Addr} {fd : FuncData} (F : Fun K "grid_motion" "grid_motion" s_grid_motion f fd) (B : Bl mg) (C_parted : Df P w K mg base 2 "parted" ["r", "c", "braces"] f_parted) : FnOk P w K mg base CX0 3 f fd ["r", "c", "braces"] (pureSp K f_grid_motion) :=
  def_ok (k := 2) (fb := e_grid_motion) (g := f_grid_motion) F sc_grid_motion rfl rfl rfl fun cdv A outer s H E W hr hW =>
  (ds_cons (ds_set 3 hW sc_grid_motion.nd (de_call C_parted (hr.mono (by decide)) (da_cons (vn 0) (da_cons (vn 1) (da_cons (vn 2) da_nil)))))
  (ds_cons (ds_if (dt_isN (vb 3)) (ds_one (ds_ret cn)) ds_nil)
  (ds_cons (ds_asg (vn 3) (dg_tup hW (dgs_cons (fun W hW => (dg_name (i := 4) hW sc_grid_motion.nd)) (dgs_cons (fun W hW => (dg_name (i := 5) hW sc_grid_motion.nd)) dgs_nil))))
  (ds_cons (ds_setF 6 hW sc_grid_motion.nd (de_lst da_nil))
  (ds_cons (ds_for hW (di_range1 (de_bin o_add (vb 0) ci) (hm := B.range)) (fun W hW => (dg_name (i := 7) hW sc_grid_motion.nd)) (fun W hW => (ds_one (ds_for hW (di_range1 (de_bin o_add (vb 1) ci) (hm := B.range)) (fun W hW => (dg_name (i := 8) hW sc_grid_motion.nd)) (fun W hW => (ds_cons (ds_set 9 hW sc_grid_motion.nd (de_s (de_callB (m := .b) c_len (da_cons (de_lcB (own := [("row", 10)]) hW sc_grid_motion.nd (dic_of (di_range1 (vb 7) (hm := B.range))) (blkOk_by (own := [("row", 10)]) (N := N_grid_motion) (sc := defScope s_grid_motion) (by decide +kernel)) (fun s H C cl fp W hW => (dg_name (i := 10) hW sc_grid_motion.nd)) (fun s H C cl fp W hW => (dts_one (dt_cmp (o_notin (hu65 hr)) (vb 10) (vb 4)))) (fun s H C cl fp W hW => (vb 10)) (hon := (on_name 10))) da_nil) (hm := B.len)) (scal_call fl_len)))
  (ds_one (ds_mut 6 PySem.F.slot_list_append PySem.F.type_list_append mu_append (de_tup (da_cons (de_s (de_un u_neg (vb 9)) (scal_f1 fl_neg)) (da_cons (de_s (de_callB (m := .b) c_len (da_cons (de_lcB (own := [("column", 11)]) hW sc_grid_motion.nd (dic_of (di_range1 (vb 8) (hm := B.range))) (blkOk_by (own := [("column", 11)]) (N := N_grid_motion) (sc := defScope s_grid_motion) (by decide +kernel)) (fun s H C cl fp W hW => (dg_name (i := 11) hW sc_grid_motion.nd)) (fun s H C cl fp W hW => (dts_one (dt_cmp (o_notin (hu65 hr)) (vb 11) (vb 5)))) (fun s H C cl fp W hW => (vb 11)) (hon := (on_name 11))) da_nil) (hm := B.len)) (scal_call fl_len)) da_nil)))))))))))
  (ds_one (ds_frz 6 (ds_ret (de_callT c_tuple (da_cons (vn 6) da_nil) (hm := B.tuple))))))))))
theorem ok__law_cell {P : Program} {w : World} {K : PySem.W.Frag} {mg : Str → Option Value} {base : Heap} {f : Addr} {fd : FuncData} (F : Fun K "_law_cell" "_law_cell" s__law_cell f fd) (B : Bl mg)  : FnOk P w K mg base CX0 1 f fd ["_law_script", "_law_k"] (pureSp K f__law_cell) :=
  def_ok (k := 0) (fb := e__law_cell) (g := f__law_cell) F sc__law_cell rfl rfl rfl fun cdv A outer s H E W hr hW =>
  (ds_cons (ds_if (dt_cmp o_lt (vb 1) (de_s (de_callB (m := .b) c_len (da_cons (vb 0) da_nil) (hm := B.len)) (scal_call fl_len))) (ds_one (ds_ret (de_ix (vn 0) (vb 1)))) ds_nil)
  (ds_one (ds_ret ci)))
theorem ok__law_parts {P : Program} {w : World} {K : PySem.W.Frag} {mg : Str → Option Value} {base : Heap} {f : Addr} {fd : FuncData} (F : Fun K "_law_parts" "_law_parts" s__law_parts f fd) (B : Bl mg)  : FnOk P w K mg base CX0 1 f fd ["_law_cell_here", "_law_sizes"] (pureSp K f__law_parts) :=
  def_ok (k := 0) (fb := e__law_parts) (g := f__law_parts) F sc__law_parts rfl rfl rfl fun cdv A outer s H E W hr hW =>
  (ds_cons (ds_setF 2 hW sc__law_parts.nd (de_lst da_nil))
  (ds_cons (ds_set 3 hW sc__law_parts.nd (de_s (de_bin o_sub (vb 0) (de_s (de_bin o_pow ci ci) (scal_f2 fl_pow))) (scal_f2 fl_sub)))
  (ds_cons (ds_for hW (di_range1 (de_s (de_callB (m := .b) c_len (da_cons (vb 1) da_nil) (hm := B.len)) (scal_call fl_len)) (hm := B.range)) (fun W hW => (dg_name (i := 4) hW sc__law_parts.nd)) (fun W hW => (ds_one (ds_if (dt_cmp o_ge (vb 3) ci) (ds_cons (ds_mut 2 PySem.F.slot_list_append PySem.F.type_list_append mu_append (de_s (de_bin o_mod (de_s (de_callT (m := .b) c_int (da_cons (vb 3) da_nil) (hm := B.int)) (scal_call fl_int)) (de_ix (vb 1) (vb 4))) (scal_f2 fl_mod)))
  (ds_one (ds_set 3 hW sc__law_parts.nd (de_s (de_bin o_fdiv (vb 3) (de_ix (vb 1) (vb 4))) (scal_f2 fl_fdiv))))) (ds_cons (ds_set 5 hW sc__law_parts.nd (de_s (de_bin o_mod (de_s (de_callT (m := .b) c_int (da_cons (de_bin o_add (de_bin o_add (de_bin o_mul (vb 0) ci) (de_bin o_mul (vb 4) ci)) ci) da_nil) (hm := B.int)) (scal_call fl_int)) ci) (scal_f2 fl_mod)))
  (ds_cons (ds_set 5 hW sc__law_parts.nd (de_s (de_bin o_mod (de_s (de_callT (m := .b) c_int (da_cons (de_bin o_add (de_bin o_add (de_bin o_mul (vb 5) (vb 5)) (de_bin o_mul ci (vb 4))) ci) da_nil) (hm := B.int)) (scal_call fl_int)) ci) (scal_f2 fl_mod)))
  (ds_one (ds_mut 2 PySem.F.slot_list_append PySem.F.type_list_append mu_append (de_s (de_bin o_mod (de_s (de_callT (m := .b) c_int (da_cons (de_s (de_bin o_fdiv (vb 5) ci) (scal_f2 fl_fdiv)) da_nil) (hm := B.int)) (scal_call fl_int)) (de_ix (vb 1) (vb 4))) (scal_f2 fl_mod))))))))))
  (ds_one (ds_frz 2 (ds_ret (vn 2)))))))
theorem ok__law_is_integer {P : Program} {w : World} {K : PySem.W.Frag} {mg : Str → Option Value} {base : Heap} {f : Addr} {fd : FuncData} (F : Fun K "_law_is_integer" "_law_is_integer" s__law_is_integer f fd) (B : Bl mg)  : FnOk P w K mg base CX0 1 f fd ["_law_actual"] (pureSp K f__law_is_integer) :=
  def_ok (k := 0) (fb := e__law_is_integer) (g := f__law_is_integer) F sc__law_is_integer rfl rfl rfl fun cdv A outer s H E W hr hW =>
  (ds_one (ds_ret (de_and (de_isi "int" (vb 0) (hmI := B.isinstance) (hmT := B.int)) (de_one (de_not (de_isi "bool" (vb 0) (hmI := B.isinstance) (hmT := B.bool)))))))
theorem ok__law_divisor {P : Program} {w : World} {K : PySem.W.Frag} {mg : Str → Option Value} {base : Heap} {f : Addr} {fd : FuncData} (F : Fun K "_law_divisor" "_law_divisor" s__law_divisor f fd) (B : Bl mg)  : FnOk P w K mg base CX0 1 f fd ["_law_a", "_law_b"] (pureSp K f__law_divisor) :=
  def_ok (k := 0) (fb := e__law_divisor) (g := f__law_divisor) F sc__law_divisor rfl rfl rfl fun cdv A outer s H E W hr hW =>
  (ds_cons (ds_set 0 hW sc__law_divisor.nd (de_s (de_callB (m := .b) c_abs (da_cons (vb 0) da_nil) (hm := B.abs)) (scal_call fl_abs)))
  (ds_cons (ds_set 1 hW sc__law_divisor.nd (de_s (de_callB (m := .b) c_abs (da_cons (vb 1) da_nil) (hm := B.abs)) (scal_call fl_abs)))
  (ds_cons (ds_for hW (di_range1 ci (hm := B.range)) (fun W hW => (dg_name (i := 2) hW sc__law_divisor.nd)) (fun W hW => (ds_cons (ds_if (dt_cmp (o_eq (hu65 hr)) (vb 1) ci) (ds_one (ds_ret (vn 0))) ds_nil)
  (ds_one (ds_par (i := 0) (j := 1) 0 1 rfl rfl hW sc__law_divisor.nd (da_cons (vn 1) (da_cons (de_s (de_bin o_mod (de_s (de_callT (m := .b) c_int (da_cons (vb 0) da_nil) (hm := B.int)) (scal_call fl_int)) (vb 1)) (scal_f2 fl_mod)) da_nil)))))))
  (ds_one (ds_ret (vn 0))))))
theorem ok__law_number {P : Program} {w : World} {K : PySem.W.Frag} {mg : Str → Option Value} {base : Heap} {f : Addr} {fd : FuncData} (F : Fun K "_law_number" "_law_number" s__law_number f fd) (B : Bl mg) (C__law_divisor : Df P w K mg base 1 "_law_divisor" ["_law_a", "_law_b"] f__law_divisor) : FnOk P w K mg base CX0 2 f fd ["_law_n", "_law_d"] (pureSp K f__law_number) :=
  def_ok (k := 1) (fb := e__law_number) (g := f__law_number) F sc__law_number rfl rfl rfl fun cdv A outer s H E W hr hW =>
  (ds_cons (ds_set 2 hW sc__law_number.nd (de_call C__law_divisor (hr.mono (by decide)) (da_cons (vn 0) (da_cons (vn 1) da_nil))))
  (ds_cons (ds_if (dt_cmp o_lt (vb 1) ci) (ds_one (ds_set 2 hW sc__law_number.nd (de_s (de_un u_neg (vb 2)) (scal_f1 fl_neg)))) ds_nil)
  (ds_one (ds_ret (de_tup (da_cons (de_s (de_bin o_fdiv (vb 0) (vb 2)) (scal_f2 fl_fdiv)) (da_cons (de_s (de_bin o_fdiv (vb 1) (vb 2)) (scal_f2 fl_fdiv)) da_nil)))))))
theorem ok__law_plus {P : Program} {w : World} {K : PySem.W.Frag} {mg : Str → Option Value} {base : Heap} {f : Addr} {fd : FuncData} (F : Fun K "_law_plus" "_law_plus" s__law_plus f fd) (B : Bl mg) (C__law_number : Df P w K mg base 2 "_law_number" ["_law_n", "_law_d"] f__law_number) : FnOk P w K mg base CX0 3 f fd ["_law_a", "_law_b"] (pureSp K f__law_plus) :=
  def_ok (k := 2) (fb := e__law_plus) (g := f__law_plus) F sc__law_plus rfl rfl rfl fun cdv A outer s H E W hr hW =>
  (ds_one (ds_ret (de_call C__law_number (hr.mono (by decide)) (da_cons (de_bin o_add (de_bin o_mul (de_ix (vn 0) ci) (de_ix (vn 1) ci)) (de_bin o_mul (de_ix (vn 1) ci) (de_ix (vn 0) ci))) (da_cons (de_bin o_mul (de_ix (vn 0) ci) (de_ix (vn 1) ci)) da_nil)))))
theorem ok__law_times {P : Program} {w : World} {K : PySem.W.Frag} {mg : Str → Option Value} {base : Heap} {f : Addr} {fd : FuncData} (F : Fun K "_law_times" "_law_times" s__law_times f fd) (B : Bl mg) (C__law_number : Df P w K mg base 2 "_law_number" ["_law_n", "_law_d"] f__law_number) : FnOk P w K mg base CX0 3 f fd ["_law_a", "_law_b"] (pureSp K f__law_times) :=
  def_ok (k := 2) (fb := e__law_times) (g := f__law_times) F sc__law_times rfl rfl rfl fun cdv A outer s H E W hr hW =>
  (ds_one (ds_ret (de_call C__law_number (hr.mono (by decide)) (da_cons (de_bin o_mul (de_ix (vn 0) ci) (de_ix (vn 1) ci)) (da_cons (de_bin o_mul (de_ix (vn 0) ci) (de_ix (vn 1) ci)) da_nil)))))
theorem ok__law_less {P : Program} {w : World} {K : PySem.W.Frag} {mg : Str → Option Value} {base : Heap} {f : Addr} {fd : FuncData} (F : Fun K "_law_less" "_law_less" s__law_less f fd) (B : Bl mg)  : FnOk P w K mg base CX0 1 f fd ["_law_a", "_law_b"] (pureSp K f__law_less) :=
  def_ok (k := 0) (fb := e__law_less) (g := f__law_less) F sc__law_less rfl rfl rfl fun cdv A outer s H E W hr hW =>
  (ds_one (ds_ret (de_cmp o_lt (de_bin o_mul (de_ix (vb 0) ci) (de_ix (vb 1) ci)) (de_bin o_mul (de_ix (vb 1) ci) (de_ix (vb 0) ci)))))
theorem ok__law_total {P : Program} {w : World} {K : PySem.W.Frag} {mg : Str → Option Value} {base : Heap} {f : Addr} {fd : FuncData} (F : Fun K "_law_total" "_law_total" s__law_total f fd) (B : Bl mg) (C__law_plus : Df P w K mg base 3 "_law_plus" ["_law_a", "_law_b"] f__law_plus) : FnOk P w K mg base CX0 4 f fd ["_law_numbers"] (pureSp K f__law_total) :=
  def_ok (k := 3) (fb := e__law_total) (g := f__law_total) F sc__law_total rfl rfl rfl fun cdv A outer s H E W hr hW =>
  (ds_cons (ds_set 1 hW sc__law_total.nd (de_tup (da_cons ci (da_cons ci da_nil))))
  (ds_cons (ds_for hW (di_seq (vn 0)) (fun W hW => (dg_name (i := 2) hW sc__law_total.nd)) (fun W hW => (ds_one (ds_set 1 hW sc__law_total.nd (de_call C__law_plus (hr.mono (by decide)) (da_cons (vn 1) (da_cons (vn 2) da_nil)))))))
  (ds_one (ds_ret (vn 1)))))
theorem ok__law_growth {P : Program} {w : World} {K : PySem.W.Frag} {mg : Str → Option Value} {base : Heap} {f : Addr} {fd : FuncData} (F : Fun K "_law_growth" "_law_growth" s__law_growth f fd) (B : Bl mg)  : FnOk P w K mg base CX0 1 f fd ["_law_frame", "_law_k", "_law_motion"] (pureSp K f__law_growth) :=
  def_ok (k := 0) (fb := e__law_growth) (g := f__law_growth) F sc__law_growth rfl rfl rfl fun cdv A outer s H E W hr hW =>
  (ds_cons (ds_asg (de_sl (de_ix (de_ix (vn 0) ci) (vb 1)) do_none (do_some ci)) (dg_tup hW (dgs_cons (fun W hW => (dg_name (i := 3) hW sc__law_growth.nd)) (dgs_cons (fun W hW => (dg_name (i := 4) hW sc__law_growth.nd)) dgs_nil))))
  (ds_cons (ds_set 5 hW sc__law_growth.nd (de_ix (de_ix (vn 0) ci) (vb 3)))
  (ds_cons (ds_set 6 hW sc__law_growth.nd (de_ix (de_ix (vn 0) ci) (vb 4)))
  (ds_cons (ds_set 7 hW sc__law_growth.nd (de_ix (vn 2) (vb 3)))
  (ds_cons (ds_set 8 hW sc__law_growth.nd (de_ix (vn 2) (vb 4)))
  (ds_one (ds_ret (de_bin o_add (de_bin o_mul (de_s (de_bin o_sub (de_ix (vb 5) ci) (de_ix (vb 6) ci)) (scal_f2 fl_sub)) (de_s (de_bin o_sub (de_ix (vb 7) ci) (de_ix (vb 8) ci)) (scal_f2 fl_sub))) (de_bin o_mul (de_s (de_bin o_sub (de_ix (vb 5) ci) (de_ix (vb 6) ci)) (scal_f2 fl_sub)) (de_s (de_bin o_sub (de_ix (vb 7) ci) (de_ix (vb 8) ci)) (scal_f2 fl_sub)))))))))))
theorem ok__law_work {P : Program} {w : World} {K : PySem.W.Frag} {mg : Str → Option Value} {base : Heap} {f : Addr} {fd : FuncData} (F : Fun K "_law_work" "_law_work" s__law_work f fd) (B : Bl mg)  : FnOk P w K mg base CX0 1 f fd ["_law_load", "_law_motion"] (pureSp K f__law_work) :=
  def_ok (k := 0) (fb := e__law_work) (g := f__law_work) F sc__law_work rfl rfl rfl fun cdv A outer s H E W hr hW =>
  (ds_one (ds_ret (de_s (de_callB (m := .b) (c_sum rfl) (da_cons (de_lcB (own := [("_law_k", 2)]) hW sc__law_work.nd (dic_of (di_range1 (de_s (de_callB (m := .b) c_len (da_cons (vb 0) da_nil) (hm := B.len)) (scal_call fl_len)) (hm := B.range))) (blkOk_by (own := [("_law_k", 2)]) (N := N__law_work) (sc := defScope s__law_work) (by decide +kernel)) (fun s H C cl fp W hW => (dg_name (i := 2) hW sc__law_work.nd)) (fun s H C cl fp W hW => dts_nil) (fun s H C cl fp W hW => (de_bin o_add (de_bin o_mul (de_ix (de_ix (vb 0) (vb 2)) ci) (de_ix (de_ix (vb 1) (vb 2)) ci)) (de_bin o_mul (de_ix (de_ix (vb 0) (vb 2)) ci) (de_ix (de_ix (vb 1) (vb 2)) ci)))) (hon := (on_name 2))) da_nil) (hm := B.sum)) (scal_call fl_sum))))
theorem ok__law_allowed {P : Program} {w : World} {K : PySem.W.Frag} {mg : Str → Option Value} {base : Heap} {f : Addr} {fd : FuncData} (F : Fun K "_law_allowed" "_law_allowed" s__law_allowed f fd) (B : Bl mg) (C__law_growth : Df P w K mg base 1 "_law_growth" ["_law_frame", "_law_k", "_law_motion"] f__law_growth) : FnOk P w K mg base CX0 2 f fd ["_law_frame", "_law_motion"] (pureSp K f__law_allowed) :=
  def_ok (k := 1) (fb := e__law_allowed) (g := f__law_allowed) F sc__law_allowed rfl rfl rfl fun cdv A outer s H E W hr hW =>
  (ds_cons (ds_for hW (di_range1 (de_s (de_callB (m := .b) c_len (da_cons (de_ix (vb 0) ci) da_nil) (hm := B.len)) (scal_call fl_len)) (hm := B.range)) (fun W hW => (dg_name (i := 2) hW sc__law_allowed.nd)) (fun W hW => (ds_cons (ds_set 3 hW sc__law_allowed.nd (de_call C__law_growth (hr.mono (by decide)) (da_cons (vn 0) (da_cons (vn 2) (da_cons (vn 1) da_nil)))))
  (ds_one (ds_if (dt_w (dw_or (dt_w (dw_and (dt_isN (de_ix (de_ix (de_ix (vb 0) ci) (vb 2)) ci)) (dw_and1 (dt_cmp o_gt (vb 3) ci)))) (dw_or1 (dt_w (dw_and (dt_isN (de_ix (de_ix (de_ix (vb 0) ci) (vb 2)) ci)) (dw_and1 (dt_cmp o_lt (vb 3) ci))))))) (ds_one (ds_ret cb)) ds_nil)))))
  (ds_one (ds_ret (de_cmp (o_eq (hu65 hr)) (de_s (de_callB (m := .b) c_len (da_cons (de_lcB (own := [("_law_pin", 4)]) hW sc__law_allowed.nd (dic_seq (de_ix (vn 0) ci)) (blkOk_by (own := [("_law_pin", 4)]) (N := N__law_allowed) (sc := defScope s__law_allowed) (by decide +kernel)) (fun s H C cl fp W hW => (dg_name (i := 4) hW sc__law_allowed.nd)) (fun s H C cl fp W hW => (dts_one (dt_cmp (o_ne (hu65 hr)) (de_ix (vb 1) (vb 4)) (de_tup (da_cons ci (da_cons ci da_nil)))))) (fun s H C cl fp W hW => (vb 4)) (hon := (on_name 4))) da_nil) (hm := B.len)) (scal_call fl_len)) ci))))
theorem ok__law_resistance {P : Program} {w : World} {K : PySem.W.Frag} {mg : Str → Option Value} {base : Heap} {f : Addr} {fd : FuncData} (F : Fun K "_law_resistance" "_law_resistance" s__law_resistance f fd) (B : Bl mg) (C__law_growth : Df P w K mg base 1 "_law_growth" ["_law_frame", "_law_k", "_law_motion"] f__law_growth) : FnOk P w K mg base CX0 2 f fd ["_law_frame", "_law_motion"] (pureSp K f__law_resistance) :=
  def_ok (k := 1) (fb := e__law_resistance) (g := f__law_resistance) F sc__law_resistance rfl rfl rfl fun cdv A outer s H E W hr hW =>
  (ds_cons (ds_set 2 hW sc__law_resistance.nd ci)
  (ds_cons (ds_for hW (di_range1 (de_s (de_callB (m := .b) c_len (da_cons (de_ix (vb 0) ci) da_nil) (hm := B.len)) (scal_call fl_len)) (hm := B.range)) (fun W hW => (dg_name (i := 3) hW sc__law_resistance.nd)) (fun W hW => (ds_cons (ds_set 4 hW sc__law_resistance.nd (de_call C__law_growth (hr.mono (by decide)) (da_cons (vn 0) (da_cons (vn 3) (da_cons (vn 1) da_nil)))))
  (ds_cons (ds_if (dt_cmp o_gt (vb 4) ci) (ds_one (ds_set 2 hW sc__law_resistance.nd (de_bin o_add (vn 2) (de_bin o_mul (de_ix (de_ix (de_ix (vn 0) ci) (vb 3)) ci) (vn 4))))) ds_nil)
  (ds_one (ds_if (dt_cmp o_lt (vb 4) ci) (ds_one (ds_set 2 hW sc__law_resistance.nd (de_s (de_bin o_sub (vb 2) (de_bin o_mul (de_ix (de_ix (de_ix (vb 0) ci) (vb 3)) ci) (vb 4))) (scal_f2 fl_sub)))) ds_nil))))))
  (ds_one (ds_ret (vn 2)))))
theorem ok__law_is_motion {P : Program} {w : World} {K : PySem.W.Frag} {mg : Str → Option Value} {base : Heap} {f : Addr} {fd : FuncData} (F : Fun K "_law_is_motion" "_law_is_motion" s__law_is_motion f fd) (B : Bl mg) (C__law_is_integer : Df P w K mg base 1 "_law_is_integer" ["_law_actual"] f__law_is_integer) : FnOk P w K mg base CX0 2 f fd ["_law_actual", "_law_n"] (pureSp K f__law_is_motion) :=
  def_ok (k := 1) (fb := e__law_is_motion) (g := f__law_is_motion) F sc__law_is_motion rfl rfl rfl fun cdv A outer s H E W hr hW =>
  (ds_cons (ds_if (dt_w (dw_or (dt_not (dt_val (de_isi "tuple" (vb 0) (hmI := B.isinstance) (hmT := B.tuple)))) (dw_or1 (dt_cmp (o_ne (hu65 hr)) (de_s (de_callB (m := .b) c_len (da_cons (vb 0) da_nil) (hm := B.len)) (scal_call fl_len)) (vb 1))))) (ds_one (ds_ret cb)) ds_nil)
  (ds_cons (ds_for hW (di_seq (vn 0)) (fun W hW => (dg_name (i := 2) hW sc__law_is_motion.nd)) (fun W hW => (ds_one (ds_if (dt_w (dw_or (dt_not (dt_val (de_isi "tuple" (vb 2) (hmI := B.isinstance) (hmT := B.tuple)))) (dw_or (dt_cmp (o_ne (hu65 hr)) (de_s (de_callB (m := .b) c_len (da_cons (vb 2) da_nil) (hm := B.len)) (scal_call fl_len)) ci) (dw_or (dt_not (dt_val (de_call C__law_is_integer (hr.mono (by decide)) (da_cons (de_ix (vb 2) ci) da_nil)))) (dw_or1 (dt_not (dt_val (de_call C__law_is_integer (hr.mono (by decide)) (da_cons (de_ix (vb 2) ci) da_nil))))))))) (ds_one (ds_ret cb)) ds_nil))))
  (ds_one (ds_ret cb))))
theorem ok__law_is_lowest {P : Program} {w : World} {K : PySem.W.Frag} {mg : Str → Option Value} {base : Heap} {f : Addr} {fd : FuncData} (F : Fun K "_law_is_lowest" "_law_is_lowest" s__law_is_lowest f fd) (B : Bl mg) (C__law_divisor : Df P w K mg base 1 "_law_divisor" ["_law_a", "_law_b"] f__law_divisor) : FnOk P w K mg base CX0 2 f fd ["_law_integers"] (pureSp K f__law_is_lowest) :=
  def_ok (k := 1) (fb := e__law_is_lowest) (g := f__law_is_lowest) F sc__law_is_lowest rfl rfl rfl fun cdv A outer s H E W hr hW =>
  (ds_cons (ds_set 1 hW sc__law_is_lowest.nd ci)
  (ds_cons (ds_for hW (di_seq (vn 0)) (fun W hW => (dg_name (i := 2) hW sc__law_is_lowest.nd)) (fun W hW => (ds_one (ds_set 1 hW sc__law_is_lowest.nd (de_call C__law_divisor (hr.mono (by decide)) (da_cons (vn 1) (da_cons (vn 2) da_nil)))))))
  (ds_one (ds_ret (de_cmp o_lt (vb 1) ci)))))
theorem ok__law_flat {P : Program} {w : World} {K : PySem.W.Frag} {mg : Str → Option Value} {base : Heap} {f : Addr} {fd : FuncData} (F : Fun K "_law_flat" "_law_flat" s__law_flat f fd) (B : Bl mg)  : FnOk P w K mg base CX0 1 f fd ["_law_motion"] (pureSp K f__law_flat) :=
  def_ok (k := 0) (fb := e__law_flat) (g := f__law_flat) F sc__law_flat rfl rfl rfl fun cdv A outer s H E W hr hW =>
  (ds_cons (ds_set 1 hW sc__law_flat.nd (de_fn (de_lst da_nil)))
  (ds_cons (ds_for hW (di_seq (vn 0)) (fun W hW => (dg_name (i := 2) hW sc__law_flat.nd)) (fun W hW => (ds_one (ds_set 1 hW sc__law_flat.nd (de_bin o_add (vn 1) (de_fn (de_lst (da_cons (de_ix (vn 2) ci) (da_cons (de_ix (vn 2) ci) da_nil)))))))))
  (ds_one (ds_ret (vn 1)))))
theorem ok__law_rigid {P : Program} {w : World} {K : PySem.W.Frag} {mg : Str → Option Value} {base : Heap} {f : Addr} {fd : FuncData} (F : Fun K "_law_rigid" "_law_rigid" s__law_rigid f fd) (B : Bl mg)  : FnOk P w K mg base CX0 1 f fd ["_law_points", "_law_motion"] (pureSp K f__law_rigid) :=
  def_ok (k := 0) (fb := e__law_rigid) (g := f__law_rigid) F sc__law_rigid rfl rfl rfl fun cdv A outer s H E W hr hW =>
  (ds_cons (ds_setF 2 hW sc__law_rigid.nd (de_lst da_nil))
  (ds_cons (ds_for hW (di_range1 (de_s (de_callB (m := .b) c_len (da_cons (vb 0) da_nil) (hm := B.len)) (scal_call fl_len)) (hm := B.range)) (fun W hW => (dg_name (i := 3) hW sc__law_rigid.nd)) (fun W hW => (ds_one (ds_for hW (di_range1 (vb 3) (hm := B.range)) (fun W hW => (dg_name (i := 4) hW sc__law_rigid.nd)) (fun W hW => (ds_cons (ds_set 5 hW sc__law_rigid.nd (de_tup (da_cons (de_s (de_bin o_sub (de_ix (de_ix (vb 0) (vb 3)) ci) (de_ix (de_ix (vb 0) (vb 4)) ci)) (scal_f2 fl_sub)) (da_cons (de_s (de_bin o_sub (de_ix (de_ix (vb 0) (vb 3)) ci) (de_ix (de_ix (vb 0) (vb 4)) ci)) (scal_f2 fl_sub)) da_nil))))
  (ds_cons (ds_set 6 hW sc__law_rigid.nd (de_tup (da_cons (de_s (de_bin o_sub (de_ix (de_ix (vb 1) (vb 3)) ci) (de_ix (de_ix (vb 1) (vb 4)) ci)) (scal_f2 fl_sub)) (da_cons (de_s (de_bin o_sub (de_ix (de_ix (vb 1) (vb 3)) ci) (de_ix (de_ix (vb 1) (vb 4)) ci)) (scal_f2 fl_sub)) da_nil))))
  (ds_cons (ds_if (dt_w (dw_or (dt_cmp (o_ne (hu65 hr)) (de_bin o_add (de_bin o_mul (de_ix (vb 5) ci) (de_ix (vb 6) ci)) (de_bin o_mul (de_ix (vb 5) ci) (de_ix (vb 6) ci))) ci) (dw_or1 (dt_w (dw_and (dt_cmp (o_eq (hu65 hr)) (vb 5) (de_tup (da_cons ci (da_cons ci da_nil)))) (dw_and1 (dt_cmp (o_ne (hu65 hr)) (vb 6) (de_tup (da_cons ci (da_cons ci da_nil)))))))))) (ds_one (ds_ret cb)) ds_nil)
  (ds_one (ds_mut 2 PySem.F.slot_list_append PySem.F.type_list_append mu_append (de_tup (da_cons (de_s (de_bin o_sub (de_bin o_mul (de_ix (vb 5) ci) (de_ix (vb 6) ci)) (de_bin o_mul (de_ix (vb 5) ci) (de_ix (vb 6) ci))) (scal_f2 fl_sub)) (da_cons (de_bin o_add (de_bin o_mul (de_ix (vn 5) ci) (de_ix (vn 5) ci)) (de_bin o_mul (de_ix (vn 5) ci) (de_ix (vn 5) ci))) da_nil)))))))))))))
  (ds_cons (ds_frz 2 (ds_for hW (di_seq (vn 2)) (fun W hW => (dg_tup hW (dgs_cons (fun W hW => (dg_name (i := 7) hW sc__law_rigid.nd)) (dgs_cons (fun W hW => (dg_name (i := 8) hW sc__law_rigid.nd)) dgs_nil)))) (fun W hW => (ds_one (ds_frz 2 (ds_for hW (di_seq (vn 2)) (fun W hW => (dg_tup hW (dgs_cons (fun W hW => (dg_name (i := 9) hW sc__law_rigid.nd)) (dgs_cons (fun W hW => (dg_name (i := 10) hW sc__law_rigid.nd)) dgs_nil)))) (fun W hW => (ds_one (ds_if (dt_cmp (o_ne (hu65 hr)) (de_bin o_mul (vb 7) (vb 10)) (de_bin o_mul (vb 9) (vb 8))) (ds_one (ds_ret cb)) ds_nil)))))))))
  (ds_one (ds_ret cb)))))
theorem ok__law_braces {P : Program} {w : World} {K : PySem.W.Frag} {mg : Str → Option Value} {base : Heap} {f : Addr} {fd : FuncData} (F : Fun K "_law_braces" "_law_braces" s__law_braces f fd) (B : Bl mg) (C__law_cell : Df P w K mg base 1 "_law_cell" ["_law_script", "_law_k"] f__law_cell) (C__law_parts : Df P w K mg base 1 "_law_parts" ["_law_cell_here", "_law_sizes"] f__law_parts) : FnOk P w K mg base CX0 2 f fd ["_law_script", "_law_r", "_law_c"] (pureSp K f__law_braces) :=
  def_ok (k := 1) (fb := e__law_braces) (g := f__law_braces) F sc__law_braces rfl rfl rfl fun cdv A outer s H E W hr hW =>
  (ds_cons (ds_setF 3 hW sc__law_braces.nd (de_lst da_nil))
  (ds_cons (ds_for hW (di_range1 (vb 1) (hm := B.range)) (fun W hW => (dg_name (i := 4) hW sc__law_braces.nd)) (fun W hW => (ds_one (ds_for hW (di_range1 (vb 2) (hm := B.range)) (fun W hW => (dg_name (i := 5) hW sc__law_braces.nd)) (fun W hW => (ds_cons (ds_set 6 hW sc__law_braces.nd (de_call C__law_parts (hr.mono (by decide)) (da_cons (de_bin o_add (de_bin o_add (de_call C__law_cell (hr.mono (by decide)) (da_cons (vn 0) (da_cons ci da_nil))) (de_bin o_mul ci (vn 4))) (de_bin o_mul ci (vn 5))) (da_cons (de_fn (de_lst (da_cons ci (da_cons ci da_nil)))) da_nil))))
  (ds_cons (ds_set 7 hW sc__law_braces.nd (de_ix (de_fn (de_lst (da_cons (de_fn (de_lst da_nil)) (da_cons (de_fn (de_lst da_nil)) (da_cons (de_fn (de_lst (da_cons cs da_nil))) (da_cons (de_fn (de_lst (da_cons cs da_nil))) (da_cons (de_fn (de_lst (da_cons cs da_nil))) (da_cons (de_fn (de_lst (da_cons cs (da_cons cs da_nil)))) (da_cons (de_fn (de_lst (da_cons cs (da_cons cs da_nil)))) (da_cons (de_fn (de_lst (da_cons cs da_nil))) da_nil)))))))))) (de_ix (vb 6) ci)))
  (ds_one (ds_for hW (di_seq (vn 7)) (fun W hW => (dg_name (i := 8) hW sc__law_braces.nd)) (fun W hW => (ds_one (ds_mut 3 PySem.F.slot_list_append PySem.F.type_list_append mu_append (de_tup (da_cons (vn 4) (da_cons (vn 5) (da_cons (vn 8) da_nil))))))))))))))))
  (ds_cons (ds_set 9 hW sc__law_braces.nd (de_s (de_bin o_mod (de_s (de_callT (m := .b) c_int (da_cons (de_ix (de_call C__law_parts (hr.mono (by decide)) (da_cons (de_call C__law_cell (hr.mono (by decide)) (da_cons (vb 0) (da_cons ci da_nil))) (da_cons (de_lstB (da_cons ci da_nil)) da_nil))) ci) da_nil) (hm := B.int)) (scal_call fl_int)) (de_s (de_callB (m := .b) (c_max2 rfl) (da_cons ci (da_cons (de_s (de_callB (m := .b) c_len (da_cons (vb 3) da_nil) (hm := B.len)) (scal_call fl_len)) da_nil)) (hm := B.max)) (scal_call fl_max2))) (scal_f2 fl_mod)))
  (ds_one (ds_frz 3 (ds_ret (de_bin o_add (de_sl (vn 3) (do_some (vb 9)) do_none) (de_sl (vn 3) do_none (do_some (vb 9))))))))))
theorem ok__law_size {P : Program} {w : World} {K : PySem.W.Frag} {mg : Str → Option Value} {base : Heap} {f : Addr} {fd : FuncData} (F : Fun K "_law_size" "_law_size" s__law_size f fd) (B : Bl mg) (C__law_cell : Df P w K mg base 1 "_law_cell" ["_law_script", "_law_k"] f__law_cell) (C__law_parts : Df P w K mg base 1 "_law_parts" ["_law_cell_here", "_law_sizes"] f__law_parts) : FnOk P w K mg base CX0 2 f fd ["_law_script"] (pureSp K f__law_size) :=
  def_ok (k := 1) (fb := e__law_size) (g := f__law_size) F sc__law_size rfl rfl rfl fun cdv A outer s H E W hr hW =>
  (ds_cons (ds_set 1 hW sc__law_size.nd (de_call C__law_parts (hr.mono (by decide)) (da_cons (de_call C__law_cell (hr.mono (by decide)) (da_cons (vn 0) (da_cons ci da_nil))) (da_cons (de_fn (de_lst (da_cons ci (da_cons ci da_nil)))) da_nil))))
  (ds_one (ds_ret (de_tup (da_cons (de_bin o_add ci (de_ix (vn 1) ci)) (da_cons (de_bin o_add ci (de_ix (vn 1) ci)) da_nil))))))
theorem ok__law_pulls {P : Program} {w : World} {K : PySem.W.Frag} {mg : Str → Option Value} {base : Heap} {f : Addr} {fd : FuncData} (F : Fun K "_law_pulls" "_law_pulls" s__law_pulls f fd) (B : Bl mg)  : FnOk P w K mg base CX0 1 f fd ["_law_r", "_law_c", "_law_braces_here"] (pureSp K f__law_pulls) :=
  def_ok (k := 0) (fb := e__law_pulls) (g := f__law_pulls) F sc__law_pulls rfl rfl rfl fun cdv A outer s H E W hr hW =>
  (ds_cons (ds_setLc 3 (own := [("_law_k", 9)]) hW sc__law_pulls.nd (dic_of (di_range1 (de_bin o_mul (de_bin o_add (vb 0) ci) (de_bin o_add (vb 1) ci)) (hm := B.range))) (blkOk_by (own := [("_law_k", 9)]) (N := N__law_pulls) (sc := defScope s__law_pulls) (by decide +kernel)) (fun s H C cl fp W hW => (dg_name (i := 9) hW sc__law_pulls.nd)) (fun s H C cl fp W hW => dts_nil) (fun s H C cl fp W hW => (de_tup (da_cons (de_s (de_bin o_mod (de_s (de_callT (m := .b) c_int (da_cons (vb 9) da_nil) (hm := B.int)) (scal_call fl_int)) (de_bin o_add (vb 1) ci)) (scal_f2 fl_mod)) (da_cons (de_s (de_bin o_fdiv (de_s (de_callT (m := .b) c_int (da_cons (vb 9) da_nil) (hm := B.int)) (scal_call fl_int)) (de_bin o_add (vb 1) ci)) (scal_f2 fl_fdiv)) da_nil)))) (hon := (on_name 9)))
  (ds_cons (ds_setF 4 hW sc__law_pulls.nd (de_lst da_nil))
  (ds_cons (ds_for hW (di_range1 (de_s (de_callB (m := .b) c_len (da_cons (vb 3) da_nil) (hm := B.len)) (scal_call fl_len)) (hm := B.range)) (fun W hW => (dg_name (i := 5) hW sc__law_pulls.nd)) (fun W hW => (ds_one (ds_for hW (di_range2 (de_bin o_add (vb 5) ci) (de_s (de_callB (m := .b) c_len (da_cons (vb 3) da_nil) (hm := B.len)) (scal_call fl_len)) (hm := B.range)) (fun W hW => (dg_name (i := 6) hW sc__law_pulls.nd)) (fun W hW => (ds_cons (ds_set 7 hW sc__law_pulls.nd (de_tup (da_cons (de_s (de_bin o_sub (de_ix (de_ix (vb 3) (vb 6)) ci) (de_ix (de_ix (vb 3) (vb 5)) ci)) (scal_f2 fl_sub)) (da_cons (de_s (de_bin o_sub (de_ix (de_ix (vb 3) (vb 6)) ci) (de_ix (de_ix (vb 3) (vb 5)) ci)) (scal_f2 fl_sub)) da_nil))))
  (ds_cons (ds_if (dt_cmp (o_in (hu65 hr)) (vb 7) (de_lstB (da_cons (de_tup (da_cons ci (da_cons ci da_nil))) (da_cons (de_tup (da_cons ci (da_cons ci da_nil))) da_nil)))) (ds_one (ds_mut 4 PySem.F.slot_list_append PySem.F.type_list_append mu_append (de_tup (da_cons (vn 5) (da_cons (vn 6) (da_cons cn (da_cons cn da_nil))))))) ds_nil)
  (ds_cons (ds_set 8 hW sc__law_pulls.nd (de_tup (da_cons (de_ix (de_ix (vn 3) (vb 5)) ci) (da_cons (de_s (de_callB (m := .b) (c_minL rfl) (da_cons (de_lstB (da_cons (de_ix (de_ix (vb 3) (vb 5)) ci) (da_cons (de_ix (de_ix (vb 3) (vb 6)) ci) da_nil))) da_nil) (hm := B.min)) (scal_call fl_minL)) da_nil))))
  (ds_cons (ds_if (dt_w (dw_and (dt_cmp (o_eq (hu65 hr)) (vb 7) (de_tup (da_cons ci (da_cons ci da_nil)))) (dw_and1 (dt_cmp (o_in (hu65 hr)) (de_bin o_add (vb 8) (de_tup (da_cons cs da_nil))) (vb 2))))) (ds_one (ds_mut 4 PySem.F.slot_list_append PySem.F.type_list_append mu_append (de_tup (da_cons (vn 5) (da_cons (vn 6) (da_cons cn (da_cons cn da_nil))))))) ds_nil)
  (ds_one (ds_if (dt_w (dw_or (dt_w (dw_and (dt_cmp (o_eq (hu65 hr)) (vb 7) (de_tup (da_cons ci (da_cons ci da_nil)))) (dw_and1 (dt_cmp (o_in (hu65 hr)) (de_bin o_add (vb 8) (de_tup (da_cons cs da_nil))) (vb 2))))) (dw_or1 (dt_w (dw_and (dt_cmp (o_eq (hu65 hr)) (vb 7) (de_tup (da_cons (de_s (de_un u_neg ci) (scal_f1 fl_neg)) (da_cons ci da_nil)))) (dw_and1 (dt_cmp (o_in (hu65 hr)) (de_bin o_add (vb 8) (de_tup (da_cons cs da_nil))) (vb 2)))))))) (ds_one (ds_mut 4 PySem.F.slot_list_append PySem.F.type_list_append mu_append (de_tup (da_cons (vn 5) (da_cons (vn 6) (da_cons cn (da_cons ci da_nil))))))) ds_nil)))))))))))
  (ds_one (ds_frz 4 (ds_ret (de_tup (da_cons (de_callT c_tuple (da_cons (vn 3) da_nil) (hm := B.tuple)) (da_cons (de_callT c_tuple (da_cons (vn 4) da_nil) (hm := B.tuple)) (da_cons (de_tup da_nil) da_nil))))))))))
theorem ok__law_leads {P : Program} {w : World} {K : PySem.W.Frag} {mg : Str → Option Value} {base : Heap} {f : Addr} {fd : FuncData} (F : Fun K "_law_leads" "_law_leads" s__law_leads f fd) (B : Bl mg)  : FnOk P w K mg base CX0 1 f fd ["_law_r", "_law_braces_here", "_law_starts"] (pureSp K f__law_leads) :=
  def_ok (k := 0) (fb := e__law_leads) (g := f__law_leads) F sc__law_leads rfl rfl rfl fun cdv A outer s H E W hr hW =>
  (ds_cons (ds_setF 3 hW sc__law_leads.nd (de_callTF c_listF (da_cons (vn 2) da_nil) (hm := B.list)))
  (ds_cons (ds_for hW (di_range1 ci (hm := B.range)) (fun W hW => (dg_name (i := 4) hW sc__law_leads.nd)) (fun W hW => (ds_one (ds_for hW (di_seq (vn 1)) (fun W hW => (dg_tup hW (dgs_cons (fun W hW => (dg_name (i := 5) hW sc__law_leads.nd)) (dgs_cons (fun W hW => (dg_name (i := 6) hW sc__law_leads.nd)) (dgs_cons (fun W hW => (dg_name (i := 7) hW sc__law_leads.nd)) dgs_nil))))) (fun W hW => (ds_cons (ds_if (dt_w (dw_and (dt_cmp (o_ne (hu65 hr)) (vb 7) cs) (dw_and (dt_cmp (o_in (hu65 hr)) (vb 5) (vb 3)) (dw_and1 (dt_cmp (o_notin (hu65 hr)) (de_bin o_add (vb 0) (vb 6)) (vb 3)))))) (ds_one (ds_mut 3 PySem.F.slot_list_append PySem.F.type_list_append mu_append (de_bin o_add (vn 0) (vn 6)))) ds_nil)
  (ds_one (ds_if (dt_w (dw_and (dt_cmp (o_ne (hu65 hr)) (vb 7) cs) (dw_and (dt_cmp (o_in (hu65 hr)) (de_bin o_add (vb 0) (vb 6)) (vb 3)) (dw_and1 (dt_cmp (o_notin (hu65 hr)) (vb 5) (vb 3)))))) (ds_one (ds_mut 3 PySem.F.slot_list_append PySem.F.type_list_append mu_append (vn 5))) ds_nil))))))))
  (ds_one (ds_frz 3 (ds_ret (vn 3))))))
theorem ok__law_is_stiff {P : Program} {w : World} {K : PySem.W.Frag} {mg : Str → Option Value} {base : Heap} {f : Addr} {fd : FuncData} (F : Fun K "_law_is_stiff" "_law_is_stiff" s__law_is_stiff f fd) (B : Bl mg) (C__law_leads : Df P w K mg base 1 "_law_leads" ["_law_r", "_law_braces_here", "_law_starts"] f__law_leads) : FnOk P w K mg base CX0 2 f fd ["_law_r", "_law_c", "_law_braces_here"] (pureSp K f__law_is_stiff) :=
  def_ok (k := 1) (fb := e__law_is_stiff) (g := f__law_is_stiff) F sc__law_is_stiff rfl rfl rfl fun cdv A outer s H E W hr hW =>
  (ds_one (ds_ret (de_cmp (o_eq (hu65 hr)) (de_s (de_callB (m := .b) c_len (da_cons (de_lcB (own := [("_law_start", 3)]) hW sc__law_is_stiff.nd (dic_of (di_range1 (de_bin o_add (vb 0) (vb 1)) (hm := B.range))) (blkOk_by (own := [("_law_start", 3)]) (N := N__law_is_stiff) (sc := defScope s__law_is_stiff) (by decide +kernel)) (fun s H C cl fp W hW => (dg_name (i := 3) hW sc__law_is_stiff.nd)) (fun s H C cl fp W hW => (dts_one (dt_cmp o_lt (de_s (de_callB (m := .b) c_len (da_cons (de_call C__law_leads (hr.mono (by decide)) (da_cons (vb 0) (da_cons (vb 2) (da_cons (de_lstB (da_cons (vb 3) da_nil)) da_nil)))) da_nil) (hm := B.len)) (scal_call fl_len)) (de_bin o_add (vb 0) (vb 1))))) (fun s H C cl fp W hW => (vb 3)) (hon := (on_name 3))) da_nil) (hm := B.len)) (scal_call fl_len)) ci)))
theorem ok_law {P : Program} {w : World} {K : PySem.W.Frag} {mg : Str → Option Value} {base : Heap} {f : Addr} {fd : FuncData} (F : Fun K "law" "law" s_law f fd) (B : Bl mg) (C__law_allowed : Df P w K mg base 2 "_law_allowed" ["_law_frame", "_law_motion"] f__law_allowed) (C__law_braces : Df P w K mg base 2 "_law_braces" ["_law_script", "_law_r", "_law_c"] f__law_braces) (C__law_flat : Df P w K mg base 1 "_law_flat" ["_law_motion"] f__law_flat) (C__law_is_lowest : Df P w K mg base 2 "_law_is_lowest" ["_law_integers"] f__law_is_lowest) (C__law_is_motion : Df P w K mg base 2 "_law_is_motion" ["_law_actual", "_law_n"] f__law_is_motion) (C__law_is_stiff : Df P w K mg base 2 "_law_is_stiff" ["_law_r", "_law_c", "_law_braces_here"] f__law_is_stiff) (C__law_pulls : Df P w K mg base 1 "_law_pulls" ["_law_r", "_law_c", "_law_braces_here"] f__law_pulls) (C__law_rigid : Df P w K mg base 1 "_law_rigid" ["_law_points", "_law_motion"] f__law_rigid) (C__law_size : Df P w K mg base 2 "_law_size" ["_law_script"] f__law_size) (C_grid_motion : Df P w K mg base 3 "grid_motion" ["r", "c", "braces"] f_grid_motion) : FnOk P w K mg base CX0 4 f fd ["_law_script"] (pureSp K f_law) :=
  def_ok (k := 3) (fb := e_law) (g := f_law) F sc_law rfl rfl rfl fun cdv A outer s H E W hr hW =>
  (ds_cons (ds_asg (de_call C__law_size (hr.mono (by decide)) (da_cons (vn 0) da_nil)) (dg_tup hW (dgs_cons (fun W hW => (dg_name (i := 1) hW sc_law.nd)) (dgs_cons (fun W hW => (dg_name (i := 2) hW sc_law.nd)) dgs_nil))))
  (ds_cons (ds_set 3 hW sc_law.nd (de_call C__law_braces (hr.mono (by decide)) (da_cons (vn 0) (da_cons (vn 1) (da_cons (vn 2) da_nil)))))
  (ds_cons (ds_set 4 hW sc_law.nd (de_call C_grid_motion (hr.mono (by decide)) (da_cons (vn 1) (da_cons (vn 2) (da_cons (vn 3) da_nil)))))
  (ds_cons (ds_if (dt_val (de_call C__law_is_stiff (hr.mono (by decide)) (da_cons (vb 1) (da_cons (vb 2) (da_cons (vb 3) da_nil))))) (ds_one (ds_ret (de_isN (vb 4)))) ds_nil)
  (ds_cons (ds_set 5 hW sc_law.nd (de_call C__law_pulls (hr.mono (by decide)) (da_cons (vn 1) (da_cons (vn 2) (da_cons (vn 3) da_nil)))))
  (ds_cons (ds_if (dt_w (dw_or (dt_not (dt_val (de_call C__law_is_motion (hr.mono (by decide)) (da_cons (vb 4) (da_cons (de_s (de_callB (m := .b) c_len (da_cons (de_ix (vb 5) ci) da_nil) (hm := B.len)) (scal_call fl_len)) da_nil))))) (dw_or1 (dt_not (dt_val (de_call C__law_is_lowest (hr.mono (by decide)) (da_cons (de_call C__law_flat (hr.mono (by decide)) (da_cons (vb 4) da_nil)) da_nil))))))) (ds_one (ds_ret cb)) ds_nil)
  (ds_one (ds_ret (de_and (de_call C__law_allowed (hr.mono (by decide)) (da_cons (vn 5) (da_cons (vn 4) da_nil))) (de_one (de_not (de_call C__law_rigid (hr.mono (by decide)) (da_cons (de_ix (vb 5) ci) (da_cons (vb 4) da_nil))))))))))))))
end G
set_option Elab.async false
set_option linter.all false
set_option maxRecDepth 100000
set_option maxHeartbeats 4000000
namespace G
open PySem L2 DL
theorem cell_ok (ns : List Int) (k : Nat) : f__law_cell [scrD ns, .int k] = some (.int (cellI ns k)) := cell_base ns k
theorem parts_ok (c : Int) (ms : List Int) (hp : ∀ m ∈ ms, 0 < m ∧ m < 1000000) (hl : ms.length ≤ 100000) : f__law_parts [.int c, .list (ms.map .int)] = some (.list ((partsI c ms).map .int)) := parts_base c ms hp hl
theorem put_free {i : Nat} {s s0 : Slot} {env : DL.Env} (h : env[i]? = some s0) (hf : s0.free = true) : put i s env = some (env.set i s) := by
  unfold put; rw [h]; show (if s0.free = true then _ else _) = _; rw [if_pos hf]
theorem and_of {fa fb : DL.Env → Option Bool} {env : DL.Env} {a b : Bool} (h1 : fa env = some a) (h2 : fb env = some b) : fAndB fa fb env = some (a && b) := by
  unfold fAndB; rw [h1]; show (if a = true then fb env else some false) = _; cases a <;> simp [h2]
theorem fB_of {t : DL.Env → Option Bool} {env : DL.Env} {b : Bool} (h : t env = some b) : fB t env = some (.bool b) := by
  unfold fB; rw [h]; rfl
theorem ne_down (k : Kd) : neD (.str (kS k)) (.str "down") = some (!decide (k = .down)) := by cases k <;> decide +kernel
theorem ne_up (k : Kd) : neD (.str (kS k)) (.str "up") = some (!decide (k = .up)) := by cases k <;> decide +kernel
theorem run_ifapp {i : Nat} {t : DL.Env → Option Bool} {e : DL.Env → Option D} {env env1 : DL.Env} {d : D} {b : Bool} {Q : Out → Prop} (ht : t env = some b) (he : e env = some d) (hc : chg i (fun c => appD c d) env = some env1) (q : Q (.nx (if b = true then env1 else env))) :
    Run (fIfS t (fMut i appD e) fNop) env Q := by
  refine run_if ht (fun h => run_mut he hc ?_) fun h => run_nop ?_
  · rw [if_pos h] at q; exact q
  · rw [if_neg (by rw [h]; decide)] at q; exact q
/-! ### ways -/
def wG : D → DL.Env → Option DL.Env := (gTup (gCons (gN 3) (gCons (gN 4) (gCons (gN 5) gNil))))
def wB : DLi → DL.Env → Option (Out × DLi) := (rSeq (rIf (tLift fun r => (fCmp neD (fVb 5) (fC (.str "down")))) (rSetdApp (fVb 3) (f2 addD (fVb 0) (fVb 4))) rNop)
  (rIf (tLift fun r => (fCmp neD (fVb 5) (fC (.str "up")))) (rSetdApp (f2 addD (fVb 0) (fVb 4)) (fVb 3)) rNop))
theorem setd_of {fk fx : DL.Env → Option D} {dl : DLi} {env : DL.Env} {a b : Int} (h1 : fk env = some (.int a)) (h2 : fx env = some (.int b)) (hf : szDl dl < 1000000) : rSetdApp fk fx dl env = some (.nx env, addDl dl (.inl a) b) := by
  unfold rSetdApp
  rw [h1]
  show ((fx env).bind _) = _
  rw [h2]
  show (if dlFit dl = true then _ else _) = _
  rw [if_pos (fit_of hf)]
theorem rif_of {ρ : Type} {t : DL.Env → Option Bool} {f g : ρ → DL.Env → Option (Out × ρ)} {r : ρ} {env : DL.Env} {b : Bool} {x : Out × ρ} (h : t env = some b) (h1 : (if b = true then f r env else g r env) = some x) : rIf (tLift fun _ => t) f g r env = some x := by
  show (((t env).map fun b => (b, r)).bind _) = _
  rw [h]; exact h1
theorem rseq_of {ρ : Type} {f g : ρ → DL.Env → Option (Out × ρ)} {r r1 : ρ} {env e1 : DL.Env} {x : Out × ρ} (h : f r env = some (.nx e1, r1)) (h1 : g r1 e1 = some x) : rSeq f g r env = some x := by
  unfold rSeq; rw [h]; exact h1
theorem ways_go (r : Int) (d1 : D) : ∀ (bs : List Br) (dl : DLi) (x y z : Slot), x.free = true → y.free = true → z.free = true → szDl dl + 4 * bs.length < 1000000 → (dl.map (·.1)).Nodup →
    ∃ x' y' z', rForGo wG wB (bs.map brD) dl [.fz (.int r), .fz d1, .res, x, y, z] = some (.nx [.fz (.int r), .fz d1, .res, x', y', z'], waysE (edges r bs) dl)
  | [], dl, x, y, z, _, _, _, _, _ => ⟨x, y, z, rfl⟩
  | b :: bs, dl, x, y, z, hx, hy, hz, hs, hk => by
    obtain ⟨i, j, k⟩ := b
    let env1 : DL.Env := [.fz (.int r), .fz d1, .res, .fz (.int i), .fz (.int j), .fz (.str (kS k))]
    have hg : wG (brD (i, j, k)) [.fz (.int r), .fz d1, .res, x, y, z] = some env1 := by
      show (put 3 _ _).bind _ = _
      rw [put_free (s0 := x) rfl hx]
      show (put 4 _ _).bind _ = _
      rw [put_free (s0 := y) rfl hy]
      show (put 5 _ _).bind _ = _
      rw [put_free (s0 := z) rfl hz]
      rfl
    simp only [List.length_cons] at hs
    let dl1 := if k = .down then dl else addDl dl (.inl i) (r + j)
    have s1 : szDl dl1 ≤ szDl dl + 2 ∧ (dl1.map (·.1)).Nodup := by
      by_cases h : k = .down
      · simp only [dl1, if_pos h]; exact ⟨by omega, hk⟩
      · simp only [dl1, if_neg h]; exact ⟨sz_add hk _ _, keys_add hk _ _⟩
    let dl2 := if k = .up then dl1 else addDl dl1 (.inl (r + j)) i
    have s2 : szDl dl2 ≤ szDl dl1 + 2 ∧ (dl2.map (·.1)).Nodup := by
      by_cases h : k = .up
      · simp only [dl2, if_pos h]; exact ⟨by omega, s1.2⟩
      · simp only [dl2, if_neg h]; exact ⟨sz_add s1.2 _ _, keys_add s1.2 _ _⟩
    have hB : wB dl env1 = some (.nx env1, dl2) := by
      refine rseq_of (r1 := dl1) (e1 := env1) (rif_of (b := !decide (k = .down)) (cmp_of rfl rfl (ne_down k)) ?_) (rif_of (b := !decide (k = .up)) (cmp_of rfl rfl (ne_up k)) ?_)
      · by_cases h : k = .down
        · simp only [dl1, h]; rfl
        · simp only [dl1, if_neg h, h, decide_false, Bool.not_false, if_true]
          exact setd_of rfl rfl (by omega)
      · by_cases h : k = .up
        · simp only [dl2, h]; rfl
        · simp only [dl2, if_neg h, h, decide_false, Bool.not_false, if_true]
          exact setd_of rfl rfl (by omega)
    have e : waysE (edges r ((i, j, k) :: bs)) dl = waysE (edges r bs) dl2 := by
      show waysE (edg r (i, j, k) ++ edges r bs) dl = _
      unfold waysE
      rw [List.foldl_append]
      congr 1
      simp only [edg, dl1, dl2]
      cases k <;> rfl
    obtain ⟨x', y', z', h⟩ := ways_go r d1 bs dl2 (.fz (.int i)) (.fz (.int j)) (.fz (.str (kS k))) rfl rfl rfl (by omega) s2.2
    refine ⟨x', y', z', ?_⟩
    rw [List.map_cons, e, ← h]
    conv => lhs; unfold rForGo
    rw [hg]
    show ((wB dl env1).bind _) = _
    rw [hB]
    rfl
theorem ways_ok (r : Int) (bs : List Br) (hl : bs.length ≤ 1000) : f_ways [.int r, .list (bs.map brD)] = some (dlD (waysE (edges r bs) [])) := by
  refine runF_of rfl ?_
  obtain ⟨x', y', z', h⟩ := ways_go r (.list (bs.map brD)) bs [] .emp .emp .emp rfl rfl rfl (by simp [szDl]; omega) (by simp)
  refine ⟨.rt (dlD (waysE (edges r bs) [])) [.fz (.int r), .fz (.list (bs.map brD)), .emp, x', y', z'], ?_, .inl ⟨_, rfl⟩⟩
  show (((some (bs.map brD)).bind fun ds => rForGo wG wB ds [] [.fz (.int r), .fz (.list (bs.map brD)), .res, .emp, .emp, .emp]).bind _) = _
  show ((rForGo wG wB (bs.map brD) [] [.fz (.int r), .fz (.list (bs.map brD)), .res, .emp, .emp, .emp]).bind _) = _
  rw [h]
  rfl
/-! ### leads -/
theorem leads_ok (r : Int) (bs : List Br) (S : List Int) (hb : bs.length ≤ 100) (hS : S.length ≤ 10) : f__law_leads [.int r, .list (bs.map brD), .list (S.map .int)] = some (.list ((rnds (edges r bs) 7 S).map .int)) := by
  refine runF_of rfl (run_seq (run_setF (d := .list (S.map .int)) (call1 (d := .list (S.map .int)) rfl rfl) rfl (run_seq ?_)))
  refine run_for (ds := rngD 0 7) (fr1 (j := 7) rfl (B62_small (by decide) (by decide))) (fun t env => ∃ (L : List Int) (s4 x y z : Slot), env = [.fz (.int r), .fz (.list (bs.map brD)), .fz (.list (S.map .int)), .own (.list (L.map .int)), s4, x, y, z] ∧ s4.free = true ∧ x.free = true ∧ y.free = true ∧ z.free = true ∧ L = rnds (edges r bs) t S ∧ L.length ≤ 10 + 200 * t)
    ⟨S, _, _, _, _, rfl, rfl, rfl, rfl, rfl, rfl, by omega⟩ ?_ ?_
  · rintro t d env hd ⟨L, s4, x, y, z, rfl, h4, hx, hy, hz, hL, hn⟩
    obtain ⟨ht, rfl⟩ := rngD_get hd
    refine ⟨_, put_free (s0 := s4) rfl h4, ?_⟩
    refine run_for (ds := bs.map brD) rfl (fun j env => ∃ (M : List Int) (x y z : Slot), env = [.fz (.int r), .fz (.list (bs.map brD)), .fz (.list (S.map .int)), .own (.list (M.map .int)), .fz (.int (0 + (t : Nat))), x, y, z] ∧ x.free = true ∧ y.free = true ∧ z.free = true ∧ M = rnd (edges r (bs.take j)) L ∧ M.length ≤ 10 + 200 * t + 2 * j)
      ⟨L, x, y, z, rfl, hx, hy, hz, rfl, by omega⟩ ?_ ?_
    · rintro j d env hd ⟨M, x, y, z, rfl, hx, hy, hz, hM, hl⟩
      obtain ⟨b, hbj, rfl⟩ : ∃ b, bs[j]? = some b ∧ d = brD b := by
        rw [List.getElem?_map] at hd
        cases e : bs[j]? with
        | none => rw [e] at hd; cases hd
        | some b => rw [e] at hd; exact ⟨b, rfl, (Option.some.inj hd).symm⟩
      obtain ⟨hj, ebj⟩ := List.getElem?_eq_some_iff.mp hbj
      obtain ⟨i, c, k⟩ := b
      have mapp : ∀ (M : List Int) (v : Int), M.map PyData.int ++ [.int v] = (M ++ [v]).map PyData.int := fun M v => by simp
      have hM2 : rnd (edges r (bs.take (j + 1))) L = rnd (edg r (i, c, k)) M := by
        rw [hM, List.take_add_one, hbj]
        unfold rnd edges
        simp [List.flatMap_append, List.foldl_append]
      refine ⟨[.fz (.int r), .fz (.list (bs.map brD)), .fz (.list (S.map .int)), .own (.list (M.map .int)), .fz (.int (0 + (t : Nat))), .fz (.int i), .fz (.int c), .fz (.str (kS k))], ?_, ?_⟩
      · show (put 5 _ _).bind _ = _
        rw [put_free (s0 := x) rfl hx]
        show (put 6 _ _).bind _ = _
        rw [put_free (s0 := y) rfl hy]
        show (put 7 _ _).bind _ = _
        rw [put_free (s0 := z) rfl hz]
        rfl
      let M1 := if (!decide (k = .down) && (decide (i ∈ M) && !decide (r + c ∈ M))) = true then M ++ [r + c] else M
      have hM1l : M1.length ≤ M.length + 1 := by simp only [M1]; split <;> simp
      let M2 := if (!decide (k = .up) && (decide (r + c ∈ M1) && !decide (i ∈ M1))) = true then M1 ++ [i] else M1
      have hM2l : M2.length ≤ M1.length + 1 := by simp only [M2]; split <;> simp
      have hM2e : rnd (edg r (i, c, k)) M = M2 := by
        simp only [M2, M1]
        cases k <;> simp [rnd, edg, add1]
      let E1 : List Int → DL.Env := fun M => [.fz (.int r), .fz (.list (bs.map brD)), .fz (.list (S.map .int)), .own (.list (M.map .int)), .fz (.int (0 + (t : Nat))), .fz (.int i), .fz (.int c), .fz (.str (kS k))]
      refine run_seq (run_ifapp (env1 := E1 (M ++ [r + c])) (b := !decide (k = .down) && (decide (i ∈ M) && !decide (r + c ∈ M))) (d := .int (r + c)) (and_of (cmp_of rfl rfl (ne_down k)) (and_of (cmp_of rfl rfl inD_ints) (cmp_of (d := .int (r + c)) rfl rfl ninD_ints))) rfl ?_ ?_)
      · show (appD (.list (M.map .int)) (.int (r + c))).map _ = _
        rw [appD_of (by rw [List.length_map]; omega), mapp]; rfl
      have e1 : (if (!decide (k = .down) && (decide (i ∈ M) && !decide (r + c ∈ M))) = true then E1 (M ++ [r + c]) else E1 M) = E1 M1 := by
        simp only [M1]; split <;> rfl
      show Run _ (if (!decide (k = .down) && (decide (i ∈ M) && !decide (r + c ∈ M))) = true then E1 (M ++ [r + c]) else E1 M) _
      rw [e1]
      refine run_ifapp (env1 := E1 (M1 ++ [i])) (b := !decide (k = .up) && (decide (r + c ∈ M1) && !decide (i ∈ M1))) (d := .int i) (and_of (cmp_of rfl rfl (ne_up k)) (and_of (cmp_of (d := .int (r + c)) rfl rfl inD_ints) (cmp_of rfl rfl ninD_ints))) rfl ?_ ?_
      · show (appD (.list (M1.map .int)) (.int i)).map _ = _
        rw [appD_of (by rw [List.length_map]; omega), mapp]; rfl
      have e2 : (if (!decide (k = .up) && (decide (r + c ∈ M1) && !decide (i ∈ M1))) = true then E1 (M1 ++ [i]) else E1 M1) = E1 M2 := by
        simp only [M2]; split <;> rfl
      rw [e2]
      exact ⟨M2, _, _, _, rfl, rfl, rfl, rfl, by rw [hM2, hM2e], by omega⟩
    · rintro env ⟨M, x, y, z, rfl, hx, hy, hz, hM, hl⟩
      rw [List.length_map] at hM hl
      rw [List.take_length] at hM
      refine ⟨M, _, x, y, z, rfl, rfl, hx, hy, hz, ?_, by omega⟩
      rw [hM, hL]; rfl
  · rintro env ⟨L, s4, x, y, z, rfl, h4, hx, hy, hz, hL, hn⟩
    rw [rngD_len] at hL
    exact run_frz (run_ret (d := .list (L.map .int)) rfl (.inl ⟨_, by rw [hL]⟩))
/-! ### come_to -/
theorem wh_last {W : List Int} {u : Int} : (W ++ [u]).map PyData.int = W.map PyData.int ++ [.int u] := by simp
theorem come_ok {E : Edges} {dl : DLi} {s : Int} {n : Nat} (hn : n ≤ 1000) (hI : ∀ kv ∈ dl, ∃ i, kv.1 = .inl i) (hsucc : ∀ v w, w ∈ succ dl v ↔ (v, w) ∈ E) (hs : 0 ≤ s ∧ s < n) (hE : ∀ p ∈ E, 0 ≤ p.2 ∧ p.2 < n) :
    ∃ F, f_come_to [dlD dl, .int s] = some (setDD F) ∧ IsCl E [s] F := by
  have bnd : ∀ F, Mk E [s] F → F.length ≤ n := fun F h => nodup_bound h.nd (h.bound (n := n) (by simpa using hs) hE)
  have := runF_inv (n := 2) (N := 5) (body := e_come_to) (ds := [dlD dl, .int s]) (Q := fun d => ∃ F, d = setDD F ∧ IsCl E [s] F) rfl ?_
  · obtain ⟨r, h1, F, rfl, h2⟩ := this
    exact ⟨F, h1, h2⟩
  have h0 : fDisp (((fVb 1), (fC (.bool true))) :: []) [Slot.fz (dlD dl), .fz (.int s), .emp, .emp, .emp] = some (setDD [s]) := rfl
  refine run_seq (run_setF (d := setDD [s]) h0 rfl (run_seq (run_setF (d := .list [.int s]) rfl rfl (run_seq ?_))))
  refine run_while (n := 2 * (n - 1) + 1) (fun m env => ∃ (F W : List Int) (x : Slot), env = [.fz (dlD dl), .fz (.int s), .own (setDD F), .own (.list (W.map .int)), x] ∧ x.free = true ∧ Mk E [s] F ∧ (∀ v ∈ W, v ∈ F) ∧ (∀ v ∈ F, v ∉ W → ∀ w ∈ succ dl v, w ∈ F) ∧ m = 2 * (n - F.length) + W.length ∧ m ≤ 3000)
    ?_ ⟨[s], [s], .emp, rfl, rfl, Mk.start (by simp), fun v h => h, fun v h1 h2 => absurd h1 h2, rfl, by omega⟩
  rintro m env ⟨F, W, x, rfl, hx, hM, hW, hcl, hm, hm3⟩
  refine ⟨!(W.map PyData.int).isEmpty, rfl, fun h => ?_, fun h => ?_⟩
  · have hW0 : W = [] := by
      cases W with
      | nil => rfl
      | cons a b => simp at h
    refine run_frz (run_ret (d := setDD F) rfl (.inl ⟨_, _, rfl, F, rfl, hM.nd, hM.sub, fun p hp h1 => ?_, hM.least⟩))
    exact hcl p.1 h1 (by rw [hW0]; simp) p.2 ((hsucc p.1 p.2).mpr hp)
  · have hWne : W ≠ [] := by
      intro z; rw [z] at h; simp at h
    obtain ⟨W', u, rfl⟩ : ∃ W' u, W = W' ++ [u] := ⟨W.dropLast, W.getLast hWne, (List.dropLast_concat_getLast hWne).symm⟩
    have hu := hW u (by simp)
    have hx0 : xGet (fV 0) (xPop 3) (fLst fNil) [Slot.fz (dlD dl), .fz (.int s), .own (setDD F), .own (.list ((W' ++ [u]).map .int)), x] = some (.list ((succ dl u).map .int), [.fz (dlD dl), .fz (.int s), .own (setDD F), .own (.list (W'.map .int)), x]) := by
      have hp : xPop 3 [Slot.fz (dlD dl), .fz (.int s), .own (setDD F), .own (.list ((W' ++ [u]).map .int)), x] = some (.int u, [.fz (dlD dl), .fz (.int s), .own (setDD F), .own (.list (W'.map .int)), x]) := by
        show (match ((W' ++ [u]).map PyData.int)[((W' ++ [u]).map PyData.int).length - 1]? with | some d => some (d, [Slot.fz (dlD dl), .fz (.int s), .own (setDD F), .own (.list ((W' ++ [u]).map PyData.int).dropLast), x]) | none => none) = _
        rw [wh_last]
        simp
      unfold xGet
      show ((xPop 3 _).bind _) = _
      rw [hp]
      show ((dLook (dlD dl) (.int u)).map _) = _
      rw [look_dl dl hI]
      unfold succ
      cases e : dl.find? fun kv => decide (kv.1 = .inl u) with
      | none => rfl
      | some kv => rfl
    refine run_forX hx0 rfl (fun j env => ∃ (F W : List Int) (x : Slot), env = [.fz (dlD dl), .fz (.int s), .own (setDD F), .own (.list (W.map .int)), x] ∧ x.free = true ∧ Mk E [s] F ∧ (∀ v ∈ W, v ∈ F) ∧ u ∈ F ∧ (∀ v ∈ F, v ∉ W → v ≠ u → ∀ w ∈ succ dl v, w ∈ F) ∧ (∀ i w, i < j → (succ dl u)[i]? = some w → w ∈ F) ∧ 2 * (n - F.length) + W.length < m)
      ⟨F, W', x, rfl, hx, hM, fun v hv => hW v (by simp [hv]), hu, fun v h1 h2 h3 => hcl v h1 (by simp [h2, h3]), fun i w hi => by omega, by rw [hm]; simp⟩ ?_ ?_
    · rintro j d env hd ⟨F, W, x, rfl, hx, hM, hW, hu, hcl, hdone, hlt⟩
      obtain ⟨w, hw, rfl⟩ : ∃ w, (succ dl u)[j]? = some w ∧ d = .int w := by
        rw [List.getElem?_map] at hd
        cases e : (succ dl u)[j]? with
        | none => rw [e] at hd; cases hd
        | some b => rw [e] at hd; exact ⟨b, rfl, (Option.some.inj hd).symm⟩
      have hFn := bnd F hM
      refine ⟨[.fz (dlD dl), .fz (.int s), .own (setDD F), .own (.list (W.map .int)), .fz (.int w)], put_free (s0 := x) rfl hx, ?_⟩
      have ht : fDNin (fVb 4) (fVb 2) [Slot.fz (dlD dl), .fz (.int s), .own (setDD F), .own (.list (W.map .int)), .fz (.int w)] = some (!decide (w ∈ F)) := by
        show ((dLook (setDD F) (.int w)).map _) = _
        rw [look_set]
        by_cases h : w ∈ F <;> simp [h]
      have done : ∀ F' : List Int, (∀ v ∈ F, v ∈ F') → w ∈ F' → ∀ i w', i < j + 1 → (succ dl u)[i]? = some w' → w' ∈ F' := fun F' hs hw' i w' hi h => by
        by_cases e : i = j
        · rw [e, hw] at h; cases h; exact hw'
        · exact hs _ (hdone i w' (by omega) h)
      refine run_if ht (fun h => ?_) fun h => ?_
      · have hwF : w ∉ F := by simpa using h
        have hM' := hM.add hwF ⟨(u, w), (hsucc u w).mp (List.mem_of_getElem? hw), hu, rfl⟩
        have hFn' := bnd _ hM'
        rw [List.length_append, List.length_singleton] at hFn'
        refine run_seq ⟨.nx [.fz (dlD dl), .fz (.int s), .own (setDD (F ++ [w])), .own (.list (W.map .int)), .fz (.int w)], ?_, ?_⟩
        · show ((dPut (setDD F) (.int w) (.bool true)).map _).map _ = _
          rw [put_set hwF (by omega)]; rfl
        have mapp : ∀ (M : List Int) (v : Int), M.map PyData.int ++ [.int v] = (M ++ [v]).map PyData.int := fun M v => by simp
        refine run_mut (d := .int w) (env' := [.fz (dlD dl), .fz (.int s), .own (setDD (F ++ [w])), .own (.list ((W ++ [w]).map .int)), .fz (.int w)]) rfl ?_ ?_
        · show (appD (.list (W.map .int)) (.int w)).map _ = _
          rw [appD_of (by rw [List.length_map]; omega), mapp]; rfl
        refine ⟨F ++ [w], W ++ [w], _, rfl, rfl, hM', fun v hv => ?_, by simp [hu], fun v h1 h2 h3 w' hw' => ?_, done _ (fun v hv => by simp [hv]) (by simp), ?_⟩
        · rcases List.mem_append.mp hv with hv | hv
          · simp [hW v hv]
          · simp at hv; simp [hv]
        · simp only [List.mem_append, List.mem_singleton, not_or] at h2
          have h1' : v ∈ F := by
            rcases List.mem_append.mp h1 with z | z
            · exact z
            · exact absurd (by simpa using z) h2.2
          simp [hcl v h1' h2.1 h3 w' hw']
        · simp only [List.length_append, List.length_singleton]
          omega
      · have hwF : w ∈ F := by simpa using h
        exact run_nop ⟨F, W, _, rfl, rfl, hM, hW, hu, hcl, done F (fun v hv => hv) hwF, hlt⟩
    · rintro env ⟨F, W, x, rfl, hx, hM, hW, hu, hcl, hdone, hlt⟩
      rw [List.length_map] at hdone
      refine ⟨_, hlt, F, W, x, rfl, hx, hM, hW, fun v h1 h2 w hw => ?_, rfl, by omega⟩
      by_cases e : v = u
      · subst e
        obtain ⟨i, hi, e⟩ := List.getElem_of_mem hw
        exact hdone i w hi (by rw [List.getElem?_eq_getElem hi, e])
      · exact hcl v h1 h2 e w hw
theorem lc_filter {fi : DL.Env → Option (List D)} {g : D → DL.Env → Option DL.Env} {ft : DL.Env → Option Bool} {fe : DL.Env → Option D} {vs : List Nat} {env : DL.Env} {n : Nat} (p : Nat → Bool) (q : Nat → Int) (hw : wipable env vs = true) (hi : fi env = some (rngD 0 n)) (hn : n ≤ 1000000)
    (h : ∀ i : Nat, i < n → lcOne g ft fe (wipeE env vs) (.int (0 + (i : Nat))) = some (if p i = true then [.int (q i)] else [])) : fLc fi g ft fe vs env = some (.list (((List.range n).filter p).map fun i => .int (q i))) := by
  rw [lc_of (fun d => match d with | .int i => if p i.toNat = true then [.int (q i.toNat)] else [] | _ => []) hw hi (by rw [rngD_len]; exact Nat.le_trans hn sizeLine_big) fun d hd => ?_]
  · congr 2
    unfold rngD
    rw [List.flatMap_map]
    have : ∀ l : List Nat, l.flatMap (fun a => match (PyData.int (0 + ((a : Nat) : Int))) with | .int i => if p i.toNat = true then [PyData.int (q i.toNat)] else [] | _ => []) = (l.filter p).map fun i => PyData.int (q i) := by
      intro l
      induction l with
      | nil => rfl
      | cons a l ih =>
        rw [List.flatMap_cons, ih]
        have e : ((0 : Int) + (a : Nat)).toNat = a := by omega
        show (if p ((0 : Int) + (a : Nat)).toNat = true then [PyData.int (q ((0 : Int) + (a : Nat)).toNat)] else []) ++ _ = _
        rw [e]
        by_cases h : p a = true
        · rw [if_pos h, List.filter_cons_of_pos h]; rfl
        · rw [if_neg h, List.filter_cons_of_neg h]; rfl
    exact this _
  · obtain ⟨i, hi, rfl⟩ := List.mem_map.mp (show d ∈ (List.range n).map _ from hd)
    rw [h i (List.mem_range.mp hi)]
    have e : ((0 : Int) + (i : Nat)).toNat = i := by omega
    show _ = some (if p ((0 : Int) + (i : Nat)).toNat = true then [PyData.int (q ((0 : Int) + (i : Nat)).toNat)] else [])
    rw [e]
/-! ### the size, the braces -/
theorem size_ok (ns : List Int) : ∃ r c : Nat, 1 ≤ r ∧ r ≤ 3 ∧ 1 ≤ c ∧ c ≤ 3 ∧ f__law_size [scrD ns] = some (.tuple [.int r, .int c]) := by
  have hp : ∀ m ∈ [(3 : Int), 3], 0 < m := by decide
  obtain ⟨a, ha, ha0, ha1⟩ := partsI_get (c := cellI ns 0) hp (i := 0) (m := 3) rfl
  obtain ⟨b, hb, hb0, hb1⟩ := partsI_get (c := cellI ns 0) hp (i := 1) (m := 3) rfl
  refine ⟨(1 + a).toNat, (1 + b).toNat, by omega, by omega, by omega, by omega, ?_⟩
  have e1 : (((1 + a).toNat : Nat) : Int) = 1 + a := by omega
  have e2 : (((1 + b).toNat : Nat) : Int) = 1 + b := by omega
  rw [e1, e2]
  refine runF_of rfl (run_seq (run_set (d := .list ((partsI (cellI ns 0) [3, 3]).map .int)) (call2 (d := .int (cellI ns 0)) (d' := .list ([(3 : Int), 3].map .int)) (call2 (d := scrD ns) (d' := .int (0 : Nat)) rfl rfl (cell_ok ns 0)) rfl (parts_ok _ _ (by decide) (by decide))) rfl ?_))
  refine run_ret (d := .tuple [.int (1 + a), .int (1 + b)]) (tup_of (cons_of (f2_of (e := .int a) rfl ?_ rfl) (cons_of (f2_of (e := .int b) rfl ?_ rfl) rfl)) (by simp)) (.inl ⟨_, rfl⟩)
  · show L2.atI ((partsI (cellI ns 0) [3, 3]).map PyData.int) ((0 : Nat) : Int) = _
    rw [DL.atI_nat, List.getElem?_map, ha]; rfl
  · show L2.atI ((partsI (cellI ns 0) [3, 3]).map PyData.int) ((1 : Nat) : Int) = _
    rw [DL.atI_nat, List.getElem?_map, hb]; rfl
def kinds : List (List Kd) := [[], [], [.bar], [.up], [.down], [.up, .down], [.down, .up], [.bar]]
def kD (ks : List Kd) : D := .list (ks.map fun k => .str (kS k))
theorem kinds_len : ∀ ks ∈ kinds, ks.length ≤ 2 := by decide
theorem cut_map {α : Type} (f : α → D) (xs : List α) (lo hi : Option Int) : ∃ ys : List α, cutD (xs.map f) lo hi = ys.map f ∧ (∀ y ∈ ys, y ∈ xs) ∧ ys.length ≤ xs.length := by
  refine ⟨(xs.drop (HT.sIx (xs.map f).length 0 lo)).take (HT.sIx (xs.map f).length (xs.map f).length hi - HT.sIx (xs.map f).length 0 lo), ?_, fun y hy => List.mem_of_mem_drop (List.mem_of_mem_take hy), ?_⟩
  · unfold cutD
    rw [← List.map_drop, ← List.map_take]
  · rw [List.length_take, List.length_drop]; omega
structure BrOk (r c : Nat) (bs : List Br) : Prop where
  at1 : ∀ b ∈ bs, 0 ≤ b.1 ∧ b.1 < r ∧ 0 ≤ b.2.1 ∧ b.2.1 < c
theorem braces_ok (ns : List Int) (r c : Nat) (hr : r ≤ 3) (hc : c ≤ 3) : ∃ bs : List Br, f__law_braces [scrD ns, .int r, .int c] = some (.list (bs.map brD)) ∧ BrOk r c bs ∧ bs.length ≤ 36 := by
  have := runF_inv (n := 3) (N := 10) (body := e__law_braces) (ds := [scrD ns, .int r, .int c]) (Q := fun d => ∃ bs : List Br, d = .list (bs.map brD) ∧ BrOk r c bs ∧ bs.length ≤ 36) rfl ?_
  · obtain ⟨d, h1, bs, rfl, h2, h3⟩ := this
    exact ⟨bs, h1, h2, h3⟩
  refine run_seq (run_setF (d := .list []) rfl rfl (run_seq ?_))
  refine run_for (ds := rngD 0 ((r : Nat) : Int).toNat) (fr1 (j := (r : Nat)) rfl (B62_small (by omega) (by omega))) (fun i env => ∃ (bs : List Br) (x4 x5 x6 x7 x8 : Slot), env = [.fz (scrD ns), .fz (.int r), .fz (.int c), .own (.list (bs.map brD)), x4, x5, x6, x7, x8, .emp] ∧ x4.free = true ∧ x5.free = true ∧ x6.free = true ∧ x7.free = true ∧ x8.free = true ∧ BrOk r c bs ∧ bs.length ≤ 6 * i)
    ⟨[], _, _, _, _, _, rfl, rfl, rfl, rfl, rfl, rfl, ⟨by simp⟩, by simp⟩ ?_ ?_
  · rintro i d env hd ⟨bs, x4, x5, x6, x7, x8, rfl, h4, h5, h6, h7, h8, hbs, hl⟩
    obtain ⟨hi, rfl⟩ := rngD_get hd
    rw [Int.zero_add]
    refine ⟨_, put_free (s0 := x4) rfl h4, ?_⟩
    refine run_for (ds := rngD 0 ((c : Nat) : Int).toNat) (fr1 (j := (c : Nat)) rfl (B62_small (by omega) (by omega))) (fun j env => ∃ (bs : List Br) (x5 x6 x7 x8 : Slot), env = [.fz (scrD ns), .fz (.int r), .fz (.int c), .own (.list (bs.map brD)), .fz (.int i), x5, x6, x7, x8, .emp] ∧ x5.free = true ∧ x6.free = true ∧ x7.free = true ∧ x8.free = true ∧ BrOk r c bs ∧ bs.length ≤ 6 * i + 2 * j)
      ⟨bs, _, _, _, _, rfl, h5, h6, h7, h8, hbs, by omega⟩ ?_ ?_
    · rintro j d env hd ⟨bs, x5, x6, x7, x8, rfl, h5, h6, h7, h8, hbs, hl⟩
      obtain ⟨hj, rfl⟩ := rngD_get hd
      rw [Int.zero_add]
      refine ⟨_, put_free (s0 := x5) rfl h5, ?_⟩
      have hp : ∀ m ∈ [(8 : Int), 8], 0 < m := by decide
      let cc := cellI ns 1 + 5 * (i : Int) + 29 * (j : Int)
      obtain ⟨a, ha, ha0, ha1⟩ := partsI_get (c := cc) hp (i := 0) (m := 8) rfl
      have hk : a.toNat < kinds.length := by show a.toNat < 8; omega
      let ks := kinds[a.toNat]
      have hkl : ks.length ≤ 2 := kinds_len ks (List.getElem_mem hk)
      refine run_seq (run_set (d := .list ((partsI cc [8, 8]).map .int)) (env' := [.fz (scrD ns), .fz (.int r), .fz (.int c), .own (.list (bs.map brD)), .fz (.int i), .fz (.int j), .fz (.list ((partsI cc [8, 8]).map .int)), x7, x8, .emp]) ?_ (put_free (s0 := x6) rfl h6) ?_)
      · refine call2 (d := .int cc) (d' := .list ([(8 : Int), 8].map .int)) ?_ rfl (parts_ok _ _ (by decide) (by decide))
        exact f2_of (f2_of (d := .int (cellI ns 1)) (call2 (d := scrD ns) (d' := .int (1 : Nat)) rfl rfl (cell_ok ns 1)) (f2_of (e := .int i) rfl rfl (mulD_l (by decide) (by decide))) rfl) (f2_of (e := .int j) rfl rfl (mulD_l (by decide) (by decide))) rfl
      refine run_seq (run_set (d := kD ks) (env' := [.fz (scrD ns), .fz (.int r), .fz (.int c), .own (.list (bs.map brD)), .fz (.int i), .fz (.int j), .fz (.list ((partsI cc [8, 8]).map .int)), .fz (kD ks), x8, .emp]) ?_ (put_free (s0 := x7) rfl h7) ?_)
      · refine f2_of (d := .list (kinds.map kD)) (e := .int a) rfl (f2_of (d := .list ((partsI cc [8, 8]).map .int)) (e := .int (0 : Nat)) rfl rfl ?_) ?_
        · show L2.atI ((partsI cc [8, 8]).map PyData.int) ((0 : Nat) : Int) = _
          rw [DL.atI_nat, List.getElem?_map, ha]; rfl
        · show L2.atI (kinds.map kD) a = _
          have e : a = ((a.toNat : Nat) : Int) := by omega
          rw [e, DL.atI_nat, List.getElem?_map, List.getElem?_eq_getElem hk]
          rfl
      refine run_for (ds := ks.map fun k => .str (kS k)) rfl (fun m env => ∃ (bs : List Br) (x8 : Slot), env = [.fz (scrD ns), .fz (.int r), .fz (.int c), .own (.list (bs.map brD)), .fz (.int i), .fz (.int j), .fz (.list ((partsI cc [8, 8]).map .int)), .fz (kD ks), x8, .emp] ∧ x8.free = true ∧ BrOk r c bs ∧ bs.length ≤ 6 * i + 2 * j + m)
        ⟨bs, x8, rfl, h8, hbs, by omega⟩ ?_ ?_
      · rintro m d env hd ⟨bs, x8, rfl, h8, hbs, hl⟩
        obtain ⟨k, rfl⟩ : ∃ k, d = .str (kS k) := by
          rw [List.getElem?_map] at hd
          cases e : ks[m]? with
          | none => rw [e] at hd; cases hd
          | some b => rw [e] at hd; exact ⟨b, (Option.some.inj hd).symm⟩
        have hm : m < 2 := by
          have := (List.getElem?_eq_some_iff.mp hd).1
          rw [List.length_map] at this
          omega
        refine ⟨_, put_free (s0 := x8) rfl h8, ?_⟩
        refine run_mut (d := brD (((i : Nat) : Int), ((j : Nat) : Int), k)) (env' := [.fz (scrD ns), .fz (.int r), .fz (.int c), .own (.list ((bs ++ [(((i : Nat) : Int), ((j : Nat) : Int), k)]).map brD)), .fz (.int i), .fz (.int j), .fz (.list ((partsI cc [8, 8]).map .int)), .fz (kD ks), .fz (.str (kS k)), .emp]) rfl ?_ ?_
        · show (appD (.list (bs.map brD)) (brD (((i : Nat) : Int), ((j : Nat) : Int), k))).map _ = _
          rw [appD_of (by rw [List.length_map]; omega), List.map_append]; rfl
        · refine ⟨_, _, rfl, rfl, ⟨fun b hb => ?_⟩, by simp; omega⟩
          rcases List.mem_append.mp hb with hb | hb
          · exact hbs.at1 b hb
          · have : b = (((i : Nat) : Int), ((j : Nat) : Int), k) := by simpa using hb
            subst this
            exact ⟨by show (0 : Int) ≤ (i : Nat); omega, by show ((i : Nat) : Int) < r; omega, by show (0 : Int) ≤ (j : Nat); omega, by show ((j : Nat) : Int) < c; omega⟩
      · rintro env ⟨bs, x8, rfl, h8, hbs, hl⟩
        rw [List.length_map] at hl
        exact ⟨bs, _, _, _, _, rfl, rfl, rfl, rfl, h8, hbs, by omega⟩
    · rintro env ⟨bs, x5, x6, x7, x8, rfl, h5, h6, h7, h8, hbs, hl⟩
      rw [rngD_len] at hl
      exact ⟨bs, _, _, _, _, _, rfl, rfl, h5, h6, h7, h8, hbs, by omega⟩
  · rintro env ⟨bs, x4, x5, x6, x7, x8, rfl, h4, h5, h6, h7, h8, hbs, hl⟩
    rw [rngD_len] at hl
    obtain ⟨a, ha, ha0, ha1⟩ := partsI_get (c := cellI ns 2) (ms := [19]) (by decide) (i := 0) (m := 19) rfl
    let mm : Int := if ((bs.map brD).length : Int) > 1 then ((bs.map brD).length : Int) else 1
    have hmm : 0 < mm := by
      simp only [mm]; split <;> omega
    have hcall : f2 modD (fCall intD (fCons (f2 idxD (fCall f__law_parts (fCons (fCall f__law_cell (fCons (fVb 0) (fCons (fC (.int 2)) fNil))) (fCons (fLst (fCons (fC (.int 19)) fNil)) fNil))) (fC (.int 0))) fNil)) (fCall max2D (fCons (fC (.int 1)) (fCons (fCall lenD (fCons (fVb 3) fNil)) fNil)))
        [.fz (scrD ns), .fz (.int r), .fz (.int c), .own (.list (bs.map brD)), x4, x5, x6, x7, x8, .emp] = some (.int (a % mm)) := by
      refine f2_of (d := .int a) (e := .int mm) (call1 (d := .int a) (f2_of (d := .list ((partsI (cellI ns 2) [19]).map .int)) (e := .int (0 : Nat)) (call2 (d := .int (cellI ns 2)) (d' := .list ([(19 : Int)].map .int)) (call2 (d := scrD ns) (d' := .int (2 : Nat)) rfl rfl (cell_ok ns 2)) rfl (parts_ok _ _ (by decide) (by decide))) rfl ?_) rfl) (call2 (d := .int 1) (d' := .int ((bs.map brD).length : Nat)) rfl rfl rfl) (modD_p hmm)
      show L2.atI ((partsI (cellI ns 2) [19]).map PyData.int) ((0 : Nat) : Int) = _
      rw [DL.atI_nat, List.getElem?_map, ha]; rfl
    refine run_seq (run_set hcall rfl (run_frz ?_))
    obtain ⟨y1, e1, m1, l1⟩ := cut_map brD bs (some (a % mm)) none
    obtain ⟨y2, e2, m2, l2⟩ := cut_map brD bs none (some (a % mm))
    refine run_ret (d := .list ((y1 ++ y2).map brD)) (f2_of (d := .list (y1.map brD)) (e := .list (y2.map brD)) ?_ ?_ ?_) (.inl ⟨_, _, rfl, y1 ++ y2, rfl, ⟨fun b hb => ?_⟩, by rw [List.length_append]; omega⟩)
    · show some (PyData.list (cutD (bs.map brD) (some (a % mm)) none)) = _
      rw [e1]
    · show some (PyData.list (cutD (bs.map brD) none (some (a % mm)))) = _
      rw [e2]
    · show (if (y1.map brD).length + (y2.map brD).length ≤ sizeLine then _ else _) = _
      rw [if_pos (by rw [List.length_map, List.length_map]; have := sizeLine_big; omega), List.map_append]
    · rcases List.mem_append.mp hb with hb | hb
      · exact hbs.at1 b (m1 b hb)
      · exact hbs.at1 b (m2 b hb)
/-! ### what the grid is -/
def clo (r : Nat) (bs : List Br) (s : Nat) : List Int := rnds (edges r bs) 7 [((s : Nat) : Int)]
theorem edges_bound {r c : Nat} {bs : List Br} (h : BrOk r c bs) : ∀ p ∈ edges r bs, 0 ≤ p.2 ∧ p.2 < ((r + c : Nat) : Int) := by
  intro p hp
  obtain ⟨b, hb, hp⟩ := List.mem_flatMap.mp hp
  obtain ⟨h1, h2, h3, h4⟩ := h.at1 b hb
  unfold edg at hp
  rcases List.mem_append.mp hp with hp | hp
  · split at hp
    · cases hp
    · have : p = (b.1, (r : Int) + b.2.1) := by simpa using hp
      subst this
      exact ⟨by show (0 : Int) ≤ r + b.2.1; omega, by show (r : Int) + b.2.1 < ((r + c : Nat) : Int); omega⟩
  · split at hp
    · cases hp
    · have : p = ((r : Int) + b.2.1, b.1) := by simpa using hp
      subst this
      exact ⟨h1, by show b.1 < ((r + c : Nat) : Int); omega⟩
theorem clo_cl {r c : Nat} {bs : List Br} (h : BrOk r c bs) (hr : r ≤ 3) (hc : c ≤ 3) {s : Nat} (hs : s < r + c) : IsCl (edges r bs) [((s : Nat) : Int)] (clo r bs s) :=
  leads_cl (n := r + c) (by simp) (by omega) (by intro x hx; have : x = ((s : Nat) : Int) := by simpa using hx
                                                 subst this; omega) (edges_bound h)
def stiffB (r c : Nat) (bs : List Br) : Bool := decide (((List.range (r + c)).filter fun s => decide ((clo r bs s).length < r + c)).length = 0)
theorem stiff_iff {r c : Nat} {bs : List Br} : stiffB r c bs = true ↔ ∀ s, s < r + c → ¬ (clo r bs s).length < r + c := by
  unfold stiffB
  rw [decide_eq_true_eq, List.length_eq_zero_iff, List.filter_eq_nil_iff]
  constructor
  · intro h s hs; have := h s (List.mem_range.mpr hs); simpa using this
  · intro h s hs; have := h s (List.mem_range.mp hs); simpa using this
theorem lawstiff_ok {r c : Nat} {bs : List Br} (h : BrOk r c bs) (hb : bs.length ≤ 36) (hr : r ≤ 3) (hc : c ≤ 3) : f__law_is_stiff [.int r, .int c, .list (bs.map brD)] = some (.bool (stiffB r c bs)) := by
  refine runF_of rfl (run_ret (d := .bool (stiffB r c bs)) ?_ (.inl ⟨_, rfl⟩))
  have hn : ((r : Nat) : Int) + ((c : Nat) : Int) = ((r + c : Nat) : Int) := by omega
  have h1 : fLc (fRange1 (f2 addD (fVb 0) (fVb 1))) (gN 3) (fCmp ltD (fCall lenD (fCons (fCall f__law_leads (fCons (fVb 0) (fCons (fVb 2) (fCons (fLst (fCons (fVb 3) fNil)) fNil)))) fNil)) (f2 addD (fVb 0) (fVb 1))) (fVb 3) [3] [.fz (.int r), .fz (.int c), .fz (.list (bs.map brD)), .emp]
      = some (.list (((List.range (r + c)).filter fun s => decide ((clo r bs s).length < r + c)).map fun i => .int (i : Nat))) := by
    refine lc_filter (fun s => decide ((clo r bs s).length < r + c)) (fun i => (i : Nat)) rfl ?_ (by omega) fun i hi => ?_
    · have := fr1 (fe := f2 addD (fVb 0) (fVb 1)) (env := [.fz (.int r), .fz (.int c), .fz (.list (bs.map brD)), .emp]) (j := (r : Int) + c) rfl (B62_small (by omega) (by omega))
      rw [this]
      congr 2
    · rw [Int.zero_add]
      refine one_if (e1 := [.fz (.int r), .fz (.int c), .fz (.list (bs.map brD)), .fz (.int i)]) (b := decide ((clo r bs i).length < r + c)) rfl ?_ rfl
      refine cmp_of (d := .int ((clo r bs i).length : Nat)) (e := .int ((r : Int) + c)) (call1 (d := .list ((clo r bs i).map .int)) (call3 (d := .int r) (d' := .list (bs.map brD)) (d'' := .list ([((i : Nat) : Int)].map .int)) rfl rfl rfl (leads_ok r bs _ (by omega) (by simp))) ?_) rfl ?_
      · show some (PyData.int ((((clo r bs i).map PyData.int).length : Nat) : Int)) = _
        rw [List.length_map]
      · show some (decide ((((clo r bs i).length : Nat) : Int) < (r : Int) + c)) = _
        congr 1
        by_cases hh : (clo r bs i).length < r + c
        · rw [decide_eq_true hh]; exact decide_eq_true (by omega)
        · rw [decide_eq_false hh]; exact decide_eq_false (by omega)
  refine fB_of (cmp_of (d := .int ((((List.range (r + c)).filter fun s => decide ((clo r bs s).length < r + c)).length : Nat) : Int)) (e := .int 0) (call1 h1 ?_) rfl ?_)
  · show some (PyData.int (((List.map _ _).length : Nat) : Int)) = _
    rw [List.length_map]
  · rw [eqD_of ok_int ok_int, eqv_int]
    refine congrArg some ?_
    unfold stiffB
    by_cases hh : ((List.range (r + c)).filter fun s => decide ((clo r bs s).length < r + c)).length = 0
    · rw [hh]; rfl
    · rw [decide_eq_false hh]; exact decide_eq_false (by omega)
/-- what parted hands back where some start does not reach all -/
structure PartOk (r c : Nat) (bs : List Br) (rows cols : List Nat) : Prop where
  ex : ∃ (s : Nat) (F : List Int), s < r + c ∧ IsCl (edges r bs) [((s : Nat) : Int)] F ∧ F.length < r + c ∧ rows = (List.range r).filter (fun i => decide (((i : Nat) : Int) ∈ F)) ∧ cols = (List.range c).filter (fun j => decide (((r : Nat) : Int) + ((j : Nat) : Int) ∈ F))
def natsD (xs : List Nat) : D := .list (xs.map fun i => .int (i : Nat))
theorem parted_ok {r c : Nat} {bs : List Br} (h : BrOk r c bs) (hb : bs.length ≤ 36) (hr : r ≤ 3) (hc : c ≤ 3) :
    ∃ d, f_parted [.int r, .int c, .list (bs.map brD)] = some d ∧ ((stiffB r c bs = true ∧ d = .none) ∨ (stiffB r c bs = false ∧ ∃ rows cols, d = .tuple [natsD rows, natsD cols] ∧ PartOk r c bs rows cols)) := by
  refine runF_inv (Q := fun d => (stiffB r c bs = true ∧ d = .none) ∨ (stiffB r c bs = false ∧ ∃ rows cols, d = .tuple [natsD rows, natsD cols] ∧ PartOk r c bs rows cols)) rfl ?_
  let dl := waysE (edges r bs) []
  refine run_seq (run_set (d := dlD dl) (call2 (d := .int r) (d' := .list (bs.map brD)) rfl rfl (ways_ok r bs (by omega))) rfl (run_seq ?_))
  have hI : ∀ kv ∈ dl, ∃ i, kv.1 = .inl i := by
    have key : ∀ (E : Edges) (dl : DLi), (∀ kv ∈ dl, ∃ i, kv.1 = .inl i) → ∀ kv ∈ waysE E dl, ∃ i, kv.1 = .inl i := by
      intro E
      induction E with
      | nil => intro dl h; exact h
      | cons p E ih =>
        intro dl h
        refine ih _ fun kv hkv => ?_
        have hkv : kv ∈ addDl dl (.inl p.1) p.2 := hkv
        unfold addDl at hkv
        split at hkv
        · obtain ⟨q, hq, rfl⟩ := List.mem_map.mp hkv
          obtain ⟨i, hi⟩ := h q hq
          exact ⟨i, by split <;> exact hi⟩
        · rcases List.mem_append.mp hkv with hkv | hkv
          · exact h kv hkv
          · have : kv = (.inl p.1, [p.2]) := by simpa using hkv
            subst this
            exact ⟨p.1, rfl⟩
    exact key _ [] (by simp)
  have hsucc : ∀ v w, w ∈ succ dl v ↔ (v, w) ∈ edges r bs := fun v w => by
    rw [succ_ways]; simp [succ]
  refine run_for (ds := rngD 0 ((r : Int) + c).toNat) (fr1 (j := (r : Int) + c) rfl (B62_small (by omega) (by omega))) (fun i env => ∃ (x4 x5 : Slot), env = [.fz (.int r), .fz (.int c), .fz (.list (bs.map brD)), .fz (dlD dl), x4, x5, .emp, .emp] ∧ x4.free = true ∧ x5.free = true ∧ ∀ s, s < i → ¬ (clo r bs s).length < r + c)
    ⟨_, _, rfl, rfl, rfl, fun s hs => by omega⟩ ?_ ?_
  · rintro s d env hd ⟨x4, x5, rfl, h4, h5, hall⟩
    obtain ⟨hs, rfl⟩ := rngD_get hd
    have hs' : s < r + c := by omega
    rw [Int.zero_add]
    obtain ⟨F, hF, hcl⟩ := come_ok (n := r + c) (s := s) (by omega) hI hsucc (by omega) (edges_bound h)
    have hlen : F.length = (clo r bs s).length := hcl.len (clo_cl h hr hc hs')
    have hlt : fCmp ltD (fDLen (fVb 5)) (f2 addD (fVb 0) (fVb 1)) [.fz (.int r), .fz (.int c), .fz (.list (bs.map brD)), .fz (dlD dl), .fz (.int s), .fz (setDD F), .emp, .emp] = some (decide ((clo r bs s).length < r + c)) := by
      refine cmp_of (d := .int (F.length : Nat)) (e := .int ((r : Int) + c)) (dlen_set rfl) rfl ?_
      show some (decide (((F.length : Nat) : Int) < (r : Int) + c)) = _
      rw [hlen]
      congr 1
      by_cases hh : (clo r bs s).length < r + c
      · rw [decide_eq_true hh]; exact decide_eq_true (by omega)
      · rw [decide_eq_false hh]; exact decide_eq_false (by omega)
    refine ⟨_, put_free (s0 := x4) rfl h4, ?_⟩
    refine run_seq (run_set (d := setDD F) (call2 (d := dlD dl) (d' := .int s) rfl rfl hF) (put_free (s0 := x5) rfl h5) ?_)
    refine run_if hlt (fun hh => ?_) fun hh => ?_
    · have hh' : (clo r bs s).length < r + c := of_decide_eq_true hh
      let rows := (List.range r).filter (fun i => decide (((i : Nat) : Int) ∈ F))
      let cols := (List.range c).filter (fun j => decide (((r : Nat) : Int) + ((j : Nat) : Int) ∈ F))
      refine run_ret (d := .tuple [natsD rows, natsD cols]) (tup_of (cons_of ?_ (cons_of ?_ rfl)) (by simp)) (.inl ⟨_, _, rfl, .inr ⟨?_, rows, cols, rfl, ⟨s, F, hs', hcl, by omega, rfl, rfl⟩⟩⟩)
      · refine lc_filter (fun i => decide (((i : Nat) : Int) ∈ F)) (fun i => (i : Nat)) rfl (fr1 (j := (r : Nat)) rfl (B62_small (by omega) (by omega))) (by omega) fun i hi => ?_
        rw [Int.zero_add]
        refine one_if (b := decide (((i : Nat) : Int) ∈ F)) rfl ?_ rfl
        show ((dLook (setDD F) (.int i)).map _) = _
        rw [look_set]
        by_cases hm : ((i : Nat) : Int) ∈ F <;> simp [hm]
      · refine lc_filter (fun j => decide (((r : Nat) : Int) + ((j : Nat) : Int) ∈ F)) (fun i => (i : Nat)) rfl (fr1 (j := (c : Nat)) rfl (B62_small (by omega) (by omega))) (by omega) fun i hi => ?_
        rw [Int.zero_add]
        refine one_if (b := decide (((r : Nat) : Int) + ((i : Nat) : Int) ∈ F)) rfl ?_ rfl
        show ((dLook (setDD F) (.int ((r : Int) + i))).map _) = _
        rw [look_set]
        by_cases hm : ((r : Nat) : Int) + ((i : Nat) : Int) ∈ F <;> simp [hm]
      · cases e : stiffB r c bs with
        | false => rfl
        | true => exact absurd hh' (stiff_iff.mp e s hs')
    · have hh' : ¬ (clo r bs s).length < r + c := of_decide_eq_false hh
      exact run_nop ⟨_, _, rfl, rfl, rfl, fun s' hs' => by
        by_cases e : s' = s
        · rw [e]; exact hh'
        · exact hall s' (by omega)⟩
  · rintro env ⟨x4, x5, rfl, h4, h5, hall⟩
    rw [rngD_len] at hall
    exact run_ret (d := .none) rfl (.inl ⟨_, _, rfl, .inl ⟨stiff_iff.mpr fun s hs => hall s (by omega), rfl⟩⟩)
theorem run_app {i : Nat} {fe : DL.Env → Option D} {env : DL.Env} {d : D} {acc : List D} {Q : Out → Prop} (he : fe env = some d) (h : env[i]? = some (.own (.list acc))) (hl : acc.length < 1000000) (q : Q (.nx (env.set i (.own (.list (acc ++ [d])))))) : Run (fMut i appD fe) env Q := by
  refine run_mut he ?_ q
  unfold chg
  rw [h]
  show ((appD (.list acc) d).map _) = _
  rw [appD_of hl]; rfl
theorem natsD_eq (xs : List Nat) : natsD xs = .list ((xs.map fun i => ((i : Nat) : Int)).map .int) := by simp [natsD]
theorem call_len {f : DL.Env → Option D} {env : DL.Env} {ds : List D} (h : f env = some (.list ds)) : fCall lenD (fCons f fNil) env = some (.int (ds.length : Nat)) := call1 h rfl
theorem dand_of {fa fb : DL.Env → Option D} {env : DL.Env} {a b : Bool} (h1 : fa env = some (.bool a)) (h2 : fb env = some (.bool b)) : fAnd fa fb env = some (.bool (a && b)) := by
  unfold fAnd
  rw [h1]
  cases a
  · rfl
  · exact h2
theorem dnot_of {fa : DL.Env → Option D} {env : DL.Env} {a : Bool} (h1 : fa env = some (.bool a)) : fNot fa env = some (.bool (!a)) := by
  unfold fNot; rw [h1]; rfl
theorem isint_ok (i : Int) : f__law_is_integer [.int i] = some (.bool true) := by
  refine runF_of rfl (run_ret (d := .bool true) ?_ (.inl ⟨_, rfl⟩))
  have h1 : fIsi "int" (fVb 0) [Slot.fz (.int i)] = some (.bool true) := by
    show ((isiD "int" (.int i)).map PyData.bool) = _
    have : isiD "int" (.int i) = some true := by show kitB "int" "int" = _; decide +kernel
    rw [this]; rfl
  have h2 : fIsi "bool" (fVb 0) [Slot.fz (.int i)] = some (.bool false) := by
    show ((isiD "bool" (.int i)).map PyData.bool) = _
    have : isiD "bool" (.int i) = some false := by show kitB "int" "bool" = _; decide +kernel
    rw [this]; rfl
  exact dand_of h1 (dnot_of h2)
theorem isi_of {T : String} {f : DL.Env → Option D} {env : DL.Env} {d : D} (h : f env = some d) (hs : scrB d = false) {b : Bool} (hk : kitB (tyD d) T = some b) : fIsi T f env = some (.bool b) := by
  unfold fIsi
  rw [h]
  show ((isiD T d).map PyData.bool) = _
  unfold isiD
  rw [if_neg (by rw [hs]; decide), hk]; rfl
theorem tb_of {f : DL.Env → Option D} {env : DL.Env} {b : Bool} (h : f env = some (.bool b)) : fTB f env = some b := by
  unfold fTB; rw [h]
theorem notb_of {f : DL.Env → Option Bool} {env : DL.Env} {b : Bool} (h : f env = some b) : fNotB f env = some (!b) := by
  unfold fNotB; rw [h]; rfl
theorem or_of {fa fb : DL.Env → Option Bool} {env : DL.Env} {a b : Bool} (h1 : fa env = some a) (h2 : fb env = some b) : fOrB fa fb env = some (a || b) := by
  unfold fOrB; rw [h1]; show (if a = true then some true else fb env) = _; cases a <;> simp [h2]
theorem isn_of {f : DL.Env → Option D} {env : DL.Env} {d : D} (h : f env = some d) : fIsN f env = some (isN d) := by
  unfold fIsN; rw [h]; rfl
theorem ne_bool {a b : Bool} : neD (.bool a) (.bool b) = some (!decide (a = b)) := by rw [neD_of ok_bool ok_bool, eqv_bool]
/-- ascending places -/
theorem up_filter (n : Nat) (p : Nat → Bool) : (((List.range n).filter p).map fun i => ((i : Nat) : Int)).Pairwise (· < ·) := by
  refine List.Pairwise.map _ (R := (· < ·)) (fun a b h => by omega) ?_
  exact List.Pairwise.sublist List.filter_sublist List.pairwise_lt_range
theorem ssI_self {xs : List Int} (h : xs.Pairwise (· < ·)) : ssI xs = xs := up_ext (ssI_up xs) h fun k => ssI_mem
theorem ssD_up {xs : List Int} (h : xs.Pairwise (· < ·)) (hl : xs.length ≤ 63) : ssD (.list (xs.map .int)) = some (.list (xs.map .int)) := by
  show (if (xs.map PyData.int).length ≤ 63 then (intsD (xs.map PyData.int)).map (fun ns => PyData.list ((ssI ns).map .int)) else none) = _
  rw [if_pos (by rw [List.length_map]; exact hl), intsD_map]
  show some (PyData.list ((ssI xs).map .int)) = _
  rw [ssI_self h]
theorem nodup_up {xs : List Int} (h : xs.Pairwise (· < ·)) : xs.Nodup := h.imp fun hab e => by subst e; exact Int.lt_irrefl _ hab
end G
set_option Elab.async false
set_option linter.all false
set_option maxRecDepth 100000
set_option maxHeartbeats 4000000
namespace G
open PySem L2 DL
def cnt (S : List Nat) (n : Nat) : Nat := ((List.range n).filter fun i => !decide (((i : Nat) : Int) ∈ S.map fun i => ((i : Nat) : Int))).length
def mv (R C : List Nat) (y x : Nat) : D := .tuple [.int (-((cnt R y : Nat) : Int)), .int ((cnt C x : Nat) : Int)]
def mvk (c : Nat) (R C : List Nat) (k : Nat) : D := mv R C (k / (c + 1)) (k % (c + 1))
theorem call_lenT {f : DL.Env → Option D} {env : DL.Env} {ds : List D} (h : f env = some (.tuple ds)) : fCall lenD (fCons f fNil) env = some (.int (ds.length : Nat)) := call1 h rfl
theorem kdiv {y x c : Nat} (h : x < c + 1) : (y * (c + 1) + x) / (c + 1) = y ∧ (y * (c + 1) + x) % (c + 1) = x := by
  rw [Nat.mul_comm]
  exact ⟨by rw [Nat.mul_add_div (by omega), Nat.div_eq_of_lt h, Nat.add_zero], by rw [Nat.mul_add_mod, Nat.mod_eq_of_lt h]⟩
theorem motion_none {r c : Nat} {bs : List Br} (h : f_parted [.int r, .int c, .list (bs.map brD)] = some .none) : f_grid_motion [.int r, .int c, .list (bs.map brD)] = some .none := by
  refine runF_of rfl (run_seq (run_set (d := .none) (call3 (d := .int r) (d' := .int c) (d'' := .list (bs.map brD)) rfl rfl rfl h) rfl (run_seq (run_if (b := true) rfl (fun _ => run_ret (d := .none) rfl (.inl ⟨_, rfl⟩)) fun h => by cases h))))
theorem motion_some {r c : Nat} {bs : List Br} (hr : r ≤ 3) (hc : c ≤ 3) {R C : List Nat} (h : f_parted [.int r, .int c, .list (bs.map brD)] = some (.tuple [natsD R, natsD C])) :
    f_grid_motion [.int r, .int c, .list (bs.map brD)] = some (.tuple ((List.range ((r + 1) * (c + 1))).map (mvk c R C))) := by
  refine runF_of rfl (run_seq (run_set (d := .tuple [natsD R, natsD C]) (call3 (d := .int r) (d' := .int c) (d'' := .list (bs.map brD)) rfl rfl rfl h) rfl (run_seq (run_if (b := false) rfl (fun h => by cases h) fun _ => run_nop ?_))))
  refine run_seq (run_asg (d := .tuple [natsD R, natsD C]) (env' := [.fz (.int r), .fz (.int c), .fz (.list (bs.map brD)), .fz (.tuple [natsD R, natsD C]), .fz (natsD R), .fz (natsD C), .emp, .emp, .emp, .emp, .emp, .emp]) rfl rfl (run_seq (run_setF (d := .list []) rfl rfl (run_seq ?_))))
  refine run_for (ds := rngD 0 (((r : Nat) : Int) + 1).toNat) (fr1 (j := ((r : Nat) : Int) + 1) rfl (B62_small (by omega) (by omega))) (fun y env => ∃ (x7 x8 x9 : Slot), env = [.fz (.int r), .fz (.int c), .fz (.list (bs.map brD)), .fz (.tuple [natsD R, natsD C]), .fz (natsD R), .fz (natsD C), .own (.list ((List.range (y * (c + 1))).map (mvk c R C))), x7, x8, x9, .emp, .emp] ∧ x7.free = true ∧ x8.free = true ∧ x9.free = true)
    ⟨_, _, _, by rw [Nat.zero_mul]; rfl, rfl, rfl, rfl⟩ ?_ ?_
  · rintro y d env hd ⟨x7, x8, x9, rfl, h7, h8, h9⟩
    obtain ⟨hy, rfl⟩ := rngD_get hd
    rw [Int.zero_add]
    refine ⟨_, put_free (s0 := x7) rfl h7, ?_⟩
    refine run_for (ds := rngD 0 (((c : Nat) : Int) + 1).toNat) (fr1 (j := ((c : Nat) : Int) + 1) rfl (B62_small (by omega) (by omega))) (fun x env => ∃ (x8 x9 : Slot), env = [.fz (.int r), .fz (.int c), .fz (.list (bs.map brD)), .fz (.tuple [natsD R, natsD C]), .fz (natsD R), .fz (natsD C), .own (.list ((List.range (y * (c + 1) + x)).map (mvk c R C))), .fz (.int y), x8, x9, .emp, .emp] ∧ x8.free = true ∧ x9.free = true)
      ⟨_, _, rfl, h8, h9⟩ ?_ ?_
    · rintro x d env hd ⟨x8, x9, rfl, h8, h9⟩
      obtain ⟨hx, rfl⟩ := rngD_get hd
      rw [Int.zero_add]
      refine ⟨_, put_free (s0 := x8) rfl h8, ?_⟩
      have lc1 : fLc (fRange1 (fVb 7)) (gN 10) (fCmp ninD (fVb 10) (fVb 4)) (fVb 10) [10] [.fz (.int r), .fz (.int c), .fz (.list (bs.map brD)), .fz (.tuple [natsD R, natsD C]), .fz (natsD R), .fz (natsD C), .own (.list ((List.range (y * (c + 1) + x)).map (mvk c R C))), .fz (.int y), .fz (.int x), x9, .emp, .emp]
          = some (.list (((List.range y).filter fun i => !decide (((i : Nat) : Int) ∈ R.map fun i => ((i : Nat) : Int))).map fun i => .int (i : Nat))) := by
        refine lc_filter (fun i => !decide (((i : Nat) : Int) ∈ R.map fun i => ((i : Nat) : Int))) (fun i => (i : Nat)) rfl (fr1 (j := (y : Nat)) rfl (B62_small (by omega) (by omega))) (by omega) fun i hi => ?_
        rw [Int.zero_add]
        refine one_if rfl (cmp_of (d := .int i) (e := natsD R) rfl rfl ?_) rfl
        rw [natsD_eq]; exact ninD_ints
      have len1 := call_len lc1
      rw [List.length_map] at len1
      refine run_seq (run_set len1 (put_free (s0 := x9) rfl h9) ?_)
      have lc2 : ∀ v, fLc (fRange1 (fVb 8)) (gN 11) (fCmp ninD (fVb 11) (fVb 5)) (fVb 11) [11] [.fz (.int r), .fz (.int c), .fz (.list (bs.map brD)), .fz (.tuple [natsD R, natsD C]), .fz (natsD R), .fz (natsD C), .own (.list ((List.range (y * (c + 1) + x)).map (mvk c R C))), .fz (.int y), .fz (.int x), .fz v, .emp, .emp]
          = some (.list (((List.range x).filter fun i => !decide (((i : Nat) : Int) ∈ C.map fun i => ((i : Nat) : Int))).map fun i => .int (i : Nat))) := fun v => by
        refine lc_filter (fun i => !decide (((i : Nat) : Int) ∈ C.map fun i => ((i : Nat) : Int))) (fun i => (i : Nat)) rfl (fr1 (j := (x : Nat)) rfl (B62_small (by omega) (by omega))) (by omega) fun i hi => ?_
        rw [Int.zero_add]
        refine one_if rfl (cmp_of (d := .int i) (e := natsD C) rfl rfl ?_) rfl
        rw [natsD_eq]; exact ninD_ints
      have len2 := fun v => call_len (lc2 v)
      simp only [List.length_map] at len2
      have hbig : ((List.range (y * (c + 1) + x)).map (mvk c R C)).length < 1000000 := by
        rw [List.length_map, List.length_range]
        have : y * (c + 1) ≤ 3 * 4 := Nat.mul_le_mul (by omega) (by omega)
        omega
      refine run_app (tup_of (cons_of (f1_of (r := .int (-_)) rfl rfl) (cons_of (len2 _) rfl)) (by simp)) rfl hbig ?_
      refine ⟨.fz (.int x), .fz (.int ((cnt R y : Nat) : Int)), ?_, rfl, rfl⟩
      have hk := kdiv (y := y) (x := x) (c := c) (by omega)
      have e : (List.range (y * (c + 1) + (x + 1))).map (mvk c R C) = (List.range (y * (c + 1) + x)).map (mvk c R C) ++ [.tuple [.int (-((cnt R y : Nat) : Int)), .int ((cnt C x : Nat) : Int)]] := by
        rw [← Nat.add_assoc, List.range_succ, List.map_append]
        show _ ++ [mv R C ((y * (c + 1) + x) / (c + 1)) ((y * (c + 1) + x) % (c + 1))] = _
        rw [hk.1, hk.2]
        unfold mv
        rfl
      rw [e]
      rfl
    · rintro env ⟨x8, x9, rfl, h8, h9⟩
      rw [rngD_len, show (((c : Nat) : Int) + 1).toNat = c + 1 by omega, ← Nat.succ_mul]
      exact ⟨_, _, _, rfl, rfl, h8, h9⟩
  · rintro env ⟨x7, x8, x9, rfl, h7, h8, h9⟩
    rw [rngD_len, show (((r : Nat) : Int) + 1).toNat = r + 1 by omega]
    exact run_frz (run_ret (d := .tuple _) rfl (.inl ⟨_, rfl⟩))
/-! ### is it a motion -/
theorem ismotion_ok (c : Nat) (R C : List Nat) (N : Nat) : f__law_is_motion [.tuple ((List.range N).map (mvk c R C)), .int (N : Nat)] = some (.bool true) := by
  have h0 := or_of (notb_of (tb_of (isi_of (T := "tuple") (f := fVb 0) (env := [Slot.fz (.tuple ((List.range N).map (mvk c R C))), .fz (.int (N : Nat)), .emp]) (d := .tuple ((List.range N).map (mvk c R C))) rfl rfl (b := true) (by show kitB "tuple" "tuple" = _; decide +kernel))))
      (cmp_of (g := neD) (fa := fCall lenD (fCons (fVb 0) fNil)) (fb := fVb 1) (d := .int (((List.range N).map (mvk c R C)).length : Nat)) (e := .int (N : Nat)) (call_lenT rfl) rfl (neD_of ok_int ok_int))
  rw [eqv_int, List.length_map, List.length_range] at h0
  refine runF_of rfl (run_seq (run_if (b := false) ?_ (fun h => by cases h) fun _ => run_nop (run_seq ?_)))
  · rw [show (List.map Slot.fz [PyData.tuple ((List.range N).map (mvk c R C)), PyData.int (N : Nat)] ++ List.replicate (3 - 2) Slot.emp) = [Slot.fz (.tuple ((List.range N).map (mvk c R C))), .fz (.int (N : Nat)), .emp] from rfl]
    exact h0.trans (congrArg some (by simp))
  refine run_for (ds := (List.range N).map (mvk c R C)) rfl (fun i env => ∃ x : Slot, env = [Slot.fz (.tuple ((List.range N).map (mvk c R C))), .fz (.int (N : Nat)), x] ∧ x.free = true) ⟨_, rfl, rfl⟩ ?_ ?_
  · rintro i d env hd ⟨x, rfl, hx⟩
    obtain ⟨k, rfl⟩ : ∃ k, d = mvk c R C k := by
      rw [List.getElem?_map] at hd
      cases e : (List.range N)[i]? with
      | none => rw [e] at hd; cases hd
      | some b => rw [e] at hd; exact ⟨b, (Option.some.inj hd).symm⟩
    refine ⟨[Slot.fz (.tuple ((List.range N).map (mvk c R C))), .fz (.int (N : Nat)), .fz (mvk c R C k)], put_free (s0 := x) rfl hx, run_if (b := false) ?_ (fun h => by cases h) fun _ => run_nop ⟨_, rfl, rfl⟩⟩
    let E : DL.Env := [Slot.fz (.tuple ((List.range N).map (mvk c R C))), .fz (.int (N : Nat)), .fz (mvk c R C k)]
    have h1 := or_of (notb_of (tb_of (isi_of (T := "tuple") (f := fVb 2) (env := E) (d := mvk c R C k) rfl rfl (b := true) (by show kitB "tuple" "tuple" = _; decide +kernel))))
      (or_of (cmp_of (g := neD) (fa := fCall lenD (fCons (fVb 2) fNil)) (fb := fC (.int 2)) (d := .int (2 : Nat)) (e := .int 2) (call_lenT (ds := [_, _]) rfl) rfl (neD_of ok_int ok_int))
        (or_of (notb_of (tb_of (call1 (f := f2 idxD (fVb 2) (fC (.int 0))) (d := .int (-((cnt R (k / (c + 1)) : Nat) : Int))) rfl (isint_ok _)))) (notb_of (tb_of (call1 (f := f2 idxD (fVb 2) (fC (.int 1))) (d := .int ((cnt C (k % (c + 1)) : Nat) : Int)) rfl (isint_ok _))))))
    exact h1
  · rintro env ⟨x, rfl, hx⟩
    exact run_ret (d := .bool true) rfl (.inl ⟨_, rfl⟩)
end G
set_option Elab.async false
set_option linter.all false
set_option maxRecDepth 100000
set_option maxHeartbeats 4000000
namespace G
open PySem L2 DL
theorem div_case (a b g : Int) (h : f__law_divisor [.int a, .int b] = some (.int g)) (h0 : 0 ≤ g) (h3 : g ≤ 3) (ha : g ∣ a) (hb : g ∣ b) (hz : a = 0 → b = 0 → g = 0) : ∃ g, f__law_divisor [.int a, .int b] = some (.int g) ∧ 0 ≤ g ∧ g ≤ 3 ∧ g ∣ a ∧ g ∣ b ∧ (a = 0 → b = 0 → g = 0) := ⟨g, h, h0, h3, ha, hb, hz⟩
theorem div_small (a b : Int) (ha : 0 ≤ a ∧ a ≤ 3) (hb : -3 ≤ b ∧ b ≤ 3) : ∃ g, f__law_divisor [.int a, .int b] = some (.int g) ∧ 0 ≤ g ∧ g ≤ 3 ∧ g ∣ a ∧ g ∣ b ∧ (a = 0 → b = 0 → g = 0) := by
  have ca : a = 0 ∨ a = 1 ∨ a = 2 ∨ a = 3 := by omega
  have cb : b = -3 ∨ b = -2 ∨ b = -1 ∨ b = 0 ∨ b = 1 ∨ b = 2 ∨ b = 3 := by omega
  rcases ca with rfl | rfl | rfl | rfl <;> rcases cb with rfl | rfl | rfl | rfl | rfl | rfl | rfl
  · exact div_case _ _ 3 (by kernel_rfl) (by decide) (by decide) (by decide) (by decide) (by decide)
  · exact div_case _ _ 2 (by kernel_rfl) (by decide) (by decide) (by decide) (by decide) (by decide)
  · exact div_case _ _ 1 (by kernel_rfl) (by decide) (by decide) (by decide) (by decide) (by decide)
  · exact div_case _ _ 0 (by kernel_rfl) (by decide) (by decide) (by decide) (by decide) (by decide)
  · exact div_case _ _ 1 (by kernel_rfl) (by decide) (by decide) (by decide) (by decide) (by decide)
  · exact div_case _ _ 2 (by kernel_rfl) (by decide) (by decide) (by decide) (by decide) (by decide)
  · exact div_case _ _ 3 (by kernel_rfl) (by decide) (by decide) (by decide) (by decide) (by decide)
  · exact div_case _ _ 1 (by kernel_rfl) (by decide) (by decide) (by decide) (by decide) (by decide)
  · exact div_case _ _ 1 (by kernel_rfl) (by decide) (by decide) (by decide) (by decide) (by decide)
  · exact div_case _ _ 1 (by kernel_rfl) (by decide) (by decide) (by decide) (by decide) (by decide)
  · exact div_case _ _ 1 (by kernel_rfl) (by decide) (by decide) (by decide) (by decide) (by decide)
  · exact div_case _ _ 1 (by kernel_rfl) (by decide) (by decide) (by decide) (by decide) (by decide)
  · exact div_case _ _ 1 (by kernel_rfl) (by decide) (by decide) (by decide) (by decide) (by decide)
  · exact div_case _ _ 1 (by kernel_rfl) (by decide) (by decide) (by decide) (by decide) (by decide)
  · exact div_case _ _ 1 (by kernel_rfl) (by decide) (by decide) (by decide) (by decide) (by decide)
  · exact div_case _ _ 2 (by kernel_rfl) (by decide) (by decide) (by decide) (by decide) (by decide)
  · exact div_case _ _ 1 (by kernel_rfl) (by decide) (by decide) (by decide) (by decide) (by decide)
  · exact div_case _ _ 2 (by kernel_rfl) (by decide) (by decide) (by decide) (by decide) (by decide)
  · exact div_case _ _ 1 (by kernel_rfl) (by decide) (by decide) (by decide) (by decide) (by decide)
  · exact div_case _ _ 2 (by kernel_rfl) (by decide) (by decide) (by decide) (by decide) (by decide)
  · exact div_case _ _ 1 (by kernel_rfl) (by decide) (by decide) (by decide) (by decide) (by decide)
  · exact div_case _ _ 3 (by kernel_rfl) (by decide) (by decide) (by decide) (by decide) (by decide)
  · exact div_case _ _ 1 (by kernel_rfl) (by decide) (by decide) (by decide) (by decide) (by decide)
  · exact div_case _ _ 1 (by kernel_rfl) (by decide) (by decide) (by decide) (by decide) (by decide)
  · exact div_case _ _ 3 (by kernel_rfl) (by decide) (by decide) (by decide) (by decide) (by decide)
  · exact div_case _ _ 1 (by kernel_rfl) (by decide) (by decide) (by decide) (by decide) (by decide)
  · exact div_case _ _ 1 (by kernel_rfl) (by decide) (by decide) (by decide) (by decide) (by decide)
  · exact div_case _ _ 3 (by kernel_rfl) (by decide) (by decide) (by decide) (by decide) (by decide)
theorem cnt_le (S : List Nat) (n : Nat) : cnt S n ≤ n := by
  unfold cnt
  exact Nat.le_trans (List.length_filter_le _ _) (by rw [List.length_range]; exact Nat.le_refl _)
theorem cnt_succ (S : List Nat) (n : Nat) : cnt S (n + 1) = cnt S n + (if ((n : Nat) : Int) ∈ S.map (fun i => ((i : Nat) : Int)) then 0 else 1) := by
  unfold cnt
  rw [List.range_succ, List.filter_append, List.length_append]
  by_cases h : ((n : Nat) : Int) ∈ S.map (fun i => ((i : Nat) : Int))
  · rw [if_pos h, List.filter_cons_of_neg (by simpa using h)]; rfl
  · rw [if_neg h, List.filter_cons_of_pos (by simpa using h)]; rfl
theorem cnt_one (S : List Nat) : ∀ n, 0 < cnt S n → ∃ m, m ≤ n ∧ cnt S m = 1
  | 0, h => by have := cnt_le S 0; omega
  | n + 1, h => by
    by_cases h0 : 0 < cnt S n
    · obtain ⟨m, hm, e⟩ := cnt_one S n h0; exact ⟨m, by omega, e⟩
    · have := cnt_succ S n
      refine ⟨n + 1, Nat.le_refl _, ?_⟩
      split at this <;> omega
def flI (c : Nat) (R C : List Nat) (N : Nat) : List Int := (List.range N).flatMap fun k => [-((cnt R (k / (c + 1)) : Nat) : Int), ((cnt C (k % (c + 1)) : Nat) : Int)]
theorem flI_len (c : Nat) (R C : List Nat) : ∀ N, (flI c R C N).length = 2 * N
  | 0 => rfl
  | N + 1 => by
    have := flI_len c R C N
    unfold flI at this ⊢
    rw [List.range_succ, List.flatMap_append, List.length_append, this]
    simp; omega
theorem flat_ok (c : Nat) (R C : List Nat) (N : Nat) (hN : N ≤ 100) : f__law_flat [.tuple ((List.range N).map (mvk c R C))] = some (.list ((flI c R C N).map .int)) := by
  refine runF_of rfl (run_seq (run_set (d := .list []) rfl rfl (run_seq ?_)))
  refine run_for (ds := (List.range N).map (mvk c R C)) rfl (fun i env => ∃ x : Slot, env = [.fz (.tuple ((List.range N).map (mvk c R C))), .fz (.list ((flI c R C i).map .int)), x] ∧ x.free = true) ⟨_, rfl, rfl⟩ ?_ ?_
  · rintro i d env hd ⟨x, rfl, hx⟩
    have hi : i < N := by
      have := (List.getElem?_eq_some_iff.mp hd).1
      simpa using this
    obtain rfl : d = mvk c R C i := by
      rw [List.getElem?_map, List.getElem?_range hi] at hd
      exact (Option.some.inj hd).symm
    have hl := flI_len c R C i
    have e : flI c R C (i + 1) = flI c R C i ++ [-((cnt R (i / (c + 1)) : Nat) : Int), ((cnt C (i % (c + 1)) : Nat) : Int)] := by
      unfold flI
      rw [List.range_succ, List.flatMap_append]; simp
    refine ⟨[.fz (.tuple ((List.range N).map (mvk c R C))), .fz (.list ((flI c R C i).map .int)), .fz (mvk c R C i)], put_free (s0 := x) rfl hx, ?_⟩
    refine run_set (d := .list ((flI c R C (i + 1)).map .int)) (f2_of (d := .list ((flI c R C i).map .int)) (e := .list [.int (-((cnt R (i / (c + 1)) : Nat) : Int)), .int ((cnt C (i % (c + 1)) : Nat) : Int)]) rfl (lst_of rfl (by simp)) ?_) rfl ⟨_, rfl, rfl⟩
    show (if ((flI c R C i).map PyData.int).length + 2 ≤ sizeLine then _ else _) = _
    rw [if_pos (by rw [List.length_map, hl]; have := sizeLine_big; omega), e, List.map_append]; rfl
  · rintro env ⟨x, rfl, hx⟩
    rw [List.length_map, List.length_range]
    exact run_ret (d := .list _) rfl (.inl ⟨_, rfl⟩)
theorem lowest_ok (xs : List Int) (hb : ∀ x ∈ xs, -3 ≤ x ∧ x ≤ 3) (h1 : (∀ x ∈ xs, x = 0) ∨ ∃ x ∈ xs, x = 1 ∨ x = -1) : f__law_is_lowest [.list (xs.map .int)] = some (.bool true) := by
  refine runF_of rfl (run_seq (run_set (d := .int 0) rfl rfl (run_seq ?_)))
  refine run_for (ds := xs.map .int) rfl (fun i env => ∃ (x : Slot) (g : Int), env = [.fz (.list (xs.map .int)), .fz (.int g), x] ∧ x.free = true ∧ 0 ≤ g ∧ g ≤ 3 ∧ (∀ v ∈ xs.take i, g ∣ v) ∧ ((∀ v ∈ xs.take i, v = 0) → g = 0)) ⟨_, 0, rfl, rfl, by decide, by decide, by simp, fun _ => rfl⟩ ?_ ?_
  · rintro i d env hd ⟨x, g, rfl, hx, g0, g3, hdv, hz⟩
    obtain ⟨v, hv, rfl⟩ : ∃ v, xs[i]? = some v ∧ d = .int v := by
      rw [List.getElem?_map] at hd
      cases e : xs[i]? with
      | none => rw [e] at hd; cases hd
      | some b => rw [e] at hd; exact ⟨b, rfl, (Option.some.inj hd).symm⟩
    obtain ⟨g', e1, e2, e3, e4, e5, e6⟩ := div_small g v ⟨g0, g3⟩ (hb v (List.mem_of_getElem? hv))
    have ht : xs.take (i + 1) = xs.take i ++ [v] := by rw [List.take_add_one, hv]; rfl
    refine ⟨[.fz (.list (xs.map .int)), .fz (.int g), .fz (.int v)], put_free (s0 := x) rfl hx, ?_⟩
    refine run_set (d := .int g') (call2 (d := .int g) (d' := .int v) rfl rfl e1) rfl ⟨_, g', rfl, rfl, e2, e3, fun w hw => ?_, fun hw => ?_⟩
    · rw [ht] at hw
      rcases List.mem_append.mp hw with hw | hw
      · exact Int.dvd_trans e4 (hdv w hw)
      · have : w = v := by simpa using hw
        rw [this]; exact e5
    · rw [ht] at hw
      exact e6 (hz fun w h => hw w (by simp [h])) (hw v (by simp))
  · rintro env ⟨x, g, rfl, hx, g0, g3, hdv, hz⟩
    rw [List.length_map, List.take_length] at hdv hz
    have hg : g < 2 := by
      rcases h1 with h1 | ⟨w, hw, e⟩
      · have := hz h1; omega
      · have hd := hdv w hw
        have : g ∣ 1 := by
          rcases e with rfl | rfl
          · exact hd
          · exact (Int.dvd_neg).mp hd
        have := Int.le_of_dvd (by decide) this
        omega
    refine run_ret (d := .bool true) (fB_of (cmp_of (d := .int g) (e := .int 2) rfl rfl ?_)) (.inl ⟨_, rfl⟩)
    show some (decide (g < 2)) = _
    rw [decide_eq_true hg]
end G
set_option Elab.async false
set_option linter.all false
set_option maxRecDepth 100000
set_option maxHeartbeats 4000000
namespace G
open PySem L2 DL
def prD (p : Int × Int) : D := .tuple [.int p.1, .int p.2]
theorem ok_pr {k : Nat} (a b : Int) : OkD (k + 1) (.tuple [.int a, .int b]) := ok_tup fun d hd => by
  rcases List.mem_cons.mp hd with rfl | hd
  · exact ok_int
  · rcases List.mem_cons.mp hd with rfl | hd
    · exact ok_int
    · cases hd
theorem idx_map {f : Nat → D} {N i : Nat} (h : i < N) : idxD (.tuple ((List.range N).map f)) (.int (i : Nat)) = some (f i) := by
  show L2.atI ((List.range N).map f) ((i : Nat) : Int) = _
  rw [DL.atI_nat, List.getElem?_map, List.getElem?_range h]; rfl
theorem rigid_no {N : Nat} {px py vx vy : Nat → Int} (hN : N ≤ 100) (b1 : ∀ k, k < N → -100 ≤ px k ∧ px k ≤ 100) (b2 : ∀ k, k < N → -100 ≤ py k ∧ py k ≤ 100) (b3 : ∀ k, k < N → -100 ≤ vx k ∧ vx k ≤ 100) (b4 : ∀ k, k < N → -100 ≤ vy k ∧ vy k ≤ 100)
    {i1 j1 i2 j2 : Nat} (h1 : j1 < i1) (h1' : i1 < N) (h2 : j2 < i2) (h2' : i2 < N)
    (hne : ((px i1 - px j1) * (vy i1 - vy j1) - (py i1 - py j1) * (vx i1 - vx j1)) * ((px i2 - px j2) * (px i2 - px j2) + (py i2 - py j2) * (py i2 - py j2))
      ≠ ((px i2 - px j2) * (vy i2 - vy j2) - (py i2 - py j2) * (vx i2 - vx j2)) * ((px i1 - px j1) * (px i1 - px j1) + (py i1 - py j1) * (py i1 - py j1))) :
    f__law_rigid [.tuple ((List.range N).map fun k => prD (px k, py k)), .tuple ((List.range N).map fun k => prD (vx k, vy k))] = some (.bool false) := by
  let A : D := .tuple ((List.range N).map fun k => prD (px k, py k))
  let B : D := .tuple ((List.range N).map fun k => prD (vx k, vy k))
  let sp : Nat → Nat → Int × Int := fun i j => ((px i - px j) * (vy i - vy j) - (py i - py j) * (vx i - vx j), (px i - px j) * (px i - px j) + (py i - py j) * (py i - py j))
  refine runF_of rfl (run_seq (run_setF (d := .list []) rfl rfl (run_seq ?_)))
  have hlen : fCall lenD (fCons (fVb 0) fNil) [Slot.fz A, .fz B, .own (.list []), .emp, .emp, .emp, .emp, .emp, .emp, .emp, .emp] = some (.int (N : Nat)) := by
    have := call_lenT (f := fVb 0) (env := [Slot.fz A, .fz B, .own (.list []), .emp, .emp, .emp, .emp, .emp, .emp, .emp, .emp]) (ds := (List.range N).map fun k => prD (px k, py k)) rfl
    rwa [List.length_map, List.length_range] at this
  refine run_for (ds := rngD 0 ((N : Nat) : Int).toNat) (fr1 hlen (B62_small (by omega) (by omega))) (fun i env => ∃ (Pr : List (Int × Int)) (x3 x4 x5 x6 : Slot), env = [.fz A, .fz B, .own (.list (Pr.map prD)), x3, x4, x5, x6, .emp, .emp, .emp, .emp] ∧ x3.free = true ∧ x4.free = true ∧ x5.free = true ∧ x6.free = true ∧ Pr.length ≤ 100 * i ∧ (∀ p ∈ Pr, ∃ a b, a < N ∧ b < N ∧ p = sp a b) ∧ ∀ a b, b < a → a < i → sp a b ∈ Pr)
    ⟨[], _, _, _, _, rfl, rfl, rfl, rfl, rfl, by simp, by simp, fun a b _ h => by omega⟩ ?_ ?_
  · rintro i d env hd ⟨Pr, x3, x4, x5, x6, rfl, f3, f4, f5, f6, hl, hp, hin⟩
    obtain ⟨hi, rfl⟩ := rngD_get hd
    rw [Int.zero_add]
    have hiN : i < N := by omega
    refine ⟨_, put_free (s0 := x3) rfl f3, ?_⟩
    refine run_for (ds := rngD 0 ((i : Nat) : Int).toNat) (fr1 (j := (i : Nat)) rfl (B62_small (by omega) (by omega))) (fun j env => ∃ (Pr : List (Int × Int)) (x4 x5 x6 : Slot), env = [.fz A, .fz B, .own (.list (Pr.map prD)), .fz (.int i), x4, x5, x6, .emp, .emp, .emp, .emp] ∧ x4.free = true ∧ x5.free = true ∧ x6.free = true ∧ Pr.length ≤ 100 * i + j ∧ (∀ p ∈ Pr, ∃ a b, a < N ∧ b < N ∧ p = sp a b) ∧ (∀ a b, b < a → a < i → sp a b ∈ Pr) ∧ ∀ b, b < j → sp i b ∈ Pr)
      ⟨Pr, _, _, _, rfl, f4, f5, f6, by omega, hp, hin, fun b hb => by omega⟩ ?_ ?_
    · rintro j d env hd ⟨Pr, x4, x5, x6, rfl, f4, f5, f6, hl, hp, hin, hin2⟩
      obtain ⟨hj, rfl⟩ := rngD_get hd
      rw [Int.zero_add]
      have hjN : j < N := by omega
      let dx := px i - px j
      let dy := py i - py j
      let wx := vx i - vx j
      let wy := vy i - vy j
      have q1 := b1 i hiN; have q2 := b1 j hjN; have q3 := b2 i hiN; have q4 := b2 j hjN; have q5 := b3 i hiN; have q6 := b3 j hjN; have q7 := b4 i hiN; have q8 := b4 j hjN
      let E : Slot → Slot → DL.Env := fun a b => [.fz A, .fz B, .own (.list (Pr.map prD)), .fz (.int i), .fz (.int j), a, b, .emp, .emp, .emp, .emp]
      refine ⟨E x5 x6, put_free (s0 := x4) rfl f4, ?_⟩
      refine run_seq (run_set (d := prD (dx, dy)) (env' := E (.fz (prD (dx, dy))) x6) ?_ (put_free (s0 := x5) rfl f5) ?_)
      · refine tup_of (cons_of (f2_of (d := .int (px i)) (e := .int (px j)) (f2_of (d := prD (px i, py i)) (f2_of (d := A) (e := .int (i : Nat)) rfl rfl (idx_map hiN)) rfl rfl) (f2_of (d := prD (px j, py j)) (f2_of (d := A) (e := .int (j : Nat)) rfl rfl (idx_map hjN)) rfl rfl) rfl)
          (cons_of (f2_of (d := .int (py i)) (e := .int (py j)) (f2_of (d := prD (px i, py i)) (f2_of (d := A) (e := .int (i : Nat)) rfl rfl (idx_map hiN)) rfl rfl) (f2_of (d := prD (px j, py j)) (f2_of (d := A) (e := .int (j : Nat)) rfl rfl (idx_map hjN)) rfl rfl) rfl) rfl)) (by simp)
      refine run_seq (run_set (d := prD (wx, wy)) (env' := E (.fz (prD (dx, dy))) (.fz (prD (wx, wy)))) ?_ (put_free (s0 := x6) rfl f6) ?_)
      · refine tup_of (cons_of (f2_of (d := .int (vx i)) (e := .int (vx j)) (f2_of (d := prD (vx i, vy i)) (f2_of (d := B) (e := .int (i : Nat)) rfl rfl (idx_map hiN)) rfl rfl) (f2_of (d := prD (vx j, vy j)) (f2_of (d := B) (e := .int (j : Nat)) rfl rfl (idx_map hjN)) rfl rfl) rfl)
          (cons_of (f2_of (d := .int (vy i)) (e := .int (vy j)) (f2_of (d := prD (vx i, vy i)) (f2_of (d := B) (e := .int (i : Nat)) rfl rfl (idx_map hiN)) rfl rfl) (f2_of (d := prD (vx j, vy j)) (f2_of (d := B) (e := .int (j : Nat)) rfl rfl (idx_map hjN)) rfl rfl) rfl) rfl)) (by simp)
      have m1 : ∀ x : Int, mulD (.int dx) (.int x) = some (.int (dx * x)) := fun x => mulD_l (by simp only [dx]; omega) (by simp only [dx]; omega)
      have m2 : ∀ x : Int, mulD (.int dy) (.int x) = some (.int (dy * x)) := fun x => mulD_l (by simp only [dy]; omega) (by simp only [dy]; omega)
      refine run_seq (run_if (or_of (cmp_of (d := .int (dx * wx + dy * wy)) (e := .int 0) (f2_of (f2_of (d := .int dx) (e := .int wx) rfl rfl (m1 _)) (f2_of (d := .int dy) (e := .int wy) rfl rfl (m2 _)) rfl) rfl (neD_of ok_int ok_int))
        (and_of (cmp_of (d := prD (dx, dy)) (e := .tuple [.int 0, .int 0]) rfl (tup_of rfl (by simp)) (eqD_of ((ok_pr (k := 0) _ _).mono) ((ok_pr (k := 0) _ _).mono))) (cmp_of (d := prD (wx, wy)) (e := .tuple [.int 0, .int 0]) rfl (tup_of rfl (by simp)) (neD_of ((ok_pr (k := 0) _ _).mono) ((ok_pr (k := 0) _ _).mono)))))
        (fun _ => run_ret (d := .bool false) rfl (.inl ⟨_, rfl⟩)) fun _ => run_nop ?_)
      refine run_app (d := prD (sp i j)) (tup_of (cons_of (f2_of (f2_of (d := .int dx) (e := .int wy) rfl rfl (m1 _)) (f2_of (d := .int dy) (e := .int wx) rfl rfl (m2 _)) rfl) (cons_of (f2_of (f2_of (d := .int dx) (e := .int dx) rfl rfl (m1 _)) (f2_of (d := .int dy) (e := .int dy) rfl rfl (m2 _)) rfl) rfl)) (by simp)) rfl (by rw [List.length_map]; omega) ?_
      refine ⟨Pr ++ [sp i j], _, _, _, by rw [List.map_append]; rfl, rfl, rfl, rfl, by rw [List.length_append, List.length_singleton]; omega, fun p h => ?_, fun a b h h' => by simp [hin a b h h'], fun b hb => ?_⟩
      · rcases List.mem_append.mp h with h | h
        · exact hp p h
        · exact ⟨i, j, hiN, hjN, by simpa using h⟩
      · by_cases e : b = j
        · rw [e]; simp
        · simp [hin2 b (by omega)]
    · rintro env ⟨Pr, x4, x5, x6, rfl, f4, f5, f6, hl, hp, hin, hin2⟩
      rw [rngD_len, show ((i : Nat) : Int).toNat = i by omega] at hl hin2
      refine ⟨Pr, _, _, _, _, rfl, rfl, f4, f5, f6, by omega, hp, fun a b h h' => ?_⟩
      by_cases e : a = i
      · rw [e]; rw [e] at h; exact hin2 b h
      · exact hin a b h (by omega)
  · rintro env ⟨Pr, x3, x4, x5, x6, rfl, f3, f4, f5, f6, hl, hp, hin⟩
    rw [rngD_len, show ((N : Nat) : Int).toNat = N by omega] at hl hin
    let L : D := .list (Pr.map prD)
    have sb : ∀ a b, a < N → b < N → -80000 ≤ (sp a b).1 ∧ (sp a b).1 ≤ 80000 := fun a b ha hb => by
      have q1 := b1 a ha; have q2 := b1 b hb; have q3 := b2 a ha; have q4 := b2 b hb; have q5 := b3 a ha; have q6 := b3 b hb; have q7 := b4 a ha; have q8 := b4 b hb
      have prod : ∀ x y : Int, -200 ≤ x → x ≤ 200 → -200 ≤ y → y ≤ 200 → -40000 ≤ x * y ∧ x * y ≤ 40000 := fun x y h1 h2 h3 h4 => by
        have a1 : 0 ≤ (200 - x) * (200 + y) := Int.mul_nonneg (by omega) (by omega)
        have a2 : 0 ≤ (200 + x) * (200 - y) := Int.mul_nonneg (by omega) (by omega)
        have a3 : 0 ≤ (200 - x) * (200 - y) := Int.mul_nonneg (by omega) (by omega)
        have a4 : 0 ≤ (200 + x) * (200 + y) := Int.mul_nonneg (by omega) (by omega)
        have e1 : (200 - x) * (200 + y) = 40000 + 200 * y - 200 * x - x * y := by rw [Int.sub_mul, Int.mul_add, Int.mul_add]; omega
        have e2 : (200 + x) * (200 - y) = 40000 - 200 * y + 200 * x - x * y := by rw [Int.add_mul, Int.mul_sub, Int.mul_sub]; omega
        have e3 : (200 - x) * (200 - y) = 40000 - 200 * y - 200 * x + x * y := by rw [Int.sub_mul, Int.mul_sub, Int.mul_sub]; omega
        have e4 : (200 + x) * (200 + y) = 40000 + 200 * y + 200 * x + x * y := by rw [Int.add_mul, Int.mul_add, Int.mul_add]; omega
        omega
      have p1 := prod (px a - px b) (vy a - vy b) (by omega) (by omega) (by omega) (by omega)
      have p2 := prod (py a - py b) (vx a - vx b) (by omega) (by omega) (by omega) (by omega)
      simp only [sp]
      omega
    refine run_seq (run_frz ?_)
    refine run_for (ds := Pr.map prD) rfl (fun i env => ∃ (x7 x8 x9 x10 : Slot), env = [.fz A, .fz B, .fz L, x3, x4, x5, x6, x7, x8, x9, x10] ∧ x7.free = true ∧ x8.free = true ∧ x9.free = true ∧ x10.free = true ∧ ∀ p ∈ Pr.take i, ∀ q ∈ Pr, p.1 * q.2 = q.1 * p.2)
      ⟨_, _, _, _, rfl, rfl, rfl, rfl, rfl, by simp⟩ ?_ ?_
    · rintro i d env hd ⟨x7, x8, x9, x10, rfl, f7, f8, f9, f10, hall⟩
      obtain ⟨p, hpi, rfl⟩ : ∃ p, Pr[i]? = some p ∧ d = prD p := by
        rw [List.getElem?_map] at hd
        cases e : Pr[i]? with
        | none => rw [e] at hd; cases hd
        | some b => rw [e] at hd; exact ⟨b, rfl, (Option.some.inj hd).symm⟩
      obtain ⟨a, b, haN, hbN, hab⟩ := hp p (List.mem_of_getElem? hpi)
      have ht : Pr.take (i + 1) = Pr.take i ++ [p] := by rw [List.take_add_one, hpi]; rfl
      refine ⟨[.fz A, .fz B, .fz L, x3, x4, x5, x6, .fz (.int p.1), .fz (.int p.2), x9, x10], ?_, ?_⟩
      · show (put 7 _ _).bind _ = _
        rw [put_free (s0 := x7) rfl f7]
        show (put 8 _ _).bind _ = _
        rw [put_free (s0 := x8) rfl f8]
        rfl
      refine run_frz ?_
      refine run_for (ds := Pr.map prD) rfl (fun j env => ∃ (x9 x10 : Slot), env = [.fz A, .fz B, .fz L, x3, x4, x5, x6, .fz (.int p.1), .fz (.int p.2), x9, x10] ∧ x9.free = true ∧ x10.free = true ∧ ∀ q ∈ Pr.take j, p.1 * q.2 = q.1 * p.2)
        ⟨_, _, rfl, f9, f10, by simp⟩ ?_ ?_
      · rintro j d env hd ⟨x9, x10, rfl, f9, f10, hq⟩
        obtain ⟨q, hqj, rfl⟩ : ∃ p, Pr[j]? = some p ∧ d = prD p := by
          rw [List.getElem?_map] at hd
          cases e : Pr[j]? with
          | none => rw [e] at hd; cases hd
          | some b => rw [e] at hd; exact ⟨b, rfl, (Option.some.inj hd).symm⟩
        obtain ⟨a', b', haN', hbN', hab'⟩ := hp q (List.mem_of_getElem? hqj)
        have ht2 : Pr.take (j + 1) = Pr.take j ++ [q] := by rw [List.take_add_one, hqj]; rfl
        have s1 := sb a b haN hbN
        have s2 := sb a' b' haN' hbN'
        rw [← hab] at s1
        rw [← hab'] at s2
        refine ⟨[.fz A, .fz B, .fz L, x3, x4, x5, x6, .fz (.int p.1), .fz (.int p.2), .fz (.int q.1), .fz (.int q.2)], ?_, ?_⟩
        · show (put 9 _ _).bind _ = _
          rw [put_free (s0 := x9) rfl f9]
          show (put 10 _ _).bind _ = _
          rw [put_free (s0 := x10) rfl f10]
          rfl
        refine run_if (b := !decide (p.1 * q.2 = q.1 * p.2)) (cmp_of (f2_of (d := .int p.1) (e := .int q.2) rfl rfl (mulD_l (by omega) (by omega))) (f2_of (d := .int q.1) (e := .int p.2) rfl rfl (mulD_l (by omega) (by omega))) (by rw [neD_of ok_int ok_int, eqv_int])) (fun _ => run_ret (d := .bool false) rfl (.inl ⟨_, rfl⟩)) fun h => run_nop ?_
        refine ⟨_, _, rfl, rfl, rfl, fun r hr => ?_⟩
        rw [ht2] at hr
        rcases List.mem_append.mp hr with hr | hr
        · exact hq r hr
        · have : r = q := by simpa using hr
          rw [this]; simpa using h
      · rintro env ⟨x9, x10, rfl, f9, f10, hq⟩
        rw [List.length_map, List.take_length] at hq
        refine ⟨_, _, _, _, rfl, rfl, rfl, f9, f10, fun p' hp' => ?_⟩
        rw [ht] at hp'
        rcases List.mem_append.mp hp' with hp' | hp'
        · exact hall p' hp'
        · have : p' = p := by simpa using hp'
          rw [this]; exact hq
    · rintro env ⟨x7, x8, x9, x10, rfl, f7, f8, f9, f10, hall⟩
      rw [List.length_map, List.take_length] at hall
      exact absurd (hall _ (hin i1 j1 h1 h1') _ (hin i2 j2 h2 h2')) hne
end G
set_option Elab.async false
set_option linter.all false
set_option maxRecDepth 100000
set_option maxHeartbeats 4000000
namespace G
open PySem L2 DL
theorem lc_map {fi : DL.Env → Option (List D)} {g : D → DL.Env → Option DL.Env} {ft : DL.Env → Option Bool} {fe : DL.Env → Option D} {vs : List Nat} {env : DL.Env} {n : Nat} (q : Nat → D) (hw : wipable env vs = true) (hi : fi env = some (rngD 0 n)) (hn : n ≤ 1000000)
    (h : ∀ i : Nat, i < n → lcOne g ft fe (wipeE env vs) (.int (0 + (i : Nat))) = some [q i]) : fLc fi g ft fe vs env = some (.list ((List.range n).map q)) := by
  rw [lc_of (fun d => match d with | .int i => [q i.toNat] | _ => []) hw hi (by rw [rngD_len]; exact Nat.le_trans hn sizeLine_big) fun d hd => ?_]
  · have : ∀ l : List Nat, (l.map fun i => (PyData.int (0 + ((i : Nat) : Int)))).flatMap (fun d => match d with | .int i => [q i.toNat] | _ => []) = l.map q := by
      intro l
      induction l with
      | nil => rfl
      | cons a l ih =>
        rw [List.map_cons, List.flatMap_cons, ih]
        have e : ((0 : Int) + (a : Nat)).toNat = a := by omega
        show [q ((0 : Int) + (a : Nat)).toNat] ++ _ = _
        rw [e]; rfl
    exact congrArg (fun l => some (PyData.list l)) (this _)
  · obtain ⟨i, hi, rfl⟩ := List.mem_map.mp (show d ∈ (List.range n).map _ from hd)
    rw [h i (List.mem_range.mp hi)]
    have e : ((0 : Int) + (i : Nat)).toNat = i := by omega
    show _ = some [q ((0 : Int) + (i : Nat)).toNat]
    rw [e]
def px (c k : Nat) : Int := ((k % (c + 1) : Nat) : Int)
def py (c k : Nat) : Int := ((k / (c + 1) : Nat) : Int)
def vx (c : Nat) (R : List Nat) (k : Nat) : Int := -((cnt R (k / (c + 1)) : Nat) : Int)
def vy (c : Nat) (C : List Nat) (k : Nat) : Int := ((cnt C (k % (c + 1)) : Nat) : Int)
def ptD (c k : Nat) : D := prD (px c k, py c k)
theorem mvk_eq (c : Nat) (R C : List Nat) (k : Nat) : mvk c R C k = prD (vx c R k, vy c C k) := rfl
def gr (c : Nat) (R C : List Nat) (i j : Nat) : Int := (px c i - px c j) * (vx c R i - vx c R j) + (py c i - py c j) * (vy c C i - vy c C j)
def MemOk (c N : Nat) (R C : List Nat) (m : D) : Prop := ∃ (i j : Nat) (l : D), m = .tuple [.int i, .int j, .none, l] ∧ i < N ∧ j < N ∧ ((l = .none ∧ gr c R C i j = 0) ∨ (l = .int 0 ∧ gr c R C i j ≤ 0))
def frD (c N : Nat) (ms : List D) : D := .tuple [.tuple ((List.range N).map (ptD c)), .tuple ms, .tuple []]
theorem growth_ok {c N : Nat} {R C : List Nat} {ms : List D} {k i j : Nat} {l : D} (hN : N ≤ 100) (hk : ms[k]? = some (.tuple [.int i, .int j, .none, l])) (hi : i < N) (hj : j < N) :
    f__law_growth [frD c N ms, .int k, .tuple ((List.range N).map (mvk c R C))] = some (.int (gr c R C i j)) := by
  have hk' : idxD (.tuple ms) (.int (k : Nat)) = some (.tuple [.int i, .int j, .none, l]) := by
    show L2.atI ms ((k : Nat) : Int) = _
    rw [DL.atI_nat, hk]
  let F := frD c N ms
  let M : D := .tuple ((List.range N).map (mvk c R C))
  have bx : ∀ q, 0 ≤ px c q ∧ px c q < c + 1 := fun q => ⟨by unfold px; omega, by unfold px; have := Nat.mod_lt q (show c + 1 > 0 by omega); omega⟩
  refine runF_of rfl (run_seq (run_asg (d := .tuple [.int i, .int j]) (env' := [.fz F, .fz (.int k), .fz M, .fz (.int i), .fz (.int j), .emp, .emp, .emp, .emp]) ?_ rfl ?_))
  · have h1 : f2 idxD (f2 idxD (fV 0) (fC (.int 1))) (fVb 1) [Slot.fz F, .fz (.int k), .fz M, .emp, .emp, .emp, .emp, .emp, .emp] = some (.tuple [.int i, .int j, .none, l]) := f2_of (d := .tuple ms) (e := .int (k : Nat)) rfl rfl hk'
    show ((f2 idxD (f2 idxD (fV 0) (fC (.int 1))) (fVb 1) [Slot.fz F, .fz (.int k), .fz M, .emp, .emp, .emp, .emp, .emp, .emp]).bind _) = _
    rw [h1]
    rfl
  refine run_seq (run_set (d := ptD c i) (f2_of (d := .tuple ((List.range N).map (ptD c))) (e := .int (i : Nat)) rfl rfl (idx_map hi)) rfl ?_)
  refine run_seq (run_set (d := ptD c j) (f2_of (d := .tuple ((List.range N).map (ptD c))) (e := .int (j : Nat)) rfl rfl (idx_map hj)) rfl ?_)
  refine run_seq (run_set (d := mvk c R C i) (f2_of (d := M) (e := .int (i : Nat)) rfl rfl (idx_map hi)) rfl ?_)
  refine run_seq (run_set (d := mvk c R C j) (f2_of (d := M) (e := .int (j : Nat)) rfl rfl (idx_map hj)) rfl ?_)
  have c1 : px c i - px c j < 18446744073709551616 ∧ -18446744073709551616 < px c i - px c j := by
    have h1 : i % (c + 1) ≤ i := Nat.mod_le _ _
    have h2 : j % (c + 1) ≤ j := Nat.mod_le _ _
    unfold px
    generalize i % (c + 1) = a at h1 ⊢
    generalize j % (c + 1) = b at h2 ⊢
    omega
  have c2 : py c i - py c j < 18446744073709551616 ∧ -18446744073709551616 < py c i - py c j := by
    have h1 : i / (c + 1) ≤ i := Nat.div_le_self _ _
    have h2 : j / (c + 1) ≤ j := Nat.div_le_self _ _
    unfold py
    generalize i / (c + 1) = a at h1 ⊢
    generalize j / (c + 1) = b at h2 ⊢
    omega
  refine run_ret (d := .int (gr c R C i j)) (f2_of (d := .int ((px c i - px c j) * (vx c R i - vx c R j))) (e := .int ((py c i - py c j) * (vy c C i - vy c C j))) (f2_of (d := .int (px c i - px c j)) (e := .int (vx c R i - vx c R j)) (f2_of (d := .int (px c i)) (e := .int (px c j)) rfl rfl rfl) (f2_of (d := .int (vx c R i)) (e := .int (vx c R j)) rfl rfl rfl) (mulD_l c1.2 c1.1))
    (f2_of (d := .int (py c i - py c j)) (e := .int (vy c C i - vy c C j)) (f2_of (d := .int (py c i)) (e := .int (py c j)) rfl rfl rfl) (f2_of (d := .int (vy c C i)) (e := .int (vy c C j)) rfl rfl rfl) (mulD_l c2.2 c2.1)) rfl) (.inl ⟨_, rfl⟩)
theorem allowed_ok {c N : Nat} {R C : List Nat} {ms : List D} (hN : N ≤ 100) (hl : ms.length ≤ 100000) (hm : ∀ m ∈ ms, MemOk c N R C m) :
    f__law_allowed [frD c N ms, .tuple ((List.range N).map (mvk c R C))] = some (.bool true) := by
  let F := frD c N ms
  let M : D := .tuple ((List.range N).map (mvk c R C))
  refine runF_of rfl (run_seq ?_)
  have hlen : fCall lenD (fCons (f2 idxD (fVb 0) (fC (.int 1))) fNil) [Slot.fz F, .fz M, .emp, .emp, .emp] = some (.int (ms.length : Nat)) := call_lenT (f2_of (d := F) (e := .int 1) rfl rfl rfl)
  refine run_for (ds := rngD 0 ((ms.length : Nat) : Int).toNat) (fr1 hlen (B62_small (by omega) (by omega))) (fun i env => ∃ x y : Slot, env = [.fz F, .fz M, x, y, .emp] ∧ x.free = true ∧ y.free = true) ⟨_, _, rfl, rfl, rfl⟩ ?_ ?_
  · rintro k d env hd ⟨x, y, rfl, fx, fy⟩
    obtain ⟨hk, rfl⟩ := rngD_get hd
    rw [Int.zero_add]
    have hk2 : k < ms.length := by omega
    obtain ⟨i, j, l, e, hi, hj, hc⟩ := hm ms[k] (List.getElem_mem hk2)
    have hk' : ms[k]? = some (.tuple [.int i, .int j, .none, l]) := by rw [List.getElem?_eq_getElem hk2, e]
    have hix : idxD (.tuple ms) (.int (k : Nat)) = some (.tuple [.int i, .int j, .none, l]) := by
      show L2.atI ms ((k : Nat) : Int) = _
      rw [DL.atI_nat, hk']
    refine ⟨[.fz F, .fz M, .fz (.int k), y, .emp], put_free (s0 := x) rfl fx, ?_⟩
    refine run_seq (run_set (d := .int (gr c R C i j)) (call3 (d := F) (d' := .int k) (d'' := M) rfl rfl rfl (growth_ok hN hk' hi hj)) (put_free (s0 := y) rfl fy) ?_)
    let E : DL.Env := [.fz F, .fz M, .fz (.int k), .fz (.int (gr c R C i j)), .emp]
    have hmem : f2 idxD (f2 idxD (fVb 0) (fC (.int 1))) (fVb 2) E = some (.tuple [.int i, .int j, .none, l]) := f2_of (d := .tuple ms) (e := .int (k : Nat)) rfl rfl hix
    have t := or_of (and_of (isn_of (f2_of (e := .int 2) hmem (fb := fC (.int 2)) rfl (show idxD _ _ = some .none from rfl))) (cmp_of (g := gtD) (fa := fVb 3) (fb := fC (.int 0)) (d := .int (gr c R C i j)) (e := .int 0) rfl rfl rfl))
      (and_of (isn_of (f2_of (e := .int 3) hmem (fb := fC (.int 3)) rfl (show idxD _ _ = some l from rfl))) (cmp_of (g := ltD) (fa := fVb 3) (fb := fC (.int 0)) (d := .int (gr c R C i j)) (e := .int 0) rfl rfl rfl))
    have hz : ((isN .none && decide (gr c R C i j > 0)) || (isN l && decide (gr c R C i j < 0))) = false := by
      rcases hc with ⟨rfl, h⟩ | ⟨rfl, h⟩
      · rw [h]; rfl
      · have : ¬ gr c R C i j > 0 := by omega
        rw [decide_eq_false this]; rfl
    exact run_if (b := false) (t.trans (congrArg some hz)) (fun h => by cases h) fun _ => run_nop ⟨_, _, rfl, rfl, rfl⟩
  · rintro env ⟨x, y, rfl, fx, fy⟩
    have hlc : fLc (fItems (f2 idxD (fV 0) (fC (.int 2)))) (gN 4) (fCmp neD (f2 idxD (fVb 1) (fVb 4)) (fTup (fCons (fC (.int 0)) (fCons (fC (.int 0)) fNil)))) (fVb 4) [4] [.fz F, .fz M, x, y, .emp] = some (.list []) := by
      rw [lc_of (fun _ => []) (ds := []) rfl rfl (by simp) fun d hd => by cases hd]
      rfl
    exact run_ret (d := .bool true) (fB_of (cmp_of (d := .int (0 : Nat)) (e := .int 0) (call_len hlc) rfl (by rw [eqD_of ok_int ok_int, eqv_int]; rfl))) (.inl ⟨_, rfl⟩)
end G
set_option Elab.async false
set_option linter.all false
set_option maxRecDepth 100000
set_option maxHeartbeats 4000000
namespace G
open PySem L2 DL
theorem seq_ex {f g : DL.Env → Option Out} {env : DL.Env} {Q : Out → Prop} {E : List D → DL.Env} {P : List D → Prop} (h : Run f env fun o => ∃ ms, o = .nx (E ms) ∧ P ms) (k : ∀ ms, P ms → Run g (E ms) Q) : Run (fSeq f g) env Q :=
  run_seq (h.mono fun o ⟨ms, e, p⟩ => by subst e; exact k ms p)
theorem ifapp {t : DL.Env → Option Bool} {e : DL.Env → Option D} {E : List D → DL.Env} {ms : List D} {d : D} {b : Bool} {P : D → Prop} {n : Nat} (ht : t (E ms) = some b) (he : e (E ms) = some d) (h4 : (E ms)[4]? = some (.own (.list ms))) (hs : (E ms).set 4 (.own (.list (ms ++ [d]))) = E (ms ++ [d]))
    (hl : ms.length ≤ n) (hn : n < 1000000) (hm : ∀ m ∈ ms, P m) (hd : b = true → P d) : Run (fIfS t (fMut 4 appD e) fNop) (E ms) fun o => ∃ ms', o = .nx (E ms') ∧ ms'.length ≤ n + 1 ∧ ∀ m ∈ ms', P m := by
  refine run_if ht (fun h => run_app he h4 (by omega) ⟨ms ++ [d], by rw [hs], by rw [List.length_append, List.length_singleton]; omega, fun m hmm => ?_⟩) fun h => run_nop ⟨ms, rfl, by omega, hm⟩
  rcases List.mem_append.mp hmm with hmm | hmm
  · exact hm m hmm
  · have : m = d := by simpa using hmm
    rw [this]; exact hd h
theorem fr2 {fe fg : DL.Env → Option D} {env : DL.Env} {i j : Int} (h : fe env = some (.int i)) (h' : fg env = some (.int j)) (hb : B62 i) (hb' : B62 j) : fRange2 fe fg env = some (rngD i (j - i).toNat) := by
  unfold fRange2; rw [h]; show ((fg env).bind _) = _; rw [h']; show (if B62 i ∧ B62 j then _ else _) = _; rw [if_pos ⟨hb, hb'⟩]
theorem idx_mapL {f : Nat → D} {N i : Nat} (h : i < N) : idxD (.list ((List.range N).map f)) (.int (i : Nat)) = some (f i) := by
  show L2.atI ((List.range N).map f) ((i : Nat) : Int) = _
  rw [DL.atI_nat, List.getElem?_map, List.getElem?_range h]; rfl
theorem eqv_pair (a b x y : Int) : PyData.eqv (.tuple [.int a, .int b]) (.tuple [.int x, .int y]) = decide (a = x ∧ b = y) := by
  show (PyData.eqv (.int a) (.int x) && (PyData.eqv (.int b) (.int y) && true)) = _
  rw [eqv_int, eqv_int]
  by_cases h1 : a = x <;> by_cases h2 : b = y <;> simp [h1, h2]
theorem mem_cast {n : Nat} {S : List Nat} : ((n : Nat) : Int) ∈ S.map (fun i => ((i : Nat) : Int)) ↔ n ∈ S := by
  rw [List.mem_map]
  constructor
  · rintro ⟨a, h, e⟩
    have : a = n := by omega
    rw [← this]; exact h
  · intro h; exact ⟨n, h, rfl⟩
theorem kS_lay (k : Kd) : (PyData.str (kS k)).canLay0 = true := by cases k <;> decide +kernel
theorem ok_br (b : Br) : OkD 1 (brD b) := ok_tup fun d hd => by
  rcases List.mem_cons.mp hd with rfl | hd
  · exact ok_int
  · rcases List.mem_cons.mp hd with rfl | hd
    · exact ok_int
    · rcases List.mem_cons.mp hd with rfl | hd
      · exact ok_str (kS_lay _)
      · cases hd
theorem ok_brs (bs : List Br) : OkD 64 (.list (bs.map brD)) := (ok_list (k := 1) fun d hd => by
  obtain ⟨b, _, rfl⟩ := List.mem_map.mp hd
  exact ok_br b).mono
theorem kS_inj {a b : Kd} (h : (kS a == kS b) = true) : a = b := by
  cases a <;> cases b <;> first | rfl | (exact absurd h (by decide +kernel))
theorem any_br (bs : List Br) (y x : Int) (k : Kd) (h : ((bs.map brD).any fun z => PyData.eqv z (brD (y, x, k))) = true) : (y, x, k) ∈ bs := by
  obtain ⟨z, hz, e⟩ := List.any_eq_true.mp h
  obtain ⟨b, hb, rfl⟩ := List.mem_map.mp hz
  obtain ⟨b1, b2, b3⟩ := b
  have e : (PyData.eqv (.int b1) (.int y) && (PyData.eqv (.int b2) (.int x) && ((kS b3 == kS k) && true))) = true := e
  rw [eqv_int, eqv_int, Bool.and_eq_true, Bool.and_eq_true, Bool.and_eq_true, decide_eq_true_eq, decide_eq_true_eq] at e
  obtain ⟨e1, e2, e3, _⟩ := e
  rw [← e1, ← e2, ← kS_inj e3]; exact hb
structure ClR (bs : List Br) (R C : List Nat) : Prop where
  up : ∀ (y x : Nat) (k : Kd), (((y : Nat) : Int), ((x : Nat) : Int), k) ∈ bs → k ≠ .down → y ∈ R → x ∈ C
  dn : ∀ (y x : Nat) (k : Kd), (((y : Nat) : Int), ((x : Nat) : Int), k) ∈ bs → k ≠ .up → x ∈ C → y ∈ R
theorem gr_of (c : Nat) (R C : List Nat) (i j : Nat) : gr c R C i j = (px c i - px c j) * (((cnt R (j / (c + 1)) : Nat) : Int) - ((cnt R (i / (c + 1)) : Nat) : Int)) + (py c i - py c j) * (((cnt C (i % (c + 1)) : Nat) : Int) - ((cnt C (j % (c + 1)) : Nat) : Int)) := by
  have e : -((cnt R (i / (c + 1)) : Nat) : Int) - -((cnt R (j / (c + 1)) : Nat) : Int) = ((cnt R (j / (c + 1)) : Nat) : Int) - ((cnt R (i / (c + 1)) : Nat) : Int) := by omega
  unfold gr vx vy
  rw [e]
theorem gr_side {c i j : Nat} {R C : List Nat} (h : (px c j - px c i = 1 ∧ py c j - py c i = 0) ∨ (px c j - px c i = 0 ∧ py c j - py c i = 1)) : gr c R C i j = 0 := by
  rw [gr_of]
  unfold px py at *
  rcases h with ⟨h1, h2⟩ | ⟨h1, h2⟩
  · have e : j / (c + 1) = i / (c + 1) := by
      generalize i / (c + 1) = a at h2 ⊢
      generalize j / (c + 1) = b at h2 ⊢
      omega
    rw [e]; simp
  · have e : j % (c + 1) = i % (c + 1) := by
      generalize i % (c + 1) = a at h1 ⊢
      generalize j % (c + 1) = b at h1 ⊢
      omega
    rw [e]; simp
/-- the two ends of a brace that rises to the right -/
theorem gr_rise {c i j : Nat} {R C : List Nat} (h1 : px c j - px c i = 1) (h2 : py c j - py c i = 1) : gr c R C i j = (if i % (c + 1) ∈ C then 0 else 1) - (if i / (c + 1) ∈ R then 0 else 1) := by
  rw [gr_of]
  have e1 : px c i - px c j = -1 := by omega
  have e2 : py c i - py c j = -1 := by omega
  rw [e1, e2]
  unfold px at h1
  unfold py at h2
  have e3 : j % (c + 1) = i % (c + 1) + 1 := by
    generalize i % (c + 1) = a at h1 ⊢
    generalize j % (c + 1) = b at h1 ⊢
    omega
  have e4 : j / (c + 1) = i / (c + 1) + 1 := by
    generalize i / (c + 1) = a at h2 ⊢
    generalize j / (c + 1) = b at h2 ⊢
    omega
  rw [e3, e4, cnt_succ, cnt_succ]
  simp only [mem_cast]
  generalize cnt R (i / (c + 1)) = u
  generalize cnt C (i % (c + 1)) = v
  by_cases a : i % (c + 1) ∈ C <;> by_cases b : i / (c + 1) ∈ R <;> simp [a, b] <;> omega
theorem gr_fall {c i j : Nat} {R C : List Nat} (h1 : px c j - px c i = -1) (h2 : py c j - py c i = 1) : gr c R C i j = (if i / (c + 1) ∈ R then 0 else 1) - (if j % (c + 1) ∈ C then 0 else 1) := by
  rw [gr_of]
  have e1 : px c i - px c j = 1 := by omega
  have e2 : py c i - py c j = -1 := by omega
  rw [e1, e2]
  unfold px at h1
  unfold py at h2
  have e3 : i % (c + 1) = j % (c + 1) + 1 := by
    generalize i % (c + 1) = a at h1 ⊢
    generalize j % (c + 1) = b at h1 ⊢
    omega
  have e4 : j / (c + 1) = i / (c + 1) + 1 := by
    generalize i / (c + 1) = a at h2 ⊢
    generalize j / (c + 1) = b at h2 ⊢
    omega
  rw [e3, e4, cnt_succ, cnt_succ]
  simp only [mem_cast]
  generalize cnt R (i / (c + 1)) = u
  generalize cnt C (j % (c + 1)) = v
  by_cases a : j % (c + 1) ∈ C <;> by_cases b : i / (c + 1) ∈ R <;> simp [a, b] <;> omega
end G
set_option Elab.async false
set_option linter.all false
set_option maxRecDepth 100000
set_option maxHeartbeats 4000000
namespace G
open PySem L2 DL
theorem low_brace {e : DL.Env} {y m : Int} {s : Str} {k : Kd} (hk : kS k = s) (h8 : fVb 8 e = some (.tuple [.int y, .int m])) : f2 addD (fVb 8) (fTup (fCons (fC (.str s)) fNil)) e = some (brD (y, m, k)) := by
  refine f2_of (d := .tuple [.int y, .int m]) (e := .tuple [.str s]) h8 (tup_of rfl (by simp)) ?_
  show (if 2 + 1 ≤ sizeLine then some (PyData.tuple [.int y, .int m, .str s]) else none) = _
  rw [if_pos (by have := sizeLine_big; omega), ← hk]; rfl
theorem pulls_ok {r c : Nat} {bs : List Br} {R C : List Nat} (hr : r ≤ 3) (hc : c ≤ 3) (hC : ClR bs R C) :
    ∃ ms, f__law_pulls [.int r, .int c, .list (bs.map brD)] = some (frD c ((r + 1) * (c + 1)) ms) ∧ ms.length ≤ 100000 ∧ ∀ m ∈ ms, MemOk c ((r + 1) * (c + 1)) R C m := by
  have := runF_inv (n := 3) (N := 10) (body := e__law_pulls) (ds := [.int r, .int c, .list (bs.map brD)]) (Q := fun d => ∃ ms, d = frD c ((r + 1) * (c + 1)) ms ∧ ms.length ≤ 100000 ∧ ∀ m ∈ ms, MemOk c ((r + 1) * (c + 1)) R C m) rfl ?_
  · obtain ⟨d, h1, ms, rfl, h2, h3⟩ := this
    exact ⟨ms, h1, h2, h3⟩
  have hN : (r + 1) * (c + 1) ≤ 16 := Nat.mul_le_mul (by omega : r + 1 ≤ 4) (by omega : c + 1 ≤ 4)
  have hNi : (((r : Nat) : Int) + 1) * (((c : Nat) : Int) + 1) = (((r + 1) * (c + 1) : Nat) : Int) := by push_cast; rfl
  generalize hNN : (r + 1) * (c + 1) = N at hN hNi ⊢
  let pts : List D := (List.range N).map (ptD c)
  let B : D := .list (bs.map brD)
  have hpts : fLc (fRange1 (f2 mulD (f2 addD (fVb 0) (fC (.int 1))) (f2 addD (fVb 1) (fC (.int 1))))) (gN 9) fYes (fTup (fCons (f2 modD (fCall intD (fCons (fVb 9) fNil)) (f2 addD (fVb 1) (fC (.int 1)))) (fCons (f2 fdivD (fCall intD (fCons (fVb 9) fNil)) (f2 addD (fVb 1) (fC (.int 1)))) fNil))) [9] [.fz (.int r), .fz (.int c), .fz B, .emp, .emp, .emp, .emp, .emp, .emp, .emp] = some (.list pts) := by
    have hm : f2 mulD (f2 addD (fVb 0) (fC (.int 1))) (f2 addD (fVb 1) (fC (.int 1))) [.fz (.int r), .fz (.int c), .fz B, .emp, .emp, .emp, .emp, .emp, .emp, .emp] = some (.int (N : Nat)) := by
      rw [← hNi]
      exact f2_of (d := .int ((r : Int) + 1)) (e := .int ((c : Int) + 1)) rfl rfl (mulD_l (by omega) (by omega))
    refine lc_map (ptD c) rfl ((fr1 hm (B62_small (by omega) (by omega))).trans (by rw [show ((N : Nat) : Int).toNat = N by omega])) (by omega) fun k hk => ?_
    rw [Int.zero_add]
    refine one_of rfl rfl (tup_of (cons_of (f2_of (d := .int k) (e := .int ((c : Int) + 1)) rfl rfl (modD_p (by omega))) (cons_of (f2_of (d := .int k) (e := .int ((c : Int) + 1)) rfl rfl (fdivD_p (by omega) (by omega))) rfl)) (by simp)) |>.trans ?_
    show some [PyData.tuple [.int ((k : Int) % ((c : Int) + 1)), .int ((k : Int) / ((c : Int) + 1))]] = some [prD (px c k, py c k)]
    unfold px py prD
    rfl
  refine run_seq (run_set hpts rfl (run_seq (run_setF (d := .list []) rfl rfl (run_seq ?_))))
  have hlen : ∀ a b x y, fCall lenD (fCons (fVb 3) fNil) [.fz (.int r), .fz (.int c), .fz B, .fz (.list pts), a, b, x, y, .emp, .emp] = some (.int (N : Nat)) := fun a b x y => by
    have := call_len (f := fVb 3) (env := [.fz (.int r), .fz (.int c), .fz B, .fz (.list pts), a, b, x, y, .emp, .emp]) (ds := pts) rfl
    rwa [show pts.length = N by simp [pts]] at this
  have hlen' : ∀ a b x y z w, fCall lenD (fCons (fVb 3) fNil) [.fz (.int r), .fz (.int c), .fz B, .fz (.list pts), a, b, x, y, z, w] = some (.int (N : Nat)) := fun a b x y z w => by
    have := call_len (f := fVb 3) (env := [.fz (.int r), .fz (.int c), .fz B, .fz (.list pts), a, b, x, y, z, w]) (ds := pts) rfl
    rwa [show pts.length = N by simp [pts]] at this
  refine run_for (ds := rngD 0 ((N : Nat) : Int).toNat) (fr1 (hlen _ _ _ _) (B62_small (by omega) (by omega))) (fun i env => ∃ (ms : List D) (x5 x6 x7 x8 : Slot), env = [.fz (.int r), .fz (.int c), .fz B, .fz (.list pts), .own (.list ms), x5, x6, x7, x8, .emp] ∧ x5.free = true ∧ x6.free = true ∧ x7.free = true ∧ x8.free = true ∧ ms.length ≤ 100 * i ∧ ∀ m ∈ ms, MemOk c N R C m)
    ⟨[], _, _, _, _, rfl, rfl, rfl, rfl, rfl, by simp, by simp⟩ ?_ ?_
  · rintro i d env hd ⟨ms, x5, x6, x7, x8, rfl, f5, f6, f7, f8, hl, hm⟩
    obtain ⟨hi, rfl⟩ := rngD_get hd
    rw [Int.zero_add]
    have hiN : i < N := by omega
    refine ⟨_, put_free (s0 := x5) rfl f5, ?_⟩
    refine run_for (ds := rngD ((i : Int) + 1) (((N : Nat) : Int) - ((i : Int) + 1)).toNat) (fr2 (i := (i : Int) + 1) rfl (hlen' _ _ _ _ _ _) (B62_small (by omega) (by omega)) (B62_small (by omega) (by omega))) (fun t env => ∃ (ms : List D) (x6 x7 x8 : Slot), env = [.fz (.int r), .fz (.int c), .fz B, .fz (.list pts), .own (.list ms), .fz (.int i), x6, x7, x8, .emp] ∧ x6.free = true ∧ x7.free = true ∧ x8.free = true ∧ ms.length ≤ 100 * i + 3 * t ∧ ∀ m ∈ ms, MemOk c N R C m)
      ⟨ms, _, _, _, rfl, f6, f7, f8, by omega, hm⟩ ?_ ?_
    · rintro t d env hd ⟨ms, x6, x7, x8, rfl, f6, f7, f8, hl, hm⟩
      obtain ⟨ht, rfl⟩ := rngD_get hd
      obtain ⟨j, hj⟩ : ∃ j : Nat, ((i : Int) + 1) + (t : Nat) = (j : Nat) := ⟨i + 1 + t, by omega⟩
      rw [hj]
      have hjN : j < N := by omega
      let sx := px c j - px c i
      let sy := py c j - py c i
      let mn : Int := if px c j < px c i then px c j else px c i
      refine ⟨[.fz (.int r), .fz (.int c), .fz B, .fz (.list pts), .own (.list ms), .fz (.int i), .fz (.int j), x7, x8, .emp], put_free (s0 := x6) rfl f6, ?_⟩
      refine run_seq (run_set (d := prD (sx, sy)) (env' := [.fz (.int r), .fz (.int c), .fz B, .fz (.list pts), .own (.list ms), .fz (.int i), .fz (.int j), .fz (prD (sx, sy)), x8, .emp]) ?_ (put_free (s0 := x7) rfl f7) ?_)
      · exact tup_of (cons_of (f2_of (d := .int (px c j)) (e := .int (px c i)) (f2_of (d := ptD c j) (f2_of (d := .list pts) (e := .int (j : Nat)) rfl rfl (idx_mapL hjN)) rfl rfl) (f2_of (d := ptD c i) (f2_of (d := .list pts) (e := .int (i : Nat)) rfl rfl (idx_mapL hiN)) rfl rfl) rfl)
          (cons_of (f2_of (d := .int (py c j)) (e := .int (py c i)) (f2_of (d := ptD c j) (f2_of (d := .list pts) (e := .int (j : Nat)) rfl rfl (idx_mapL hjN)) rfl rfl) (f2_of (d := ptD c i) (f2_of (d := .list pts) (e := .int (i : Nat)) rfl rfl (idx_mapL hiN)) rfl rfl) rfl) rfl)) (by simp)
      let E7 : List D → DL.Env := fun ms => [.fz (.int r), .fz (.int c), .fz B, .fz (.list pts), .own (.list ms), .fz (.int i), .fz (.int j), .fz (prD (sx, sy)), x8, .emp]
      have ok2 : ∀ a b : Int, OkD 64 (.tuple [.int a, .int b]) := fun a b => (ok_pr (k := 0) a b).mono
      have okl : OkD 64 (.list [.tuple [.int 1, .int 0], .tuple [.int 0, .int 1]]) := (ok_list (k := 1) fun d hd => by
        rcases List.mem_cons.mp hd with rfl | hd
        · exact ok_pr (k := 0) _ _
        · rcases List.mem_cons.mp hd with rfl | hd
          · exact ok_pr (k := 0) _ _
          · cases hd).mono
      refine seq_ex (E := E7) (ifapp (E := E7) (P := MemOk c N R C) (n := 100 * i + 3 * t) (d := .tuple [.int i, .int j, .none, .none])
        (cmp_of (d := prD (sx, sy)) (e := .list [.tuple [.int 1, .int 0], .tuple [.int 0, .int 1]]) rfl (lst_of (cons_of (tup_of rfl (by simp)) (cons_of (tup_of rfl (by simp)) rfl)) (by simp)) (inD_of (ok2 _ _) okl)) (tup_of rfl (by simp)) rfl rfl hl (by omega) hm fun hb => ?_) ?_
      · refine ⟨i, j, .none, rfl, hiN, hjN, .inl ⟨rfl, gr_side ?_⟩⟩
        have hb : ((PyData.eqv (.tuple [.int 1, .int 0]) (.tuple [.int sx, .int sy])) || ((PyData.eqv (.tuple [.int 0, .int 1]) (.tuple [.int sx, .int sy])) || false)) = true := hb
        rw [eqv_pair, eqv_pair, Bool.or_false, Bool.or_eq_true, decide_eq_true_eq, decide_eq_true_eq] at hb
        rcases hb with ⟨h1, h2⟩ | ⟨h1, h2⟩
        · exact .inl ⟨h1.symm, h2.symm⟩
        · exact .inr ⟨h1.symm, h2.symm⟩
      rintro ms1 ⟨hl1, hm1⟩
      let E8 : List D → DL.Env := fun ms => [.fz (.int r), .fz (.int c), .fz B, .fz (.list pts), .own (.list ms), .fz (.int i), .fz (.int j), .fz (prD (sx, sy)), .fz (.tuple [.int (py c i), .int mn]), .emp]
      refine run_seq (run_set (d := .tuple [.int (py c i), .int mn]) (env' := E8 ms1) ?_ (put_free (s0 := x8) rfl f8) ?_)
      · refine tup_of (cons_of (f2_of (d := ptD c i) (f2_of (d := .list pts) (e := .int (i : Nat)) rfl rfl (idx_mapL hiN)) rfl rfl) (cons_of (call1 (d := .list [.int (px c i), .int (px c j)]) (lst_of (cons_of (f2_of (d := ptD c i) (f2_of (d := .list pts) (e := .int (i : Nat)) rfl rfl (idx_mapL hiN)) rfl rfl) (cons_of (f2_of (d := ptD c j) (f2_of (d := .list pts) (e := .int (j : Nat)) rfl rfl (idx_mapL hjN)) rfl rfl) rfl)) (by simp)) ?_) rfl)) (by simp)
        rfl
      have s11 : ∀ ms, fCmp eqD (fVb 7) (fTup (fCons (fC (.int 1)) (fCons (fC (.int 1)) fNil))) (E8 ms) = some (decide (sx = 1 ∧ sy = 1)) := fun ms => cmp_of (d := prD (sx, sy)) (e := .tuple [.int 1, .int 1]) rfl (tup_of rfl (by simp)) (by
        show eqD (.tuple [.int sx, .int sy]) _ = _
        rw [eqD_of (ok2 _ _) (ok2 _ _), eqv_pair])
      have sm1 : ∀ ms, fCmp eqD (fVb 7) (fTup (fCons (f1 negD (fC (.int 1))) (fCons (fC (.int 1)) fNil))) (E8 ms) = some (decide (sx = -1 ∧ sy = 1)) := fun ms => cmp_of (d := prD (sx, sy)) (e := .tuple [.int (-1), .int 1]) rfl (tup_of rfl (by simp)) (by
        show eqD (.tuple [.int sx, .int sy]) _ = _
        rw [eqD_of (ok2 _ _) (ok2 _ _), eqv_pair])
      have inb : ∀ ms (s : Str) (k : Kd), kS k = s → fCmp inD (f2 addD (fVb 8) (fTup (fCons (fC (.str s)) fNil))) (fVb 2) (E8 ms) = some ((bs.map brD).any fun z => PyData.eqv z (brD (py c i, mn, k))) := fun ms s k hk => cmp_of (d := brD (py c i, mn, k)) (e := B) (low_brace hk rfl) rfl (inD_of ((ok_br _).mono) (ok_brs bs))
      have rise : sx = 1 → mn = px c i := fun h => by simp only [mn]; rw [if_neg (by simp only [sx] at h; omega)]
      have fall : sx = -1 → mn = px c j := fun h => by simp only [mn]; rw [if_pos (by simp only [sx] at h; omega)]
      refine seq_ex (E := E8) (ifapp (E := E8) (P := MemOk c N R C) (n := 100 * i + 3 * t + 1) (d := .tuple [.int i, .int j, .none, .none]) (and_of (s11 _) (inb _ "bar" .bar rfl)) (tup_of rfl (by simp)) rfl rfl hl1 (by omega) hm1 fun hb => ?_) ?_
      · rw [Bool.and_eq_true, decide_eq_true_eq] at hb
        obtain ⟨⟨h1, h2⟩, h3⟩ := hb
        have hin := any_br bs _ _ _ h3
        rw [rise h1] at hin
        have u := hC.up (i / (c + 1)) (i % (c + 1)) .bar hin (by decide)
        have v := hC.dn (i / (c + 1)) (i % (c + 1)) .bar hin (by decide)
        refine ⟨i, j, .none, rfl, hiN, hjN, .inl ⟨rfl, ?_⟩⟩
        rw [gr_rise h1 h2]
        by_cases a : i % (c + 1) ∈ C
        · rw [if_pos a, if_pos (v a)]; rfl
        · rw [if_neg a, if_neg fun z => a (u z)]; rfl
      rintro ms2 ⟨hl2, hm2⟩
      refine (ifapp (E := E8) (P := MemOk c N R C) (n := 100 * i + 3 * t + 2) (d := .tuple [.int i, .int j, .none, .int 0]) (or_of (and_of (s11 _) (inb _ "up" .up rfl)) (and_of (sm1 _) (inb _ "down" .down rfl))) (tup_of rfl (by simp)) rfl rfl hl2 (by omega) hm2 fun hb => ?_).mono ?_
      · rw [Bool.or_eq_true, Bool.and_eq_true, Bool.and_eq_true, decide_eq_true_eq, decide_eq_true_eq] at hb
        refine ⟨i, j, .int 0, rfl, hiN, hjN, .inr ⟨rfl, ?_⟩⟩
        rcases hb with ⟨⟨h1, h2⟩, h3⟩ | ⟨⟨h1, h2⟩, h3⟩
        · have hin := any_br bs _ _ _ h3
          rw [rise h1] at hin
          have u := hC.up (i / (c + 1)) (i % (c + 1)) .up hin (by decide)
          rw [gr_rise h1 h2]
          by_cases b : i / (c + 1) ∈ R
          · rw [if_pos (u b), if_pos b]; decide
          · rw [if_neg b]; split <;> decide
        · have hin := any_br bs _ _ _ h3
          rw [fall h1] at hin
          have v := hC.dn (i / (c + 1)) (j % (c + 1)) .down hin (by decide)
          rw [gr_fall h1 h2]
          by_cases b : j % (c + 1) ∈ C
          · rw [if_pos b, if_pos (v b)]; decide
          · rw [if_neg b]; split <;> decide
      · rintro o ⟨ms3, rfl, hl3, hm3⟩
        exact ⟨ms3, _, _, _, rfl, rfl, rfl, rfl, by omega, hm3⟩
    · rintro env ⟨ms, x6, x7, x8, rfl, f6, f7, f8, hl, hm⟩
      rw [rngD_len] at hl
      exact ⟨ms, _, _, _, _, rfl, rfl, f6, f7, f8, by omega, hm⟩
  · rintro env ⟨ms, x5, x6, x7, x8, rfl, f5, f6, f7, f8, hl, hm⟩
    rw [rngD_len] at hl
    refine run_frz (run_ret (d := frD c N ms) (tup_of (cons_of (call1 (d := .list pts) rfl rfl) (cons_of (call1 (d := .list ms) rfl rfl) (cons_of (tup_of (ds := []) rfl (by simp)) rfl))) (by simp)) (.inl ⟨_, _, rfl, ms, rfl, by omega, hm⟩))
end G
set_option Elab.async false
set_option linter.all false
set_option maxRecDepth 100000
set_option maxHeartbeats 4000000
namespace G
open PySem L2 DL
theorem part_mem {r c : Nat} {F : List Int} {v : Nat} : v ∈ (List.range r).filter (fun i => decide (((i : Nat) : Int) ∈ F)) ↔ v < r ∧ ((v : Nat) : Int) ∈ F := by
  rw [List.mem_filter, List.mem_range, decide_eq_true_eq]
theorem part_memC {r c : Nat} {F : List Int} {v : Nat} : v ∈ (List.range c).filter (fun j => decide (((r : Nat) : Int) + ((j : Nat) : Int) ∈ F)) ↔ v < c ∧ ((r : Nat) : Int) + ((v : Nat) : Int) ∈ F := by
  rw [List.mem_filter, List.mem_range, decide_eq_true_eq]
theorem plain (ns : List Int) (_hl : ns.length ≤ 63) : f_law [scrD ns] = some (.bool true) := by
  obtain ⟨r, c, hr1, hr, hc1, hc, hsz⟩ := size_ok ns
  obtain ⟨bs, hbs, hB, hb⟩ := braces_ok ns r c hr hc
  obtain ⟨d, hpd, hq⟩ := parted_ok hB hb hr hc
  refine runF_of rfl (run_seq (run_asg (d := .tuple [.int r, .int c]) (env' := [.fz (scrD ns), .fz (.int r), .fz (.int c), .emp, .emp, .emp]) (call1 (d := scrD ns) rfl hsz) rfl ?_))
  refine run_seq (run_set (d := .list (bs.map brD)) (env' := [.fz (scrD ns), .fz (.int r), .fz (.int c), .fz (.list (bs.map brD)), .emp, .emp]) (call3 (d := scrD ns) (d' := .int r) (d'' := .int c) rfl rfl rfl hbs) rfl ?_)
  rcases hq with ⟨h1, rfl⟩ | ⟨h1, R, C, rfl, hP⟩
  · refine run_seq (run_set (d := .none) (call3 (d := .int r) (d' := .int c) (d'' := .list (bs.map brD)) rfl rfl rfl (motion_none hpd)) rfl ?_)
    exact run_seq (run_if (b := true) (tb_of ((call3 (d := .int r) (d' := .int c) (d'' := .list (bs.map brD)) rfl rfl rfl (lawstiff_ok hB hb hr hc)).trans (by rw [h1]))) (fun _ => run_ret (d := .bool true) rfl (.inl ⟨_, rfl⟩)) fun h => by cases h)
  obtain ⟨s, F, hs, hF, hFl, hR, hCc⟩ := hP.ex
  generalize hNN : (r + 1) * (c + 1) = N
  have hN : N ≤ 16 := by rw [← hNN]; exact Nat.mul_le_mul (by omega : r + 1 ≤ 4) (by omega : c + 1 ≤ 4)
  let M : D := .tuple ((List.range N).map (mvk c R C))
  have hmot := motion_some hr hc hpd
  rw [hNN] at hmot
  refine run_seq (run_set (d := M) (env' := [.fz (scrD ns), .fz (.int r), .fz (.int c), .fz (.list (bs.map brD)), .fz M, .emp]) (call3 (d := .int r) (d' := .int c) (d'' := .list (bs.map brD)) rfl rfl rfl hmot) rfl ?_)
  refine run_seq (run_if (b := false) (tb_of ((call3 (d := .int r) (d' := .int c) (d'' := .list (bs.map brD)) rfl rfl rfl (lawstiff_ok hB hb hr hc)).trans (by rw [h1]))) (fun h => by cases h) fun _ => run_nop ?_)
  have mR : ∀ v : Nat, v ∈ R ↔ v < r ∧ ((v : Nat) : Int) ∈ F := fun v => by rw [hR]; exact part_mem (c := c)
  have mC : ∀ v : Nat, v ∈ C ↔ v < c ∧ ((r : Nat) : Int) + ((v : Nat) : Int) ∈ F := fun v => by rw [hCc]; exact part_memC
  have hCl : ClR bs R C := ⟨fun y x k hin hk hy => by
      obtain ⟨_, _, _, hx⟩ := hB.at1 _ hin
      refine (mC x).mpr ⟨by have : ((x : Nat) : Int) < c := hx; omega, hF.cl (((y : Nat) : Int), (r : Int) + ((x : Nat) : Int)) (List.mem_flatMap.mpr ⟨_, hin, ?_⟩) ((mR y).mp hy).2⟩
      unfold edg
      rw [if_neg (show ¬ k = .down from hk)]
      simp, fun y x k hin hk hx => by
      obtain ⟨_, hy, _, _⟩ := hB.at1 _ hin
      refine (mR y).mpr ⟨by have : ((y : Nat) : Int) < r := hy; omega, hF.cl ((r : Int) + ((x : Nat) : Int), ((y : Nat) : Int)) (List.mem_flatMap.mpr ⟨_, hin, ?_⟩) ((mC x).mp hx).2⟩
      unfold edg
      rw [if_neg (show ¬ k = .up from hk)]
      simp⟩
  obtain ⟨ms, hpl, hml, hmm⟩ := pulls_ok hr hc hCl
  rw [hNN] at hpl hmm
  let E : DL.Env := [.fz (scrD ns), .fz (.int r), .fz (.int c), .fz (.list (bs.map brD)), .fz M, .fz (frD c N ms)]
  refine run_seq (run_set (d := frD c N ms) (env' := E) (call3 (d := .int r) (d' := .int c) (d'' := .list (bs.map brD)) rfl rfl rfl hpl) rfl ?_)
  -- places of the points
  have kb : ∀ k, k < N → k / (c + 1) ≤ r ∧ k % (c + 1) ≤ c := fun k hk => by
    refine ⟨?_, by have := Nat.mod_lt k (show c + 1 > 0 by omega); omega⟩
    have : k / (c + 1) < r + 1 := Nat.div_lt_of_lt_mul (by rw [Nat.mul_comm, hNN]; exact hk)
    omega
  have kat : ∀ y x, y ≤ r → x ≤ c → y * (c + 1) + x < N ∧ (y * (c + 1) + x) / (c + 1) = y ∧ (y * (c + 1) + x) % (c + 1) = x := fun y x hy hx => by
    refine ⟨?_, (kdiv (by omega)).1, (kdiv (by omega)).2⟩
    rw [← hNN]
    have : y * (c + 1) ≤ r * (c + 1) := Nat.mul_le_mul_right _ hy
    have e : (r + 1) * (c + 1) = r * (c + 1) + (c + 1) := Nat.succ_mul _ _
    omega
  have flb : ∀ v ∈ flI c R C N, -3 ≤ v ∧ v ≤ 3 := fun v hv => by
    obtain ⟨k, hk, hv⟩ := List.mem_flatMap.mp hv
    obtain ⟨b1, b2⟩ := kb k (List.mem_range.mp hk)
    have c1 := cnt_le R (k / (c + 1))
    have c2 := cnt_le C (k % (c + 1))
    rcases List.mem_cons.mp hv with rfl | hv
    · generalize k / (c + 1) = a at b1 c1 ⊢
      omega
    · have : v = ((cnt C (k % (c + 1)) : Nat) : Int) := by simpa using hv
      subst this
      generalize k % (c + 1) = a at b2 c2 ⊢
      omega
  have flo : (∀ v ∈ flI c R C N, v = 0) ∨ ∃ v ∈ flI c R C N, v = 1 ∨ v = -1 := by
    by_cases hz : ∀ v ∈ flI c R C N, v = 0
    · exact .inl hz
    · right
      obtain ⟨v, hv, hv0⟩ : ∃ v, v ∈ flI c R C N ∧ v ≠ 0 := Classical.byContradiction fun z => hz fun v hv => Classical.byContradiction fun h => z ⟨v, hv, h⟩
      obtain ⟨k, hk, hv⟩ := List.mem_flatMap.mp hv
      obtain ⟨b1, b2⟩ := kb k (List.mem_range.mp hk)
      rcases List.mem_cons.mp hv with rfl | hv
      · obtain ⟨m, hm, e⟩ := cnt_one R (k / (c + 1)) (by omega)
        obtain ⟨a1, a2, a3⟩ := kat m 0 (by omega) (by omega)
        refine ⟨-1, List.mem_flatMap.mpr ⟨_, List.mem_range.mpr a1, ?_⟩, .inr rfl⟩
        rw [a2, e]; simp
      · have e0 : v = ((cnt C (k % (c + 1)) : Nat) : Int) := by simpa using hv
        obtain ⟨m, hm, e⟩ := cnt_one C (k % (c + 1)) (by omega)
        obtain ⟨a1, a2, a3⟩ := kat 0 m (by omega) (by omega)
        refine ⟨1, List.mem_flatMap.mpr ⟨_, List.mem_range.mpr a1, ?_⟩, .inl rfl⟩
        rw [a3, e]; simp
  have hlN : fCall lenD (fCons (f2 idxD (fVb 5) (fC (.int 0))) fNil) E = some (.int (N : Nat)) := by
    have := call_lenT (f := f2 idxD (fVb 5) (fC (.int 0))) (env := E) (ds := (List.range N).map (ptD c)) (f2_of (d := frD c N ms) (e := .int 0) rfl rfl rfl)
    rwa [List.length_map, List.length_range] at this
  have t := or_of (notb_of (tb_of (call2 (f := fVb 4) (env := E) (d := M) rfl hlN (ismotion_ok c R C N)))) (notb_of (tb_of (call1 (f := fCall f__law_flat (fCons (fVb 4) fNil)) (d := .list ((flI c R C N).map .int)) (call1 (d := M) rfl (flat_ok c R C N (by omega))) (lowest_ok _ flb flo))))
  refine run_seq (run_if (b := false) t (fun h => by cases h) fun _ => run_nop ?_)
  have hal : fCall f__law_allowed (fCons (fV 5) (fCons (fV 4) fNil)) E = some (.bool true) := call2 (d := frD c N ms) (d' := M) rfl rfl (allowed_ok (by omega) hml hmm)
  -- not rigid
  have vert : ∀ v : Nat, v < r + c → ∃ i j, j < i ∧ i < N ∧ (px c i - px c j) * (vy c C i - vy c C j) - (py c i - py c j) * (vx c R i - vx c R j) = (if ((v : Nat) : Int) ∈ F then 0 else 1) ∧ (px c i - px c j) * (px c i - px c j) + (py c i - py c j) * (py c i - py c j) = 1 := fun v hv => by
    by_cases hvr : v < r
    · obtain ⟨a1, a2, a3⟩ := kat (v + 1) 0 (by omega) (by omega)
      obtain ⟨b1, b2, b3⟩ := kat v 0 (by omega) (by omega)
      have hlt : v * (c + 1) < (v + 1) * (c + 1) := Nat.mul_lt_mul_of_pos_right (by omega) (by omega)
      refine ⟨(v + 1) * (c + 1) + 0, v * (c + 1) + 0, by omega, a1, ?_, ?_⟩
      · unfold px py vx vy
        rw [a2, a3, b2, b3, cnt_succ]
        simp only [mem_cast, mR]
        by_cases h : ((v : Nat) : Int) ∈ F
        · simp [h, hvr]
        · simp [h]; omega
      · unfold px py
        rw [a2, a3, b2, b3]
        have : (((v + 1 : Nat) : Int) - ((v : Nat) : Int)) = 1 := by omega
        rw [this]; simp
    · obtain ⟨x, hx⟩ : ∃ x, v = r + x := ⟨v - r, by omega⟩
      obtain ⟨a1, a2, a3⟩ := kat 0 (x + 1) (by omega) (by omega)
      obtain ⟨b1, b2, b3⟩ := kat 0 x (by omega) (by omega)
      have hxc : x < c := by omega
      refine ⟨0 * (c + 1) + (x + 1), 0 * (c + 1) + x, by omega, a1, ?_, ?_⟩
      · unfold px py vx vy
        rw [a2, a3, b2, b3, cnt_succ]
        simp only [mem_cast, mC]
        have e : ((v : Nat) : Int) = (r : Int) + ((x : Nat) : Int) := by omega
        rw [e]
        by_cases h : (r : Int) + ((x : Nat) : Int) ∈ F
        · simp [h, hxc]
        · simp [h]; omega
      · unfold px py
        rw [a2, a3, b2, b3]
        have : (((x + 1 : Nat) : Int) - ((x : Nat) : Int)) = 1 := by omega
        rw [this]; simp
  obtain ⟨t0, ht0, htF⟩ : ∃ t : Nat, t < r + c ∧ ((t : Nat) : Int) ∉ F := Classical.byContradiction fun z => by
    have hsub : ((List.range (r + c)).map fun i => ((i : Nat) : Int)) ⊆ F := fun v hv => by
      obtain ⟨i, hi, rfl⟩ := List.mem_map.mp hv
      exact Classical.byContradiction fun h => z ⟨i, List.mem_range.mp hi, h⟩
    have hnd : ((List.range (r + c)).map fun i => ((i : Nat) : Int)).Nodup := List.Pairwise.map _ (R := (· < ·)) (fun a b h e => by omega) List.pairwise_lt_range
    have := hnd.length_le_of_subset hsub
    rw [List.length_map, List.length_range] at this
    omega
  obtain ⟨i1, j1, q1, q2, q3, q4⟩ := vert s hs
  obtain ⟨i2, j2, w1, w2, w3, w4⟩ := vert t0 ht0
  have hrig : f__law_rigid [.tuple ((List.range N).map (ptD c)), M] = some (.bool false) := by
    refine rigid_no (N := N) (px := px c) (py := py c) (vx := vx c R) (vy := vy c C) (by omega) (fun k hk => ?_) (fun k hk => ?_) (fun k hk => ?_) (fun k hk => ?_) q1 q2 w1 w2 ?_
    · have := (kb k hk).2
      unfold px
      generalize k % (c + 1) = a at this ⊢
      omega
    · have := (kb k hk).1
      unfold py
      generalize k / (c + 1) = a at this ⊢
      omega
    · have h1 := (kb k hk).1
      have h2 := cnt_le R (k / (c + 1))
      unfold vx
      generalize k / (c + 1) = a at h1 h2 ⊢
      omega
    · have h1 := (kb k hk).2
      have h2 := cnt_le C (k % (c + 1))
      unfold vy
      generalize k % (c + 1) = a at h1 h2 ⊢
      omega
    · rw [q3, q4, w3, w4, if_pos (hF.sub _ (by simp)), if_neg htF]
      decide
  have hrg : fCall f__law_rigid (fCons (f2 idxD (fVb 5) (fC (.int 0))) (fCons (fVb 4) fNil)) E = some (.bool false) := call2 (d := .tuple ((List.range N).map (ptD c))) (d' := M) (f2_of (d := frD c N ms) (e := .int 0) rfl rfl rfl) rfl hrig
  exact run_ret (d := .bool true) (dand_of hal (dnot_of hrg)) (.inl ⟨_, rfl⟩)
end G
set_option Elab.async false
set_option linter.all false
set_option maxRecDepth 100000
set_option maxHeartbeats 4000000
namespace G
open PySem L2 DL
theorem all_mk {l : PySem.W.OpenLaw} {w : World} {K : PySem.W.Frag} {h : Heap} {mg : Str → Option Value} {fa : Addr} (X : K.In h) (G : h.Ns mainGlobals mg) (hfa : mg "law" = some (.ref fa))
    {p0 : Addr} {od0 an0 : Option Addr} {sl0 : Array (Option Value)} {oc0 kV0 dc0 pm0 cd0 ct0 : Value}
    (a0 : PySem.W.nsIn K mainGlobals "ways" = some (some (.ref p0))) (l0 : K.lookup p0 = some ⟨oc0, od0, .func (PySem.W.fnOf "ways" "ways" (defArgs s_ways) (defBody s_ways) (defScope s_ways) .none kV0 dc0 pm0 an0 cd0 ct0), sl0⟩) (c0 : PySem.W.codeIn K cd0 "ways" = true) (k0 : PySem.W.keepIn K (.ref p0) = true)
    {p1 : Addr} {od1 an1 : Option Addr} {sl1 : Array (Option Value)} {oc1 kV1 dc1 pm1 cd1 ct1 : Value}
    (a1 : PySem.W.nsIn K mainGlobals "come_to" = some (some (.ref p1))) (l1 : K.lookup p1 = some ⟨oc1, od1, .func (PySem.W.fnOf "come_to" "come_to" (defArgs s_come_to) (defBody s_come_to) (defScope s_come_to) .none kV1 dc1 pm1 an1 cd1 ct1), sl1⟩) (c1 : PySem.W.codeIn K cd1 "come_to" = true) (k1 : PySem.W.keepIn K (.ref p1) = true)
    {p2 : Addr} {od2 an2 : Option Addr} {sl2 : Array (Option Value)} {oc2 kV2 dc2 pm2 cd2 ct2 : Value}
    (a2 : PySem.W.nsIn K mainGlobals "parted" = some (some (.ref p2))) (l2 : K.lookup p2 = some ⟨oc2, od2, .func (PySem.W.fnOf "parted" "parted" (defArgs s_parted) (defBody s_parted) (defScope s_parted) .none kV2 dc2 pm2 an2 cd2 ct2), sl2⟩) (c2 : PySem.W.codeIn K cd2 "parted" = true) (k2 : PySem.W.keepIn K (.ref p2) = true)
    {p3 : Addr} {od3 an3 : Option Addr} {sl3 : Array (Option Value)} {oc3 kV3 dc3 pm3 cd3 ct3 : Value}
    (a3 : PySem.W.nsIn K mainGlobals "grid_motion" = some (some (.ref p3))) (l3 : K.lookup p3 = some ⟨oc3, od3, .func (PySem.W.fnOf "grid_motion" "grid_motion" (defArgs s_grid_motion) (defBody s_grid_motion) (defScope s_grid_motion) .none kV3 dc3 pm3 an3 cd3 ct3), sl3⟩) (c3 : PySem.W.codeIn K cd3 "grid_motion" = true) (k3 : PySem.W.keepIn K (.ref p3) = true)
    {p4 : Addr} {od4 an4 : Option Addr} {sl4 : Array (Option Value)} {oc4 kV4 dc4 pm4 cd4 ct4 : Value}
    (a4 : PySem.W.nsIn K mainGlobals "_law_cell" = some (some (.ref p4))) (l4 : K.lookup p4 = some ⟨oc4, od4, .func (PySem.W.fnOf "_law_cell" "_law_cell" (defArgs s__law_cell) (defBody s__law_cell) (defScope s__law_cell) .none kV4 dc4 pm4 an4 cd4 ct4), sl4⟩) (c4 : PySem.W.codeIn K cd4 "_law_cell" = true) (k4 : PySem.W.keepIn K (.ref p4) = true)
    {p5 : Addr} {od5 an5 : Option Addr} {sl5 : Array (Option Value)} {oc5 kV5 dc5 pm5 cd5 ct5 : Value}
    (a5 : PySem.W.nsIn K mainGlobals "_law_parts" = some (some (.ref p5))) (l5 : K.lookup p5 = some ⟨oc5, od5, .func (PySem.W.fnOf "_law_parts" "_law_parts" (defArgs s__law_parts) (defBody s__law_parts) (defScope s__law_parts) .none kV5 dc5 pm5 an5 cd5 ct5), sl5⟩) (c5 : PySem.W.codeIn K cd5 "_law_parts" = true) (k5 : PySem.W.keepIn K (.ref p5) = true)
    {p6 : Addr} {od6 an6 : Option Addr} {sl6 : Array (Option Value)} {oc6 kV6 dc6 pm6 cd6 ct6 : Value}
    (a6 : PySem.W.nsIn K mainGlobals "_law_is_integer" = some (some (.ref p6))) (l6 : K.lookup p6 = some ⟨oc6, od6, .func (PySem.W.fnOf "_law_is_integer" "_law_is_integer" (defArgs s__law_is_integer) (defBody s__law_is_integer) (defScope s__law_is_integer) .none kV6 dc6 pm6 an6 cd6 ct6), sl6⟩) (c6 : PySem.W.codeIn K cd6 "_law_is_integer" = true) (k6 : PySem.W.keepIn K (.ref p6) = true)
    {p7 : Addr} {od7 an7 : Option Addr} {sl7 : Array (Option Value)} {oc7 kV7 dc7 pm7 cd7 ct7 : Value}
    (a7 : PySem.W.nsIn K mainGlobals "_law_divisor" = some (some (.ref p7))) (l7 : K.lookup p7 = some ⟨oc7, od7, .func (PySem.W.fnOf "_law_divisor" "_law_divisor" (defArgs s__law_divisor) (defBody s__law_divisor) (defScope s__law_divisor) .none kV7 dc7 pm7 an7 cd7 ct7), sl7⟩) (c7 : PySem.W.codeIn K cd7 "_law_divisor" = true) (k7 : PySem.W.keepIn K (.ref p7) = true)
    {p8 : Addr} {od8 an8 : Option Addr} {sl8 : Array (Option Value)} {oc8 kV8 dc8 pm8 cd8 ct8 : Value}
    (a8 : PySem.W.nsIn K mainGlobals "_law_growth" = some (some (.ref p8))) (l8 : K.lookup p8 = some ⟨oc8, od8, .func (PySem.W.fnOf "_law_growth" "_law_growth" (defArgs s__law_growth) (defBody s__law_growth) (defScope s__law_growth) .none kV8 dc8 pm8 an8 cd8 ct8), sl8⟩) (c8 : PySem.W.codeIn K cd8 "_law_growth" = true) (k8 : PySem.W.keepIn K (.ref p8) = true)
    {p9 : Addr} {od9 an9 : Option Addr} {sl9 : Array (Option Value)} {oc9 kV9 dc9 pm9 cd9 ct9 : Value}
    (a9 : PySem.W.nsIn K mainGlobals "_law_allowed" = some (some (.ref p9))) (l9 : K.lookup p9 = some ⟨oc9, od9, .func (PySem.W.fnOf "_law_allowed" "_law_allowed" (defArgs s__law_allowed) (defBody s__law_allowed) (defScope s__law_allowed) .none kV9 dc9 pm9 an9 cd9 ct9), sl9⟩) (c9 : PySem.W.codeIn K cd9 "_law_allowed" = true) (k9 : PySem.W.keepIn K (.ref p9) = true)
    {p10 : Addr} {od10 an10 : Option Addr} {sl10 : Array (Option Value)} {oc10 kV10 dc10 pm10 cd10 ct10 : Value}
    (a10 : PySem.W.nsIn K mainGlobals "_law_is_motion" = some (some (.ref p10))) (l10 : K.lookup p10 = some ⟨oc10, od10, .func (PySem.W.fnOf "_law_is_motion" "_law_is_motion" (defArgs s__law_is_motion) (defBody s__law_is_motion) (defScope s__law_is_motion) .none kV10 dc10 pm10 an10 cd10 ct10), sl10⟩) (c10 : PySem.W.codeIn K cd10 "_law_is_motion" = true) (k10 : PySem.W.keepIn K (.ref p10) = true)
    {p11 : Addr} {od11 an11 : Option Addr} {sl11 : Array (Option Value)} {oc11 kV11 dc11 pm11 cd11 ct11 : Value}
    (a11 : PySem.W.nsIn K mainGlobals "_law_is_lowest" = some (some (.ref p11))) (l11 : K.lookup p11 = some ⟨oc11, od11, .func (PySem.W.fnOf "_law_is_lowest" "_law_is_lowest" (defArgs s__law_is_lowest) (defBody s__law_is_lowest) (defScope s__law_is_lowest) .none kV11 dc11 pm11 an11 cd11 ct11), sl11⟩) (c11 : PySem.W.codeIn K cd11 "_law_is_lowest" = true) (k11 : PySem.W.keepIn K (.ref p11) = true)
    {p12 : Addr} {od12 an12 : Option Addr} {sl12 : Array (Option Value)} {oc12 kV12 dc12 pm12 cd12 ct12 : Value}
    (a12 : PySem.W.nsIn K mainGlobals "_law_flat" = some (some (.ref p12))) (l12 : K.lookup p12 = some ⟨oc12, od12, .func (PySem.W.fnOf "_law_flat" "_law_flat" (defArgs s__law_flat) (defBody s__law_flat) (defScope s__law_flat) .none kV12 dc12 pm12 an12 cd12 ct12), sl12⟩) (c12 : PySem.W.codeIn K cd12 "_law_flat" = true) (k12 : PySem.W.keepIn K (.ref p12) = true)
    {p13 : Addr} {od13 an13 : Option Addr} {sl13 : Array (Option Value)} {oc13 kV13 dc13 pm13 cd13 ct13 : Value}
    (a13 : PySem.W.nsIn K mainGlobals "_law_rigid" = some (some (.ref p13))) (l13 : K.lookup p13 = some ⟨oc13, od13, .func (PySem.W.fnOf "_law_rigid" "_law_rigid" (defArgs s__law_rigid) (defBody s__law_rigid) (defScope s__law_rigid) .none kV13 dc13 pm13 an13 cd13 ct13), sl13⟩) (c13 : PySem.W.codeIn K cd13 "_law_rigid" = true) (k13 : PySem.W.keepIn K (.ref p13) = true)
    {p14 : Addr} {od14 an14 : Option Addr} {sl14 : Array (Option Value)} {oc14 kV14 dc14 pm14 cd14 ct14 : Value}
    (a14 : PySem.W.nsIn K mainGlobals "_law_braces" = some (some (.ref p14))) (l14 : K.lookup p14 = some ⟨oc14, od14, .func (PySem.W.fnOf "_law_braces" "_law_braces" (defArgs s__law_braces) (defBody s__law_braces) (defScope s__law_braces) .none kV14 dc14 pm14 an14 cd14 ct14), sl14⟩) (c14 : PySem.W.codeIn K cd14 "_law_braces" = true) (k14 : PySem.W.keepIn K (.ref p14) = true)
    {p15 : Addr} {od15 an15 : Option Addr} {sl15 : Array (Option Value)} {oc15 kV15 dc15 pm15 cd15 ct15 : Value}
    (a15 : PySem.W.nsIn K mainGlobals "_law_size" = some (some (.ref p15))) (l15 : K.lookup p15 = some ⟨oc15, od15, .func (PySem.W.fnOf "_law_size" "_law_size" (defArgs s__law_size) (defBody s__law_size) (defScope s__law_size) .none kV15 dc15 pm15 an15 cd15 ct15), sl15⟩) (c15 : PySem.W.codeIn K cd15 "_law_size" = true) (k15 : PySem.W.keepIn K (.ref p15) = true)
    {p16 : Addr} {od16 an16 : Option Addr} {sl16 : Array (Option Value)} {oc16 kV16 dc16 pm16 cd16 ct16 : Value}
    (a16 : PySem.W.nsIn K mainGlobals "_law_pulls" = some (some (.ref p16))) (l16 : K.lookup p16 = some ⟨oc16, od16, .func (PySem.W.fnOf "_law_pulls" "_law_pulls" (defArgs s__law_pulls) (defBody s__law_pulls) (defScope s__law_pulls) .none kV16 dc16 pm16 an16 cd16 ct16), sl16⟩) (c16 : PySem.W.codeIn K cd16 "_law_pulls" = true) (k16 : PySem.W.keepIn K (.ref p16) = true)
    {p17 : Addr} {od17 an17 : Option Addr} {sl17 : Array (Option Value)} {oc17 kV17 dc17 pm17 cd17 ct17 : Value}
    (a17 : PySem.W.nsIn K mainGlobals "_law_leads" = some (some (.ref p17))) (l17 : K.lookup p17 = some ⟨oc17, od17, .func (PySem.W.fnOf "_law_leads" "_law_leads" (defArgs s__law_leads) (defBody s__law_leads) (defScope s__law_leads) .none kV17 dc17 pm17 an17 cd17 ct17), sl17⟩) (c17 : PySem.W.codeIn K cd17 "_law_leads" = true) (k17 : PySem.W.keepIn K (.ref p17) = true)
    {p18 : Addr} {od18 an18 : Option Addr} {sl18 : Array (Option Value)} {oc18 kV18 dc18 pm18 cd18 ct18 : Value}
    (a18 : PySem.W.nsIn K mainGlobals "_law_is_stiff" = some (some (.ref p18))) (l18 : K.lookup p18 = some ⟨oc18, od18, .func (PySem.W.fnOf "_law_is_stiff" "_law_is_stiff" (defArgs s__law_is_stiff) (defBody s__law_is_stiff) (defScope s__law_is_stiff) .none kV18 dc18 pm18 an18 cd18 ct18), sl18⟩) (c18 : PySem.W.codeIn K cd18 "_law_is_stiff" = true) (k18 : PySem.W.keepIn K (.ref p18) = true)
    {p19 : Addr} {od19 an19 : Option Addr} {sl19 : Array (Option Value)} {oc19 kV19 dc19 pm19 cd19 ct19 : Value}
    (a19 : PySem.W.nsIn K mainGlobals "law" = some (some (.ref p19))) (l19 : K.lookup p19 = some ⟨oc19, od19, .func (PySem.W.fnOf "law" "law" (defArgs s_law) (defBody s_law) (defScope s_law) .none kV19 dc19 pm19 an19 cd19 ct19), sl19⟩) (c19 : PySem.W.codeIn K cd19 "law" = true) (k19 : PySem.W.keepIn K (.ref p19) = true)
    (z_abs : PySem.W.nsIn K mainGlobals "abs" = some none)
    (z_bool : PySem.W.nsIn K mainGlobals "bool" = some none)
    (z_int : PySem.W.nsIn K mainGlobals "int" = some none)
    (z_isinstance : PySem.W.nsIn K mainGlobals "isinstance" = some none)
    (z_len : PySem.W.nsIn K mainGlobals "len" = some none)
    (z_list : PySem.W.nsIn K mainGlobals "list" = some none)
    (z_max : PySem.W.nsIn K mainGlobals "max" = some none)
    (z_min : PySem.W.nsIn K mainGlobals "min" = some none)
    (z_range : PySem.W.nsIn K mainGlobals "range" = some none)
    (z_sum : PySem.W.nsIn K mainGlobals "sum" = some none)
    (z_tuple : PySem.W.nsIn K mainGlobals "tuple" = some none)
    : ∃ fd : FuncData, (∀ (s : Shared) (v : Value), BindsTo s fd ⟨[v], []⟩ [("_law_script", v)]) ∧ ∀ base : Heap, K.In base → base.Ns mainGlobals mg → FnOk l.prog w K mg base CX0 4 fa fd ["_law_script"] (pureSp K f_law) := by
  have e := hfa.symm.trans (PySem.W.mg_of X G a19)
  cases e
  have B : Bl mg := ⟨PySem.W.mg_none_of X G z_abs, PySem.W.mg_none_of X G z_bool, PySem.W.mg_none_of X G z_int, PySem.W.mg_none_of X G z_isinstance, PySem.W.mg_none_of X G z_len, PySem.W.mg_none_of X G z_list, PySem.W.mg_none_of X G z_max, PySem.W.mg_none_of X G z_min, PySem.W.mg_none_of X G z_range, PySem.W.mg_none_of X G z_sum, PySem.W.mg_none_of X G z_tuple⟩
  have F0 := fun_mk (st := s_ways) l0 c0 k0
  have b0 := F0.binds (ps := ["r", "braces"]) fun _ _ _ _ _ _ us hl => match us, hl with | [_, _], _ => rfl
  have F1 := fun_mk (st := s_come_to) l1 c1 k1
  have b1 := F1.binds (ps := ["leading", "start"]) fun _ _ _ _ _ _ us hl => match us, hl with | [_, _], _ => rfl
  have F2 := fun_mk (st := s_parted) l2 c2 k2
  have b2 := F2.binds (ps := ["r", "c", "braces"]) fun _ _ _ _ _ _ us hl => match us, hl with | [_, _, _], _ => rfl
  have F3 := fun_mk (st := s_grid_motion) l3 c3 k3
  have b3 := F3.binds (ps := ["r", "c", "braces"]) fun _ _ _ _ _ _ us hl => match us, hl with | [_, _, _], _ => rfl
  have F4 := fun_mk (st := s__law_cell) l4 c4 k4
  have b4 := F4.binds (ps := ["_law_script", "_law_k"]) fun _ _ _ _ _ _ us hl => match us, hl with | [_, _], _ => rfl
  have F5 := fun_mk (st := s__law_parts) l5 c5 k5
  have b5 := F5.binds (ps := ["_law_cell_here", "_law_sizes"]) fun _ _ _ _ _ _ us hl => match us, hl with | [_, _], _ => rfl
  have F6 := fun_mk (st := s__law_is_integer) l6 c6 k6
  have b6 := F6.binds (ps := ["_law_actual"]) fun _ _ _ _ _ _ us hl => match us, hl with | [_], _ => rfl
  have F7 := fun_mk (st := s__law_divisor) l7 c7 k7
  have b7 := F7.binds (ps := ["_law_a", "_law_b"]) fun _ _ _ _ _ _ us hl => match us, hl with | [_, _], _ => rfl
  have F8 := fun_mk (st := s__law_growth) l8 c8 k8
  have b8 := F8.binds (ps := ["_law_frame", "_law_k", "_law_motion"]) fun _ _ _ _ _ _ us hl => match us, hl with | [_, _, _], _ => rfl
  have F9 := fun_mk (st := s__law_allowed) l9 c9 k9
  have b9 := F9.binds (ps := ["_law_frame", "_law_motion"]) fun _ _ _ _ _ _ us hl => match us, hl with | [_, _], _ => rfl
  have F10 := fun_mk (st := s__law_is_motion) l10 c10 k10
  have b10 := F10.binds (ps := ["_law_actual", "_law_n"]) fun _ _ _ _ _ _ us hl => match us, hl with | [_, _], _ => rfl
  have F11 := fun_mk (st := s__law_is_lowest) l11 c11 k11
  have b11 := F11.binds (ps := ["_law_integers"]) fun _ _ _ _ _ _ us hl => match us, hl with | [_], _ => rfl
  have F12 := fun_mk (st := s__law_flat) l12 c12 k12
  have b12 := F12.binds (ps := ["_law_motion"]) fun _ _ _ _ _ _ us hl => match us, hl with | [_], _ => rfl
  have F13 := fun_mk (st := s__law_rigid) l13 c13 k13
  have b13 := F13.binds (ps := ["_law_points", "_law_motion"]) fun _ _ _ _ _ _ us hl => match us, hl with | [_, _], _ => rfl
  have F14 := fun_mk (st := s__law_braces) l14 c14 k14
  have b14 := F14.binds (ps := ["_law_script", "_law_r", "_law_c"]) fun _ _ _ _ _ _ us hl => match us, hl with | [_, _, _], _ => rfl
  have F15 := fun_mk (st := s__law_size) l15 c15 k15
  have b15 := F15.binds (ps := ["_law_script"]) fun _ _ _ _ _ _ us hl => match us, hl with | [_], _ => rfl
  have F16 := fun_mk (st := s__law_pulls) l16 c16 k16
  have b16 := F16.binds (ps := ["_law_r", "_law_c", "_law_braces_here"]) fun _ _ _ _ _ _ us hl => match us, hl with | [_, _, _], _ => rfl
  have F17 := fun_mk (st := s__law_leads) l17 c17 k17
  have b17 := F17.binds (ps := ["_law_r", "_law_braces_here", "_law_starts"]) fun _ _ _ _ _ _ us hl => match us, hl with | [_, _, _], _ => rfl
  have F18 := fun_mk (st := s__law_is_stiff) l18 c18 k18
  have b18 := F18.binds (ps := ["_law_r", "_law_c", "_law_braces_here"]) fun _ _ _ _ _ _ us hl => match us, hl with | [_, _, _], _ => rfl
  have F19 := fun_mk (st := s_law) l19 c19 k19
  refine ⟨PySem.W.fnOf "law" "law" (defArgs s_law) (defBody s_law) (defScope s_law) .none kV19 dc19 pm19 an19 cd19 ct19, fun s v => .of_eq rfl, fun base _ _ => ?_⟩
  have C_ways : Df l.prog w K mg base 1 "ways" ["r", "braces"] f_ways := ⟨p0, _, ok_ways F0 B , PySem.W.mg_of X G a0, k0, b0⟩
  have C_come_to : Df l.prog w K mg base 1 "come_to" ["leading", "start"] f_come_to := ⟨p1, _, ok_come_to F1 B , PySem.W.mg_of X G a1, k1, b1⟩
  have C_parted : Df l.prog w K mg base 2 "parted" ["r", "c", "braces"] f_parted := ⟨p2, _, ok_parted F2 B C_come_to C_ways, PySem.W.mg_of X G a2, k2, b2⟩
  have C_grid_motion : Df l.prog w K mg base 3 "grid_motion" ["r", "c", "braces"] f_grid_motion := ⟨p3, _, ok_grid_motion F3 B C_parted, PySem.W.mg_of X G a3, k3, b3⟩
  have C__law_cell : Df l.prog w K mg base 1 "_law_cell" ["_law_script", "_law_k"] f__law_cell := ⟨p4, _, ok__law_cell F4 B , PySem.W.mg_of X G a4, k4, b4⟩
  have C__law_parts : Df l.prog w K mg base 1 "_law_parts" ["_law_cell_here", "_law_sizes"] f__law_parts := ⟨p5, _, ok__law_parts F5 B , PySem.W.mg_of X G a5, k5, b5⟩
  have C__law_is_integer : Df l.prog w K mg base 1 "_law_is_integer" ["_law_actual"] f__law_is_integer := ⟨p6, _, ok__law_is_integer F6 B , PySem.W.mg_of X G a6, k6, b6⟩
  have C__law_divisor : Df l.prog w K mg base 1 "_law_divisor" ["_law_a", "_law_b"] f__law_divisor := ⟨p7, _, ok__law_divisor F7 B , PySem.W.mg_of X G a7, k7, b7⟩
  have C__law_growth : Df l.prog w K mg base 1 "_law_growth" ["_law_frame", "_law_k", "_law_motion"] f__law_growth := ⟨p8, _, ok__law_growth F8 B , PySem.W.mg_of X G a8, k8, b8⟩
  have C__law_allowed : Df l.prog w K mg base 2 "_law_allowed" ["_law_frame", "_law_motion"] f__law_allowed := ⟨p9, _, ok__law_allowed F9 B C__law_growth, PySem.W.mg_of X G a9, k9, b9⟩
  have C__law_is_motion : Df l.prog w K mg base 2 "_law_is_motion" ["_law_actual", "_law_n"] f__law_is_motion := ⟨p10, _, ok__law_is_motion F10 B C__law_is_integer, PySem.W.mg_of X G a10, k10, b10⟩
  have C__law_is_lowest : Df l.prog w K mg base 2 "_law_is_lowest" ["_law_integers"] f__law_is_lowest := ⟨p11, _, ok__law_is_lowest F11 B C__law_divisor, PySem.W.mg_of X G a11, k11, b11⟩
  have C__law_flat : Df l.prog w K mg base 1 "_law_flat" ["_law_motion"] f__law_flat := ⟨p12, _, ok__law_flat F12 B , PySem.W.mg_of X G a12, k12, b12⟩
  have C__law_rigid : Df l.prog w K mg base 1 "_law_rigid" ["_law_points", "_law_motion"] f__law_rigid := ⟨p13, _, ok__law_rigid F13 B , PySem.W.mg_of X G a13, k13, b13⟩
  have C__law_braces : Df l.prog w K mg base 2 "_law_braces" ["_law_script", "_law_r", "_law_c"] f__law_braces := ⟨p14, _, ok__law_braces F14 B C__law_cell C__law_parts, PySem.W.mg_of X G a14, k14, b14⟩
  have C__law_size : Df l.prog w K mg base 2 "_law_size" ["_law_script"] f__law_size := ⟨p15, _, ok__law_size F15 B C__law_cell C__law_parts, PySem.W.mg_of X G a15, k15, b15⟩
  have C__law_pulls : Df l.prog w K mg base 1 "_law_pulls" ["_law_r", "_law_c", "_law_braces_here"] f__law_pulls := ⟨p16, _, ok__law_pulls F16 B , PySem.W.mg_of X G a16, k16, b16⟩
  have C__law_leads : Df l.prog w K mg base 1 "_law_leads" ["_law_r", "_law_braces_here", "_law_starts"] f__law_leads := ⟨p17, _, ok__law_leads F17 B , PySem.W.mg_of X G a17, k17, b17⟩
  have C__law_is_stiff : Df l.prog w K mg base 2 "_law_is_stiff" ["_law_r", "_law_c", "_law_braces_here"] f__law_is_stiff := ⟨p18, _, ok__law_is_stiff F18 B C__law_leads, PySem.W.mg_of X G a18, k18, b18⟩
  exact ok_law F19 B C__law_allowed C__law_braces C__law_flat C__law_is_lowest C__law_is_motion C__law_is_stiff C__law_pulls C__law_rigid C__law_size C_grid_motion
theorem walk {l : PySem.W.OpenLaw} {q : Program} {loose : List Str} {XP : (Str → Option Value) → Heap → Prop} {YP : World → Heap → Prop} {d : DefRec} {K : Params → PySem.W.Frag} (hn : l.most = some 63) (hdf : d.params.defaults = [])
    (hY : ∀ (w : World) (h : Heap), YP w h → (K w.params).In h)
    (F : ∀ (w : World) (mg : Str → Option Value) (fa : Addr) (h : Heap), (K w.params).In h → h.Ns mainGlobals mg → mg d.name = some (.ref fa) →
      ∃ fd : FuncData, (∀ (s : Shared) (u : Value), BindsTo s fd ⟨[u], []⟩ [("_law_script", u)]) ∧ ∀ base : Heap, (K w.params).In base → base.Ns mainGlobals mg → FnOk l.prog w (K w.params) mg base CX0 4 fa fd ["_law_script"] (pureSp (K w.params) f_law)) :
    PySem.W.WalkO q loose XP YP l.row.toRowW d [] (fun f vs => PySem.call f vs) :=
  L2.walk_of (n := 63) (k := 4) (x := "_law_script") (CX := fun _ => CX0) (sp := fun w => pureSp (K w.params) f_law) hn (by decide) hdf ⟨rfl, by decide, by decide⟩ hY F (fun w H a ns hl hO hS => law_sp plain H a ns hl hO hS) fun _ _ _ _ _ z => z
end G
open PySem PySem.W PyProof.Rows in
set_option maxRecDepth 100000 in
set_option maxHeartbeats 0 in
theorem PySem.Challenge.cw_loadorloose_k43_motions_of_grids_holds : PySem.Challenge.rw_loadorloose_k43_motions_of_grids.Holds := by
  w_on; o_law; k_head; (case hw => w_witness2)
  k_fill
  refine G.walk (l := PySem.Challenge.rw_loadorloose_k43_motions_of_grids) rfl rfl (fun w h Y => PySem.W.kIn_of Y) ?F
  case F =>
    intro w mg fa h KX GN hmg
    refine' G.all_mk KX GN hmg ?a0 ?l0 ?c0 ?k0 ?a1 ?l1 ?c1 ?k1 ?a2 ?l2 ?c2 ?k2 ?a3 ?l3 ?c3 ?k3 ?a4 ?l4 ?c4 ?k4 ?a5 ?l5 ?c5 ?k5 ?a6 ?l6 ?c6 ?k6 ?a7 ?l7 ?c7 ?k7 ?a8 ?l8 ?c8 ?k8 ?a9 ?l9 ?c9 ?k9 ?a10 ?l10 ?c10 ?k10 ?a11 ?l11 ?c11 ?k11 ?a12 ?l12 ?c12 ?k12 ?a13 ?l13 ?c13 ?k13 ?a14 ?l14 ?c14 ?k14 ?a15 ?l15 ?c15 ?k15 ?a16 ?l16 ?c16 ?k16 ?a17 ?l17 ?c17 ?k17 ?a18 ?l18 ?c18 ?k18 ?a19 ?l19 ?c19 ?k19 ?z_abs ?z_bool ?z_int ?z_isinstance ?z_len ?z_list ?z_max ?z_min ?z_range ?z_sum ?z_tuple
    (case a0 => k_is)
    (case l0 => k_is)
    (case c0 => k_is)
    (case k0 => k_is)
    (case a1 => k_is)
    (case l1 => k_is)
    (case c1 => k_is)
    (case k1 => k_is)
    (case a2 => k_is)
    (case l2 => k_is)
    (case c2 => k_is)
    (case k2 => k_is)
    (case a3 => k_is)
    (case l3 => k_is)
    (case c3 => k_is)
    (case k3 => k_is)
    (case a4 => k_is)
    (case l4 => k_is)
    (case c4 => k_is)
    (case k4 => k_is)
    (case a5 => k_is)
    (case l5 => k_is)
    (case c5 => k_is)
    (case k5 => k_is)
    (case a6 => k_is)
    (case l6 => k_is)
    (case c6 => k_is)
    (case k6 => k_is)
    (case a7 => k_is)
    (case l7 => k_is)
    (case c7 => k_is)
    (case k7 => k_is)
    (case a8 => k_is)
    (case l8 => k_is)
    (case c8 => k_is)
    (case k8 => k_is)
    (case a9 => k_is)
    (case l9 => k_is)
    (case c9 => k_is)
    (case k9 => k_is)
    (case a10 => k_is)
    (case l10 => k_is)
    (case c10 => k_is)
    (case k10 => k_is)
    (case a11 => k_is)
    (case l11 => k_is)
    (case c11 => k_is)
    (case k11 => k_is)
    (case a12 => k_is)
    (case l12 => k_is)
    (case c12 => k_is)
    (case k12 => k_is)
    (case a13 => k_is)
    (case l13 => k_is)
    (case c13 => k_is)
    (case k13 => k_is)
    (case a14 => k_is)
    (case l14 => k_is)
    (case c14 => k_is)
    (case k14 => k_is)
    (case a15 => k_is)
    (case l15 => k_is)
    (case c15 => k_is)
    (case k15 => k_is)
    (case a16 => k_is)
    (case l16 => k_is)
    (case c16 => k_is)
    (case k16 => k_is)
    (case a17 => k_is)
    (case l17 => k_is)
    (case c17 => k_is)
    (case k17 => k_is)
    (case a18 => k_is)
    (case l18 => k_is)
    (case c18 => k_is)
    (case k18 => k_is)
    (case a19 => k_is)
    (case l19 => k_is)
    (case c19 => k_is)
    (case k19 => k_is)
    (case z_abs => k_is)
    (case z_bool => k_is)
    (case z_int => k_is)
    (case z_isinstance => k_is)
    (case z_len => k_is)
    (case z_list => k_is)
    (case z_max => k_is)
    (case z_min => k_is)
    (case z_range => k_is)
    (case z_sum => k_is)
    (case z_tuple => k_is)
