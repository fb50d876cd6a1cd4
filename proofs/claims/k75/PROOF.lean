import PyProof.Rows.All
import Wide.All
import OpenK.AllK
import Wide.FinOn
import HandS.ForMost
import HandS.ForExc
import HandS.ForSpec
import HandS.TupAny
import HandS.Deep
import HandS.IsInst
import HandS.Flow
import HandS.More
import HandS.WordsDict
import HandS.CallSlots
import HandS.ExcIs
import PySem.Challenge.RW_kingsandcourts_k75_closed_terms_by_depth
set_option Elab.async false
set_option linter.all false
set_option maxRecDepth 100000
/-! Mi: a plain store-passing meaning for the text's defs, and its truth over the layer. -/
namespace Mi
open PySem PySem.Spec PyProof.Rows L2

inductive D where
  | non | bl (b : Bool) | int (i : Int) | str (s : List Nat)
  | tup (xs : List D) | lst (xs : List D)
  | dic (kvs : List (Key × D))
  | obj (c : Str) (fs : List (Str × D))
  | ref (n : Nat)
  /-- a list that stays as it is for good (the script) -/
  | frl (xs : List D)
  /-- the exception that an except suite holds -/
  | exn (e : D)

mutual
def D.lt (b : Nat) : D → Bool
  | .non => true | .bl _ => true | .int _ => true | .str _ => true
  | .tup xs => D.ltL b xs
  | .lst xs => D.ltL b xs
  | .dic kvs => D.ltK b kvs
  | .obj _ fs => D.ltF b fs
  | .ref n => decide (n < b)
  | .frl xs => D.ltL b xs
  | .exn _ => true
def D.ltL (b : Nat) : List D → Bool
  | [] => true
  | x :: xs => D.lt b x && D.ltL b xs
def D.ltK (b : Nat) : List (Key × D) → Bool
  | [] => true
  | (_, x) :: xs => D.lt b x && D.ltK b xs
def D.ltF (b : Nat) : List (Str × D) → Bool
  | [] => true
  | (_, x) :: xs => D.lt b x && D.ltF b xs
end

inductive Cell where
  | lst (xs : List D)
  | dic (kvs : List (Key × D))
  | ins (c : Str) (fs : List (Str × D))
def Cell.lt (b : Nat) : Cell → Bool
  | .lst xs => D.ltL b xs
  | .dic kvs => D.ltK b kvs
  | .ins _ fs => D.ltF b fs

/-- the cells' addresses; others that nothing reaches -/
structure Ph where
  c : List Addr
  h : List Addr
def Ph.has (φ : Ph) (a : Addr) : Prop := a ∈ φ.c ∨ a ∈ φ.h
def Ph.add (φ : Ph) (a : Addr) : Ph := ⟨φ.c ++ [a], φ.h⟩
def Ph.hide (φ : Ph) (a : Addr) : Ph := ⟨φ.c, a :: φ.h⟩
structure Sto where
  old : List Cell
  top : List Cell
def Sto.all (S : Sto) : List Cell := S.old ++ S.top
def Sto.get (S : Sto) (n : Nat) : Option Cell := if n < S.old.length then S.old[n]? else S.top[n - S.old.length]?
def Sto.set (S : Sto) (n : Nat) (c : Cell) : Sto := if n < S.old.length then ⟨S.old.set n c, S.top⟩ else ⟨S.old, S.top.set (n - S.old.length) c⟩
def Sto.add (S : Sto) (c : Cell) : Sto := ⟨S.old, S.top ++ [c]⟩
def Sto.new (S : Sto) : Nat := S.old.length + S.top.length
def Sto.push (S : Sto) : Sto := ⟨S.old ++ S.top, []⟩
/-- back to the frames of S -/
def Sto.pop (S S' : Sto) : Sto := ⟨S'.old.take S.old.length, S'.old.drop S.old.length⟩
/-- may the cell be written so -/
def Sto.may (S : Sto) (n : Nat) (c : Cell) : Bool := decide (S.old.length ≤ n) || c.lt 0

inductive R (α : Type) where
  | ok (a : α) (S : Sto) | ex (e : D) (S : Sto) | bad
def R.bind {α β : Type} (r : R α) (k : α → Sto → R β) : R β := match r with
  | .ok a S => k a S
  | .ex e S => .ex e S
  | .bad => .bad
abbrev Env := List (Option D)
inductive SR where
  | nx (ρ : Env) (S : Sto) | rt (d : D) (S : Sto) | bk (ρ : Env) (S : Sto) | ct (ρ : Env) (S : Sto) | ex (e : D) (ρ : Env) (S : Sto) | bad
abbrev EM := Env → Sto → R D
abbrev AM := Env → Sto → R (List D)
abbrev TM := Env → Sto → R Bool
abbrev SM := Env → Sto → SR

/-- code points -/
def goodS (s : List Nat) : Bool := s.all fun c => decide (c < 1114112)
section
variable (K : PySem.W.Frag) (mg : Str → Option Value)
def FzL (H : Hp) (a : Addr) (vs : List V) : Prop :=
  (∃ o, H a = some (.frz o (.lst vs))) ∨
    ∃ (o : Obj) (its : Array Value) (n : Nat), K.lookup a = some o ∧ o.cls = .type "list" ∧ o.dict = none ∧ o.data = .seq its n ∧ its.size ≤ sizeLine ∧ Vals vs its.toList
mutual
inductive Rep (H : Hp) (φ : Ph) : D → V → Prop
  | non : Rep H φ .non .non
  | bl (b : Bool) : Rep H φ (.bl b) (.bl b)
  | int (i : Int) : Rep H φ (.int i) (.int i)
  | str (s : List Nat) (g : goodS s = true) : Rep H φ (.str s) (.str ⟨s.toArray⟩)
  | tup {a : Addr} {ds : List D} {vs : List V} : SqT K H a vs → RepL H φ ds vs → Rep H φ (.tup ds) (.ref a)
  | lst {a : Addr} {ds : List D} {vs : List V} : H a = some (.lst vs) → ¬ φ.has a → RepL H φ ds vs → Rep H φ (.lst ds) (.ref a)
  | frl {a : Addr} {ds : List D} {vs : List V} : FzL K H a vs → RepL H φ ds vs → Rep H φ (.frl ds) (.ref a)
  | dic {a : Addr} {ds : List (Key × D)} {vs : List (Key × V)} : Rd H a (.dK vs) → ¬ φ.has a → RepK H φ ds vs → Rep H φ (.dic ds) (.ref a)
  | obj {a C dx : Addr} {c : Str} {fs : List (Str × D)} {vs : List (Str × V)} : mg c = some (.ref C) → H a = some (.ins C dx vs) → ¬ φ.has a → RepF H φ fs vs → Rep H φ (.obj c fs) (.ref a)
  | exn (e : D) (a : Addr) : Rep H φ (.exn e) (.ref a)
  | ref {n : Nat} {a : Addr} : φ.c[n]? = some a → Rep H φ (.ref n) (.ref a)
inductive RepL (H : Hp) (φ : Ph) : List D → List V → Prop
  | nil : RepL H φ [] []
  | cons {d : D} {ds : List D} {v : V} {vs : List V} : Rep H φ d v → RepL H φ ds vs → RepL H φ (d :: ds) (v :: vs)
inductive RepK (H : Hp) (φ : Ph) : List (Key × D) → List (Key × V) → Prop
  | nil : RepK H φ [] []
  | cons {k : Key} {d : D} {ds : List (Key × D)} {v : V} {vs : List (Key × V)} : Rep H φ d v → RepK H φ ds vs → RepK H φ ((k, d) :: ds) ((k, v) :: vs)
inductive RepF (H : Hp) (φ : Ph) : List (Str × D) → List (Str × V) → Prop
  | nil : RepF H φ [] []
  | cons {k : Str} {d : D} {ds : List (Str × D)} {v : V} {vs : List (Str × V)} : Rep H φ d v → RepF H φ ds vs → RepF H φ ((k, d) :: ds) ((k, v) :: vs)
end
def CellOk (H : Hp) (φ : Ph) (a : Addr) : Cell → Prop
  | .lst ds => ∃ vs, H a = some (.lst vs) ∧ RepL K mg H φ ds vs
  | .dic ds => ∃ vs, H a = some (.dK vs) ∧ RepK K mg H φ ds vs
  | .ins c fs => ∃ C dx vs, mg c = some (.ref C) ∧ H a = some (.ins C dx vs) ∧ RepF K mg H φ fs vs
/-- what a hidden thing is -/
def Hdn (o : Option HO) : Prop := (∃ xs, o = some (.lst xs)) ∨ ∃ kvs, o = some (.dK kvs)
theorem Hdn.some {o : Option HO} (h : Hdn o) : ∃ u, o = some u := by
  rcases h with ⟨_, e⟩ | ⟨_, e⟩ <;> exact ⟨_, e⟩
structure Sim (H : Hp) (φ : Ph) (bs : List Nat) (S : Sto) : Prop where
  len : φ.c.length = S.all.length
  nd : φ.c.Nodup
  dis : ∀ a ∈ φ.c, a ∉ φ.h
  hid : ∀ a ∈ φ.h, Hdn (H a)
  cell : ∀ (n : Nat) (a : Addr) (c : Cell), φ.c[n]? = some a → S.all[n]? = some c → CellOk K mg H φ a c
  hd : bs.head? = some S.old.length
  cl : ∀ b ∈ bs, b ≤ S.old.length ∧ ∀ (n : Nat) (c : Cell), n < b → S.all[n]? = some c → c.lt b = true
end
/-- what may have become of heap and cells -/
structure Ext (H : Hp) (φ : Ph) (H' : Hp) (φ' : Ph) : Prop where
  pre : ∃ ψ, φ'.c = φ.c ++ ψ ∧ ∀ b ∈ ψ, H b = none
  hsame : φ'.h = φ.h
  hk : ∀ b ∈ φ.h, H' b = H b
  keep : ∀ b o, H b = some o → ¬ φ.has b → H' b = some o
  there : ∀ b o, H b = some o → ∃ o', H' b = some o'
theorem Ext.refl (H : Hp) (φ : Ph) : Ext H φ H φ := ⟨⟨[], by simp, fun _ h => by simp at h⟩, rfl, fun _ _ => rfl, fun _ _ h _ => h, fun _ o h => ⟨o, h⟩⟩
theorem Ext.nin {H H' : Hp} {φ φ' : Ph} (x : Ext H φ H' φ') {a : Addr} {o : HO} (h : H a = some o) (hn : ¬ φ.has a) : ¬ φ'.has a := fun hm => by
  obtain ⟨ψ, e, f⟩ := x.pre
  rcases hm with z | z
  · rw [e] at z
    rcases List.mem_append.mp z with z | z
    · exact hn (.inl z)
    · rw [f a z] at h; cases h
  · rw [x.hsame] at z; exact hn (.inr z)
theorem Ext.trans {H H1 H2 : Hp} {φ φ1 φ2 : Ph} (x : Ext H φ H1 φ1) (y : Ext H1 φ1 H2 φ2) : Ext H φ H2 φ2 := by
  obtain ⟨ψ, e1, f1⟩ := x.pre
  obtain ⟨ψ2, e2, f2⟩ := y.pre
  refine ⟨⟨ψ ++ ψ2, by rw [e2, e1, List.append_assoc], fun b hb => ?_⟩, y.hsame.trans x.hsame, fun b hb => (y.hk b (by rw [x.hsame]; exact hb)).trans (x.hk b hb), fun b o h hn => ?_, fun b o h => ?_⟩
  · rcases List.mem_append.mp hb with h | h
    · exact f1 b h
    · cases q : H b with
      | none => rfl
      | some o =>
        obtain ⟨o', e⟩ := x.there b o q
        rw [f2 b h] at e; cases e
  · exact y.keep b o (x.keep b o h hn) (x.nin h hn)
  · obtain ⟨o', e⟩ := x.there b o h
    exact y.there b o' e
/-- no cell holds a tuple or a locked thing -/
def Cells (H : Hp) (φ : Ph) : Prop := ∀ a, φ.has a → (∃ xs, H a = some (.lst xs)) ∨ (∃ kvs, H a = some (.dK kvs)) ∨ ∃ C dx fs, H a = some (.ins C dx fs)
section
variable {K : PySem.W.Frag} {mg : Str → Option Value} {H H' : Hp} {φ φ' : Ph} {bs : List Nat} {S : Sto}
theorem Sim.cells (s : Sim K mg H φ bs S) : Cells H φ := fun a ha => by
  rcases ha with ha | ha
  · obtain ⟨n, hn, e⟩ := List.getElem_of_mem ha
    have h1 : φ.c[n]? = some a := by rw [List.getElem?_eq_getElem hn, e]
    have h2 : n < S.all.length := by rw [← s.len]; exact hn
    have h3 := s.cell n a S.all[n] h1 (List.getElem?_eq_getElem h2)
    revert h3
    cases S.all[n] with
    | lst ds => rintro ⟨vs, e, _⟩; exact .inl ⟨_, e⟩
    | dic ds => rintro ⟨vs, e, _⟩; exact .inr (.inl ⟨_, e⟩)
    | ins c fs => rintro ⟨C, dx, vs, _, e, _⟩; exact .inr (.inr ⟨_, _, _, e⟩)
  · rcases s.hid a ha with z | z
    · exact .inl z
    · exact .inr (.inl z)
theorem Cells.tup (c : Cells H φ) {a : Addr} {xs : List V} (h : H a = some (.tup xs)) : ¬ φ.has a := fun ha => by
  rcases c _ ha with ⟨_, e⟩ | ⟨_, e⟩ | ⟨_, _, _, e⟩ <;> (rw [h] at e; cases e)
theorem Cells.frz (c : Cells H φ) {a : Addr} {o : Obj} {u : HO} (h : H a = some (.frz o u)) : ¬ φ.has a := fun ha => by
  rcases c _ ha with ⟨_, e⟩ | ⟨_, e⟩ | ⟨_, _, _, e⟩ <;> (rw [h] at e; cases e)
/-- what a value's meaning leans on stays -/
structure Keeps (H : Hp) (φ : Ph) (H' : Hp) (φ' : Ph) : Prop where
  at' : ∀ a o, H a = some o → ¬ φ.has a → H' a = some o ∧ ¬ φ'.has a
  cell : ∀ (n : Nat) (a : Addr), φ.c[n]? = some a → φ'.c[n]? = some a
theorem Ext.get (x : Ext H φ H' φ') {n : Nat} {a : Addr} (h : φ.c[n]? = some a) : φ'.c[n]? = some a := by
  obtain ⟨ψ, e, f⟩ := x.pre
  rw [e, List.getElem?_append_left (List.getElem?_eq_some_iff.mp h).1]
  exact h
theorem Ext.keeps (x : Ext H φ H' φ') : Keeps H φ H' φ' := ⟨fun a o h n => ⟨x.keep a o h n, x.nin h n⟩, fun _ _ h => x.get h⟩
theorem Keeps.trans {H2 : Hp} {φ2 : Ph} (x : Keeps H φ H' φ') (y : Keeps H' φ' H2 φ2) : Keeps H φ H2 φ2 := ⟨fun a o e n => y.at' a o (x.at' a o e n).1 (x.at' a o e n).2, fun n a e => y.cell n a (x.cell n a e)⟩
theorem Keeps.rd (x : Keeps H φ H' φ') {a : Addr} {u : HO} (h : Rd H a u) (hn : ¬ φ.has a) : Rd H' a u ∧ ¬ φ'.has a := by
  rcases h with h | ⟨o, h⟩
  · exact ⟨.inl (x.at' _ _ h hn).1, (x.at' _ _ h hn).2⟩
  · exact ⟨.inr ⟨o, (x.at' _ _ h hn).1⟩, (x.at' _ _ h hn).2⟩
theorem Keeps.sqt (x : Keeps H φ H' φ') (c : Cells H φ) {a : Addr} {vs : List V} (h : SqT K H a vs) : SqT K H' a vs := by
  rcases h with (h | ⟨o, h⟩) | h
  · exact .inl (.inl (x.at' _ _ h (c.tup h)).1)
  · exact .inl (.inr ⟨o, (x.at' _ _ h (c.frz h)).1⟩)
  · exact .inr h
theorem Ext.sqt (x : Ext H φ H' φ') (c : Cells H φ) {a : Addr} {vs : List V} (h : SqT K H a vs) : SqT K H' a vs := x.keeps.sqt c h
mutual
theorem Rep.kp (x : Keeps H φ H' φ') (c : Cells H φ) : ∀ {d : D} {v : V}, Rep K mg H φ d v → Rep K mg H' φ' d v
  | _, _, .non => .non
  | _, _, .bl b => .bl b
  | _, _, .int i => .int i
  | _, _, .str s g => .str s g
  | _, _, .tup h hl => .tup (x.sqt c h) (RepL.kp x c hl)
  | _, _, .lst h n hl => .lst (x.at' _ _ h n).1 (x.at' _ _ h n).2 (RepL.kp x c hl)
  | _, _, .frl h hl => .frl (by
      rcases h with ⟨o, h⟩ | h
      · exact .inl ⟨o, (x.at' _ _ h (c.frz h)).1⟩
      · exact .inr h) (RepL.kp x c hl)
  | _, _, .dic h n hl => .dic (x.rd h n).1 (x.rd h n).2 (RepK.kp x c hl)
  | _, _, .obj hm h n hl => .obj hm (x.at' _ _ h n).1 (x.at' _ _ h n).2 (RepF.kp x c hl)
  | _, _, .ref h => .ref (x.cell _ _ h)
  | _, _, .exn e a => .exn e a
theorem RepL.kp (x : Keeps H φ H' φ') (c : Cells H φ) : ∀ {d : List D} {v : List V}, RepL K mg H φ d v → RepL K mg H' φ' d v
  | _, _, .nil => .nil
  | _, _, .cons h t => .cons (Rep.kp x c h) (RepL.kp x c t)
theorem RepK.kp (x : Keeps H φ H' φ') (c : Cells H φ) : ∀ {d : List (Key × D)} {v : List (Key × V)}, RepK K mg H φ d v → RepK K mg H' φ' d v
  | _, _, .nil => .nil
  | _, _, .cons h t => .cons (Rep.kp x c h) (RepK.kp x c t)
theorem RepF.kp (x : Keeps H φ H' φ') (c : Cells H φ) : ∀ {d : List (Str × D)} {v : List (Str × V)}, RepF K mg H φ d v → RepF K mg H' φ' d v
  | _, _, .nil => .nil
  | _, _, .cons h t => .cons (Rep.kp x c h) (RepF.kp x c t)
end
theorem Rep.ext (x : Ext H φ H' φ') (c : Cells H φ) {d : D} {v : V} (h : Rep K mg H φ d v) : Rep K mg H' φ' d v := h.kp x.keeps c
theorem RepL.ext (x : Ext H φ H' φ') (c : Cells H φ) {d : List D} {v : List V} (h : RepL K mg H φ d v) : RepL K mg H' φ' d v := h.kp x.keeps c
theorem RepK.ext (x : Ext H φ H' φ') (c : Cells H φ) {d : List (Key × D)} {v : List (Key × V)} (h : RepK K mg H φ d v) : RepK K mg H' φ' d v := h.kp x.keeps c
theorem RepF.ext (x : Ext H φ H' φ') (c : Cells H φ) {d : List (Str × D)} {v : List (Str × V)} (h : RepF K mg H φ d v) : RepF K mg H' φ' d v := h.kp x.keeps c
theorem RepL.length : ∀ {ds : List D} {vs : List V}, RepL K mg H φ ds vs → ds.length = vs.length
  | _, _, .nil => rfl
  | _, _, .cons _ t => by simp [RepL.length t]
theorem RepL.get : ∀ {ds : List D} {vs : List V} {i : Nat} {d : D}, RepL K mg H φ ds vs → ds[i]? = some d → ∃ v, vs[i]? = some v ∧ Rep K mg H φ d v
  | _, _, i, d, .nil, e => by simp at e
  | _, _, 0, d, .cons h t, e => by simp at e; subst e; exact ⟨_, rfl, h⟩
  | _, _, i + 1, d, .cons h t, e => by
    obtain ⟨u, h1, h2⟩ := RepL.get (i := i) (d := d) t (by simpa using e)
    exact ⟨u, by simpa using h1, h2⟩
theorem RepL.get' : ∀ {ds : List D} {vs : List V} {i : Nat} {v : V}, RepL K mg H φ ds vs → vs[i]? = some v → ∃ d, ds[i]? = some d ∧ Rep K mg H φ d v
  | _, _, i, d, .nil, e => by simp at e
  | _, _, 0, d, .cons h t, e => by simp at e; subst e; exact ⟨_, rfl, h⟩
  | _, _, i + 1, d, .cons h t, e => by
    obtain ⟨u, h1, h2⟩ := RepL.get' (i := i) (v := d) t (by simpa using e)
    exact ⟨u, by simpa using h1, h2⟩
theorem RepL.append : ∀ {ds es : List D} {vs ws : List V}, RepL K mg H φ ds vs → RepL K mg H φ es ws → RepL K mg H φ (ds ++ es) (vs ++ ws)
  | _, _, _, _, .nil, s => s
  | _, _, _, _, .cons h t, s => .cons h (RepL.append t s)
theorem RepL.take : ∀ {ds : List D} {vs : List V} (n : Nat), RepL K mg H φ ds vs → RepL K mg H φ (ds.take n) (vs.take n)
  | _, _, 0, _ => .nil
  | _, _, _ + 1, .nil => .nil
  | _, _, n + 1, .cons r t => .cons r (RepL.take n t)
theorem RepL.drop : ∀ {ds : List D} {vs : List V} (n : Nat), RepL K mg H φ ds vs → RepL K mg H φ (ds.drop n) (vs.drop n)
  | _, _, 0, r => r
  | _, _, _ + 1, .nil => .nil
  | _, _, n + 1, .cons _ t => RepL.drop n t
theorem RepL.set {d : D} {v : V} (r : Rep K mg H φ d v) : ∀ {ds : List D} {vs : List V} (i : Nat), RepL K mg H φ ds vs → RepL K mg H φ (ds.set i d) (vs.set i v)
  | _, _, _, .nil => .nil
  | _, _, 0, .cons _ t => .cons r t
  | _, _, i + 1, .cons q t => .cons q (RepL.set r i t)
theorem RepL.reverse : ∀ {ds : List D} {vs : List V}, RepL K mg H φ ds vs → RepL K mg H φ ds.reverse vs.reverse
  | _, _, .nil => .nil
  | _, _, .cons r t => by
    rw [List.reverse_cons, List.reverse_cons]
    exact (RepL.reverse t).append (.cons r .nil)

/-- the slots -/
def ExR (K : PySem.W.Frag) (mg : Str → Option Value) (H : Hp) (φ : Ph) (e : D) (cls : Value) (d : Option Addr) : Prop :=
  ∃ (c : Str) (fs : List (Str × D)) (C : Addr), e = .obj c fs ∧ mg c = some (.ref C) ∧ cls = .ref C ∧
    (fs ≠ [] → ∃ (a : Addr) (vs : List (Str × V)), d = some a ∧ H a = some (.xd vs) ∧ RepF K mg H φ fs vs) ∧ (fs = [] → d = none)
/-- what is known of the exception that is held -/
def XR (a : Addr) (oe : Obj) (K : PySem.W.Frag) (mg : Str → Option Value) (H : Hp) (φ : Ph) (e : D) (v : V) : Prop :=
  ∃ (cls : Value) (dx : Option Addr), v = .ref a ∧ Zc cls dx oe ∧ (∃ vs, oe.data = .fields vs) ∧ ExR K mg H φ e cls dx
/-- the exception held in X: it stands in the slot of the name «error» -/
def xp (X : Cx) : List (Nat × Addr × Obj) := if X.calm = true then [] else (X.pn.take 1).map fun q => (X.N.idxOf ("error" : Str), q)
theorem xp_no {X : Cx} {i : Nat} {x : Str} (h : (x == ("error" : Str)) = false ∨ X.calm = true) (hi : X.N[i]? = some x) : ∀ p ∈ xp X, p.1 ≠ i := by
  intro p hp e
  unfold xp at hp
  rcases h with h | h
  · split at hp
    · cases hp
    · obtain ⟨q, _, rfl⟩ := List.mem_map.mp hp
      dsimp only at e
      have hlt : X.N.idxOf ("error" : Str) < X.N.length := by rw [e]; exact (List.getElem?_eq_some_iff.mp hi).1
      have h2 := List.getElem_idxOf hlt
      have h3 : X.N[X.N.idxOf ("error" : Str)]? = some ("error" : Str) := by rw [List.getElem?_eq_getElem hlt, h2]
      rw [e, hi] at h3
      cases h3
      simp at h
  · rw [if_pos h] at hp; cases hp
theorem ExR.kp0 {e : D} {cls : Value} {d : Option Addr} (x : Keeps H φ H' φ') (c : Cells H φ) (r : ExR K mg H φ e cls d) : ExR K mg H' φ' e cls d := by
  obtain ⟨n, fs, C, rfl, h1, h2, h3, h0⟩ := r
  refine ⟨n, fs, C, rfl, h1, h2, fun hn => ?_, h0⟩
  obtain ⟨a, vs, h4, h5, h6⟩ := h3 hn
  refine ⟨a, vs, h4, (x.at' a _ h5 fun z => ?_).1, h6.kp x c⟩
  rcases c a z with ⟨_, q⟩ | ⟨_, q⟩ | ⟨_, _, _, q⟩ <;> (rw [q] at h5; cases h5)
theorem XR.kp {a : Addr} {oe : Obj} {e : D} {v : V} (x : Keeps H φ H' φ') (c : Cells H φ) (r : XR a oe K mg H φ e v) : XR a oe K mg H' φ' e v := by
  obtain ⟨cls, dx, h3, h4, h5, h6⟩ := r
  exact ⟨cls, dx, h3, h4, h5, h6.kp0 x c⟩
structure EnvR (K : PySem.W.Frag) (mg : Str → Option Value) (P : List (Nat × Addr × Obj)) (H : Hp) (φ : Ph) (ρ : Env) (σ : L2.St) : Prop where
  len : ρ.length = σ.length
  rep : ∀ {i : Nat} {d : D}, ρ[i]? = some (some d) → ∃ v, σ[i]? = some (some v) ∧ Rep K mg H φ d v
  exn : ∀ p ∈ P, ∀ e v, ρ[p.1]? = some (some (.exn e)) → σ[p.1]? = some (some v) → XR p.2.1 p.2.2 K mg H φ e v
theorem EnvR.kp {P : List (Nat × Addr × Obj)} {ρ : Env} {σ : L2.St} (x : Keeps H φ H' φ') (c : Cells H φ) (e : EnvR K mg P H φ ρ σ) : EnvR K mg P H' φ' ρ σ :=
  ⟨e.len, fun h => let ⟨v, h1, h2⟩ := e.rep h; ⟨v, h1, h2.kp x c⟩, fun p hp d v h1 h2 => (e.exn p hp d v h1 h2).kp x c⟩
theorem EnvR.ext {P : List (Nat × Addr × Obj)} {ρ : Env} {σ : L2.St} (x : Ext H φ H' φ') (c : Cells H φ) (e : EnvR K mg P H φ ρ σ) : EnvR K mg P H' φ' ρ σ := e.kp x.keeps c
theorem EnvR.set {P : List (Nat × Addr × Obj)} {ρ : Env} {σ : L2.St} {d : D} {v : V} (e : EnvR K mg P H φ ρ σ) (r : Rep K mg H φ d v) (i : Nat) (hP : ∀ p ∈ P, p.1 ≠ i) : EnvR K mg P H φ (ρ.set i (some d)) (σ.set i (some v)) := by
  refine ⟨by simp [e.len], fun {j u} h => ?_, fun p hp d v h1 h2 => ?_⟩
  · by_cases hj : i = j
    · subst hj
      have hl : i < ρ.length := by
        have := (List.getElem?_eq_some_iff.mp h).1
        simpa using this
      rw [List.getElem?_set_self hl] at h
      have hl2 : i < σ.length := by rw [← e.len]; exact hl
      rw [List.getElem?_set_self hl2]
      cases h
      exact ⟨v, rfl, r⟩
    · rw [List.getElem?_set_ne hj] at h ⊢
      exact e.rep h
  · have hj : i ≠ p.1 := fun z => hP p hp z.symm
    rw [List.getElem?_set_ne hj] at h1 h2
    exact e.exn p hp d v h1 h2
theorem EnvR.unset {P : List (Nat × Addr × Obj)} {ρ : Env} {σ : L2.St} (e : EnvR K mg P H φ ρ σ) (i : Nat) (o : Option V) : EnvR K mg P H φ (ρ.set i none) (σ.set i o) := by
  have key : ∀ {j : Nat} {u : D}, (ρ.set i none)[j]? = some (some u) → i ≠ j := fun {j u} h hj => by
    subst hj
    have hl : i < ρ.length := by
      have := (List.getElem?_eq_some_iff.mp h).1
      simpa using this
    rw [List.getElem?_set_self hl] at h
    cases h
  refine ⟨by simp [e.len], fun {j u} h => ?_, fun p hp d v h1 h2 => ?_⟩
  · have hj := key h
    rw [List.getElem?_set_ne hj] at h ⊢
    exact e.rep h
  · have hj := key h1
    rw [List.getElem?_set_ne hj] at h1 h2
    exact e.exn p hp d v h1 h2
end
/-- what a value's meaning may stand for -/
abbrev Rel (β γ : Type) := PySem.W.Frag → (Str → Option Value) → Hp → Ph → β → γ → Prop
def RelB : Rel Bool Bool := fun _ _ _ _ b c => c = b
section
variable (K : PySem.W.Frag) (mg : Str → Option Value) (W : WX)
def PostG {β γ : Type} (rel : Rel β γ) (bs : List Nat) (σ : L2.St) (H : Hp) (φ : Ph) (r : R β) (Q : γ → Hp → Prop) : Prop := match r with
  | .ok d S' => ∀ v H' φ', Ext H φ H' φ' → Sim K mg H' φ' bs S' → rel K mg H' φ' d v → Q v H'
  | .ex e S' => ∀ cls dx H' φ', Ext H φ H' φ' → Sim K mg H' φ' bs S' → ExR K mg H' φ' e cls dx → W cls dx σ H'
  | .bad => False
def PostS (P : List (Nat × Addr × Obj)) (bs : List Nat) (H : Hp) (φ : Ph) (r : SR) (E : Ends) : Prop := match r with
  | .nx ρ S' => ∀ σ H' φ', Ext H φ H' φ' → Sim K mg H' φ' bs S' → EnvR K mg P H' φ' ρ σ → E.nx σ H'
  | .bk ρ S' => ∀ σ H' φ', Ext H φ H' φ' → Sim K mg H' φ' bs S' → EnvR K mg P H' φ' ρ σ → E.bk σ H'
  | .ct ρ S' => ∀ σ H' φ', Ext H φ H' φ' → Sim K mg H' φ' bs S' → EnvR K mg P H' φ' ρ σ → E.ct σ H'
  | .rt d S' => ∀ v H' φ', Ext H φ H' φ' → Sim K mg H' φ' bs S' → Rep K mg H' φ' d v → E.rt v H'
  | .ex e ρ S' => ∀ cls dx σ H' φ', Ext H φ H' φ' → Sim K mg H' φ' bs S' → EnvR K mg P H' φ' ρ σ → ExR K mg H' φ' e cls dx → W cls dx σ H'
  | .bad => False
end
section
variable (X : Cx) (W : WX)
abbrev Post := PostG X.K X.mg W Rep
abbrev PostL := PostG X.K X.mg W RepL
abbrev PostB := PostG X.K X.mg W RelB
def tG {β γ : Type} (rel : Rel β γ) (f : Env → Sto → R β) : L2.St → Hp → (γ → Hp → Prop) → Prop := fun σ H Q => ∃ φ bs ρ S, Sim X.K X.mg H φ bs S ∧ EnvR X.K X.mg (xp X) H φ ρ σ ∧ PostG X.K X.mg W rel bs σ H φ (f ρ S) Q
abbrev tE (f : EM) : TE := tG X W Rep f
abbrev tA (f : AM) : TA := tG X W RepL f
abbrev tT (f : TM) : TT := tG X W RelB f
def tS (f : SM) : TS := fun E σ H => ∃ φ bs ρ S, Sim X.K X.mg H φ bs S ∧ EnvR X.K X.mg (xp X) H φ ρ σ ∧ PostS X.K X.mg W (xp X) bs H φ (f ρ S) E
abbrev DE (e : Expr) (f : EM) : Prop := PE X e (tE X W f)
abbrev DT (e : Expr) (f : TM) : Prop := PT X e (tT X W f)
abbrev DW (e : Expr) (f : TM) : Prop := PW X e (tT X W f)
abbrev DA (es : List Expr) (f : AM) : Prop := PA X es (tA X W f)
abbrev DS (st : Stmt) (f : SM) : Prop := PS X st (tS X W f)
abbrev DSs (st : List Stmt) (f : SM) : Prop := PSs X st (tS X W f)
end
theorem _root_.L2.PE.wk {X : Cx} {e : Expr} {t t' : TE} (h : PE X e t) (w : ∀ σ H Q, t' σ H Q → t σ H Q) : PE X e t' := ⟨fun pins s σ H Q I q => h.run pins s σ H Q I (w _ _ _ q)⟩
theorem _root_.L2.PT.wk {X : Cx} {e : Expr} {t t' : TT} (h : PT X e t) (w : ∀ σ H Q, t' σ H Q → t σ H Q) : PT X e t' := ⟨fun pins s σ H Q I q => h.run pins s σ H Q I (w _ _ _ q)⟩
theorem _root_.L2.PW.wk {X : Cx} {e : Expr} {t t' : TT} (h : PW X e t) (w : ∀ σ H Q, t' σ H Q → t σ H Q) : PW X e t' := ⟨fun wh pins s σ H Q I q => h.run wh pins s σ H Q I (w _ _ _ q)⟩
theorem _root_.L2.PA.wk {X : Cx} {e : List Expr} {t t' : TA} (h : PA X e t) (w : ∀ σ H Q, t' σ H Q → t σ H Q) : PA X e t' := ⟨fun pos pins s σ H Q I q => h.run pos pins s σ H Q I (w _ _ _ q)⟩
theorem _root_.L2.PS.wk {X : Cx} {e : Stmt} {t t' : TS} (h : PS X e t) (w : ∀ D σ H, t' D σ H → t D σ H) : PS X e t' := ⟨fun pins s σ H D I q => h.run pins s σ H D I (w _ _ _ q)⟩
theorem _root_.L2.PSs.wk {X : Cx} {e : List Stmt} {t t' : TS} (h : PSs X e t) (w : ∀ D σ H, t' D σ H → t D σ H) : PSs X e t' := ⟨fun pins s σ H D I q => h.run pins s σ H D I (w _ _ _ q)⟩
theorem _root_.L2.PE.or {X : Cx} {e : Expr} {t t' : TE} (h : PE X e t) (h' : PE X e t') : PE X e (fun σ H Q => t σ H Q ∨ t' σ H Q) :=
  ⟨fun pins s σ H Q I q => q.elim (h.run pins s σ H Q I) (h'.run pins s σ H Q I)⟩
theorem _root_.L2.PI.or {X : Cx} {tg e : Expr} {t t' : TI} (h : PI X tg e t) (h' : PI X tg e t') : PI X tg e (fun σ H Q => t σ H Q ∨ t' σ H Q) :=
  ⟨fun pins s σ H Q I q => q.elim (h.run pins s σ H Q I) (h'.run pins s σ H Q I)⟩
section
variable {X : Cx} {K : PySem.W.Frag} {mg : Str → Option Value} {W : WX} {bs : List Nat} {σ : L2.St} {H H1 : Hp} {φ φ1 : Ph} {ρ : Env} {S : Sto}
theorem PostG.shift {β γ : Type} {rel : Rel β γ} {r : R β} {Q : γ → Hp → Prop} (x : Ext H φ H1 φ1) (h : PostG K mg W rel bs σ H φ r Q) : PostG K mg W rel bs σ H1 φ1 r Q := by
  cases r with
  | ok d S' => exact fun v H' φ' y => h v H' φ' (x.trans y)
  | ex e S' => exact fun c d H' φ' y => h c d H' φ' (x.trans y)
  | bad => exact h
theorem PostS.shift {P : List (Nat × Addr × Obj)} {r : SR} {E : Ends} (x : Ext H φ H1 φ1) (h : PostS K mg W P bs H φ r E) : PostS K mg W P bs H1 φ1 r E := by
  cases r with
  | nx d S' => exact fun v H' φ' y => h v H' φ' (x.trans y)
  | rt d S' => exact fun v H' φ' y => h v H' φ' (x.trans y)
  | bk d S' => exact fun v H' φ' y => h v H' φ' (x.trans y)
  | ct d S' => exact fun v H' φ' y => h v H' φ' (x.trans y)
  | ex e ρ S' => exact fun c d σ H' φ' y => h c d σ H' φ' (x.trans y)
  | bad => exact h
theorem PostG.done {β γ : Type} {rel : Rel β γ} {d : β} {v : γ} {Q : γ → Hp → Prop} (s : Sim K mg H φ bs S) (r : rel K mg H φ d v) (h : PostG K mg W rel bs σ H φ (.ok d S) Q) : Q v H := h v H φ (.refl _ _) s r
/-- first f, then what k makes of its value -/
theorem tG_then {β γ β' γ' : Type} {rel : Rel β γ} {rel' : Rel β' γ'} {f : Env → Sto → R β} {k : β → Sto → R β'} {Q : γ' → Hp → Prop} {Q1 : γ → Hp → Prop} (s : Sim X.K X.mg H φ bs S) (e : EnvR X.K X.mg (xp X) H φ ρ σ)
    (h : PostG X.K X.mg W rel' bs σ H φ ((f ρ S).bind k) Q)
    (g : ∀ d S1 v H1 φ1, Ext H φ H1 φ1 → Sim X.K X.mg H1 φ1 bs S1 → EnvR X.K X.mg (xp X) H1 φ1 ρ σ → rel X.K X.mg H1 φ1 d v → PostG X.K X.mg W rel' bs σ H1 φ1 (k d S1) Q → Q1 v H1) : tG X W rel f σ H Q1 := by
  refine ⟨φ, bs, ρ, S, s, e, ?_⟩
  revert h
  cases f ρ S with
  | ok d S1 => exact fun h v H1 φ1 x s1 r => g d S1 v H1 φ1 x s1 (e.ext x s.cells) r (PostG.shift x h)
  | ex d S1 => exact fun h => h
  | bad => exact fun h => h
/-- .. in a statement -/
def R.bindS {α : Type} (ρ : Env) (r : R α) (k : α → Sto → SR) : SR := match r with
  | .ok a S => k a S
  | .ex e S => .ex e ρ S
  | .bad => .bad
theorem tG_thenS {β γ : Type} {rel : Rel β γ} {f : Env → Sto → R β} {k : β → Sto → SR} {E : Ends} {Q1 : γ → Hp → Prop} (s : Sim X.K X.mg H φ bs S) (e : EnvR X.K X.mg (xp X) H φ ρ σ)
    (h : PostS X.K X.mg W (xp X) bs H φ (R.bindS ρ (f ρ S) k) E)
    (g : ∀ d S1 v H1 φ1, Ext H φ H1 φ1 → Sim X.K X.mg H1 φ1 bs S1 → EnvR X.K X.mg (xp X) H1 φ1 ρ σ → rel X.K X.mg H1 φ1 d v → PostS X.K X.mg W (xp X) bs H1 φ1 (k d S1) E → Q1 v H1) : tG X W rel f σ H Q1 := by
  refine ⟨φ, bs, ρ, S, s, e, ?_⟩
  revert h
  cases f ρ S with
  | ok d S1 => exact fun h v H1 φ1 x s1 r => g d S1 v H1 φ1 x s1 (e.ext x s.cells) r (PostS.shift x h)
  | ex d S1 => exact fun h c dx H' φ' x s1 r => h c dx σ H' φ' x s1 (e.ext x s.cells) r
  | bad => exact fun h => h
end
end Mi

namespace Mi
open PySem PySem.Spec PyProof.Rows L2

/-! ### cells and heaps -/
theorem Sto.get_all (S : Sto) (n : Nat) : S.get n = S.all[n]? := by
  unfold Sto.get Sto.all
  by_cases h : n < S.old.length
  · rw [if_pos h, List.getElem?_append_left h]
  · rw [if_neg h, List.getElem?_append_right (by omega)]
theorem Sto.set_all (S : Sto) (n : Nat) (c : Cell) : (S.set n c).all = S.all.set n c := by
  unfold Sto.set Sto.all
  by_cases h : n < S.old.length
  · rw [if_pos h, List.set_append_left _ _ h]
  · rw [if_neg h, List.set_append_right _ _ (by omega)]
theorem Sto.set_old (S : Sto) (n : Nat) (c : Cell) : (S.set n c).old.length = S.old.length := by
  unfold Sto.set
  split
  · exact List.length_set
  · rfl
theorem Sto.add_all (S : Sto) (c : Cell) : (S.add c).all = S.all ++ [c] := by
  unfold Sto.add Sto.all
  rw [List.append_assoc]
theorem Sto.new_all (S : Sto) : S.new = S.all.length := by
  unfold Sto.new Sto.all
  rw [List.length_append]
section
variable {K : PySem.W.Frag} {mg : Str → Option Value} {H H' : Hp} {φ φ' : Ph} {bs : List Nat} {S : Sto} {p : Addr} {o : HO}
theorem CellOk.kp {a : Addr} {c : Cell} (x : Keeps H φ H' φ') (cs : Cells H φ) (e : H' a = H a) (h : CellOk K mg H φ a c) : CellOk K mg H' φ' a c := by
  cases c with
  | lst ds => obtain ⟨vs, h1, h2⟩ := h; exact ⟨vs, e.trans h1, h2.kp x cs⟩
  | dic ds => obtain ⟨vs, h1, h2⟩ := h; exact ⟨vs, e.trans h1, h2.kp x cs⟩
  | ins c fs => obtain ⟨C, dx, vs, h0, h1, h2⟩ := h; exact ⟨C, dx, vs, h0, e.trans h1, h2.kp x cs⟩
theorem CellOk.ext {a : Addr} {c : Cell} (x : Ext H φ H' φ') (cs : Cells H φ) (e : H' a = H a) (h : CellOk K mg H φ a c) : CellOk K mg H' φ' a c := h.kp x.keeps cs e
theorem Sim.fresh (s : Sim K mg H φ bs S) (hp : H p = none) : ¬ φ.has p := fun hm => by
  rcases s.cells p hm with ⟨_, e⟩ | ⟨_, e⟩ | ⟨_, _, _, e⟩ <;> (rw [hp] at e; cases e)
theorem Ext.new (s : Sim K mg H φ bs S) (hp : H p = none) : Ext H φ (upd H p o) φ := by
  refine ⟨⟨[], by simp, fun _ h => by simp at h⟩, rfl, fun b hb => upd_ne fun e => s.fresh hp (.inr (e ▸ hb)), fun b u h _ => ?_, fun b u h => ⟨u, ?_⟩⟩
  · rw [upd_ne (ne_of_none h hp)]; exact h
  · rw [upd_ne (ne_of_none h hp)]; exact h
theorem Sim.new (s : Sim K mg H φ bs S) (hp : H p = none) : Sim K mg (upd H p o) φ bs S := by
  refine ⟨s.len, s.nd, s.dis, fun a ha => ?_, fun n a c h1 h2 => ?_, s.hd, s.cl⟩
  · obtain ⟨u, e⟩ := (s.hid a ha).some
    rw [upd_ne (ne_of_none e hp)]; exact s.hid a ha
  · have ha : φ.has a := .inl (List.mem_of_getElem? h1)
    exact (s.cell n a c h1 h2).ext (Ext.new s hp) s.cells (upd_ne fun e => s.fresh hp (e ▸ ha))
theorem Ext.newCell (s : Sim K mg H φ bs S) (hp : H p = none) : Ext H φ (upd H p o) (φ.add p) := by
  have x := Ext.new (o := o) s hp
  refine ⟨⟨[p], rfl, fun b hb => ?_⟩, rfl, x.hk, x.keep, x.there⟩
  have e : b = p := by simpa using hb
  rw [e]; exact hp
/-- a new cell, its address laid already -/
theorem Sim.adopt {c : Cell} {H0 : Hp} (s : Sim K mg H0 φ bs S) (hc : φ'.c = φ.c ++ [p]) (hp : p ∉ φ.c) (hd : ∀ a ∈ φ'.c, a ∉ φ'.h) (hh : ∀ a ∈ φ'.h, Hdn (H a)) (x : Keeps H0 φ H φ') (hs : ∀ a ∈ φ.c, H a = H0 a) (h : CellOk K mg H φ' p c) : Sim K mg H φ' bs (S.add c) := by
  have hnd : (φ.c ++ [p]).Nodup := by
    rw [List.nodup_append]
    refine ⟨s.nd, by simp, fun a ha b hb => ?_⟩
    have e : b = p := by simpa using hb
    subst e
    intro e2; subst e2; exact hp ha
  refine ⟨by rw [Sto.add_all, hc, List.length_append, List.length_append, s.len]; rfl, by rw [hc]; exact hnd, hd, hh, fun n a d h1 h2 => ?_, s.hd, fun b hb => ?_⟩
  · rw [hc] at h1
    rw [Sto.add_all] at h2
    by_cases hn : n < φ.c.length
    · rw [List.getElem?_append_left hn] at h1
      rw [List.getElem?_append_left (by rw [← s.len]; exact hn)] at h2
      exact (s.cell n a d h1 h2).kp x s.cells (hs a (List.mem_of_getElem? h1))
    · have h1' := h1
      have h2' := h2
      rw [List.getElem?_append_right (by omega)] at h1'
      rw [List.getElem?_append_right (by rw [← s.len]; omega), ← s.len] at h2'
      have hz : n - φ.c.length = 0 := by
        have := (List.getElem?_eq_some_iff.mp h1').1
        simp at this; omega
      rw [hz] at h1' h2'
      simp at h1' h2'
      subst h1' h2'
      exact h
  · obtain ⟨h1, h2⟩ := s.cl b hb
    refine ⟨h1, fun n d hn e => ?_⟩
    rw [Sto.add_all] at e
    have : n < S.all.length := by
      unfold Sto.all; rw [List.length_append]; omega
    rw [List.getElem?_append_left this] at e
    exact h2 n d hn e
theorem Sim.newCell {c : Cell} (s : Sim K mg H φ bs S) (hp : H p = none) (h : CellOk K mg (upd H p o) (φ.add p) p c) : Sim K mg (upd H p o) (φ.add p) bs (S.add c) := by
  refine s.adopt rfl (fun q => s.fresh hp (.inl q)) (fun a ha => ?_) (fun a ha => ?_) (Ext.newCell s hp).keeps (fun a ha => upd_ne fun e => s.fresh hp (.inl (e ▸ ha))) h
  · have ha' : a ∈ φ.c ++ [p] := ha
    show a ∉ φ.h
    rcases List.mem_append.mp ha' with z | z
    · exact s.dis a z
    · have e : a = p := by simpa using z
      rw [e]; exact fun q => s.fresh hp (.inr q)
  · obtain ⟨u, e⟩ := (s.hid a ha).some
    rw [upd_ne (ne_of_none e hp)]; exact s.hid a ha
theorem Ext.wr {n : Nat} {a : Addr} (s : Sim K mg H φ bs S) (ha : φ.c[n]? = some a) : Ext H φ (upd H a o) φ := by
  have hm : φ.has a := .inl (List.mem_of_getElem? ha)
  refine ⟨⟨[], by simp, fun _ h => by simp at h⟩, rfl, fun b hb => upd_ne fun e => s.dis a (List.mem_of_getElem? ha) (e ▸ hb), fun b u h hn => ?_, fun b u h => ?_⟩
  · rw [upd_ne (show b ≠ a from fun e => hn (e ▸ hm))]; exact h
  · by_cases e : b = a
    · exact ⟨o, by rw [e, upd_same]⟩
    · exact ⟨u, by rw [upd_ne e]; exact h⟩
mutual
theorem D.lt_mono {a b : Nat} (h : a ≤ b) : ∀ d : D, d.lt a = true → d.lt b = true
  | .non, _ => rfl
  | .bl _, _ => rfl
  | .int _, _ => rfl
  | .str _, _ => rfl
  | .exn _, _ => rfl
  | .tup xs, q => D.ltL_mono h xs q
  | .lst xs, q => D.ltL_mono h xs q
  | .frl xs, q => D.ltL_mono h xs q
  | .dic kvs, q => D.ltK_mono h kvs q
  | .obj _ fs, q => D.ltF_mono h fs q
  | .ref n, q => by
    have q' : decide (n < a) = true := q
    show decide (n < b) = true
    simp only [decide_eq_true_eq] at q' ⊢
    omega
theorem D.ltL_mono {a b : Nat} (h : a ≤ b) : ∀ d : List D, D.ltL a d = true → D.ltL b d = true
  | [], _ => rfl
  | x :: xs, q => by
    have q' : (D.lt a x && D.ltL a xs) = true := q
    show (D.lt b x && D.ltL b xs) = true
    rw [Bool.and_eq_true] at q' ⊢
    exact ⟨D.lt_mono h x q'.1, D.ltL_mono h xs q'.2⟩
theorem D.ltK_mono {a b : Nat} (h : a ≤ b) : ∀ d : List (Key × D), D.ltK a d = true → D.ltK b d = true
  | [], _ => rfl
  | (_, x) :: xs, q => by
    have q' : (D.lt a x && D.ltK a xs) = true := q
    show (D.lt b x && D.ltK b xs) = true
    rw [Bool.and_eq_true] at q' ⊢
    exact ⟨D.lt_mono h x q'.1, D.ltK_mono h xs q'.2⟩
theorem D.ltF_mono {a b : Nat} (h : a ≤ b) : ∀ d : List (Str × D), D.ltF a d = true → D.ltF b d = true
  | [], _ => rfl
  | (_, x) :: xs, q => by
    have q' : (D.lt a x && D.ltF a xs) = true := q
    show (D.lt b x && D.ltF b xs) = true
    rw [Bool.and_eq_true] at q' ⊢
    exact ⟨D.lt_mono h x q'.1, D.ltF_mono h xs q'.2⟩
end
theorem Cell.lt_mono {a b : Nat} (h : a ≤ b) : ∀ c : Cell, c.lt a = true → c.lt b = true
  | .lst xs, q => D.ltL_mono h xs q
  | .dic xs, q => D.ltK_mono h xs q
  | .ins _ xs, q => D.ltF_mono h xs q
/-- a cell is written -/
theorem Sim.wr {n : Nat} {a : Addr} {c : Cell} (s : Sim K mg H φ bs S) (ha : φ.c[n]? = some a) (may : S.may n c = true) (h : CellOk K mg (upd H a o) φ a c) : Sim K mg (upd H a o) φ bs (S.set n c) := by
  refine ⟨by rw [Sto.set_all, List.length_set]; exact s.len, s.nd, s.dis, fun b hb => ?_, fun m b d h1 h2 => ?_, by rw [Sto.set_old]; exact s.hd, fun b hb => ?_⟩
  · rw [upd_ne (show b ≠ a from fun z => s.dis a (List.mem_of_getElem? ha) (by rw [← z]; exact hb))]; exact s.hid b hb
  · rw [Sto.set_all] at h2
    by_cases hm : n = m
    · subst hm
      rw [ha] at h1; cases h1
      have hl : n < S.all.length := by
        have := (List.getElem?_eq_some_iff.mp h2).1
        simpa using this
      rw [List.getElem?_set_self hl] at h2
      cases h2
      exact h
    · rw [List.getElem?_set_ne hm] at h2
      refine (s.cell m b d h1 h2).ext (Ext.wr s ha) s.cells (upd_ne fun e => ?_)
      subst e
      obtain ⟨l1, e1⟩ := List.getElem?_eq_some_iff.mp ha
      obtain ⟨l2, e2⟩ := List.getElem?_eq_some_iff.mp h1
      exact hm ((List.getElem_inj s.nd).mp (e1.trans e2.symm))
  · obtain ⟨h1, h2⟩ := s.cl b hb
    refine ⟨by rw [Sto.set_old]; exact h1, fun m d hm e => ?_⟩
    rw [Sto.set_all] at e
    by_cases hn : n = m
    · subst hn
      have hl : n < S.all.length := by
        have := (List.getElem?_eq_some_iff.mp e).1
        simpa using this
      rw [List.getElem?_set_self hl] at e
      cases e
      unfold Sto.may at may
      rw [Bool.or_eq_true] at may
      rcases may with q | q
      · have q' := of_decide_eq_true q
        omega
      · exact Cell.lt_mono (Nat.zero_le _) _ q
    · rw [List.getElem?_set_ne hn] at e
      exact h2 m d hm e
/-- the cell that a reference means -/
theorem Sim.at {n : Nat} {c : Cell} {v : V} (s : Sim K mg H φ bs S) (r : Rep K mg H φ (.ref n) v) (e : S.get n = some c) : ∃ a, v = .ref a ∧ φ.c[n]? = some a ∧ CellOk K mg H φ a c := by
  cases r with
  | ref h => exact ⟨_, rfl, h, s.cell n _ c h (by rw [← Sto.get_all]; exact e)⟩
end

/-! ### what a new list is taken for: a value that stays (false), a cell (true) -/
def mkL (c : Bool) (xs : List D) (S : Sto) : R D := if c then .ok (.ref S.new) (S.add (.lst xs)) else .ok (.lst xs) S
def mkD (c : Bool) (xs : List (Key × D)) (S : Sto) : R D := if c then .ok (.ref S.new) (S.add (.dic xs)) else .ok (.dic xs) S
section
variable {X : Cx} {W : WX} {bs : List Nat} {σ : L2.St} {H : Hp} {φ : Ph} {S : Sto} {Q : VK} {p : Addr}
theorem mkL_ok {c : Bool} {ds : List D} {vs : List V} (s : Sim X.K X.mg H φ bs S) (r : RepL X.K X.mg H φ ds vs) (hp : H p = none) (h : Post X W bs σ H φ (mkL c ds S) Q) : Q (.ref p) (upd H p (.lst vs)) := by
  cases c with
  | false =>
    have x : Ext H φ (upd H p (.lst vs)) φ := Ext.new s hp
    exact h _ _ _ x (s.new hp) (.lst upd_same (s.fresh hp) (r.ext x s.cells))
  | true =>
    have x : Ext H φ (upd H p (.lst vs)) (φ.add p) := Ext.newCell s hp
    refine h _ _ _ x (s.newCell hp ⟨vs, upd_same, r.ext x s.cells⟩) (.ref ?_)
    show (φ.c ++ [p])[S.new]? = some p
    rw [Sto.new_all, ← s.len, List.getElem?_append_right (Nat.le_refl _)]
    simp
theorem mkD_ok {c : Bool} {ds : List (Key × D)} {vs : List (Key × V)} (s : Sim X.K X.mg H φ bs S) (r : RepK X.K X.mg H φ ds vs) (hp : H p = none) (h : Post X W bs σ H φ (mkD c ds S) Q) : Q (.ref p) (upd H p (.dK vs)) := by
  cases c with
  | false =>
    have x : Ext H φ (upd H p (.dK vs)) φ := Ext.new s hp
    exact h _ _ _ x (s.new hp) (.dic (.inl upd_same) (s.fresh hp) (r.ext x s.cells))
  | true =>
    have x : Ext H φ (upd H p (.dK vs)) (φ.add p) := Ext.newCell s hp
    refine h _ _ _ x (s.newCell hp ⟨vs, upd_same, r.ext x s.cells⟩) (.ref ?_)
    show (φ.c ++ [p])[S.new]? = some p
    rw [Sto.new_all, ← s.len, List.getElem?_append_right (Nat.le_refl _)]
    simp
theorem tup_ok {ds : List D} {vs : List V} (s : Sim X.K X.mg H φ bs S) (r : RepL X.K X.mg H φ ds vs) (hp : H p = none) (h : Post X W bs σ H φ (.ok (.tup ds) S) Q) : Q (.ref p) (upd H p (.tup vs)) := by
  have x : Ext H φ (upd H p (.tup vs)) φ := Ext.new s hp
  exact h _ _ _ x (s.new hp) (.tup (.of upd_same) (r.ext x s.cells))
end

/-! ### names and constants -/
def eVar (i : Nat) : EM := fun ρ S => match ρ[i]? with
  | some (some d) => .ok d S
  | _ => .bad
def eC (d : D) : EM := fun _ S => .ok d S
section
variable {X : Cx} {W : WX}
theorem tVar_wk {i : Nat} (σ : L2.St) (H : Hp) (Q : VK) (h : tE X W (eVar i) σ H Q) : tVar i σ H Q := by
  obtain ⟨φ, bs, ρ, S, s, e, h⟩ := h
  unfold eVar at h
  split at h
  · rename_i d hd
    obtain ⟨v, h1, h2⟩ := e.rep hd
    exact ⟨v, h1, PostG.done s h2 h⟩
  · exact h.elim
theorem de_v (i : Nat) {x : Str} {pos : Pos} (hN : X.N[i]? = some x := by rfl) (hv : Vis X.env.scope x := by first | exact Or.inl rfl | exact Or.inr (Or.inl rfl) | exact Or.inr (Or.inr rfl)) (hd : (x == ("__debug__" : Str)) = false := by decide)
    (hcd : (x == ("__classdict__" : Str)) = false := by decide) : DE X W (.Name x pos) (eVar i) := (pv i hN hv hd hcd).wk tVar_wk
theorem tC_wk {d : D} {v : V} (r : ∀ H φ, Rep X.K X.mg H φ d v) (σ : L2.St) (H : Hp) (Q : VK) (h : tE X W (eC d) σ H Q) : tC v σ H Q := by
  obtain ⟨φ, bs, ρ, S, s, e, h⟩ := h
  exact PostG.done s (r H φ) h
theorem de_int {i j pos} : DE X W (.Constant (.int i) j pos) (eC (.int i)) := pe_int.wk (tC_wk fun _ _ => .int i)
theorem de_bl {i j pos} : DE X W (.Constant (.bool i) j pos) (eC (.bl i)) := pe_bl.wk (tC_wk fun _ _ => .bl i)
theorem de_non {j pos} : DE X W (.Constant .none j pos) (eC .non) := pe_non.wk (tC_wk fun _ _ => .non)
theorem Rep.strOf {K : PySem.W.Frag} {mg : Str → Option Value} {H : Hp} {φ : Ph} (x : Str) (g : goodS x.cps.toList = true) : Rep K mg H φ (.str x.cps.toList) (.str x) := by
  have h := Rep.str (K := K) (mg := mg) (H := H) (φ := φ) x.cps.toList g
  rwa [Array.toArray_toList] at h
theorem de_str {x j pos} (g : goodS x.cps.toList = true := by decide +kernel) : DE X W (.Constant (.str x) j pos) (eC (.str x.cps.toList)) := pe_str.wk (tC_wk fun _ _ => .strOf x g)
theorem good_append {a b : List Nat} (h : goodS a = true) (h' : goodS b = true) : goodS (a ++ b) = true := by
  unfold goodS at *
  rw [List.all_append, h, h'] <;> rfl
theorem good_mem {a : List Nat} : goodS a = true ↔ ∀ c ∈ a, c < 1114112 := by
  unfold goodS
  rw [List.all_eq_true]
  constructor
  · exact fun h c hc => of_decide_eq_true (h c hc)
  · exact fun h c hc => decide_eq_true (h c hc)
/-- a name of the module: its value -/
def Glob (K : PySem.W.Frag) (mg : Str → Option Value) (x : Str) (d : D) : Prop := ∃ (v : V) (u : Value), mg x = some u ∧ RelV v u ∧ ∀ H φ, Rep K mg H φ d v
theorem de_g {x : Str} {d : D} {pos : Pos} (h : Glob X.K X.mg x d) (hg : Gl X x := by rfl) (hd : (x == ("__debug__" : Str)) = false := by decide) : DE X W (.Name x pos) (eC d) := by
  obtain ⟨v, u, hm, r, q⟩ := h
  exact (pe_glob hg hm r hd).wk (tC_wk q)

/-! ### operators -/
def eBin (f g : EM) (k : D → D → Sto → R D) : EM := fun ρ S => (f ρ S).bind fun x S1 => (g ρ S1).bind fun y S2 => k x y S2
def eUn (f : EM) (k : D → Sto → R D) : EM := fun ρ S => (f ρ S).bind k
/-- what an operation does, by values -/
def OpD (X : Cx) (W : WX) (r : R2) (k : D → D → Sto → R D) : Prop := ∀ bs σ H φ S dx dy x y Q, Sim X.K X.mg H φ bs S → Rep X.K X.mg H φ dx x → Rep X.K X.mg H φ dy y → Post X W bs σ H φ (k dx dy S) Q → r x y H Q
theorem tOp_wk {f g : EM} {k : D → D → Sto → R D} {r : R2} (hk : OpD X W r k) (σ : L2.St) (H : Hp) (Q : VK) (h : tE X W (eBin f g k) σ H Q) : tOp r (tE X W f) (tE X W g) σ H Q := by
  obtain ⟨φ, bs, ρ, S, s, e, h⟩ := h
  refine tG_then s e h fun dx S1 x H1 φ1 x1 s1 e1 r1 h1 => ?_
  refine tG_then s1 e1 h1 fun dy S2 y H2 φ2 x2 s2 e2 r2 h2 => ?_
  exact hk _ _ _ _ _ _ _ _ _ _ s2 (r1.ext x2 s1.cells) r2 h2
variable {a b : Expr} {f g : EM} {pos : Pos}
theorem de_bin {op : Operator} {r : R2} {k : D → D → Sto → R D} (ho : OpR X (binaryOp op) r) (hk : OpD X W r k) (ha : DE X W a f) (hb : DE X W b g) : DE X W (.BinOp a op b pos) (eBin f g k) := (pe_op ho ha hb).wk (tOp_wk hk)

def dAdd (c : Bool) : D → D → Sto → R D
  | .int i, .int j, S => .ok (.int (i + j)) S
  | .str x, .str y, S => if x.length + y.length ≤ sizeLine then .ok (.str (x ++ y)) S else .bad
  | .tup xs, .tup ys, S => if xs.length + ys.length ≤ sizeLine then .ok (.tup (xs ++ ys)) S else .bad
  | .lst xs, .lst ys, S => if xs.length + ys.length ≤ sizeLine then mkL c (xs ++ ys) S else .bad
  | .ref n, .lst ys, S => match S.get n with
    | some (.lst xs) => if xs.length + ys.length ≤ sizeLine then mkL c (xs ++ ys) S else .bad
    | _ => .bad
  | .lst xs, .ref n, S => match S.get n with
    | some (.lst ys) => if xs.length + ys.length ≤ sizeLine then mkL c (xs ++ ys) S else .bad
    | _ => .bad
  | .ref m, .ref n, S => match S.get m, S.get n with
    | some (.lst xs), some (.lst ys) => if xs.length + ys.length ≤ sizeLine then mkL c (xs ++ ys) S else .bad
    | _, _ => .bad
  | _, _, _ => .bad
def rAddU (K : PySem.W.Frag) : R2 := fun x y H Q => (rI0 (fun i j => .int (i + j)) x y H Q ∨ (∃ i j : Str, x = .str i ∧ y = .str j ∧ i.length + j.length ≤ sizeLine ∧ Q (.str (i ++ j)) H)) ∨ (rCatA K x y H Q ∨ rCat x y H Q)
theorem str_app (x y : List Nat) : (⟨x.toArray⟩ : Str) ++ (⟨y.toArray⟩ : Str) = ⟨(x ++ y).toArray⟩ := by
  show (⟨x.toArray ++ y.toArray⟩ : Str) = _
  simp
theorem op_addU : OpR X (binaryOp .Add) (rAddU X.K) := OpR.or (OpR.or op_add op_add_str) (OpR.or op_catA op_cat)
theorem if_bad {α : Type} {c : Prop} [Decidable c] {r : R α} {P : R α → Prop} (h : P (if c then r else .bad)) (hb : P .bad → False) : c ∧ P r := by
  by_cases q : c
  · rw [if_pos q] at h; exact ⟨q, h⟩
  · rw [if_neg q] at h; exact (hb h).elim
theorem add_ok {c : Bool} : OpD X W (rAddU X.K) (dAdd c) := by
  intro bs σ H φ S dx dy x y Q s rx ry h
  have lists : ∀ {xs ys : List D} {vs ws : List V} {p q : Addr}, H p = some (.lst vs) → H q = some (.lst ws) → RepL X.K X.mg H φ xs vs → RepL X.K X.mg H φ ys ws →
      Post X W bs σ H φ (if xs.length + ys.length ≤ sizeLine then mkL c (xs ++ ys) S else .bad) Q → rAddU X.K (.ref p) (.ref q) H Q := fun {xs ys vs ws p q} h1 h2 r1 r2 h => by
    obtain ⟨hl, h⟩ := if_bad (P := fun r => Post X W bs σ H φ r Q) h fun z => z
    exact .inr (.inr ⟨_, _, _, _, rfl, rfl, h1, h2, by rw [← r1.length, ← r2.length]; exact hl, fun p hp => mkL_ok s (r1.append r2) hp h⟩)
  cases rx with
  | int i =>
    cases ry with
    | int j => exact .inl (.inl ⟨i, j, rfl, rfl, PostG.done s (.int (i + j)) h⟩)
    | _ => exact h.elim
  | str i gi =>
    cases ry with
    | str j gj =>
      obtain ⟨hl, h⟩ := if_bad (P := fun r => Post X W bs σ H φ r Q) h fun z => z
      exact .inl (.inr ⟨_, _, rfl, rfl, by simpa [Str.length] using hl, by rw [str_app]; exact PostG.done s (.str (i ++ j) (good_append gi gj)) h⟩)
    | _ => exact h.elim
  | tup hx lx =>
    cases ry with
    | tup hy ly =>
      obtain ⟨hl, h⟩ := if_bad (P := fun r => Post X W bs σ H φ r Q) h fun z => z
      refine .inr (.inl ⟨_, _, _, _, rfl, rfl, hx, hy, by rw [← lx.length, ← ly.length]; exact hl, fun e => ?_, fun e1 e2 => ?_, fun e1 e2 p hp => ?_⟩)
      · subst e; cases lx; exact PostG.done s (.tup hy ly) h
      · subst e2
        cases ly
        rw [List.append_nil] at h
        exact PostG.done s (.tup hx lx) h
      · exact tup_ok s (lx.append ly) hp h
    | _ => exact h.elim
  | lst hx _ lx =>
    cases ry with
    | lst hy _ ly => exact lists hx hy lx ly h
    | @ref n b hb =>
      simp only [dAdd] at h
      split at h
      · rename_i ys e
        obtain ⟨_, ev, _, vs, hv, lv⟩ := s.at (.ref hb) e
        cases ev
        exact lists hx hv lx lv h
      · exact h.elim
    | _ => exact h.elim
  | @ref m a ha =>
    cases ry with
    | lst hy _ ly =>
      simp only [dAdd] at h
      split at h
      · rename_i ys e
        obtain ⟨_, ev, _, vs, hv, lv⟩ := s.at (.ref ha) e
        cases ev
        exact lists hv hy lv ly h
      · exact h.elim
    | @ref n b hb =>
      simp only [dAdd] at h
      split at h
      · rename_i xs ys e e'
        obtain ⟨_, ev, _, vs, hv, lv⟩ := s.at (.ref ha) e
        cases ev
        obtain ⟨_, ev, _, ws, hw, lw⟩ := s.at (.ref hb) e'
        cases ev
        exact lists hv hw lv lw h
      · exact h.elim
    | _ => exact h.elim
  | _ => exact h.elim
theorem de_add {c : Bool} (ha : DE X W a f) (hb : DE X W b g) : DE X W (.BinOp a .Add b pos) (eBin f g (dAdd c)) := de_bin op_addU add_ok ha hb
/-- two ints under C -/
def dI (C : Int → Int → Prop) [∀ i j, Decidable (C i j)] (k : Int → Int → Int) : D → D → Sto → R D
  | .int i, .int j, S => if C i j then .ok (.int (k i j)) S else .bad
  | _, _, _ => .bad
theorem dI_ok {C : Int → Int → Prop} [∀ i j, Decidable (C i j)] {k : Int → Int → Int} : OpD X W (rI C fun i j => .int (k i j)) (dI C k) := by
  intro bs σ H φ S dx dy x y Q s rx ry h
  cases rx with
  | int i =>
    cases ry with
    | int j =>
      obtain ⟨hl, h⟩ := if_bad (P := fun r => Post X W bs σ H φ r Q) h fun z => z
      exact ⟨i, j, rfl, rfl, hl, PostG.done s (.int _) h⟩
    | _ => exact h.elim
  | _ => exact h.elim
def dSub : D → D → Sto → R D
  | .int i, .int j, S => .ok (.int (i - j)) S
  | _, _, _ => .bad
theorem de_sub (ha : DE X W a f) (hb : DE X W b g) : DE X W (.BinOp a .Sub b pos) (eBin f g dSub) := de_bin op_sub (fun bs σ H φ S dx dy x y Q s rx ry h => by
  cases rx with
  | int i =>
    cases ry with
    | int j => exact ⟨i, j, rfl, rfl, PostG.done s (.int _) h⟩
    | _ => exact h.elim
  | _ => exact h.elim) ha hb
instance (i j : Int) : Decidable (CDivN i j) := by unfold CDivN; infer_instance
instance (i j : Int) : Decidable (CDiv i j) := by unfold CDiv; infer_instance
instance (i j : Int) : Decidable (CMul i j) := by unfold CMul; infer_instance
instance (i j : Int) : Decidable (CPow i j) := by unfold CPow; infer_instance
abbrev dMod := dI (fun _ j => 0 < j) fun i j => i % j
abbrev dDiv := dI CDiv fun i j => i / j
abbrev dPow := dI CPow fun i j => i ^ j.toNat
theorem de_mod (ha : DE X W a f) (hb : DE X W b g) : DE X W (.BinOp a .Mod b pos) (eBin f g dMod) := de_bin op_mod dI_ok ha hb
theorem de_fdiv (ha : DE X W a f) (hb : DE X W b g) : DE X W (.BinOp a .FloorDiv b pos) (eBin f g dDiv) := de_bin op_fdiv dI_ok ha hb
theorem de_pow (ha : DE X W a f) (hb : DE X W b g) : DE X W (.BinOp a .Pow b pos) (eBin f g dPow) := de_bin op_pow dI_ok ha hb
end
end Mi

namespace Mi
open PySem PySem.Spec PyProof.Rows L2

/-! ### data -/
mutual
def pyD : D → Option PyData
  | .non => some .none
  | .bl b => some (.bool b)
  | .int i => some (.int i)
  | .str s => some (.str ⟨s.toArray⟩)
  | .tup xs => (pyL xs).map .tuple
  | .lst xs => (pyL xs).map .list
  | .frl xs => (pyL xs).map .list
  | .dic _ => none
  | .obj _ _ => none
  | .ref _ => none
  | .exn _ => none
def pyL : List D → Option (List PyData)
  | [] => some []
  | x :: xs => match pyD x, pyL xs with
    | some a, some as => some (a :: as)
    | _, _ => none
end
def pyS (S : Sto) : D → Option PyData
  | .ref n => match S.get n with
    | some (.lst xs) => (pyL xs).map .list
    | _ => none
  | d => pyD d
/-- the items of a list -/
def lstS (S : Sto) : D → Option (List D)
  | .lst xs => some xs
  | .frl xs => some xs
  | .ref n => match S.get n with
    | some (.lst xs) => some xs
    | _ => none
  | _ => none
/-- the items of a list or a tuple -/
def seqS (S : Sto) : D → Option (List D)
  | .tup xs => some xs
  | d => lstS S d
def dicS (S : Sto) : D → Option (List (Key × D))
  | .dic xs => some xs
  | .ref n => match S.get n with
    | some (.dic xs) => some xs
    | _ => none
  | _ => none
def keyD : D → Option Key
  | .int i => some (.inl i)
  | .str s => some (.inr ⟨s.toArray⟩)
  | _ => none
section
variable {K : PySem.W.Frag} {mg : Str → Option Value} {H : Hp} {φ : Ph} {bs : List Nat} {S : Sto}
theorem FzL.sq {a : Addr} {vs : List V} (h : FzL K H a vs) : SqL K H a vs := by
  rcases h with ⟨o, h⟩ | h
  · exact .inl (.inr ⟨o, h⟩)
  · exact .inr h
theorem good_ok {s : List Nat} (h : goodS s = true) : PyData.canLay0 (.str ⟨s.toArray⟩) = true := by
  show PyData.strOk ⟨s.toArray⟩ = true
  unfold PyData.strOk
  show s.toArray.all _ = true
  rw [← Array.all_toList]
  exact h
mutual
theorem Rep.dp : ∀ {d : D} {v : V} {p : PyData}, Rep K mg H φ d v → pyD d = some p → Dp K H v p ∧ p.canLay0 = true
  | _, _, _, .non, e => by cases e; exact ⟨.non, rfl⟩
  | _, _, _, .bl b, e => by cases e; exact ⟨.bl b, rfl⟩
  | _, _, _, .int i, e => by cases e; exact ⟨.int i, rfl⟩
  | _, _, _, .str s g, e => by cases e; exact ⟨.str _, good_ok g⟩
  | _, _, p, .tup (ds := ds) h hl, e => by
    have e' : (pyL ds).map PyData.tuple = some p := e
    cases q : pyL ds with
    | none => rw [q] at e'; cases e'
    | some ps =>
      rw [q] at e'; cases e'
      obtain ⟨h1, h2⟩ := RepL.dp hl q
      exact ⟨.tup h h1, h2⟩
  | _, _, p, .lst (ds := ds) h _ hl, e => by
    have e' : (pyL ds).map PyData.list = some p := e
    cases q : pyL ds with
    | none => rw [q] at e'; cases e'
    | some ps =>
      rw [q] at e'; cases e'
      obtain ⟨h1, h2⟩ := RepL.dp hl q
      exact ⟨.lst (.of h) h1, h2⟩
  | _, _, p, .frl (ds := ds) h hl, e => by
    have e' : (pyL ds).map PyData.list = some p := e
    cases q : pyL ds with
    | none => rw [q] at e'; cases e'
    | some ps =>
      rw [q] at e'; cases e'
      obtain ⟨h1, h2⟩ := RepL.dp hl q
      exact ⟨.lst h.sq h1, h2⟩
  | _, _, _, .dic _ _ _, e => by cases e
  | _, _, _, .obj _ _ _ _, e => by cases e
  | _, _, _, .ref _, e => by cases e
theorem RepL.dp : ∀ {ds : List D} {vs : List V} {ps : List PyData}, RepL K mg H φ ds vs → pyL ds = some ps → DpAll K H vs ps ∧ PyData.canLayAll0 ps = true
  | _, _, _, .nil, e => by cases e; exact ⟨.nil, rfl⟩
  | _, _, ps, .cons (d := d) (ds := ds) h hl, e => by
    cases q1 : pyD d with
    | none => simp [pyL, q1] at e
    | some a =>
      cases q2 : pyL ds with
      | none => simp [pyL, q1, q2] at e
      | some as =>
        have e' : some (a :: as) = some ps := by
          simpa [pyL, q1, q2] using e
        cases e'
        obtain ⟨h1, h2⟩ := Rep.dp h q1
        obtain ⟨h3, h4⟩ := RepL.dp hl q2
        refine ⟨.cons h1 h3, ?_⟩
        show (a.canLay0 && PyData.canLayAll0 as) = true
        rw [h2, h4] <;> rfl
end
theorem Sim.dp (s : Sim K mg H φ bs S) {d : D} {v : V} {p : PyData} (r : Rep K mg H φ d v) (e : pyS S d = some p) : Dp K H v p ∧ p.canLay0 = true := by
  cases d with
  | ref n =>
    simp only [pyS] at e
    split at e
    · rename_i xs q
      obtain ⟨a, rfl, _, vs, hv, lv⟩ := s.at r q
      cases q2 : pyL xs with
      | none => rw [q2] at e; cases e
      | some ps =>
        rw [q2] at e; cases e
        obtain ⟨h1, h2⟩ := RepL.dp lv q2
        exact ⟨.lst (.of hv) h1, h2⟩
    · cases e
  | _ => exact r.dp e
theorem Sim.lst (s : Sim K mg H φ bs S) {d : D} {v : V} {xs : List D} (r : Rep K mg H φ d v) (e : lstS S d = some xs) : ∃ a vs, v = .ref a ∧ SqL K H a vs ∧ RepL K mg H φ xs vs := by
  cases r with
  | lst h _ hl => cases e; exact ⟨_, _, rfl, .of h, hl⟩
  | frl h hl => cases e; exact ⟨_, _, rfl, h.sq, hl⟩
  | @ref n a h =>
    simp only [lstS] at e
    split at e
    · rename_i ys q
      cases e
      obtain ⟨a', e', _, vs, hv, lv⟩ := s.at (.ref h) q
      cases e'
      exact ⟨_, _, rfl, .of hv, lv⟩
    · cases e
  | _ => cases e
theorem Sim.seq (s : Sim K mg H φ bs S) {d : D} {v : V} {xs : List D} (r : Rep K mg H φ d v) (e : seqS S d = some xs) : ∃ a vs, v = .ref a ∧ (SqL K H a vs ∨ SqT K H a vs) ∧ RepL K mg H φ xs vs := by
  by_cases ht : ∃ ys, d = .tup ys
  · obtain ⟨ys, rfl⟩ := ht
    cases e
    cases r with
    | tup h hl => exact ⟨_, _, rfl, .inr h, hl⟩
  · have e' : lstS S d = some xs := by
      cases d with
      | tup ys => exact absurd ⟨_, rfl⟩ ht
      | _ => exact e
    obtain ⟨a, vs, h1, h2, h3⟩ := s.lst r e'
    exact ⟨a, vs, h1, .inl h2, h3⟩
theorem Sim.dic (s : Sim K mg H φ bs S) {d : D} {v : V} {xs : List (Key × D)} (r : Rep K mg H φ d v) (e : dicS S d = some xs) : ∃ a vs, v = .ref a ∧ Rd H a (.dK vs) ∧ RepK K mg H φ xs vs := by
  cases r with
  | dic h _ hl => cases e; exact ⟨_, _, rfl, h, hl⟩
  | @ref n a h =>
    simp only [dicS] at e
    split at e
    · rename_i ys q
      cases e
      obtain ⟨a', e', _, vs, hv, lv⟩ := s.at (.ref h) q
      cases e'
      exact ⟨_, _, rfl, .inl hv, lv⟩
    · cases e
  | _ => cases e
theorem Rep.key {d : D} {v : V} {k : Key} (r : Rep K mg H φ d v) (e : keyD d = some k) : v = kV k := by
  cases r <;> cases e <;> rfl
def valD (kvs : List (Key × D)) (k : Key) : Option D := (kvs.find? fun kv => decide (kv.1 = k)).map (·.2)
theorem RepK.val {k : Key} : ∀ {ds : List (Key × D)} {vs : List (Key × V)}, RepK K mg H φ ds vs → (valD ds k = none ∧ valV vs k = none) ∨ ∃ d v, valD ds k = some d ∧ valV vs k = some v ∧ Rep K mg H φ d v
  | _, _, .nil => .inl ⟨rfl, rfl⟩
  | _, _, .cons (k := k') (d := d) (ds := ds) (v := v) (vs := vs) h t => by
    unfold valD valV
    rw [List.find?_cons, List.find?_cons]
    by_cases q : k' = k
    · subst q
      simp only [decide_true]
      exact .inr ⟨d, v, rfl, rfl, h⟩
    · simp only [decide_eq_false q]
      exact RepK.val t
end

/-! ### tests -/
/-- a value's truth -/
def truS (S : Sto) : D → Option Bool
  | .non => some false
  | .bl b => some b
  | .int i => some (i != 0)
  | .str s => if s.length ≤ sizeLine then some ((s.length : Int) != 0) else none
  | .tup xs => some (!xs.isEmpty)
  | .lst xs => some (!xs.isEmpty)
  | .frl xs => some (!xs.isEmpty)
  | .ref n => match S.get n with
    | some (.lst xs) => some (!xs.isEmpty)
    | some (.dic xs) => some (!xs.isEmpty)
    | _ => none
  | _ => none
/-- an answer that may lack -/
def R.of {α : Type} (S : Sto) : Option α → R α
  | some a => .ok a S
  | none => .bad
def eTru (f : EM) : TM := fun ρ S => (f ρ S).bind fun d S1 => .of S1 (truS S1 d)
/-- a bool's truth -/
def blD : D → Option Bool
  | .bl b => some b
  | _ => none
def eTst (f : EM) : TM := fun ρ S => (f ρ S).bind fun d S1 => .of S1 (blD d)
section
variable {X : Cx} {W : WX} {bs : List Nat} {σ : L2.St} {H : Hp} {φ : Ph} {S : Sto} {Q : Bool → Hp → Prop}
theorem isEmpty_repL {K : PySem.W.Frag} {mg : Str → Option Value} {ds : List D} {vs : List V} (r : RepL K mg H φ ds vs) : (!ds.isEmpty) = !vs.isEmpty := by
  cases r <;> rfl
theorem isEmpty_repK {K : PySem.W.Frag} {mg : Str → Option Value} {ds : List (Key × D)} {vs : List (Key × V)} (r : RepK K mg H φ ds vs) : (!ds.isEmpty) = !vs.isEmpty := by
  cases r <;> rfl
theorem of_post {α γ : Type} {K : PySem.W.Frag} {mg : Str → Option Value} {rel : Rel α γ} {o : Option α} {Q : γ → Hp → Prop} (h : PostG K mg W rel bs σ H φ (.of S o) Q) : ∃ a, o = some a ∧ PostG K mg W rel bs σ H φ (.ok a S) Q := by
  cases o with
  | some a => exact ⟨a, rfl, h⟩
  | none => exact h.elim
theorem Sim.tru {K : PySem.W.Frag} {mg : Str → Option Value} {d : D} {v : V} {b : Bool} (s : Sim K mg H φ bs S) (r : Rep K mg H φ d v) (h : truS S d = some b) : TruV K v H b := by
  cases r with
  | non => cases h; exact rfl
  | bl b => cases h; exact rfl
  | int i => cases h; exact rfl
  | str z g =>
    have h' : (if z.length ≤ sizeLine then some ((z.length : Int) != 0) else none) = some b := h
    by_cases q : z.length ≤ sizeLine
    · rw [if_pos q] at h'
      cases h'
      exact ⟨by simpa [Str.length] using q, by simp [Str.length]⟩
    · rw [if_neg q] at h'; cases h'
  | tup h1 h2 => cases h; exact .inr (.inl ⟨_, h1, isEmpty_repL h2⟩)
  | lst h1 _ h2 => cases h; exact .inl ⟨_, .of h1, isEmpty_repL h2⟩
  | frl h1 h2 => cases h; exact .inl ⟨_, h1.sq, isEmpty_repL h2⟩
  | dic _ _ _ => cases h
  | obj _ _ _ _ => cases h
  | exn _ _ => cases h
  | @ref n a h1 =>
    simp only [truS] at h
    split at h
    · rename_i xs e
      cases h
      obtain ⟨a', ev, _, vs, hv, lv⟩ := s.at (.ref h1) e
      cases ev
      exact .inl ⟨_, .of hv, isEmpty_repL lv⟩
    · rename_i xs e
      cases h
      obtain ⟨a', ev, _, vs, hv, lv⟩ := s.at (.ref h1) e
      cases ev
      exact .inr (.inr ⟨_, hv, isEmpty_repK lv⟩)
    · cases h
theorem Rep.bl' {K : PySem.W.Frag} {mg : Str → Option Value} {d : D} {v : V} {b : Bool} (r : Rep K mg H φ d v) (h : blD d = some b) : v = .bl b := by
  cases r <;> cases h <;> rfl
variable {a b c : Expr} {f g : EM} {t u : TM} {pos : Pos} {rest : List Expr}
theorem dt_val (ha : DE X W a f) (he : ∀ whole, isTrue a X.env whole = (do let v ← whole; standAt a.pos; holding [v] (truthy v)) := by intro _; rfl) : DT X W a (eTru f) := by
  refine (pt_truth ha he).wk fun σ H Q h => ?_
  obtain ⟨φ, bs, ρ, S, s, e, h⟩ := h
  refine tG_then s e h fun d S1 v H1 φ1 x1 s1 e1 r1 h1 => ?_
  obtain ⟨b, e2, h2⟩ := of_post h1
  exact ⟨b, s1.tru r1 e2, PostG.done (rel := RelB) s1 rfl h2⟩
theorem dt_cmp {op : CmpOp} {r : R2} {k : D → D → Sto → R D} (ho : OpR X (compareOp op) r) (hk : OpD X W r k) (ha : DE X W a f) (hb : DE X W b g) (hm : behindInMarks op b = false) : DT X W (.Compare a [op] [b] pos) (eTst (eBin f g k)) := by
  refine (pt_cmpR ho ha hb hm).wk fun σ H Q h => ?_
  obtain ⟨φ, bs, ρ, S, s, e, h⟩ := h
  refine tOp_wk (W := W) hk σ H _ ?_
  refine tG_then s e h fun d S1 v H1 φ1 x1 s1 e1 r1 h1 => ?_
  obtain ⟨b, e2, h2⟩ := of_post h1
  exact ⟨b, r1.bl' e2, PostG.done (rel := RelB) s1 rfl h2⟩
theorem de_cmp {op : CmpOp} {r : R2} {k : D → D → Sto → R D} (ho : OpR X (compareOp op) r) (hk : OpD X W r k) (ha : DE X W a f) (hb : DE X W b g) (hm : behindInMarks op b = false) : DE X W (.Compare a [op] [b] pos) (eBin f g k) :=
  (pe_cmpR ho ha hb hm).wk (tOp_wk hk)
def tNotM (t : TM) : TM := fun ρ S => (t ρ S).bind fun b S1 => .ok (!b) S1
def tAndM (t u : TM) : TM := fun ρ S => (t ρ S).bind fun b S1 => if b = true then u ρ S1 else .ok false S1
def tOrM (t u : TM) : TM := fun ρ S => (t ρ S).bind fun b S1 => if b = true then .ok true S1 else u ρ S1
theorem dt_not (h : DT X W a t) : DT X W (.UnaryOp .Not a pos) (tNotM t) := by
  refine (pt_not h).wk fun σ H Q h => ?_
  obtain ⟨φ, bs, ρ, S, s, e, h⟩ := h
  exact tG_then s e h fun d S1 v H1 φ1 x1 s1 e1 r1 h1 => by
    have r1' : v = d := r1
    subst r1'
    exact PostG.done (rel := RelB) s1 rfl h1
theorem dw_and (ha : DT X W a t) (hb : DW X W (.BoolOp .And (b :: rest) pos) u) : DW X W (.BoolOp .And (a :: b :: rest) pos) (tAndM t u) := by
  refine (pw_and ha hb).wk fun σ H Q h => ?_
  obtain ⟨φ, bs, ρ, S, s, e, h⟩ := h
  exact tG_then s e h fun d S1 v H1 φ1 x1 s1 e1 r1 h1 => by
    have r1' : v = d := r1
    subst r1'
    cases v with
    | true => exact iteT ⟨φ1, bs, ρ, S1, s1, e1, h1⟩
    | false => exact iteF (PostG.done (rel := RelB) s1 rfl h1)
theorem dw_or (ha : DT X W a t) (hb : DW X W (.BoolOp .Or (b :: rest) pos) u) : DW X W (.BoolOp .Or (a :: b :: rest) pos) (tOrM t u) := by
  refine (pw_or ha hb).wk fun σ H Q h => ?_
  obtain ⟨φ, bs, ρ, S, s, e, h⟩ := h
  exact tG_then s e h fun d S1 v H1 φ1 x1 s1 e1 r1 h1 => by
    have r1' : v = d := r1
    subst r1'
    cases v with
    | true => exact iteT (PostG.done (rel := RelB) s1 rfl h1)
    | false => exact iteF ⟨φ1, bs, ρ, S1, s1, e1, h1⟩
theorem dw_and1 (ha : DT X W a t) : DW X W (.BoolOp .And [a] pos) t := pw_and1 ha
theorem dw_or1 (ha : DT X W a t) : DW X W (.BoolOp .Or [a] pos) t := pw_or1 ha
/-- and, or, not as values, by truth -/
def eOrV (f g : EM) : EM := fun ρ S => (f ρ S).bind fun d S1 => match truS S1 d with
  | some true => .ok d S1
  | some false => g ρ S1
  | none => .bad
def eAndV (f g : EM) : EM := fun ρ S => (f ρ S).bind fun d S1 => match truS S1 d with
  | some true => g ρ S1
  | some false => .ok d S1
  | none => .bad
def eNotV (f : EM) : EM := fun ρ S => (f ρ S).bind fun d S1 => match truS S1 d with
  | some k => .ok (.bl (!k)) S1
  | none => .bad
theorem de_or (ha : DE X W a f) (hb : DE X W (.BoolOp .Or (b :: rest) pos) g) : DE X W (.BoolOp .Or (a :: b :: rest) pos) (eOrV f g) := by
  refine (pe_orT ha hb).wk fun σ H Q h => ?_
  obtain ⟨φ, bs, ρ, S, s, e, h⟩ := h
  refine tG_then s e h fun d S1 v H1 φ1 x1 s1 e1 r1 h1 => ?_
  split at h1
  · rename_i e2; exact ⟨true, s1.tru r1 e2, iteT (PostG.done s1 r1 h1)⟩
  · rename_i e2; exact ⟨false, s1.tru r1 e2, iteF ⟨φ1, bs, ρ, S1, s1, e1, h1⟩⟩
  · exact h1.elim
theorem de_and (ha : DE X W a f) (hb : DE X W (.BoolOp .And (b :: rest) pos) g) : DE X W (.BoolOp .And (a :: b :: rest) pos) (eAndV f g) := by
  refine (pe_andT ha hb).wk fun σ H Q h => ?_
  obtain ⟨φ, bs, ρ, S, s, e, h⟩ := h
  refine tG_then s e h fun d S1 v H1 φ1 x1 s1 e1 r1 h1 => ?_
  split at h1
  · rename_i e2; exact ⟨true, s1.tru r1 e2, iteT ⟨φ1, bs, ρ, S1, s1, e1, h1⟩⟩
  · rename_i e2; exact ⟨false, s1.tru r1 e2, iteF (PostG.done s1 r1 h1)⟩
  · exact h1.elim
theorem de_one {op} (ha : DE X W a f) : DE X W (.BoolOp op [a] pos) f := pe_one ha
theorem de_not (ha : DE X W a f) : DE X W (.UnaryOp .Not a pos) (eNotV f) := by
  refine (pe_notT ha).wk fun σ H Q h => ?_
  obtain ⟨φ, bs, ρ, S, s, e, h⟩ := h
  refine tG_then s e h fun d S1 v H1 φ1 x1 s1 e1 r1 h1 => ?_
  split at h1
  · rename_i k e2; exact ⟨k, s1.tru r1 e2, PostG.done s1 (.bl _) h1⟩
  · exact h1.elim
def eIf (t : TM) (f g : EM) : EM := fun ρ S => (t ρ S).bind fun b S1 => if b = true then f ρ S1 else g ρ S1
theorem de_if (hc : DT X W c t) (ha : DE X W a f) (hb : DE X W b g) : DE X W (.IfExp c a b pos) (eIf t f g) := by
  refine (pe_ifExp hc ha hb).wk fun σ H Q h => ?_
  obtain ⟨φ, bs, ρ, S, s, e, h⟩ := h
  refine tG_then s e h fun d S1 v H1 φ1 x1 s1 e1 r1 h1 => ?_
  have r1' : v = d := r1
  subst r1'
  cases v with
  | true => exact iteT ⟨φ1, bs, ρ, S1, s1, e1, h1⟩
  | false => exact iteF ⟨φ1, bs, ρ, S1, s1, e1, h1⟩
/-- a comparison of two (of three) -/
def eChain (f g h : EM) (k k' : D → D → Sto → R D) : EM := fun ρ S => (f ρ S).bind fun x S1 => (g ρ S1).bind fun y S2 => (k x y S2).bind fun z S3 => match blD z with
  | some true => (h ρ S3).bind fun w S4 => k' y w S4
  | some false => .ok (.bl false) S3
  | none => .bad
theorem tChain_wk {f g h : EM} {k k' : D → D → Sto → R D} {r r' : R2} (hk : OpD X W r k) (hk' : OpD X W r' k') (σ : L2.St) (H : Hp) (Q : VK) (hh : tE X W (eChain f g h k k') σ H Q) : tChain r r' (tE X W f) (tE X W g) (tE X W h) σ H Q := by
  obtain ⟨φ, bs, ρ, S, s, e, hh⟩ := hh
  refine tG_then s e hh fun dx S1 x H1 φ1 x1 s1 e1 r1 h1 => ?_
  refine tG_then s1 e1 h1 fun dy S2 y H2 φ2 x2 s2 e2 r2 h2 => ?_
  have r1' := r1.ext x2 s1.cells
  refine hk bs σ _ _ _ _ _ _ _ _ s2 r1' r2 ?_
  revert h2
  cases k dx dy S2 with
  | bad => exact fun h2 => h2
  | ex d S3 => exact fun h2 => h2
  | ok z S3 =>
    intro h2 vz H3 φ3 x3 s3 r3
    have h3 := PostG.shift x3 h2
    dsimp only [R.bind] at h3
    split at h3
    · rename_i e4
      refine ⟨true, r3.bl' e4, iteT ?_⟩
      refine tG_then s3 (e2.ext x3 s2.cells) h3 fun dw S4 w H4 φ4 x4 s4 e5 r4 h4 => ?_
      exact hk' bs σ _ _ _ _ _ _ _ _ s4 ((r2.ext x3 s2.cells).ext x4 s3.cells) r4 h4
    · rename_i e4
      exact ⟨false, r3.bl' e4, iteF (PostG.done s3 (.bl false) h3)⟩
    · exact h3.elim
theorem de_chain {op op' : CmpOp} {r r' : R2} {h : EM} {k k' : D → D → Sto → R D} (ho : OpR X (compareOp op) r) (hk : OpD X W r k) (ho' : OpR X (compareOp op') r') (hk' : OpD X W r' k') (ha : DE X W a f) (hb : DE X W b g) (hc : DE X W c h)
    (hm : lastMarks [op, op'] [b, c] = false := by with_unfolding_all rfl) : DE X W (.Compare a [op, op'] [b, c] pos) (eChain f g h k k') := (pe_chain ho ho' ha hb hc hm).wk (tChain_wk hk hk')
theorem dt_chain {op op' : CmpOp} {r r' : R2} {h : EM} {k k' : D → D → Sto → R D} (ho : OpR X (compareOp op) r) (hk : OpD X W r k) (ho' : OpR X (compareOp op') r') (hk' : OpD X W r' k') (ha : DE X W a f) (hb : DE X W b g) (hc : DE X W c h)
    (hm : lastMarks [op, op'] [b, c] = false := by with_unfolding_all rfl) : DT X W (.Compare a [op, op'] [b, c] pos) (eTst (eChain f g h k k')) := by
  refine (pt_chain ho ho' ha hb hc hm).wk fun σ H Q h => ?_
  obtain ⟨φ, bs, ρ, S, s, e, h⟩ := h
  refine tChain_wk (W := W) hk hk' σ H _ ?_
  refine tG_then s e h fun d S1 v H1 φ1 x1 s1 e1 r1 h1 => ?_
  obtain ⟨b, e2, h2⟩ := of_post h1
  exact ⟨b, r1.bl' e2, PostG.done (rel := RelB) s1 rfl h2⟩
end
end Mi

namespace Mi
open PySem PySem.Spec PyProof.Rows L2

/-! ### what the def's body stands in -/
structure Cz (X : Cx) (W : WX) (k : Nat) : Prop where
  hr : Room k X.A
  tk : Takes X W
  po : PassesOwn (model X.prog X.w) X.A X.env X.xe
  calm : X.calm = true

/-! ### == and in -/
def eqS (S : Sto) (x y : D) : Option Bool := match pyS S x, pyS S y with
  | some a, some b => if min a.depth b.depth ≤ 64 then some (PyData.eqv a b) else none
  | _, _ => none
def dEq (x y : D) (S : Sto) : R D := match eqS S x y with
  | some b => .ok (.bl b) S
  | none => .bad
def dNe (x y : D) (S : Sto) : R D := match eqS S x y with
  | some b => .ok (.bl (!b)) S
  | none => .bad
def rEqU (K : PySem.W.Frag) (neg : Bool) : R2 := fun x y H Q => ∃ d e, Dp K H x d ∧ Dp K H y e ∧ d.canLay0 = true ∧ e.canLay0 = true ∧ min d.depth e.depth ≤ 64 ∧ Q (.bl (if neg then !PyData.eqv d e else PyData.eqv d e)) H
section
variable {X : Cx} {W : WX}
theorem op_eqU (hu : X.A.units + 64 < cLine) : OpR X (compareOp .Eq) (rEqU X.K false) := by
  intro pins s σ H x y v u Q I rx ry h
  obtain ⟨d, e, hd, he, sd, se, hm, q⟩ := h
  obtain ⟨as, r1⟩ := Dp.reads I d x v hd rx
  obtain ⟨bs, r2⟩ := Dp.reads I e y u he ry
  exact SeqAt.compareEq_reads r1 r2 sd se (by omega) ⟨.bl _, H, I, rfl, q⟩
theorem op_neU (hu : X.A.units + 64 < cLine) : OpR X (compareOp .NotEq) (rEqU X.K true) := by
  intro pins s σ H x y v u Q I rx ry h
  obtain ⟨d, e, hd, he, sd, se, hm, q⟩ := h
  obtain ⟨as, r1⟩ := Dp.reads I d x v hd rx
  obtain ⟨bs, r2⟩ := Dp.reads I e y u he ry
  exact SeqAt.compareNe_reads r1 r2 sd se (by omega) ⟨.bl _, H, I, rfl, q⟩
theorem eqS_of {S : Sto} {x y : D} {b : Bool} (h : eqS S x y = some b) : ∃ p q, pyS S x = some p ∧ pyS S y = some q ∧ min p.depth q.depth ≤ 64 ∧ PyData.eqv p q = b := by
  unfold eqS at h
  split at h
  · rename_i p q h1 h2
    by_cases hm : min p.depth q.depth ≤ 64
    · rw [if_pos hm] at h; cases h; exact ⟨p, q, h1, h2, hm, rfl⟩
    · rw [if_neg hm] at h; cases h
  · cases h
theorem eq_ok : OpD X W (rEqU X.K false) dEq := by
  intro bs σ H φ S dx dy x y Q s rx ry h
  unfold dEq at h
  split at h
  · rename_i b e
    obtain ⟨p, q, h1, h2, hm, rfl⟩ := eqS_of e
    obtain ⟨a1, a2⟩ := s.dp rx h1
    obtain ⟨b1, b2⟩ := s.dp ry h2
    exact ⟨p, q, a1, b1, a2, b2, hm, PostG.done s (.bl _) h⟩
  · exact h.elim
theorem ne_ok : OpD X W (rEqU X.K true) dNe := by
  intro bs σ H φ S dx dy x y Q s rx ry h
  unfold dNe at h
  split at h
  · rename_i b e
    obtain ⟨p, q, h1, h2, hm, rfl⟩ := eqS_of e
    obtain ⟨a1, a2⟩ := s.dp rx h1
    obtain ⟨b1, b2⟩ := s.dp ry h2
    exact ⟨p, q, a1, b1, a2, b2, hm, PostG.done s (.bl _) h⟩
  · exact h.elim
end
/-- a text in a text -/
def inStr (s t : List Nat) : Bool := match s with
  | [c] => decide (c ∈ t)
  | s => !(Builtin.Str.occurrences ⟨t.toArray⟩ ⟨s.toArray⟩ 0 t.length 1).isEmpty
/-- x in y -/
def inS (S : Sto) (x y : D) : Option Bool := match y with
  | .str t => match x with
    | .str s => some (inStr s t)
    | _ => none
  | y => match dicS S y with
    | some kvs => match keyD x with
      | some k => some (valD kvs k).isSome
      | none => none
    | none => match seqS S y with
      | some ys => match pyS S x, pyL ys with
        | some p, some ps => if min (PyData.depthAll ps) p.depth ≤ 64 then some (ps.any fun q => PyData.eqv q p) else none
        | _, _ => none
      | none => none
def dIn (x y : D) (S : Sto) : R D := match inS S x y with
  | some b => .ok (.bl b) S
  | none => .bad
def dNotIn (x y : D) (S : Sto) : R D := match inS S x y with
  | some b => .ok (.bl (!b)) S
  | none => .bad
/-- the answer b of x in y, read -/
def RIn (K : PySem.W.Frag) (x y : V) (H : Hp) (b : Bool) : Prop :=
  (∃ (c : Nat) (z : Str), x = .str ⟨#[c]⟩ ∧ y = .str z ∧ b = decide (c ∈ z.cps.toList)) ∨ (∃ i j, x = .str i ∧ y = .str j ∧ b = !(Builtin.Str.occurrences j i 0 j.length 1).isEmpty) ∨
  (∃ (p : Addr) (xs : List V) (ds : List PyData) (d : PyData), y = .ref p ∧ (SqL K H p xs ∨ SqT K H p xs) ∧ DpAll K H xs ds ∧ Dp K H x d ∧ PyData.canLayAll0 ds = true ∧ d.canLay0 = true ∧ min (PyData.depthAll ds) d.depth ≤ 64 ∧ b = ds.any fun q => PyData.eqv q d) ∨
  (∃ (a : Addr) (o : Option V), y = .ref a ∧ DGet H a x o ∧ b = o.isSome)
section
variable {X : Cx} {W : WX}
theorem op_inU (hu : X.A.units + 65 < cLine) : OpR X (compareOp .In) (fun x y H Q => ∃ b, RIn X.K x y H b ∧ Q (.bl b) H) := by
  intro pins s σ H x y v u Q I rx ry h
  obtain ⟨b, h, q⟩ := h
  rcases h with ⟨c, z, e1, e2, rfl⟩ | ⟨i, j, e1, e2, rfl⟩ | ⟨p, xs, ds, d, rfl, hq, hds, hd, c1, c2, hm, rfl⟩ | ⟨a, o, rfl, hg, rfl⟩
  · exact op_in_sign pins s σ H x y v u Q I rx ry ⟨c, z, e1, e2, q⟩
  · exact op_in_str pins s σ H x y v u Q I rx ry ⟨i, j, e1, e2, q⟩
  · obtain ⟨as, r1⟩ := Dp.reads I d x v hd rx
    rcases hq with hq | hq
    · obtain ⟨bs, r2⟩ := Dp.reads I (.list ds) _ u (.lst hq hds) ry
      exact SeqAt.in_list_reads r2 r1 c1 c2 (by omega) ⟨.bl _, H, I, rfl, q⟩
    · obtain ⟨bs, r2⟩ := Dp.reads I (.tuple ds) _ u (.tup hq hds) ry
      exact SeqAt.in_tuple_reads r2 r1 c1 c2 (by omega) ⟨.bl _, H, I, rfl, q⟩
  · cases ry
    exact d_in (by omega) I hg rx fun s3 I3 => ⟨.bl _, H, I3, rfl, q⟩
theorem op_notInU (hu : X.A.units + 65 < cLine) : OpR X (compareOp .NotIn) (fun x y H Q => ∃ b, RIn X.K x y H b ∧ Q (.bl (!b)) H) := by
  intro pins s σ H x y v u Q I rx ry h
  obtain ⟨b, h, q⟩ := h
  rcases h with ⟨c, z, e1, e2, rfl⟩ | ⟨i, j, e1, e2, rfl⟩ | ⟨p, xs, ds, d, rfl, hq, hds, hd, c1, c2, hm, rfl⟩ | ⟨a, o, rfl, hg, rfl⟩
  · exact op_notIn_sign pins s σ H x y v u Q I rx ry ⟨c, z, e1, e2, q⟩
  · exact op_notin_str pins s σ H x y v u Q I rx ry ⟨i, j, e1, e2, q⟩
  · obtain ⟨as, r1⟩ := Dp.reads I d x v hd rx
    rcases hq with hq | hq
    · obtain ⟨bs, r2⟩ := Dp.reads I (.list ds) _ u (.lst hq hds) ry
      exact SeqAt.notIn_list_reads r2 r1 c1 c2 (by omega) ⟨.bl _, H, I, rfl, q⟩
    · obtain ⟨bs, r2⟩ := Dp.reads I (.tuple ds) _ u (.tup hq hds) ry
      exact SeqAt.notIn_tuple_reads r2 r1 c1 c2 (by omega) ⟨.bl _, H, I, rfl, q⟩
  · cases ry
    exact d_notIn (by omega) I hg rx fun s3 I3 => ⟨.bl _, H, I3, rfl, q⟩
theorem inStr_of {K : PySem.W.Frag} {H : Hp} (s t : List Nat) : RIn K (.str ⟨s.toArray⟩) (.str ⟨t.toArray⟩) H (inStr s t) := by
  unfold inStr
  split
  · rename_i c
    exact .inl ⟨c, _, rfl, rfl, by simp⟩
  · exact .inr (.inl ⟨_, _, rfl, rfl, by simp [Str.length]⟩)
/-- the ways of an answer -/
theorem Sim.in_of {K : PySem.W.Frag} {mg : Str → Option Value} {H : Hp} {φ : Ph} {bs : List Nat} {S : Sto} {dx dy : D} {x y : V} {b : Bool} (s : Sim K mg H φ bs S) (rx : Rep K mg H φ dx x) (ry : Rep K mg H φ dy y) (h : inS S dx dy = some b) :
    RIn K x y H b := by
  have main : (match dicS S dy with
      | some kvs => match keyD dx with
        | some k => some (valD kvs k).isSome
        | none => none
      | none => match seqS S dy with
        | some ys => match pyS S dx, pyL ys with
          | some p, some ps => if min (PyData.depthAll ps) p.depth ≤ 64 then some (ps.any fun q => PyData.eqv q p) else none
          | _, _ => none
        | none => none) = some b → RIn K x y H b := fun h2 => by
    split at h2
    · rename_i kvs e
      split at h2
      · rename_i k ek
        cases h2
        obtain ⟨a, vs, rfl, hr, lr⟩ := s.dic ry e
        have hx := rx.key ek
        subst hx
        refine .inr (.inr (.inr ⟨a, valV vs k, rfl, .inl ⟨vs, k, hr, rfl, rfl⟩, ?_⟩))
        rcases lr.val (k := k) with ⟨e1, e2⟩ | ⟨d, v, e1, e2, _⟩ <;> rw [e1, e2] <;> rfl
      · cases h2
    · split at h2
      · rename_i ys e
        split at h2
        · rename_i p ps e1 e2
          by_cases hm : min (PyData.depthAll ps) p.depth ≤ 64
          · rw [if_pos hm] at h2
            cases h2
            obtain ⟨a, vs, rfl, hq, lr⟩ := s.seq ry e
            obtain ⟨c1, c2⟩ := s.dp rx e1
            obtain ⟨d1, d2⟩ := lr.dp e2
            exact .inr (.inr (.inl ⟨a, vs, ps, p, rfl, hq, d1, c1, d2, c2, hm, rfl⟩))
          · rw [if_neg hm] at h2; cases h2
        · cases h2
      · cases h2
  cases dy with
  | str t =>
    cases ry
    cases rx with
    | str z g => cases h; exact inStr_of z t
    | _ => cases h
  | _ => exact main h
theorem in_ok : OpD X W (fun x y H Q => ∃ b, RIn X.K x y H b ∧ Q (.bl b) H) dIn := by
  intro bs σ H φ S dx dy x y Q s rx ry h
  unfold dIn at h
  split at h
  · rename_i b e
    exact ⟨b, s.in_of rx ry e, PostG.done s (.bl _) h⟩
  · exact h.elim
theorem notIn_ok : OpD X W (fun x y H Q => ∃ b, RIn X.K x y H b ∧ Q (.bl (!b)) H) dNotIn := by
  intro bs σ H φ S dx dy x y Q s rx ry h
  unfold dNotIn at h
  split at h
  · rename_i b e
    exact ⟨b, s.in_of rx ry e, PostG.done s (.bl _) h⟩
  · exact h.elim
/-! ### < <= > >= -/
def ltS (x y : D) : Option Bool := match x, y with
  | .int i, .int j => some (decide (i < j))
  | .str s, .str t => some (decide (s < t))
  | _, _ => none
def dLt (x y : D) (S : Sto) : R D := match ltS x y with
  | some b => .ok (.bl b) S
  | none => .bad
def dGt (x y : D) (S : Sto) : R D := dLt y x S
def dLe (x y : D) (S : Sto) : R D := match ltS y x with
  | some b => .ok (.bl (!b)) S
  | none => .bad
def dGe (x y : D) (S : Sto) : R D := dLe y x S
def RLt (x y : V) (b : Bool) : Prop := (∃ i j, x = .int i ∧ y = .int j ∧ b = decide (i < j)) ∨ ∃ i j, x = .str i ∧ y = .str j ∧ b = decide (i.cps.toList < j.cps.toList)
theorem ltS_of {K : PySem.W.Frag} {mg : Str → Option Value} {H : Hp} {φ : Ph} {dx dy : D} {x y : V} {b : Bool} (rx : Rep K mg H φ dx x) (ry : Rep K mg H φ dy y) (h : ltS dx dy = some b) : RLt x y b := by
  cases rx with
  | int i =>
    cases ry with
    | int j => cases h; exact .inl ⟨i, j, rfl, rfl, rfl⟩
    | _ => cases h
  | str i g =>
    cases ry with
    | str j g' => cases h; exact .inr ⟨_, _, rfl, rfl, by simp⟩
    | _ => cases h
  | _ => cases h
theorem op_ltU : OpR X (compareOp .Lt) (fun x y H Q => ∃ b, RLt x y b ∧ Q (.bl b) H) := by
  intro pins s σ H x y v u Q I rx ry ⟨b, h, q⟩
  rcases h with ⟨i, j, e1, e2, rfl⟩ | ⟨i, j, e1, e2, rfl⟩
  · exact op_lt pins s σ H x y v u Q I rx ry ⟨i, j, e1, e2, q⟩
  · exact op_lt_str pins s σ H x y v u Q I rx ry ⟨i, j, e1, e2, q⟩
theorem op_gtU : OpR X (compareOp .Gt) (fun x y H Q => ∃ b, RLt y x b ∧ Q (.bl b) H) := by
  intro pins s σ H x y v u Q I rx ry ⟨b, h, q⟩
  rcases h with ⟨i, j, e1, e2, rfl⟩ | ⟨i, j, e1, e2, rfl⟩
  · exact op_gt pins s σ H x y v u Q I rx ry ⟨j, i, e2, e1, q⟩
  · exact op_gt_str pins s σ H x y v u Q I rx ry ⟨j, i, e2, e1, q⟩
theorem not_lt_le (i j : Int) : (!decide (j < i)) = decide (i ≤ j) := by
  by_cases h : j < i
  · rw [decide_eq_true h, decide_eq_false (by omega)] <;> rfl
  · rw [decide_eq_false h, decide_eq_true (by omega)] <;> rfl
theorem op_leU : OpR X (compareOp .LtE) (fun x y H Q => ∃ b, RLt y x b ∧ Q (.bl (!b)) H) := by
  intro pins s σ H x y v u Q I rx ry ⟨b, h, q⟩
  rcases h with ⟨i, j, e1, e2, rfl⟩ | ⟨i, j, e1, e2, rfl⟩
  · exact op_le pins s σ H x y v u Q I rx ry ⟨j, i, e2, e1, by rw [not_lt_le] at q; exact q⟩
  · exact op_le_str pins s σ H x y v u Q I rx ry ⟨j, i, e2, e1, q⟩
theorem op_geU : OpR X (compareOp .GtE) (fun x y H Q => ∃ b, RLt x y b ∧ Q (.bl (!b)) H) := by
  intro pins s σ H x y v u Q I rx ry ⟨b, h, q⟩
  rcases h with ⟨i, j, e1, e2, rfl⟩ | ⟨i, j, e1, e2, rfl⟩
  · exact op_ge pins s σ H x y v u Q I rx ry ⟨i, j, e1, e2, by rw [not_lt_le] at q; exact q⟩
  · exact op_ge_str pins s σ H x y v u Q I rx ry ⟨i, j, e1, e2, q⟩
theorem lt_ok : OpD X W (fun x y H Q => ∃ b, RLt x y b ∧ Q (.bl b) H) dLt := by
  intro bs σ H φ S dx dy x y Q s rx ry h
  unfold dLt at h
  split at h
  · rename_i b e; exact ⟨b, ltS_of rx ry e, PostG.done s (.bl _) h⟩
  · exact h.elim
theorem gt_ok : OpD X W (fun x y H Q => ∃ b, RLt y x b ∧ Q (.bl b) H) dGt := by
  intro bs σ H φ S dx dy x y Q s rx ry h
  unfold dGt dLt at h
  split at h
  · rename_i b e; exact ⟨b, ltS_of ry rx e, PostG.done s (.bl _) h⟩
  · exact h.elim
theorem le_ok : OpD X W (fun x y H Q => ∃ b, RLt y x b ∧ Q (.bl (!b)) H) dLe := by
  intro bs σ H φ S dx dy x y Q s rx ry h
  unfold dLe at h
  split at h
  · rename_i b e; exact ⟨b, ltS_of ry rx e, PostG.done s (.bl _) h⟩
  · exact h.elim
theorem ge_ok : OpD X W (fun x y H Q => ∃ b, RLt x y b ∧ Q (.bl (!b)) H) dGe := by
  intro bs σ H φ S dx dy x y Q s rx ry h
  unfold dGe dLe at h
  split at h
  · rename_i b e; exact ⟨b, ltS_of rx ry e, PostG.done s (.bl _) h⟩
  · exact h.elim
/-! ### is None -/
def isN : D → Bool
  | .non => true
  | _ => false
def dIsN (x y : D) (S : Sto) : R D := match y with
  | .non => .ok (.bl (isN x)) S
  | _ => .bad
def dNotN (x y : D) (S : Sto) : R D := match y with
  | .non => .ok (.bl (!isN x)) S
  | _ => .bad
theorem Rep.isN {K : PySem.W.Frag} {mg : Str → Option Value} {H : Hp} {φ : Ph} {d : D} {v : V} (r : Rep K mg H φ d v) : decide (v = .non) = isN d := by
  cases r <;> simp [Mi.isN]
theorem isN_ok : OpD X W (fun x y H Q => y = .non ∧ Q (.bl (decide (x = .non))) H) dIsN := by
  intro bs σ H φ S dx dy x y Q s rx ry h
  cases ry with
  | non => exact ⟨rfl, by rw [rx.isN]; exact PostG.done s (.bl _) h⟩
  | _ => exact h.elim
theorem notN_ok : OpD X W (fun x y H Q => y = .non ∧ Q (.bl (!decide (x = .non))) H) dNotN := by
  intro bs σ H φ S dx dy x y Q s rx ry h
  cases ry with
  | non => exact ⟨rfl, by rw [rx.isN]; exact PostG.done s (.bl _) h⟩
  | _ => exact h.elim
/-! the comparisons in short: a value (de), a test (dt) -/
variable {a b : Expr} {f g : EM} {pos : Pos} {k : Nat}
theorem Cz.u65 (C : Cz X W k) : X.A.units + 65 < cLine := by have := C.hr.un; omega
theorem Cz.u64 (C : Cz X W k) : X.A.units + 64 < cLine := by have := C.hr.un; omega
theorem Cz.u1 (C : Cz X W k) : X.A.units + 1 < cLine := by have := C.hr.un; omega
theorem de_eq (C : Cz X W k) (ha : DE X W a f) (hb : DE X W b g) : DE X W (.Compare a [.Eq] [b] pos) (eBin f g dEq) := de_cmp (op_eqU C.u64) eq_ok ha hb (nomark _)
theorem de_ne (C : Cz X W k) (ha : DE X W a f) (hb : DE X W b g) : DE X W (.Compare a [.NotEq] [b] pos) (eBin f g dNe) := de_cmp (op_neU C.u64) ne_ok ha hb (nomark _)
theorem de_lt (C : Cz X W k) (ha : DE X W a f) (hb : DE X W b g) : DE X W (.Compare a [.Lt] [b] pos) (eBin f g dLt) := de_cmp op_ltU lt_ok ha hb (nomark _)
theorem de_gt (C : Cz X W k) (ha : DE X W a f) (hb : DE X W b g) : DE X W (.Compare a [.Gt] [b] pos) (eBin f g dGt) := de_cmp op_gtU gt_ok ha hb (nomark _)
theorem de_le (C : Cz X W k) (ha : DE X W a f) (hb : DE X W b g) : DE X W (.Compare a [.LtE] [b] pos) (eBin f g dLe) := de_cmp op_leU le_ok ha hb (nomark _)
theorem de_ge (C : Cz X W k) (ha : DE X W a f) (hb : DE X W b g) : DE X W (.Compare a [.GtE] [b] pos) (eBin f g dGe) := de_cmp op_geU ge_ok ha hb (nomark _)
theorem de_in (C : Cz X W k) (ha : DE X W a f) (hb : DE X W b g) (h1 : behindInMarks .In b = false := by rfl) : DE X W (.Compare a [.In] [b] pos) (eBin f g dIn) := de_cmp (op_inU C.u65) in_ok ha hb h1
theorem de_notIn (C : Cz X W k) (ha : DE X W a f) (hb : DE X W b g) (h1 : behindInMarks .NotIn b = false := by rfl) : DE X W (.Compare a [.NotIn] [b] pos) (eBin f g dNotIn) := de_cmp (op_notInU C.u65) notIn_ok ha hb h1
theorem de_isN (C : Cz X W k) (ha : DE X W a f) (hb : DE X W b g) : DE X W (.Compare a [.Is] [b] pos) (eBin f g dIsN) := de_cmp op_isN isN_ok ha hb (nomark _)
theorem de_notN (C : Cz X W k) (ha : DE X W a f) (hb : DE X W b g) : DE X W (.Compare a [.IsNot] [b] pos) (eBin f g dNotN) := de_cmp op_notN notN_ok ha hb (nomark _)
theorem dt_eq (C : Cz X W k) (ha : DE X W a f) (hb : DE X W b g) : DT X W (.Compare a [.Eq] [b] pos) (eTst (eBin f g dEq)) := dt_cmp (op_eqU C.u64) eq_ok ha hb (nomark _)
theorem dt_ne (C : Cz X W k) (ha : DE X W a f) (hb : DE X W b g) : DT X W (.Compare a [.NotEq] [b] pos) (eTst (eBin f g dNe)) := dt_cmp (op_neU C.u64) ne_ok ha hb (nomark _)
theorem dt_lt (C : Cz X W k) (ha : DE X W a f) (hb : DE X W b g) : DT X W (.Compare a [.Lt] [b] pos) (eTst (eBin f g dLt)) := dt_cmp op_ltU lt_ok ha hb (nomark _)
theorem dt_gt (C : Cz X W k) (ha : DE X W a f) (hb : DE X W b g) : DT X W (.Compare a [.Gt] [b] pos) (eTst (eBin f g dGt)) := dt_cmp op_gtU gt_ok ha hb (nomark _)
theorem dt_le (C : Cz X W k) (ha : DE X W a f) (hb : DE X W b g) : DT X W (.Compare a [.LtE] [b] pos) (eTst (eBin f g dLe)) := dt_cmp op_leU le_ok ha hb (nomark _)
theorem dt_ge (C : Cz X W k) (ha : DE X W a f) (hb : DE X W b g) : DT X W (.Compare a [.GtE] [b] pos) (eTst (eBin f g dGe)) := dt_cmp op_geU ge_ok ha hb (nomark _)
theorem dt_in (C : Cz X W k) (ha : DE X W a f) (hb : DE X W b g) (h1 : behindInMarks .In b = false := by rfl) : DT X W (.Compare a [.In] [b] pos) (eTst (eBin f g dIn)) := dt_cmp (op_inU C.u65) in_ok ha hb h1
theorem dt_notIn (C : Cz X W k) (ha : DE X W a f) (hb : DE X W b g) (h1 : behindInMarks .NotIn b = false := by rfl) : DT X W (.Compare a [.NotIn] [b] pos) (eTst (eBin f g dNotIn)) := dt_cmp (op_notInU C.u65) notIn_ok ha hb h1
theorem dt_isN (C : Cz X W k) (ha : DE X W a f) (hb : DE X W b g) : DT X W (.Compare a [.Is] [b] pos) (eTst (eBin f g dIsN)) := dt_cmp op_isN isN_ok ha hb (nomark _)
theorem dt_notN (C : Cz X W k) (ha : DE X W a f) (hb : DE X W b g) : DT X W (.Compare a [.IsNot] [b] pos) (eTst (eBin f g dNotN)) := dt_cmp op_notN notN_ok ha hb (nomark _)
end
end Mi

namespace Mi
open PySem PySem.Spec PyProof.Rows L2

/-! ### argument lists -/
def aList : List EM → AM
  | [] => fun _ S => .ok [] S
  | f :: fs => fun ρ S => (f ρ S).bind fun x S1 => (aList fs ρ S1).bind fun xs S2 => .ok (x :: xs) S2
section
variable {X : Cx} {W : WX} {e : Expr} {es : List Expr} {f : EM} {fs : List EM} {pos : Pos}
theorem da_nil : DA X W [] (aList []) := pa_nil.wk fun σ H Q h => by
  obtain ⟨φ, bs, ρ, S, s, en, h⟩ := h
  exact PostG.done (rel := RepL) s .nil h
theorem da_cons (ha : DE X W e f) (hr : DA X W es (aList fs)) (hs : starEach (e :: es) X.env = (false, eval e X.env) :: starEach es X.env := by rfl) : DA X W (e :: es) (aList (f :: fs)) := (pa_cons ha hr hs).wk fun σ H Q h => by
  obtain ⟨φ, bs, ρ, S, s, en, h⟩ := h
  refine tG_then s en h fun d S1 v H1 φ1 x1 s1 e1 r1 h1 => ?_
  refine tG_then s1 e1 h1 fun ds S2 vs H2 φ2 x2 s2 e2 r2 h2 => ?_
  exact PostG.done (rel := RepL) s2 (.cons (r1.ext x2 s1.cells) r2) h2
theorem aList_len : ∀ {fs : List EM} {ρ : Env} {S S' : Sto} {ds : List D}, aList fs ρ S = .ok ds S' → ds.length = fs.length
  | [], ρ, S, S', ds, h => by
    have h' : R.ok ([] : List D) S = .ok ds S' := h
    cases h'; rfl
  | f :: fs, ρ, S, S', ds, h => by
    have h' : ((f ρ S).bind fun x S1 => (aList fs ρ S1).bind fun xs S2 => R.ok (x :: xs) S2) = .ok ds S' := h
    cases e1 : f ρ S with
    | ok x S1 =>
      rw [e1] at h'
      have h2 : ((aList fs ρ S1).bind fun xs S2 => R.ok (x :: xs) S2) = .ok ds S' := h'
      cases e2 : aList fs ρ S1 with
      | ok xs S2 =>
        rw [e2] at h2
        have h3 : R.ok (x :: xs) S2 = .ok ds S' := h2
        cases h3
        rw [List.length_cons, List.length_cons, aList_len e2]
      | ex _ _ => rw [e2] at h2; cases h2
      | bad => rw [e2] at h2; cases h2
    | ex _ _ => rw [e1] at h'; cases h'
    | bad => rw [e1] at h'; cases h'
/-- a call by values, over the arguments -/
def eApp (fs : List EM) (g : List D → Sto → R D) : EM := fun ρ S => (aList fs ρ S).bind g
/-- what is asked of the values -/
def CallD (X : Cx) (W : WX) (n : Nat) (r : List V → Hp → VK → Prop) (g : List D → Sto → R D) : Prop := ∀ bs σ H φ S ds vs Q, Sim X.K X.mg H φ bs S → RepL X.K X.mg H φ ds vs → ds.length = n → Post X W bs σ H φ (g ds S) Q → r vs H Q
theorem tCB_wk {g : List D → Sto → R D} {r : List V → Hp → VK → Prop} (hk : CallD X W fs.length r g) (σ : L2.St) (H : Hp) (Q : VK) (h : tE X W (eApp fs g) σ H Q) : tCB r (tA X W (aList fs)) σ H Q := by
  obtain ⟨φ, bs, ρ, S, s, en, h⟩ := h
  have hl : ∀ ds S', aList fs ρ S = .ok ds S' → ds.length = fs.length := fun _ _ q => aList_len q
  refine ⟨φ, bs, ρ, S, s, en, ?_⟩
  revert hl h
  unfold eApp
  cases aList fs ρ S with
  | ok ds S1 => exact fun h hl v H1 φ1 x s1 r1 => hk bs σ H1 φ1 S1 ds v Q s1 r1 (hl _ _ rfl) (PostG.shift x h)
  | ex d S1 => exact fun h _ => h
  | bad => exact fun h _ => h
/-! ### displays -/
def dTup (ds : List D) (S : Sto) : R D := .ok (.tup ds) S
theorem de_tup {x1} (h : DA X W es (aList fs)) (hn : fs.length ≤ 1000 := by exact Nat.le_of_ble_eq_true rfl) : DE X W (.Tuple es x1 pos) (eApp fs dTup) := by
  refine (pe_tup h).wk fun σ H Q h => ?_
  refine tCB_wk (r := fun vs H Q => vs.length ≤ sizeLine ∧ ∀ p, H p = none → Q (.ref p) (upd H p (.tup vs))) (fun bs σ H φ S ds vs Q s r hl h => ?_) σ H Q h
  exact ⟨by rw [← r.length, hl]; exact Nat.le_trans hn (by decide), fun p hp => tup_ok s r hp h⟩
def dLst (c : Bool) (ds : List D) (S : Sto) : R D := mkL c ds S
theorem de_lst {c : Bool} (h : DA X W es (aList fs)) (hn : fs.length ≤ 1000 := by exact Nat.le_of_ble_eq_true rfl) : DE X W (.List es pos) (eApp fs (dLst c)) := by
  refine (pe_lst h).wk fun σ H Q h => ?_
  refine tCB_wk (r := fun vs H Q => vs.length ≤ sizeLine ∧ ∀ p, H p = none → Q (.ref p) (upd H p (.lst vs))) (fun bs σ H φ S ds vs Q s r hl h => ?_) σ H Q h
  exact ⟨by rw [← r.length, hl]; exact Nat.le_trans hn (by decide), fun p hp => mkL_ok s r hp h⟩

/-! ### subscripts -/
def intD : D → Option Int
  | .int i => some i
  | _ => none
theorem Rep.int' {K : PySem.W.Frag} {mg : Str → Option Value} {H : Hp} {φ : Ph} {d : D} {v : V} {i : Int} (r : Rep K mg H φ d v) (h : intD d = some i) : v = .int i := by
  cases r <;> cases h <;> rfl
def ixS (S : Sto) (x i : D) : Option D := match x with
  | .str s => match i with
    | .int n => if s.length ≤ sizeLine then (atI s n).map fun c => .str [c] else none
    | _ => none
  | x => match dicS S x with
    | some kvs => match keyD i with
      | some k => valD kvs k
      | none => none
    | none => match seqS S x with
      | some xs => match intD i with
        | some n => atI xs n
        | none => none
      | none => none
def dIx (x i : D) (S : Sto) : R D := match ixS S x i with
  | some d => .ok d S
  | none => .bad
theorem RepL.atI {K : PySem.W.Frag} {mg : Str → Option Value} {H : Hp} {φ : Ph} {ds : List D} {vs : List V} {n : Int} {d : D} (r : RepL K mg H φ ds vs) (h : L2.atI ds n = some d) : ∃ v, L2.atI vs n = some v ∧ Rep K mg H φ d v := by
  unfold L2.atI at *
  rw [← r.length]
  cases q : ixN ds.length n with
  | none => rw [q] at h; cases h
  | some j =>
    rw [q] at h
    exact r.get h
theorem ix_dict (hu : X.A.units + 1 < cLine) : IxR X (fun x y H Q => ∃ a v, x = .ref a ∧ DGet H a y (some v) ∧ Q v H) := by
  intro value slice pins s σ H x y v u Q I rx ry h hs
  obtain ⟨a, w, rfl, g, q⟩ := h
  cases rx
  have hT := dict_typeIs I g
  unfold subscriptTail
  refine wpAny_bind (by
    rw [getitemInPython_of_ne hT.not_modules]
    refine wpAny_bind (wpAny_specialOf hT PySem.F.slot_dict_getitem.lookup ?_)
    have fin : wpAny (model X.prog X.w) X.A (subscripted slice false (.ref a) u) (fun r s3 => wpAny (model X.prog X.w) X.A (letTemporaryGo value (.ref a) r >>= fun _ => pure r) (EP X pins σ Q) X.xe s3) X.xe s := by
      rw [hs]
      exact wpAny_operating (d_getItem hu I g ry fun w' s3 I3 rw' => wpAny_bind (wpAny_letTemporaryGo (wpAny_pure ⟨w, H, I3, rw', q⟩)))
    first
      | exact wpAny_pure (wpAny_bind fin)
      | exact wpAny_bind (wpAny_pure (wpAny_bind fin))
      | exact wpAny_bind fin)
theorem good_one {c : Nat} {s : List Nat} (g : goodS s = true) (h : c ∈ s) : goodS [c] = true := good_mem.mpr fun x hx => by
  have e : x = c := by simpa using hx
  rw [e]; exact good_mem.mp g c h
def rIxU (K : PySem.W.Frag) : R2 := fun x y H Q => rIx K x y H Q ∨ ∃ a v, x = .ref a ∧ DGet H a y (some v) ∧ Q v H
theorem atI_mem {α : Type} {xs : List α} {n : Int} {d : α} (h : L2.atI xs n = some d) : d ∈ xs := by
  obtain ⟨j, _, h2, _⟩ := atI_get h
  exact List.mem_of_getElem? h2
theorem ix_ok : OpD X W (rIxU X.K) dIx := by
  intro bs σ H φ S dx dy x y Q s rx ry h
  unfold dIx at h
  split at h
  · rename_i d e
    have main : (match dicS S dx with
      | some kvs => match keyD dy with
        | some k => valD kvs k
        | none => none
      | none => match seqS S dx with
        | some xs => match intD dy with
          | some n => L2.atI xs n
          | none => none
        | none => none) = some d → rIxU X.K x y H Q := fun h2 => by
      split at h2
      · rename_i kvs ek
        split at h2
        · rename_i k ey
          obtain ⟨a, vs, rfl, hr, lr⟩ := s.dic rx ek
          have hy := ry.key ey
          subst hy
          rcases lr.val (k := k) with ⟨e1, e2⟩ | ⟨d', v, e1, e2, r⟩
          · rw [h2] at e1; cases e1
          · rw [h2] at e1; cases e1
            exact .inr ⟨a, v, rfl, .inl ⟨vs, k, hr, rfl, e2.symm⟩, PostG.done s r h⟩
        · cases h2
      · split at h2
        · rename_i xs ex
          split at h2
          · rename_i n en
            obtain ⟨a, vs, rfl, hq, lr⟩ := s.seq rx ex
            obtain ⟨v, hv, r⟩ := lr.atI h2
            have hy := ry.int' en
            subst hy
            rcases hq with hq | hq
            · exact .inl (.inl ⟨a, vs, n, v, rfl, rfl, hq, hv, PostG.done s r h⟩)
            · exact .inl (.inr (.inl ⟨a, vs, n, v, rfl, rfl, hq, hv, PostG.done s r h⟩))
          · cases h2
        · cases h2
    cases dx with
    | str z =>
      cases rx with
      | str z g =>
        cases dy with
        | int n =>
          cases ry
          have e' : (if z.length ≤ sizeLine then (L2.atI z n).map fun c => D.str [c] else none) = some d := e
          by_cases hz : z.length ≤ sizeLine
          · rw [if_pos hz] at e'
            cases q : L2.atI z n with
            | none => rw [q] at e'; cases e'
            | some c =>
              rw [q] at e'
              cases e'
              exact .inl (.inr (.inr ⟨_, n, c, rfl, rfl, by simpa [Str.length] using hz, by simpa using q, PostG.done s (.str [c] (good_one g (atI_mem q))) h⟩))
          · rw [if_neg hz] at e'; cases e'
        | _ => cases e
    | _ => exact main e
  · exact h.elim
variable {a b : Expr} {g : EM} {k : Nat}
theorem de_ix (C : Cz X W k) (ha : DE X W a f) (hb : DE X W b g) (hs : PlainIx b := by exact fun _ _ => rfl) : DE X W (.Subscript a b pos) (eBin f g dIx) :=
  (pe_ix (IxR.or ix_seq (ix_dict C.u1)) ha hb hs).wk (tOp_wk ix_ok)
/-! ### slices -/
def oNone : Env → Sto → R (Option Int) := fun _ S => .ok none S
def oSome (f : EM) : Env → Sto → R (Option Int) := fun ρ S => (f ρ S).bind fun d S1 => .of S1 ((intD d).map some)
def RelI : Rel (Option Int) (Option Int) := fun _ _ _ _ b c => c = b
abbrev DO (X : Cx) (W : WX) (e : Option Expr) (o : Env → Sto → R (Option Int)) : Prop := PO X e (tG X W RelI o)
theorem PO.wk {X : Cx} {e : Option Expr} {t t' : TO} (h : PO X e t) (w : ∀ σ H Q, t' σ H Q → t σ H Q) : PO X e t' := ⟨fun pins s σ H Q I q => h.run pins s σ H Q I (w _ _ _ q)⟩
theorem do_none : DO X W none oNone := PO.wk po_none fun σ H Q h => by
  obtain ⟨φ, bs, ρ, S, s, en, h⟩ := h
  exact PostG.done (rel := RelI) s rfl h
theorem do_some (he : DE X W e f) : DO X W (some e) (oSome f) := PO.wk (po_some he) fun σ H Q h => by
  obtain ⟨φ, bs, ρ, S, s, en, h⟩ := h
  refine tG_then s en h fun d S1 v H1 φ1 x1 s1 e1 r1 h1 => ?_
  obtain ⟨o, e2, h2⟩ := of_post h1
  cases q : intD d with
  | none => rw [q] at e2; cases e2
  | some i =>
    rw [q] at e2
    cases e2
    exact ⟨i, r1.int' q, PostG.done (rel := RelI) s1 rfl h2⟩
def cutG {α : Type} (xs : List α) (lo hi : Option Int) : List α := (xs.drop (HT.sIx xs.length 0 lo)).take (HT.sIx xs.length xs.length hi - HT.sIx xs.length 0 lo)
def dSl (c : Bool) (x : D) (lo hi : Option Int) (S : Sto) : R D := match x with
  | .str s => if s.length ≤ sizeLine then .ok (.str (cutG s lo hi)) S else .bad
  | .tup xs => .ok (.tup (cutG xs lo hi)) S
  | x => match lstS S x with
    | some xs => mkL c (cutG xs lo hi) S
    | none => .bad
def eSl (c : Bool) (f : EM) (lo hi : Env → Sto → R (Option Int)) : EM := fun ρ S => (f ρ S).bind fun x S1 => (lo ρ S1).bind fun l S2 => (hi ρ S2).bind fun h S3 => dSl c x l h S3
theorem RepL.cut {K : PySem.W.Frag} {mg : Str → Option Value} {H : Hp} {φ : Ph} {ds : List D} {vs : List V} {lo hi : Option Int} (r : RepL K mg H φ ds vs) : RepL K mg H φ (cutG ds lo hi) (cutV vs lo hi) := by
  unfold cutG cutV
  rw [r.length]
  exact (r.drop _).take _
theorem cutG_good {s : List Nat} {lo hi : Option Int} (g : goodS s = true) : goodS (cutG s lo hi) = true := good_mem.mpr fun c hc => good_mem.mp g c (List.mem_of_mem_drop (List.mem_of_mem_take hc))
theorem cutG_all {α : Type} {xs : List α} {lo hi : Option Int} (h : HT.sIx xs.length 0 lo = 0 ∧ HT.sIx xs.length xs.length hi = xs.length) : cutG xs lo hi = xs := by
  unfold cutG
  rw [h.1, h.2]
  simp
theorem sl_ok {c : Bool} {bs : List Nat} {σ : L2.St} {H : Hp} {φ : Ph} {S : Sto} {d : D} {v : V} {lo hi : Option Int} {Q : VK} (s : Sim X.K X.mg H φ bs S) (r : Rep X.K X.mg H φ d v) (h : Post X W bs σ H φ (dSl c d lo hi S) Q) :
    (rSlS v lo hi H Q ∨ rSlA X.K v lo hi H Q) ∨ rSlL X.K v lo hi H Q := by
  have seq : ∀ {xs : List D}, lstS S d = some xs → Post X W bs σ H φ (mkL c (cutG xs lo hi) S) Q → rSlL X.K v lo hi H Q := fun {xs} e h => by
    obtain ⟨a, vs, rfl, hq, lr⟩ := s.lst r e
    exact ⟨a, vs, rfl, hq, fun p hp => mkL_ok s lr.cut hp h⟩
  have rest : Post X W bs σ H φ (match lstS S d with
      | some xs => mkL c (cutG xs lo hi) S
      | none => .bad) Q → rSlL X.K v lo hi H Q := fun h => by
    split at h
    · rename_i xs e; exact seq e h
    · exact h.elim
  cases r with
  | str z g =>
    obtain ⟨hz, h⟩ := if_bad (P := fun r => Post X W bs σ H φ r Q) h fun z => z
    refine .inl (.inl ⟨_, rfl, by simpa [Str.length] using hz, ?_⟩)
    have e : cutS ⟨z.toArray⟩ lo hi = ⟨(cutG z lo hi).toArray⟩ := by
      unfold cutS cutG
      simp [Str.length]
    rw [e]
    exact PostG.done s (.str _ (cutG_good g)) h
  | tup h1 h2 =>
    rename_i a ds vs
    refine .inl (.inr ⟨_, _, rfl, h1, fun hw => ?_, fun hw p hp => tup_ok s h2.cut hp h⟩)
    rw [← h2.length] at hw
    have h' : Post X W bs σ H φ (.ok (.tup (cutG ds lo hi)) S) Q := h
    rw [cutG_all hw] at h'
    exact PostG.done s (.tup h1 h2) h'
  | lst _ _ _ => exact .inr (rest h)
  | frl _ _ => exact .inr (rest h)
  | ref _ => exact .inr (rest h)
  | non => exact .inr (rest h)
  | bl _ => exact .inr (rest h)
  | int _ => exact .inr (rest h)
  | dic _ _ _ => exact .inr (rest h)
  | obj _ _ _ _ => exact .inr (rest h)
  | exn _ _ => exact .inr (rest h)
theorem de_sl {c : Bool} {lo hi : Option Expr} {l u : Env → Sto → R (Option Int)} {p2 : Pos} (he : DE X W e f) (hl : DO X W lo l) (hu : DO X W hi u) : DE X W (.Subscript e (.Slice lo hi none p2) pos) (eSl c f l u) := by
  refine (pe_slice (SlR.or (SlR.or sl_str sl_tupA) sl_list) he hl hu).wk fun σ H Q h => ?_
  obtain ⟨φ, bs, ρ, S, s, en, h⟩ := h
  refine tG_then s en h fun d S1 v H1 φ1 x1 s1 e1 r1 h1 => ?_
  refine tG_then s1 e1 h1 fun l S2 vl H2 φ2 x2 s2 e2 r2 h2 => ?_
  refine tG_then s2 e2 h2 fun u S3 vu H3 φ3 x3 s3 e3 r3 h3 => ?_
  have q2 : vl = l := r2
  have q3 : vu = u := r3
  subst q2 q3
  exact sl_ok s3 ((r1.ext x2 s1.cells).ext x3 s2.cells) h3
end
end Mi

namespace Mi
open PySem PySem.Spec PyProof.Rows L2

/-! ### calls of own defs -/
/-- a def's promise, from its meaning -/
def spOf (K : PySem.W.Frag) (mg : Str → Option Value) (n : Nat) (G : List D → Sto → R D) : Sp := fun vs H Q E =>
  vs.length = n ∧ ∃ φ bs ds S, Sim K mg H φ bs S ∧ RepL K mg H φ ds vs ∧ PostG K mg (fun cls d _ H' => E cls d H') Rep bs [] H φ (G ds S) Q
/-- the def named x, given n arguments (dds: its defaults that fill up), means G, by at most level k -/
structure CallOk (P : Program) (w : World) (K : PySem.W.Frag) (mg : Str → Option Value) (base : Heap) (k : Nat) (x : Str) (n : Nat) (dds : List D) (G : List D → Sto → R D) : Prop where
  ex : ∃ (f : Addr) (fd : FuncData) (ps : List Str) (dvs : List V) (ds : List Value), mg x = some (.ref f) ∧ PySem.W.keepIn K (.ref f) = true ∧ Binds K fd ps ds ∧ Vals dvs ds ∧ (∀ H φ, RepL K mg H φ dds dvs) ∧
    FnOk P w K mg base (L2.CX P w) k f fd ps (spOf K mg (n + dds.length) G)
theorem CallOk.mono {P : Program} {w : World} {K : PySem.W.Frag} {mg : Str → Option Value} {base : Heap} {j k : Nat} {x : Str} {n : Nat} {dds : List D} {G : List D → Sto → R D} (F : CallOk P w K mg base j x n dds G) (h : j ≤ k) : CallOk P w K mg base k x n dds G := by
  obtain ⟨f, fd, ps, dvs, ds, h1, h2, h3, h4, h5, h6⟩ := F.ex
  exact ⟨f, fd, ps, dvs, ds, h1, h2, h3, h4, h5, h6.mono h⟩
section
variable {X : Cx} {W : WX} {e : Expr} {es : List Expr} {f : EM} {fs : List EM} {pos p : Pos} {k j : Nat} {x : Str} {G : List D → Sto → R D}
theorem PostG.chg {α γ : Type} {K : PySem.W.Frag} {mg : Str → Option Value} {W W' : WX} {rel : Rel α γ} {bs : List Nat} {σ σ' : L2.St} {H : Hp} {φ : Ph} {r : R α} {Q : γ → Hp → Prop} (h : PostG K mg W rel bs σ H φ r Q)
    (hw : ∀ c d H, W c d σ H → W' c d σ' H) : PostG K mg W' rel bs σ' H φ r Q := by
  cases r with
  | ok a S => exact h
  | ex e S => exact fun c d H' φ' x s r => hw _ _ _ (h c d H' φ' x s r)
  | bad => exact h
theorem tApp {α γ : Type} {rel : Rel α γ} {g : List D → Sto → R α} {σ : L2.St} {H : Hp} {Q : γ → Hp → Prop} {T : List V → Hp → Prop} (h : tG X W rel (fun ρ S => (aList fs ρ S).bind g) σ H Q)
    (hk : ∀ bs H φ S ds vs, Sim X.K X.mg H φ bs S → RepL X.K X.mg H φ ds vs → ds.length = fs.length → PostG X.K X.mg W rel bs σ H φ (g ds S) Q → T vs H) : tA X W (aList fs) σ H T := by
  obtain ⟨φ, bs, ρ, S, s, en, h⟩ := h
  have hl : ∀ ds S', aList fs ρ S = .ok ds S' → ds.length = fs.length := fun _ _ q => aList_len q
  refine ⟨φ, bs, ρ, S, s, en, ?_⟩
  have h : PostG X.K X.mg W rel bs σ H φ ((aList fs ρ S).bind g) Q := h
  revert h hl
  cases aList fs ρ S with
  | ok ds S1 => exact fun hl h v H1 φ1 x s1 r1 => hk bs H1 φ1 S1 ds v s1 r1 (hl _ _ rfl) (PostG.shift x h)
  | ex d S1 => exact fun _ h => h
  | bad => exact fun _ h => h
theorem sp_of {dds : List D} {dvs : List V} {σ : L2.St} {Q : VK} {bs : List Nat} {H : Hp} {φ : Ph} {S : Sto} {ds : List D} {vs : List V} {n : Nat} (hd : ∀ H φ, RepL X.K X.mg H φ dds dvs) (s : Sim X.K X.mg H φ bs S) (r : RepL X.K X.mg H φ ds vs) (hl : ds.length = n)
    (h : PostG X.K X.mg W Rep bs σ H φ (G (ds ++ dds) S) Q) : spOf X.K X.mg (n + dds.length) G (vs ++ dvs) H Q (WE W σ) := by
  refine ⟨?_, φ, bs, ds ++ dds, S, s, r.append (hd _ _), PostG.chg h fun _ _ _ z => z⟩
  rw [List.length_append, ← r.length, ← (hd H φ).length, hl]
/-- f(a, ..) -/
def eCall (fs : List EM) (dds : List D) (G : List D → Sto → R D) : EM := fun ρ S => (aList fs ρ S).bind fun ds S1 => G (ds ++ dds) S1
theorem de_call {dds : List D} (C : Cz X W k) (F : CallOk X.prog X.w X.K X.mg X.base j x fs.length dds G) (hj : j ≤ k) (ha : DA X W (e :: es) (aList fs)) (hg : Gl X x := by rfl) (hdb : (x == ("__debug__" : Str)) = false := by decide)
    (he : starEach (e :: es) X.env = (false, eval e X.env) :: starEach es X.env := by rfl) (hpl : (backTo pos (starEach es X.env)).any (·.1) = false := by rfl) : DE X W (.Call (.Name x p) (e :: es) [] pos) (eCall fs dds G) := by
  obtain ⟨f, fd, ps, dvs, dus, hm, hk, hb, hv, hd, F⟩ := F.ex
  exact (pe_callSD (F.mono hj) C.hr hg hm hk hb hv (fun σ => passAt C.tk σ) ha hdb he hpl).wk fun σ H Q h => tApp h fun bs H φ S ds vs s r hl h => sp_of hd s r hl h

/-! ### built-in functions -/
/-- len -/
def lenS (S : Sto) : D → Option Nat
  | .str s => if s.length ≤ sizeLine then some s.length else none
  | .tup xs => some xs.length
  | .lst xs => some xs.length
  | .frl xs => some xs.length
  | .ref n => match S.get n with
    | some (.lst xs) => some xs.length
    | some (.dic kvs) => some kvs.length
    | _ => none
  | _ => none
def b1 (g : Sto → D → Option D) (ds : List D) (S : Sto) : R D := match ds with
  | [d] => .of S (g S d)
  | _ => .bad
def lenG (S : Sto) (d : D) : Option D := (lenS S d).map fun n => .int n
theorem RepK.length {K : PySem.W.Frag} {mg : Str → Option Value} {H : Hp} {φ : Ph} : ∀ {ds : List (Key × D)} {vs : List (Key × V)}, RepK K mg H φ ds vs → ds.length = vs.length
  | _, _, .nil => rfl
  | _, _, .cons _ t => by simp [RepK.length t]
/-- one argument -/
theorem b1_of {n : Nat} {g : Sto → D → Option D} {bs : List Nat} {σ : L2.St} {H : Hp} {φ : Ph} {S : Sto} {ds : List D} {vs : List V} {Q : VK} (s : Sim X.K X.mg H φ bs S) (r : RepL X.K X.mg H φ ds vs) (h : Post X W bs σ H φ (b1 g ds S) Q) :
    ∃ d v d', vs = [v] ∧ Rep X.K X.mg H φ d v ∧ g S d = some d' ∧ Post X W bs σ H φ (.ok d' S) Q := by
  cases r with
  | nil => exact h.elim
  | cons r t =>
    cases t with
    | cons _ _ => exact h.elim
    | nil =>
      obtain ⟨d', e, h⟩ := of_post h
      exact ⟨_, _, d', rfl, r, e, h⟩
theorem len_ok {n : Nat} : CallD X W n (fun xs H Q => (∃ x n, xs = [x] ∧ LenV X.K x H n ∧ Q (.int n) H) ∨ (∃ a kvs, xs = [V.ref a] ∧ H a = some (.dK kvs) ∧ Q (.int kvs.length) H)) (b1 lenG) := by
  intro bs σ H φ S ds vs Q s r hl h
  obtain ⟨d, v, d', rfl, r, e, h⟩ := b1_of (n := n) s r h
  unfold lenG at e
  cases r with
  | str z g =>
    have e' : (if z.length ≤ sizeLine then some z.length else none).map (fun n => D.int n) = some d' := e
    by_cases hz : z.length ≤ sizeLine
    · rw [if_pos hz] at e'
      cases e'
      exact .inl ⟨_, z.length, rfl, ⟨by simpa [Str.length] using hz, by simp [Str.length]⟩, PostG.done s (.int _) h⟩
    · rw [if_neg hz] at e'; cases e'
  | tup h1 h2 =>
    cases e
    exact .inl ⟨_, _, rfl, .inr ⟨_, h1, h2.length⟩, PostG.done s (.int _) h⟩
  | lst h1 _ h2 =>
    cases e
    exact .inl ⟨_, _, rfl, .inl ⟨_, .of h1, h2.length⟩, PostG.done s (.int _) h⟩
  | frl h1 h2 =>
    cases e
    exact .inl ⟨_, _, rfl, .inl ⟨_, h1.sq, h2.length⟩, PostG.done s (.int _) h⟩
  | @ref n a h1 =>
    simp only [lenS] at e
    split at e
    · rename_i xs q
      cases e
      obtain ⟨a', ev, _, vs, hv, lv⟩ := s.at (.ref h1) q
      cases ev
      exact .inl ⟨_, _, rfl, .inl ⟨_, .of hv, lv.length⟩, PostG.done s (.int _) h⟩
    · rename_i xs q
      cases e
      obtain ⟨a', ev, _, vs, hv, lv⟩ := s.at (.ref h1) q
      cases ev
      exact .inr ⟨_, _, rfl, hv, by rw [← lv.length]; exact PostG.done s (.int _) h⟩
    · cases e
  | _ => cases e
theorem de_len (hm : X.mg "len" = none) (ha : DA X W (e :: es) (aList fs)) (hg : Gl X "len" := by rfl) (he : starEach (e :: es) X.env = (false, eval e X.env) :: starEach es X.env := by rfl) (hpl : (backTo pos (starEach es X.env)).any (·.1) = false := by rfl) :
    DE X W (.Call (.Name "len" p) (e :: es) [] pos) (eApp fs (b1 lenG)) := (pe_callB (CallR.or call_len call_lenD) hg hm boot_len ha (by decide) (by decide) he hpl).wk (tCB_wk len_ok)
/-- int(n), int(True) -/
def intG (_ : Sto) : D → Option D
  | .int i => some (.int i)
  | .bl b => some (.int (if b then 1 else 0))
  | _ => none
theorem int_ok {n : Nat} : CallD X W n (fun xs H Q => (∃ i, xs = [.int i] ∧ Q (.int i) H) ∨ ∃ k, xs = [.bl k] ∧ Q (.int (if k then 1 else 0)) H) (b1 intG) := by
  intro bs σ H φ S ds vs Q s r hl h
  obtain ⟨d, v, d', rfl, r, e, h⟩ := b1_of (n := n) s r h
  cases r with
  | int i => cases e; exact .inl ⟨i, rfl, PostG.done s (.int _) h⟩
  | bl b => cases e; exact .inr ⟨b, rfl, PostG.done s (.int _) h⟩
  | _ => cases e
theorem de_intc (hm : X.mg "int" = none) (ha : DA X W (e :: es) (aList fs)) (hg : Gl X "int" := by rfl) (he : starEach (e :: es) X.env = (false, eval e X.env) :: starEach es X.env := by rfl) (hpl : (backTo pos (starEach es X.env)).any (·.1) = false := by rfl) :
    DE X W (.Call (.Name "int" p) (e :: es) [] pos) (eApp fs (b1 intG)) := (pe_callTy call_int1 hg hm (by decide +kernel) ha (by decide) (by decide) he hpl).wk (tCB_wk int_ok)
/-- abs(n) -/
def absG (_ : Sto) : D → Option D
  | .int i => some (.int (if i < 0 then -i else i))
  | _ => none
theorem abs_ok {n : Nat} : CallD X W n (fun xs H Q => ∃ i, xs = [.int i] ∧ Q (.int (if i < 0 then -i else i)) H) (b1 absG) := by
  intro bs σ H φ S ds vs Q s r hl h
  obtain ⟨d, v, d', rfl, r, e, h⟩ := b1_of (n := n) s r h
  cases r with
  | int i => cases e; exact ⟨i, rfl, PostG.done s (.int _) h⟩
  | _ => cases e
theorem de_abs (hm : X.mg "abs" = none) (ha : DA X W (e :: es) (aList fs)) (hg : Gl X "abs" := by rfl) (he : starEach (e :: es) X.env = (false, eval e X.env) :: starEach es X.env := by rfl) (hpl : (backTo pos (starEach es X.env)).any (·.1) = false := by rfl) :
    DE X W (.Call (.Name "abs" p) (e :: es) [] pos) (eApp fs (b1 absG)) := (pe_callB call_abs hg hm (by decide +kernel) ha (by decide) (by decide) he hpl).wk (tCB_wk abs_ok)
/-- list(x) of a list or a tuple -/
def dList (c : Bool) (ds : List D) (S : Sto) : R D := match ds with
  | [d] => match seqS S d with
    | some xs => mkL c xs S
    | none => .bad
  | _ => .bad
theorem list_ok {n : Nat} {c : Bool} : CallD X W n (fun xs H Q => ∃ p ys, xs = [.ref p] ∧ (SqL X.K H p ys ∨ SqT X.K H p ys) ∧ ∀ l, H l = none → Q (.ref l) (upd H l (.lst ys))) (dList c) := by
  intro bs σ H φ S ds vs Q s r hl h
  cases r with
  | nil => exact h.elim
  | cons r t =>
    cases t with
    | cons _ _ => exact h.elim
    | nil =>
      simp only [dList] at h
      split at h
      · rename_i xs e
        obtain ⟨a, vs, rfl, hq, lr⟩ := s.seq r e
        exact ⟨a, vs, rfl, hq, fun p hp => mkL_ok s lr hp h⟩
      · exact h.elim
theorem de_list {c : Bool} (hm : X.mg "list" = none) (ha : DA X W (e :: es) (aList fs)) (hg : Gl X "list" := by rfl) (he : starEach (e :: es) X.env = (false, eval e X.env) :: starEach es X.env := by rfl) (hpl : (backTo pos (starEach es X.env)).any (·.1) = false := by rfl) :
    DE X W (.Call (.Name "list" p) (e :: es) [] pos) (eApp fs (dList c)) := (pe_callTy call_list_of hg hm (by decide +kernel) ha (by decide) (by decide) he hpl).wk (tCB_wk list_ok)
/-- tuple(x) of a list or a tuple -/
def dTuple (ds : List D) (S : Sto) : R D := match ds with
  | [d] => match seqS S d with
    | some xs => .ok (.tup xs) S
    | none => .bad
  | _ => .bad
theorem tuple_ok {n : Nat} : CallD X W n (fun xs H Q => ∃ p ys, xs = [.ref p] ∧ ((SqL X.K H p ys ∧ ∀ l, H l = none → Q (.ref l) (upd H l (.tup ys))) ∨ (SqT X.K H p ys ∧ Q (.ref p) H))) dTuple := by
  intro bs σ H φ S ds vs Q s r hl h
  cases r with
  | nil => exact h.elim
  | cons r t =>
    cases t with
    | cons _ _ => exact h.elim
    | nil =>
      simp only [dTuple] at h
      split at h
      · rename_i xs e
        obtain ⟨a, vs, rfl, hq, lr⟩ := s.seq r e
        refine ⟨a, vs, rfl, ?_⟩
        rcases hq with hq | hq
        · exact .inl ⟨hq, fun p hp => tup_ok s lr hp h⟩
        · exact .inr ⟨hq, PostG.done s (.tup hq lr) h⟩
      · exact h.elim
theorem de_tuple (hm : X.mg "tuple" = none) (ha : DA X W (e :: es) (aList fs)) (hg : Gl X "tuple" := by rfl) (he : starEach (e :: es) X.env = (false, eval e X.env) :: starEach es X.env := by rfl) (hpl : (backTo pos (starEach es X.env)).any (·.1) = false := by rfl) :
    DE X W (.Call (.Name "tuple" p) (e :: es) [] pos) (eApp fs dTuple) := (pe_callTy call_tuple_of hg hm (by decide +kernel) ha (by decide) (by decide) he hpl).wk (tCB_wk tuple_ok)
/-- dict(d): a copy -/
def dDict (c : Bool) (ds : List D) (S : Sto) : R D := match ds with
  | [d] => match dicS S d with
    | some kvs => mkD c kvs S
    | none => .bad
  | _ => .bad
theorem dict_ok {n : Nat} {c : Bool} : CallD X W n (fun xs H Q => ∃ (a : Addr) (kvs : List (Key × V)), xs = [.ref a] ∧ Rd H a (.dK kvs) ∧ ∀ p, H p = none → Q (.ref p) (upd H p (.dK kvs))) (dDict c) := by
  intro bs σ H φ S ds vs Q s r hl h
  cases r with
  | nil => exact h.elim
  | cons r t =>
    cases t with
    | cons _ _ => exact h.elim
    | nil =>
      simp only [dDict] at h
      split at h
      · rename_i xs e
        obtain ⟨a, vs, rfl, hq, lr⟩ := s.dic r e
        exact ⟨a, vs, rfl, hq, fun p hp => mkD_ok s lr hp h⟩
      · exact h.elim
theorem de_dictc {c : Bool} (hm : X.mg "dict" = none) (ha : DA X W (e :: es) (aList fs)) (hg : Gl X "dict" := by rfl) (he : starEach (e :: es) X.env = (false, eval e X.env) :: starEach es X.env := by rfl) (hpl : (backTo pos (starEach es X.env)).any (·.1) = false := by rfl) :
    DE X W (.Call (.Name "dict" p) (e :: es) [] pos) (eApp fs (dDict c)) := (pe_callTy call_dictD hg hm (by decide +kernel) ha (by decide) (by decide) he hpl).wk (tCB_wk dict_ok)
/-- isinstance(x, T), T a built-in type -/
def tyS (S : Sto) : D → Option String
  | .non => some "NoneType"
  | .bl _ => some "bool"
  | .int _ => some "int"
  | .str _ => some "str"
  | .tup _ => some "tuple"
  | .lst _ => some "list"
  | .frl _ => some "list"
  | .dic _ => some "dict"
  | .ref n => match S.get n with
    | some (.lst _) => some "list"
    | some (.dic _) => some "dict"
    | _ => none
  | _ => none
def isTy (T t : String) : Bool := t == T || (t == "bool" && T == "int")
def eIsT (T : String) (f : EM) : EM := fun ρ S => (f ρ S).bind fun d S1 => match tyS S1 d with
  | some t => .ok (.bl (isTy T t)) S1
  | none => .bad
theorem kit_tab : ∀ T ∈ ["str", "int", "bool", "list", "tuple", "dict"], ∀ t ∈ ["NoneType", "bool", "int", "str", "tuple", "list", "dict"], kitB t T = some (isTy T t) := by decide +kernel
theorem Sim.ty {K : PySem.W.Frag} {mg : Str → Option Value} {H : Hp} {φ : Ph} {bs : List Nat} {S : Sto} {d : D} {v : V} {t : String} (s : Sim K mg H φ bs S) (r : Rep K mg H φ d v) (e : tyS S d = some t) :
    TyX K H v (.type t) ∧ t ∈ ["NoneType", "bool", "int", "str", "tuple", "list", "dict"] := by
  cases r with
  | non => cases e; exact ⟨.base .non, by decide⟩
  | bl b => cases e; exact ⟨.base (.bl b), by decide⟩
  | int i => cases e; exact ⟨.base (.int i), by decide⟩
  | str z g => cases e; exact ⟨.base (.str _), by decide⟩
  | tup h _ =>
    cases e
    refine ⟨?_, by decide⟩
    rcases h with (h | ⟨o, h⟩) | ⟨o, its, n, hk, hc, _⟩
    · exact .base (.tup h)
    · exact .fTuple h
    · exact .kTuple hk hc
  | lst h _ _ => cases e; exact ⟨.base (.lst h), by decide⟩
  | frl h _ =>
    cases e
    refine ⟨?_, by decide⟩
    rcases h with ⟨o, h⟩ | ⟨o, its, n, hk, hc, _⟩
    · exact .base (.frz h)
    · exact .kList hk hc
  | dic h _ _ =>
    cases e
    refine ⟨?_, by decide⟩
    rcases h with h | ⟨o, h⟩
    · exact .base (.dK h)
    · exact .fDict h
  | obj _ _ _ _ => cases e
  | exn _ _ => cases e
  | @ref n a h1 =>
    simp only [tyS] at e
    split at e
    · rename_i xs q
      cases e
      obtain ⟨a', ev, _, vs, hv, lv⟩ := s.at (.ref h1) q
      cases ev
      exact ⟨.base (.lst hv), by decide⟩
    · rename_i xs q
      cases e
      obtain ⟨a', ev, _, vs, hv, lv⟩ := s.at (.ref h1) q
      cases ev
      exact ⟨.base (.dK hv), by decide⟩
    · cases e
theorem de_isT {T : Str} {Ts : String} {p2 : Pos} (hT : T = Str.ofString Ts) (hIn : Ts ∈ ["str", "int", "bool", "list", "tuple", "dict"]) (hm : X.mg "isinstance" = none) (hmT : X.mg T = none) (hb : bootBuiltins T = some (.type Ts)) (ha : DE X W e f)
    (hg : Gl X "isinstance" := by rfl) (hgT : Gl X T := by rfl) (hn : T ≠ "__name__" := by decide) (hd : (T == ("__debug__" : Str)) = false := by decide)
    (he : starEach [e, .Name T p2] X.env = (false, eval e X.env) :: starEach [.Name T p2] X.env := by rfl) (he2 : starEach [.Name T p2] X.env = (false, eval (.Name T p2) X.env) :: starEach [] X.env := by rfl) (hpl : (backTo pos (starEach [.Name T p2] X.env)).any (·.1) = false := by rfl) :
    DE X W (.Call (.Name "isinstance" p) [e, .Name T p2] [] pos) (eIsT Ts f) := by
  refine (pe_callB call_isi hg hm (by decide +kernel) (pa_cons ha (pa_cons (pe_bltn (v := .ty Ts) hgT hmT hb rfl hn hd) pa_nil he2) he) (by decide) (by decide) he hpl).wk fun σ H Q h => ?_
  obtain ⟨φ, bs, ρ, S, s, en, h⟩ := h
  refine tG_then s en h fun d S1 v H1 φ1 x1 s1 e1 r1 h1 => ?_
  split at h1
  · rename_i t et
    obtain ⟨ty, hin⟩ := s1.ty r1 et
    exact ⟨v, .ty Ts, .type t, .type Ts, isTy Ts t, rfl, .ty Ts, ty, kit_ty (kit_tab Ts hIn t hin), PostG.done s1 (.bl _) h1⟩
  · exact h1.elim
end
end Mi

namespace Mi
open PySem PySem.Spec PyProof.Rows L2

/-! ### blocks -/
def sSkip : SM := fun ρ S => .nx ρ S
def sSeq (f g : SM) : SM := fun ρ S => match f ρ S with
  | .nx ρ' S' => g ρ' S'
  | r => r
section
variable {X : Cx} {W : WX} {st : Stmt} {sts : List Stmt} {f g : SM} {e : Expr} {fe : EM} {pos : Pos} {k : Nat}
theorem dss_nil : DSs X W [] sSkip := pss_nil.wk fun D σ H h => by
  obtain ⟨φ, bs, ρ, S, s, en, h⟩ := h
  exact h σ H φ (.refl _ _) s en
theorem tSeq_wk (D : Ends) (σ : L2.St) (H : Hp) (h : tS X W (sSeq f g) D σ H) : tSeq (tS X W f) (tS X W g) D σ H := by
  obtain ⟨φ, bs, ρ, S, s, en, h⟩ := h
  refine ⟨φ, bs, ρ, S, s, en, ?_⟩
  have h' : PostS X.K X.mg W (xp X) bs H φ (match f ρ S with
    | .nx ρ' S' => g ρ' S'
    | r => r) D := h
  revert h'
  cases f ρ S with
  | nx ρ' S' => exact fun h' σ' H' φ' x s' e' => ⟨φ', bs, ρ', S', s', e', PostS.shift x h'⟩
  | rt d S' => exact fun h' => h'
  | bk d S' => exact fun h' => h'
  | ct d S' => exact fun h' => h'
  | ex d r S' => exact fun h' => h'
  | bad => exact fun h' => h'
theorem dss_cons (h1 : DS X W st f) (h2 : DSs X W sts g) : DSs X W (st :: sts) (sSeq f g) := (pss_cons h1 h2).wk tSeq_wk
theorem dss_one (h1 : DS X W st f) : DSs X W [st] f := pss_one h1
/-- the text from the i-th to the j-th statement, joined -/
theorem ds_pass : DS X W (.Pass pos) sSkip := ps_pass.wk fun D σ H h => by
  obtain ⟨φ, bs, ρ, S, s, en, h⟩ := h
  exact h σ H φ (.refl _ _) s en
def sBreak : SM := fun ρ S => .bk ρ S
def sCont : SM := fun ρ S => .ct ρ S
theorem ds_break : DS X W (.Break pos) sBreak := ps_break.wk fun D σ H h => by
  obtain ⟨φ, bs, ρ, S, s, en, h⟩ := h
  exact h σ H φ (.refl _ _) s en
theorem ds_cont : DS X W (.Continue pos) sCont := ps_continue.wk fun D σ H h => by
  obtain ⟨φ, bs, ρ, S, s, en, h⟩ := h
  exact h σ H φ (.refl _ _) s en
theorem ds_doc {x j pos pos'} : DS X W (.Expr (.Constant (.str x) j pos) pos') sSkip := ps_doc.wk fun D σ H h => by
  obtain ⟨φ, bs, ρ, S, s, en, h⟩ := h
  exact h σ H φ (.refl _ _) s en
/-- what the proof never comes to -/
def sNever : SM := fun _ _ => .bad
theorem ds_never : DS X W st sNever := ps_never.wk fun D σ H h => by
  obtain ⟨φ, bs, ρ, S, s, en, h⟩ := h
  exact h
theorem dss_never : DSs X W sts sNever := pss_never.wk fun D σ H h => by
  obtain ⟨φ, bs, ρ, S, s, en, h⟩ := h
  exact h
def sExpr (f : EM) : SM := fun ρ S => (f ρ S).bindS ρ fun _ S1 => .nx ρ S1
theorem ds_expr (he : DE X W e fe) (hs : swapsWith e none pos.line X.env = pure false := by rfl) : DS X W (.Expr e pos) (sExpr fe) := (ps_expr he hs).wk fun D σ H h => by
  obtain ⟨φ, bs, ρ, S, s, en, h⟩ := h
  exact tG_thenS s en h fun d S1 v H1 φ1 x1 s1 e1 r1 h1 => h1 σ H1 φ1 (.refl _ _) s1 e1
def sRet (f : EM) : SM := fun ρ S => (f ρ S).bindS ρ fun d S1 => .rt d S1
theorem ds_ret (he : DE X W e fe) : DS X W (.Return (some e) pos) (sRet fe) := (ps_ret he).wk fun D σ H h => by
  obtain ⟨φ, bs, ρ, S, s, en, h⟩ := h
  exact tG_thenS s en h fun d S1 v H1 φ1 x1 s1 e1 r1 h1 => h1 v H1 φ1 (.refl _ _) s1 r1
def sRetN : SM := fun _ S => .rt .non S
theorem ds_retN : DS X W (.Return none pos) sRetN := ps_retN.wk fun D σ H h => by
  obtain ⟨φ, bs, ρ, S, s, en, h⟩ := h
  exact h .non H φ (.refl _ _) s .non
def sIf (t : TM) (f g : SM) : SM := fun ρ S => (t ρ S).bindS ρ fun b S1 => if b = true then f ρ S1 else g ρ S1
theorem ds_if {c : Expr} {t : TM} {as bs' : List Stmt} (hc : DT X W c t) (ha : DSs X W as f) (hb : DSs X W bs' g) : DS X W (.If c as bs' pos) (sIf t f g) := (ps_if hc ha hb).wk fun D σ H h => by
  obtain ⟨φ, bs, ρ, S, s, en, h⟩ := h
  refine tG_thenS s en h fun d S1 v H1 φ1 x1 s1 e1 r1 h1 => ?_
  have r1' : v = d := r1
  subst r1'
  cases v with
  | true => exact iteT ⟨φ1, bs, ρ, S1, s1, e1, h1⟩
  | false => exact iteF ⟨φ1, bs, ρ, S1, s1, e1, h1⟩

/-! ### targets -/
abbrev GM := D → Env → Sto → Option Env
def tGt (X : Cx) (t : GM) : TG := fun v σ H Q => ∃ φ bs ρ S d, Sim X.K X.mg H φ bs S ∧ EnvR X.K X.mg (xp X) H φ ρ σ ∧ Rep X.K X.mg H φ d v ∧ ∃ ρ', t d ρ S = some ρ' ∧ ∀ σ', EnvR X.K X.mg (xp X) H φ ρ' σ' → Q σ' H
abbrev DG (X : Cx) (tg : Expr) (t : GM) : Prop := PG X tg (tGt X t)
theorem PG.wk {tg : Expr} {t t' : TG} (h : PG X tg t) (w : ∀ v σ H Q, t' v σ H Q → t v σ H Q) : PG X tg t' := ⟨fun pins s σ H v u Q I r q => h.run pins s σ H v u Q I r (w _ _ _ _ q)⟩
def gtName (i : Nat) : GM := fun d ρ _ => some (ρ.set i (some d))
theorem dg_name {i : Nat} {x : Str} (hN : X.N.Nodup) (hi : X.N[i]? = some x := by rfl) (hx : Loc X.env.scope x := by first | exact Or.inl rfl | exact Or.inr rfl) (hf : X.fn x = true ∨ X.env.scope.names.lookup x = some .local := by first | exact .inl rfl | exact .inr rfl | assumption) (hne : (x == ("error" : Str)) = false ∨ X.calm = true := by first | exact .inr rfl | exact .inl (by decide)) : DG X (.Name x pos) (gtName i) :=
  PG.wk (pg_name hN hi hx hf) fun v σ H Q h => by
    obtain ⟨φ, bs, ρ, S, d, s, en, r, ρ', e, q⟩ := h
    cases e
    exact q _ (en.set r i (xp_no hne hi))
/-- several, from the items -/
def gtAll : List GM → List D → Env → Sto → Option Env
  | [], [], ρ, _ => some ρ
  | t :: ts, d :: ds, ρ, S => match t d ρ S with
    | some ρ' => gtAll ts ds ρ' S
    | none => none
  | _, _, _, _ => none
def tGts (X : Cx) (ts : List GM) : TGs := fun vs σ H Q => ∃ φ bs ρ S ds, Sim X.K X.mg H φ bs S ∧ EnvR X.K X.mg (xp X) H φ ρ σ ∧ RepL X.K X.mg H φ ds vs ∧ ∃ ρ', gtAll ts ds ρ S = some ρ' ∧ ∀ σ', EnvR X.K X.mg (xp X) H φ ρ' σ' → Q σ' H
abbrev DGs (X : Cx) (tgs : List Expr) (ts : List GM) : Prop := PGs X tgs (tGts X ts)
theorem PGs.wk {tg : List Expr} {t t' : TGs} (h : PGs X tg t) (w : ∀ v σ H Q, t' v σ H Q → t v σ H Q) : PGs X tg t' := ⟨fun pins s σ H v u Q I r q => h.run pins s σ H v u Q I r (w _ _ _ _ q)⟩
theorem dgs_nil : DGs X [] [] := PGs.wk pgs_nil fun vs σ H Q h => by
  obtain ⟨φ, bs, ρ, S, ds, s, en, r, ρ', e, q⟩ := h
  cases r with
  | nil => cases e; exact ⟨rfl, q _ en⟩
  | cons _ _ => cases e
theorem dgs_cons {es : List Expr} {t : GM} {ts : List GM} (h1 : DG X e t) (h2 : DGs X es ts) (hs : (assignEach (e :: es) X.env).map (·.2) = assign e X.env :: (assignEach es X.env).map (·.2) := by rfl) : DGs X (e :: es) (t :: ts) := PGs.wk (pgs_cons h1 h2 hs) fun vs σ H Q h => by
  obtain ⟨φ, bs, ρ, S, ds, s, en, r, ρ', e, q⟩ := h
  cases r with
  | nil => cases e
  | cons r t' =>
    simp only [gtAll] at e
    split at e
    · rename_i ρ1 e1
      exact ⟨_, _, rfl, φ, bs, ρ, S, _, s, en, r, ρ1, e1, fun σ1 en1 => ⟨φ, bs, ρ1, S, _, s, en1, t', ρ', e, q⟩⟩
    · cases e
def gtTup (ts : List GM) : GM := fun d ρ S => match seqS S d with
  | some ds => gtAll ts ds ρ S
  | none => none
theorem gtAll_len : ∀ {ts : List GM} {ds : List D} {ρ ρ' : Env} {S : Sto}, gtAll ts ds ρ S = some ρ' → ds.length = ts.length
  | [], [], _, _, _, _ => rfl
  | [], _ :: _, _, _, _, h => by cases h
  | _ :: _, [], _, _, _, h => by cases h
  | t :: ts, d :: ds, ρ, ρ', S, h => by
    simp only [gtAll] at h
    split at h
    · rw [List.length_cons, List.length_cons, gtAll_len h]
    · cases h
theorem PG.or {tg : Expr} {t t' : TG} (h : PG X tg t) (h' : PG X tg t') : PG X tg (fun v σ H Q => t v σ H Q ∨ t' v σ H Q) :=
  ⟨fun pins s σ H v u Q I r q => q.elim (h.run pins s σ H v u Q I r) (h'.run pins s σ H v u Q I r)⟩
theorem dg_tup {es : List Expr} {n : Nat} {ts : List GM} (C : Cz X W k) (h : DGs X es ts) (hn : (assignEach es X.env).length = ts.length := by rfl) (hst : (assignEach es X.env).findIdx? (·.1) = none := by rfl) : DG X (.Tuple es n pos) (gtTup ts) := by
  refine PG.wk (PG.or (pg_tup C.calm h hn hst) (pg_lst C.calm h hn hst)) fun v σ H Q h => ?_
  obtain ⟨φ, bs, ρ, S, d, s, en, r, ρ', e, q⟩ := h
  simp only [gtTup] at e
  split at e
  · rename_i ds ed
    obtain ⟨a, vs, rfl, hq, lr⟩ := s.seq r ed
    have hl : vs.length = ts.length := by rw [← lr.length]; exact gtAll_len e
    rcases hq with hq | hq
    · exact .inr ⟨a, vs, rfl, hq, hl, φ, bs, ρ, S, ds, s, en, lr, ρ', e, q⟩
    · exact .inl ⟨a, vs, rfl, hq, hl, φ, bs, ρ, S, ds, s, en, lr, ρ', e, q⟩
  · cases e
/-! ### assignments -/
def sAsg (f : EM) (t : GM) : SM := fun ρ S => (f ρ S).bindS ρ fun d S1 => match t d ρ S1 with
  | some ρ' => .nx ρ' S1
  | none => .bad
theorem tAsg_wk {t : GM} (D : Ends) (σ : L2.St) (H : Hp) (h : tS X W (sAsg fe t) D σ H) : tAsg (tE X W fe) (tGt X t) D σ H := by
  obtain ⟨φ, bs, ρ, S, s, en, h⟩ := h
  refine tG_thenS s en h fun d S1 v H1 φ1 x1 s1 e1 r1 h1 => ?_
  split at h1
  · rename_i ρ' et
    exact ⟨φ1, bs, ρ, S1, d, s1, e1, r1, ρ', et, fun σ' en' => h1 σ' H1 φ1 (.refl _ _) s1 en'⟩
  · exact h1.elim
theorem ds_asg {tg : Expr} {t : GM} (he : DE X W e fe) (hg : DG X tg t) (hs : swapsWithSole [tg] e pos.line X.env = pure false := by rfl) (hw : swappedStores [tg] e X.env = pure none := by rfl) (h1 : (assignEach [tg] X.env).map (·.2) = [assign tg X.env] := by rfl) :
    DS X W (.Assign [tg] e pos) (sAsg fe t) := (ps_asg he hg hs hw h1).wk tAsg_wk
theorem ds_set {i : Nat} {x : Str} {pos' : Pos} (hN : X.N.Nodup) (he : DE X W e fe) (hi : X.N[i]? = some x := by rfl) (hx : Loc X.env.scope x := by first | exact Or.inl rfl | exact Or.inr rfl) (hs : swapsWith e (some (.Name x pos')) pos.line X.env = pure false := by rfl)
    (hf : X.fn x = true ∨ X.env.scope.names.lookup x = some .local := by first | exact .inl rfl | exact .inr rfl | assumption) (hne : (x == ("error" : Str)) = false ∨ X.calm = true := by first | exact .inr rfl | exact .inl (by decide)) : DS X W (.Assign [.Name x pos'] e pos) (sAsg fe (gtName i)) := by
  refine (ps_set hN hi hx he hs hf).wk fun D σ H h => ?_
  obtain ⟨φ, bs, ρ, S, s, en, h⟩ := h
  refine tG_thenS s en h fun d S1 v H1 φ1 x1 s1 e1 r1 h1 => ?_
  exact h1 _ H1 φ1 (.refl _ _) s1 (e1.set r1 i (xp_no hne hi))
/-- a, b = x, y -/
def sPar (i j : Nat) (fs : List EM) : SM := fun ρ S => (aList fs ρ S).bindS ρ fun ds S1 => match ds with
  | [d, d'] => .nx ((ρ.set i (some d)).set j (some d')) S1
  | _ => .bad
theorem ds_par {i j : Nat} {x y : Str} {a b : Expr} {fs : List EM} {px py pt : Pos} {kt k2 pt2} (C : Cz X W k) (hN : X.N.Nodup) (ha : DA X W [a, b] (aList fs)) (hi : X.N[i]? = some x := by rfl) (hj : X.N[j]? = some y := by rfl) (hij : i ≠ j := by decide)
    (hx : X.env.scope.names.lookup x = some .local := by rfl) (hy : X.env.scope.names.lookup y = some .local := by rfl)
    (hw : swappedStores [.Tuple [.Name x px, .Name y py] kt pt] (.Tuple [a, b] k2 pt2) X.env = pure (some [x, y]) := by rfl)
    (hs : swapsWithSole [.Tuple [.Name x px, .Name y py] kt pt] (.Tuple [a, b] k2 pt2) pos.line X.env = pure false := by rfl) :
    DS X W (.Assign [.Tuple [.Name x px, .Name y py] kt pt] (.Tuple [a, b] k2 pt2) pos) (sPar i j fs) := by
  refine (ps_par C.calm hN hi hj hij hx hy ha hw hs).wk fun D σ H h => ?_
  obtain ⟨φ, bs, ρ, S, s, en, h⟩ := h
  refine tG_thenS (rel := RepL) s en h fun ds S1 vs H1 φ1 x1 s1 e1 r1 h1 => ?_
  cases r1 with
  | nil => exact h1.elim
  | cons r1 t =>
    cases t with
    | nil => exact h1.elim
    | cons r2 t =>
      cases t with
      | cons _ _ => exact h1.elim
      | nil => exact ⟨_, _, rfl, h1 _ H1 φ1 (.refl _ _) s1 ((e1.set r1 i (xp_no (.inr C.calm) hi)).set r2 j (xp_no (.inr C.calm) hj))⟩
/-- o[i] = e -/
def ixI (n : Nat) (i : Int) : Option Nat := ixN n i
def putD (kvs : List (Key × D)) (k : Key) (v : D) : List (Key × D) := if (kvs.any fun kv => decide (kv.1 = k)) = true then kvs.map (fun kv => if kv.1 = k then (kv.1, v) else kv) else kvs ++ [(k, v)]
def setS (S : Sto) (o i v : D) : Option Sto := match o with
  | .ref n => match S.get n with
    | some (.lst xs) => match intD i with
      | some z => match ixN xs.length z with
        | some j => if S.may n (.lst (xs.set j v)) = true then some (S.set n (.lst (xs.set j v))) else none
        | none => none
      | none => none
    | some (.dic kvs) => match keyD i with
      | some q => if kvs.length < sizeLine ∧ S.may n (.dic (putD kvs q v)) = true then some (S.set n (.dic (putD kvs q v))) else none
      | none => none
    | _ => none
  | _ => none
def sSetIx (fo fi fv : EM) : SM := fun ρ S => (fv ρ S).bindS ρ fun v S1 => (fo ρ S1).bindS ρ fun o S2 => (fi ρ S2).bindS ρ fun i S3 => match setS S3 o i v with
  | some S4 => .nx ρ S4
  | none => .bad
def rSetU : V → V → V → Hp → (Hp → Prop) → Prop := fun o i v H Q => rSetL o i v H Q ∨ ∃ a H', o = .ref a ∧ DPut H a i v H' ∧ Q H'
theorem set_dict (hu : X.A.units + 1 < cLine) : PSet X rSetU := by
  intro pins s σ H o i v ov iv u Q I ro ri rv h
  rcases h with h | ⟨a, H', rfl, g, q⟩
  · exact set_list pins s σ H o i v ov iv u Q I ro ri rv h
  · cases ro
    exact d_setItem hu I g ri rv fun s4 I4 => ⟨H', I4, q⟩
theorem RepK.any {K : PySem.W.Frag} {mg : Str → Option Value} {H : Hp} {φ : Ph} {kk : Key} : ∀ {ds : List (Key × D)} {vs : List (Key × V)}, RepK K mg H φ ds vs → (vs.any fun kv => decide (kv.1 = kk)) = ds.any fun kv => decide (kv.1 = kk)
  | _, _, .nil => rfl
  | _, _, .cons _ t => by rw [List.any_cons, List.any_cons, RepK.any t]
theorem RepK.mapPut {K : PySem.W.Frag} {mg : Str → Option Value} {H : Hp} {φ : Ph} {kk : Key} {d : D} {v : V} (r : Rep K mg H φ d v) : ∀ {ds : List (Key × D)} {vs : List (Key × V)}, RepK K mg H φ ds vs →
    RepK K mg H φ (ds.map fun kv => if kv.1 = kk then (kv.1, d) else kv) (vs.map fun kv => if kv.1 = kk then (kv.1, v) else kv)
  | _, _, .nil => .nil
  | _, _, .cons (k := k') q t => by
    rw [List.map_cons, List.map_cons]
    by_cases e : k' = kk
    · rw [if_pos e, if_pos e]; exact .cons r (RepK.mapPut r t)
    · rw [if_neg e, if_neg e]; exact .cons q (RepK.mapPut r t)
theorem RepK.append {K : PySem.W.Frag} {mg : Str → Option Value} {H : Hp} {φ : Ph} : ∀ {ds es : List (Key × D)} {vs ws : List (Key × V)}, RepK K mg H φ ds vs → RepK K mg H φ es ws → RepK K mg H φ (ds ++ es) (vs ++ ws)
  | _, _, _, _, .nil, s => s
  | _, _, _, _, .cons h t, s => .cons h (RepK.append t s)
theorem RepK.put {K : PySem.W.Frag} {mg : Str → Option Value} {H : Hp} {φ : Ph} {kk : Key} {d : D} {v : V} (r : Rep K mg H φ d v) {ds : List (Key × D)} {vs : List (Key × V)} (h : RepK K mg H φ ds vs) : RepK K mg H φ (putD ds kk d) (putK vs kk v) := by
  unfold putD putK
  rw [h.any]
  by_cases e : (ds.any fun kv => decide (kv.1 = kk)) = true
  · rw [if_pos e, if_pos e]; exact h.mapPut r
  · rw [if_neg e, if_neg e]; exact h.append (.cons r .nil)
theorem set_ok {bs : List Nat} {H : Hp} {φ : Ph} {S S' : Sto} {o i v : D} {ov iv vv : V} {Q : Hp → Prop} (s : Sim X.K X.mg H φ bs S) (ro : Rep X.K X.mg H φ o ov) (ri : Rep X.K X.mg H φ i iv) (rv : Rep X.K X.mg H φ v vv) (h : setS S o i v = some S')
    (q : ∀ H', Ext H φ H' φ → Sim X.K X.mg H' φ bs S' → Q H') : rSetU ov iv vv H Q := by
  cases ro with
  | @ref n a ha =>
    simp only [setS] at h
    split at h
    · rename_i xs e
      obtain ⟨a', ev, _, vs, hv, lv⟩ := s.at (.ref ha) e
      cases ev
      split at h
      · rename_i z ez
        have hi := ri.int' ez
        subst hi
        split at h
        · rename_i j ej
          by_cases hm : S.may n (.lst (xs.set j v)) = true
          · rw [if_pos hm] at h
            cases h
            have x : Ext H φ (upd H a (.lst (vs.set j vv))) φ := Ext.wr s ha
            exact .inl ⟨a, vs, z, j, rfl, rfl, hv, by rw [← lv.length]; exact ej, q _ x (s.wr ha hm ⟨_, upd_same, (lv.set rv j).ext x s.cells⟩)⟩
          · rw [if_neg hm] at h; cases h
        · cases h
      · cases h
    · rename_i kvs e
      obtain ⟨a', ev, _, vs, hv, lv⟩ := s.at (.ref ha) e
      cases ev
      split at h
      · rename_i z ez
        have hi := ri.key ez
        subst hi
        by_cases hm : kvs.length < sizeLine ∧ S.may n (.dic (putD kvs z v)) = true
        · rw [if_pos hm] at h
          cases h
          have x : Ext H φ (upd H a (.dK (putK vs z vv))) φ := Ext.wr s ha
          exact .inr ⟨a, _, rfl, .inl ⟨vs, z, hv, rfl, by rw [← lv.length]; exact hm.1, rfl⟩, q _ x (s.wr ha hm.2 ⟨_, upd_same, (lv.put rv).ext x s.cells⟩)⟩
        · rw [if_neg hm] at h; cases h
      · cases h
    · cases h
  | _ => cases h
theorem ds_setIx {eo ei ev : Expr} {fo fi fv : EM} {pos' : Pos} (C : Cz X W k) (ho : DE X W eo fo) (hi : DE X W ei fi) (hv : DE X W ev fv)
    (ha : ∀ v, assign (.Subscript eo ei pos') X.env v = (do
      let ov ← holding [v] (eval eo X.env)
      let iv ← holding [v, ov] (eval ei X.env)
      standAt pos'
      holding [v, ov, iv] (setItem ov iv v)
      release [v, ov, iv] []) := by intro _; rfl)
    (hs : swapsWithSole [.Subscript eo ei pos'] ev pos.line X.env = pure false := by rfl) (hw : swappedStores [.Subscript eo ei pos'] ev X.env = pure none := by rfl)
    (h1 : (assignEach [.Subscript eo ei pos'] X.env).map (·.2) = [assign (.Subscript eo ei pos') X.env] := by rfl) :
    DS X W (.Assign [.Subscript eo ei pos'] ev pos) (sSetIx fo fi fv) := by
  refine (ps_asg hv (pg_sub ho hi (set_dict C.u1) ha) hs hw h1).wk fun D σ H h => ?_
  obtain ⟨φ, bs, ρ, S, s, en, h⟩ := h
  refine tG_thenS s en h fun dv S1 vv H1 φ1 x1 s1 e1 r1 h1 => ?_
  refine tG_thenS s1 e1 h1 fun d2 S2 v2 H2 φ2 x2 s2 e2 r2 h2 => ?_
  refine tG_thenS s2 e2 h2 fun d3 S3 v3 H3 φ3 x3 s3 e3 r3 h3 => ?_
  split at h3
  · rename_i S4 e4
    exact set_ok s3 (r2.ext x3 s2.cells) r3 ((r1.ext x2 s1.cells).ext x3 s2.cells) e4 fun H4 x4 s4 => h3 σ H4 φ3 x4 s4 (e3.ext x4 s3.cells)
  · exact h3.elim
/-- name op= e -/
def sAug (i : Nat) (f : EM) (g : D → D → Sto → R D) : SM := fun ρ S => match ρ[i]? with
  | some (some x) => (f ρ S).bindS ρ fun y S1 => (g x y S1).bindS ρ fun z S2 => .nx (ρ.set i (some z)) S2
  | _ => .bad
theorem ds_aug {i : Nat} {x : Str} {op : Operator} {r : TIp} {g : D → D → Sto → R D} {pos' : Pos} (ho : PIp X op r) (hk : OpD X W r g) (hN : X.N.Nodup) (he : DE X W e fe) (hi : X.N[i]? = some x := by rfl) (hx : Loc X.env.scope x := by first | exact Or.inl rfl | exact Or.inr rfl)
    (hf : X.fn x = true ∨ X.env.scope.names.lookup x = some .local := by first | exact .inl rfl | exact .inr rfl | assumption) (hne : (x == ("error" : Str)) = false ∨ X.calm = true := by first | exact .inr rfl | exact .inl (by decide)) : DS X W (.AugAssign (.Name x pos') op e pos) (sAug i fe g) := by
  refine (ps_aug hN hi hx he ho hf).wk fun D σ H h => ?_
  obtain ⟨φ, bs, ρ, S, s, en, h⟩ := h
  unfold sAug at h
  split at h
  · rename_i d ed
    obtain ⟨v, h1, h2⟩ := en.rep ed
    refine ⟨v, h1, ?_⟩
    refine tG_thenS s en h fun dy S1 y H1 φ1 x1 s1 e1 r1 h1 => ?_
    refine hk bs σ H1 φ1 S1 d dy v y _ s1 (h2.ext x1 s.cells) r1 ?_
    revert h1
    cases g d dy S1 with
    | ok z S2 => exact fun h1 vz H2 φ2 x2 s2 r2 => h1 _ H2 φ2 x2 s2 ((e1.ext x2 s1.cells).set r2 i (xp_no hne hi))
    | ex z S2 => exact fun h1 c dx H2 φ2 x2 s2 r2 => h1 c dx σ H2 φ2 x2 s2 (e1.ext x2 s1.cells) r2
    | bad => exact fun h1 => h1
  · exact h.elim
def dAddI : D → D → Sto → R D
  | .int i, .int j, S => .ok (.int (i + j)) S
  | _, _, _ => .bad
theorem addI_ok : OpD X W (ipI fun i j => i + j) dAddI := by
  intro bs σ H φ S dx dy x y Q s rx ry h
  cases rx with
  | int i =>
    cases ry with
    | int j => exact ⟨i, j, rfl, rfl, PostG.done s (.int _) h⟩
    | _ => exact h.elim
  | _ => exact h.elim
theorem ds_augAdd {i : Nat} {x : Str} {pos' : Pos} (hN : X.N.Nodup) (he : DE X W e fe) (hi : X.N[i]? = some x := by rfl) (hx : Loc X.env.scope x := by first | exact Or.inl rfl | exact Or.inr rfl)
    (hf : X.fn x = true ∨ X.env.scope.names.lookup x = some .local := by first | exact .inl rfl | exact .inr rfl | assumption) (hne : (x == ("error" : Str)) = false ∨ X.calm = true := by first | exact .inr rfl | exact .inl (by decide)) : DS X W (.AugAssign (.Name x pos') .Add e pos) (sAug i fe dAddI) := ds_aug ip_add addI_ok hN he hi hx hf hne
/-! ### loops -/
/-- the rounds that a while may take here -/
def lots : Nat := 1099511627776
def sWhileN (t : TM) (f : SM) : Nat → SM
  | 0 => fun _ _ => .bad
  | n + 1 => fun ρ S => (t ρ S).bindS ρ fun b S1 => if b = true then match f ρ S1 with
      | .nx ρ' S' => sWhileN t f n ρ' S'
      | .ct ρ' S' => sWhileN t f n ρ' S'
      | .bk ρ' S' => .nx ρ' S'
      | r => r
    else .nx ρ S1
def sWhile (t : TM) (f : SM) : SM := sWhileN t f lots
theorem ds_while {c : Expr} {t : TM} {body : List Stmt} (C : Cz X W k) (hc : DT X W c t) (hb : DSs X W body f) : DS X W (.While c body [] pos) (sWhile t f) := by
  refine (ps_while C.po hc hb).wk fun D σ H h => ?_
  refine ⟨fun m σ H => ∃ φ bs ρ S, Sim X.K X.mg H φ bs S ∧ EnvR X.K X.mg (xp X) H φ ρ σ ∧ PostS X.K X.mg W (xp X) bs H φ (sWhileN t f m ρ S) D, ⟨lots, h⟩, fun m σ H hw => ?_⟩
  obtain ⟨φ, bs, ρ, S, s, en, h⟩ := hw
  cases m with
  | zero => exact h.elim
  | succ m =>
    refine tG_thenS s en h fun d S1 v H1 φ1 x1 s1 e1 r1 h1 => ?_
    have r1' : v = d := r1
    subst r1'
    cases v with
    | false => exact iteF (h1 σ H1 φ1 (.refl _ _) s1 e1)
    | true =>
      refine iteT ⟨fun σ' H' => ∃ φ bs ρ S, Sim X.K X.mg H' φ bs S ∧ EnvR X.K X.mg (xp X) H' φ ρ σ' ∧ PostS X.K X.mg W (xp X) bs H' φ (sWhileN t f m ρ S) D, fun σ' H' hn => ⟨m, Nat.lt_succ_self m, hn⟩, φ1, bs, ρ, S1, s1, e1, ?_⟩
      rw [if_pos rfl] at h1
      revert h1
      cases f ρ S1 with
      | nx ρ' S' => exact fun h1 σ' H' φ' x s' e' => ⟨φ', bs, ρ', S', s', e', PostS.shift x h1⟩
      | ct ρ' S' => exact fun h1 σ' H' φ' x s' e' => ⟨φ', bs, ρ', S', s', e', PostS.shift x h1⟩
      | bk ρ' S' => exact fun h1 => h1
      | rt d S' => exact fun h1 => h1
      | ex d r S' => exact fun h1 => h1
      | bad => exact fun h1 => h1
end
end Mi

namespace Mi
open PySem PySem.Spec PyProof.Rows L2

/-! ### what is walked -/
/-- the items; the cell that is watched -/
abbrev Wk := List D × Option Nat
abbrev IM := Env → Sto → R Wk
def okSrc (src : Option Nat) (all : List D) (S : Sto) : Prop := match src with
  | none => True
  | some n => S.get n = some (.lst all)
noncomputable instance (src : Option Nat) (all : List D) (S : Sto) : Decidable (okSrc src all S) := Classical.propDecidable _
def JOk (K : PySem.W.Frag) (mg : Str → Option Value) (J : It) (all : List D) (src : Option Nat) (bs : List Nat) (H : Hp) (φ : Ph) : Prop :=
  ∀ H' φ' S', Keeps H φ H' φ' → Sim K mg H' φ' bs S' → okSrc src all S' →
    (∀ (i : Nat) (d : D), all[i]? = some d → J.go i H' ∧ ∀ x H2, J.yld i H' x H2 → H2 = H' ∧ Rep K mg H' φ' d x) ∧ ∀ i : Nat, all.length ≤ i → J.stop i H'
theorem JOk.ext {K : PySem.W.Frag} {mg : Str → Option Value} {J : It} {all : List D} {src : Option Nat} {bs : List Nat} {H H' : Hp} {φ φ' : Ph} (h : JOk K mg J all src bs H φ) (x : Ext H φ H' φ') : JOk K mg J all src bs H' φ' :=
  fun H2 φ2 S2 y s o => h H2 φ2 S2 (x.keeps.trans y) s o
def tI (X : Cx) (W : WX) (im : IM) : TI := fun σ H T => ∃ φ bs ρ S, Sim X.K X.mg H φ bs S ∧ EnvR X.K X.mg (xp X) H φ ρ σ ∧ (match im ρ S with
  | .ok (all, src) S' => ∀ H' φ' J, Ext H φ H' φ' → Sim X.K X.mg H' φ' bs S' → okSrc src all S' → JOk X.K X.mg J all src bs H' φ' → T J H'
  | .ex e S' => ∀ cls dx H' φ', Ext H φ H' φ' → Sim X.K X.mg H' φ' bs S' → ExR X.K X.mg H' φ' e cls dx → W cls dx σ H'
  | .bad => False)
abbrev DI (X : Cx) (W : WX) (tg e : Expr) (im : IM) : Prop := PI X tg e (tI X W im)
theorem _root_.L2.PI.wk {X : Cx} {tg e : Expr} {t t' : TI} (h : PI X tg e t) (w : ∀ σ H T, t' σ H T → t σ H T) : PI X tg e t' := ⟨fun pins s σ H T I q => h.run pins s σ H T I (w _ _ _ q)⟩
def itS (S : Sto) : D → Option Wk
  | .str s => some (s.map fun c => .str [c], none)
  | .tup xs => some (xs, none)
  | .lst xs => some (xs, none)
  | .frl xs => some (xs, none)
  | .ref n => match S.get n with
    | some (.lst xs) => some (xs, some n)
    | _ => none
  | _ => none
def iVal (f : EM) : IM := fun ρ S => (f ρ S).bind fun d S1 => .of S1 (itS S1 d)
section
variable {X : Cx} {W : WX} {tg e : Expr} {f : EM} {k : Nat} {pos p : Pos}
theorem j_list {bs : List Nat} {H : Hp} {φ : Ph} {a : Addr} {ds : List D} {src : Option Nat} (hl : ∀ H' φ' S', Keeps H φ H' φ' → Sim X.K X.mg H' φ' bs S' → okSrc src ds S' → ∃ vs, SqL X.K H' a vs ∧ RepL X.K X.mg H' φ' ds vs) : JOk X.K X.mg (Itl X.K a) ds src bs H φ := by
  intro H' φ' S' x s o
  obtain ⟨vs, h1, h2⟩ := hl H' φ' S' x s o
  refine ⟨fun i d e => ?_, fun i hi => ⟨vs, h1, by rw [← h2.length]; exact hi⟩⟩
  obtain ⟨v, hv, r⟩ := h2.get e
  refine ⟨⟨vs, v, h1, hv⟩, fun y H2 hy => ?_⟩
  obtain ⟨e1, e2⟩ := hy
  have e3 := e2 vs h1
  rw [hv] at e3
  cases e3
  exact ⟨e1, r⟩
theorem j_tup {bs : List Nat} {H : Hp} {φ : Ph} {a : Addr} {ds : List D} {vs : List V} {S : Sto} (s : Sim X.K X.mg H φ bs S) (h1 : SqT X.K H a vs) (h2 : RepL X.K X.mg H φ ds vs) : JOk X.K X.mg (Itt X.K a) ds none bs H φ := by
  intro H' φ' S' x s' o
  have h1' := x.sqt s.cells h1
  have h2' := h2.kp x s.cells
  refine ⟨fun i d e => ?_, fun i hi => ⟨vs, h1', by rw [← h2'.length]; exact hi⟩⟩
  obtain ⟨v, hv, r⟩ := h2'.get e
  refine ⟨⟨vs, v, h1', hv⟩, fun y H2 hy => ?_⟩
  obtain ⟨e1, e2⟩ := hy
  have e3 := e2 vs h1'
  rw [hv] at e3
  cases e3
  exact ⟨e1, r⟩
theorem its_stop {s : List Nat} {i : Nat} {H : Hp} : (Its ⟨s.toArray⟩).stop i H ↔ s.length ≤ i := by
  show s.toArray.size ≤ i ↔ _
  simp
theorem its_go {s : List Nat} {i : Nat} {H : Hp} : (Its ⟨s.toArray⟩).go i H ↔ i < s.length := by
  show i < s.toArray.size ↔ _
  simp
theorem j_str {bs : List Nat} {H : Hp} {φ : Ph} {s : List Nat} (g : goodS s = true) : JOk X.K X.mg (Its ⟨s.toArray⟩) (s.map fun c => .str [c]) none bs H φ := by
  intro H' φ' S' x s' o
  refine ⟨fun i d e => ?_, fun i hi => its_stop.mpr (by simpa using hi)⟩
  rw [List.getElem?_map] at e
  cases q : s[i]? with
  | none => rw [q] at e; cases e
  | some c =>
    rw [q] at e
    cases e
    have hi : i < s.length := (List.getElem?_eq_some_iff.mp q).1
    refine ⟨its_go.mpr hi, fun y H2 hy => ?_⟩
    obtain ⟨e1, c', e2, e3⟩ := hy
    have e4 : s[i]? = some c' := by simpa using e2
    rw [q] at e4
    cases e4
    subst e3
    exact ⟨e1, .str [c] (good_one g (List.mem_of_getElem? q))⟩
theorem di_val (he : DE X W e f) : DI X W tg e (iVal f) := by
  refine (PI.or (PI.or (pi_list he) (pi_tup he)) (pi_str he)).wk fun σ H T h => ?_
  obtain ⟨φ, bs, ρ, S, s, en, h⟩ := h
  unfold iVal at h
  cases q : f ρ S with
  | bad => rw [q] at h; exact h.elim
  | ex d S1 =>
    rw [q] at h
    refine .inl (.inl ⟨φ, bs, ρ, S, s, en, ?_⟩)
    rw [q]
    exact h
  | ok d S1 =>
    rw [q] at h
    dsimp only [R.bind] at h
    cases q2 : itS S1 d with
    | none => rw [q2] at h; exact h.elim
    | some w =>
      rw [q2] at h
      obtain ⟨all, src⟩ := w
      dsimp only [R.of] at h
      have lists : (∀ ys, d ≠ .tup ys) → (∀ z, d ≠ .str z) → iList X.K (tE X W f) σ H T := fun n1 n2 => by
        refine ⟨φ, bs, ρ, S, s, en, ?_⟩
        rw [q]
        intro v H' φ' x s' r
        cases r with
        | lst h1 h2 h3 =>
          cases q2
          exact ⟨_, rfl, ⟨_, .of h1⟩, h H' φ' _ x s' True.intro (j_list fun H2 φ2 S2 y s2 _ => ⟨_, .of (y.at' _ _ h1 h2).1, h3.kp y s'.cells⟩)⟩
        | frl h1 h3 =>
          cases q2
          refine ⟨_, rfl, ⟨_, h1.sq⟩, h H' φ' _ x s' True.intro (j_list fun H2 φ2 S2 y s2 _ => ⟨_, ?_, h3.kp y s'.cells⟩)⟩
          rcases h1 with ⟨o, h1⟩ | h1
          · exact .inl (.inr ⟨o, (y.at' _ _ h1 (s'.cells.frz h1)).1⟩)
          · exact .inr h1
        | @ref n a h1 =>
          simp only [itS] at q2
          split at q2
          · rename_i xs e1
            cases q2
            obtain ⟨a', ev, _, vs, hv, lv⟩ := s'.at (.ref h1) e1
            cases ev
            refine ⟨_, rfl, ⟨_, .of hv⟩, h H' φ' _ x s' e1 (j_list fun H2 φ2 S2 y s2 o2 => ?_)⟩
            obtain ⟨a', ev, _, vs2, hv2, lv2⟩ := s2.at (.ref (y.cell _ _ h1)) o2
            cases ev
            exact ⟨vs2, .of hv2, lv2⟩
          · cases q2
        | tup _ _ => exact absurd rfl (n1 _)
        | str _ _ => exact absurd rfl (n2 _)
        | _ => cases q2
      by_cases ht : ∃ ys, d = .tup ys
      · obtain ⟨ys, rfl⟩ := ht
        cases q2
        refine .inl (.inr ⟨φ, bs, ρ, S, s, en, ?_⟩)
        rw [q]
        intro v H' φ' x s' r
        cases r with
        | tup h1 h2 => exact ⟨_, rfl, ⟨_, h1⟩, h H' φ' _ x s' True.intro (j_tup s' h1 h2)⟩
      · by_cases hz : ∃ z, d = .str z
        · obtain ⟨z, rfl⟩ := hz
          cases q2
          refine .inr ⟨φ, bs, ρ, S, s, en, ?_⟩
          rw [q]
          intro v H' φ' x s' r
          cases r with
          | str z g => exact ⟨_, rfl, h H' φ' _ x s' True.intro (j_str g)⟩
        · exact .inl (.inl (lists (fun ys e => ht ⟨ys, e⟩) fun z e => hz ⟨z, e⟩))
def rangeL (lo : Int) (n : Nat) : List D := (List.range n).map fun i => .int (lo + (i : Nat))
theorem j_range {bs : List Nat} {H : Hp} {φ : Ph} {lo : Int} {n : Nat} : JOk X.K X.mg (Itr lo n) (rangeL lo n) none bs H φ := by
  intro H' φ' S' x s' o
  unfold rangeL
  refine ⟨fun i d e => ?_, fun i hi => by
    have q : n ≤ i := by simpa using hi
    exact q⟩
  rw [List.getElem?_map] at e
  cases q : (List.range n)[i]? with
  | none => rw [q] at e; cases e
  | some j =>
    rw [q] at e
    cases e
    obtain ⟨h1, h2⟩ := List.getElem?_eq_some_iff.mp q
    have hj : j = i := by simpa using h2.symm
    subst hj
    refine ⟨(show j < n by simpa using h1), fun y H2 hy => ?_⟩
    obtain ⟨e1, e2⟩ := hy
    subst e2
    exact ⟨e1, .int _⟩
/-- range(n), range(a, b) -/
def iRange (fs : List EM) : IM := fun ρ S => (aList fs ρ S).bind fun ds S1 => match ds with
  | [.int j] => if -(2 ^ 62) ≤ j ∧ j < 2 ^ 62 then .ok (rangeL 0 j.toNat, none) S1 else .bad
  | [.int i, .int j] => if -(2 ^ 62) ≤ i ∧ i < 2 ^ 62 ∧ -(2 ^ 62) ≤ j ∧ j < 2 ^ 62 then .ok (rangeL i (j - i).toNat, none) S1 else .bad
  | _ => .bad
theorem tA_I {fs : List EM} {g : List D → Sto → R Wk} {σ : L2.St} {H : Hp} {T : It → Hp → Prop} {U : List V → Hp → Prop} (h : tI X W (fun ρ S => (aList fs ρ S).bind g) σ H T)
    (hk : ∀ bs H φ S ds vs, Sim X.K X.mg H φ bs S → RepL X.K X.mg H φ ds vs → ds.length = fs.length → (match g ds S with
      | .ok (all, src) S' => ∀ H' φ' J, Ext H φ H' φ' → Sim X.K X.mg H' φ' bs S' → okSrc src all S' → JOk X.K X.mg J all src bs H' φ' → T J H'
      | .ex e S' => ∀ cls dx H' φ', Ext H φ H' φ' → Sim X.K X.mg H' φ' bs S' → ExR X.K X.mg H' φ' e cls dx → W cls dx σ H'
      | .bad => False) → U vs H) : tA X W (aList fs) σ H U := by
  obtain ⟨φ, bs, ρ, S, s, en, h⟩ := h
  have hl : ∀ ds S', aList fs ρ S = .ok ds S' → ds.length = fs.length := fun _ _ q => aList_len q
  refine ⟨φ, bs, ρ, S, s, en, ?_⟩
  dsimp only at h
  cases q : aList fs ρ S with
  | ok ds S1 =>
    rw [q] at h
    dsimp only [R.bind] at h
    intro v H1 φ1 x s1 r1
    refine hk bs H1 φ1 S1 ds v s1 r1 (hl _ _ q) ?_
    cases q2 : g ds S1 with
    | ok w S2 =>
      rw [q2] at h
      obtain ⟨all, src⟩ := w
      exact fun H' φ' J y s2 o j => h H' φ' J (x.trans y) s2 o j
    | ex d S2 => rw [q2] at h; exact fun c dx H' φ' y s2 r => h c dx H' φ' (x.trans y) s2 r
    | bad => rw [q2] at h; exact h
  | ex d S1 => rw [q] at h; exact h
  | bad => rw [q] at h; exact h
theorem di_range1 {a : Expr} {fa : EM} (hm : X.mg "range" = none) (ha : DA X W [a] (aList [fa])) (hg : Gl X "range" := by rfl) (hs : starEach [a] X.env = [(false, eval a X.env)] := by rfl) : DI X W tg (.Call (.Name "range" p) [a] [] pos) (iRange [fa]) := by
  refine (pi_range1 hg hm ha hs).wk fun σ H T h => ?_
  refine tA_I h fun bs H φ S ds vs s r hl h => ?_
  split at h
  · rename_i all src S' e
    cases r with
    | nil => cases hl
    | cons r t =>
      cases t with
      | cons _ _ => cases hl
      | nil =>
        cases r with
        | int j =>
          simp only at e
          by_cases hj : -(2 ^ 62) ≤ j ∧ j < 2 ^ 62
          · rw [if_pos hj] at e
            cases e
            exact ⟨j, rfl, hj.1, hj.2, h H φ _ (.refl _ _) s True.intro j_range⟩
          · rw [if_neg hj] at e; cases e
        | _ => cases e
  · rename_i d S' e
    cases r with
    | nil => cases hl
    | cons r t =>
      cases t with
      | cons _ _ => cases hl
      | nil =>
        cases r with
        | int j =>
          simp only at e
          by_cases hj : -(2 ^ 62) ≤ j ∧ j < 2 ^ 62
          · rw [if_pos hj] at e; cases e
          · rw [if_neg hj] at e; cases e
        | _ => cases e
  · exact h.elim
theorem di_range2 {a b : Expr} {fa fb : EM} (hm : X.mg "range" = none) (ha : DA X W [a, b] (aList [fa, fb])) (hg : Gl X "range" := by rfl) (hs : starEach [a, b] X.env = [(false, eval a X.env), (false, eval b X.env)] := by rfl) (hs2 : starEach [b] X.env = [(false, eval b X.env)] := by rfl) :
    DI X W tg (.Call (.Name "range" p) [a, b] [] pos) (iRange [fa, fb]) := by
  refine (pi_range2 hg hm ha hs hs2).wk fun σ H T h => ?_
  refine tA_I h fun bs H φ S ds vs s r hl h => ?_
  cases r with
  | nil => cases hl
  | cons r t =>
    cases t with
    | nil => cases hl
    | cons r2 t =>
      cases t with
      | cons _ _ => cases hl
      | nil =>
        cases r with
        | int i =>
          cases r2 with
          | int j =>
            dsimp only at h
            by_cases hj : -(2 ^ 62) ≤ i ∧ i < 2 ^ 62 ∧ -(2 ^ 62) ≤ j ∧ j < 2 ^ 62
            · rw [if_pos hj] at h
              exact ⟨i, j, rfl, hj, h H φ _ (.refl _ _) s True.intro j_range⟩
            · rw [if_neg hj] at h; exact h.elim
          | _ => exact h.elim
        | _ => exact h.elim
/-! ### for -/
noncomputable def sForN (g : GM) (f : SM) (src : Option Nat) (all : List D) : List D → SM
  | [] => fun ρ S => if okSrc src all S then .nx ρ S else .bad
  | x :: xs => fun ρ S => if okSrc src all S then match g x ρ S with
      | some ρ1 => match f ρ1 S with
        | .nx ρ' S' => sForN g f src all xs ρ' S'
        | .ct ρ' S' => sForN g f src all xs ρ' S'
        | .bk ρ' S' => .nx ρ' S'
        | r => r
      | none => .bad
    else .bad
noncomputable def sFor (im : IM) (g : GM) (f : SM) : SM := fun ρ S => (im ρ S).bindS ρ fun w S1 => sForN g f w.2 w.1 w.1 ρ S1
theorem sFor_if {c : Prop} [Decidable c] {r : SR} {P : SR → Prop} (h : P (if c then r else .bad)) (hb : P .bad → False) : c ∧ P r := by
  by_cases q : c
  · rw [if_pos q] at h; exact ⟨q, h⟩
  · rw [if_neg q] at h; exact (hb h).elim
theorem ds_for {body : List Stmt} {im : IM} {g : GM} {fb : SM} (C : Cz X W k) (hi : DI X W tg e im) (hg : DG X tg g) (hb : DSs X W body fb) (hs : ∀ x, foldedSetIterable e X.env x = pure x := by intro _; rfl) :
    DS X W (.For tg e body [] pos) (sFor im g fb) := by
  refine (ps_for C.po C.calm hi hg hb hs).wk fun D σ H h => ?_
  obtain ⟨φ, bs, ρ, S, s, en, h⟩ := h
  refine ⟨φ, bs, ρ, S, s, en, ?_⟩
  unfold sFor at h
  cases q : im ρ S with
  | bad => rw [q] at h; exact h
  | ex d S1 =>
    rw [q] at h
    exact fun c dx H' φ' x s' r => h c dx σ H' φ' x s' (en.ext x s.cells) r
  | ok w S1 =>
    rw [q] at h
    obtain ⟨all, src⟩ := w
    intro H1 φ1 J x1 s1 o1 j1
    have h1 : PostS X.K X.mg W (xp X) bs H1 φ1 (sForN g fb src all all ρ S1) D := PostS.shift x1 h
    refine ⟨fun i m σ H => ∃ φ ρ S, m = all.length - i ∧ i ≤ all.length ∧ Sim X.K X.mg H φ bs S ∧ EnvR X.K X.mg (xp X) H φ ρ σ ∧ JOk X.K X.mg J all src bs H φ ∧ PostS X.K X.mg W (xp X) bs H φ (sForN g fb src all (all.drop i) ρ S) D,
      ⟨all.length, φ1, ρ, S1, rfl, Nat.zero_le _, s1, en.ext x1 s.cells, j1, h1⟩, fun i m σ H hw => ?_⟩
    obtain ⟨φ, ρ, S, rfl, hi, s, en, j, h⟩ := hw
    by_cases hlt : i < all.length
    · rw [List.drop_eq_getElem_cons hlt] at h
      unfold sForN at h
      obtain ⟨ho, h⟩ := sFor_if (P := fun r => PostS X.K X.mg W (xp X) bs H φ r D) h fun z => z
      obtain ⟨hgo, hy⟩ := (j H φ S (Ext.refl _ _).keeps s ho).1 i all[i] (List.getElem?_eq_getElem hlt)
      refine .inr ⟨hgo, fun σ' H' => ∃ φ ρ S, i + 1 ≤ all.length ∧ Sim X.K X.mg H' φ bs S ∧ EnvR X.K X.mg (xp X) H' φ ρ σ' ∧ JOk X.K X.mg J all src bs H' φ ∧ PostS X.K X.mg W (xp X) bs H' φ (sForN g fb src all (all.drop (i + 1)) ρ S) D,
        fun σ' H' hn => ?_, fun v H' hv => ?_⟩
      · obtain ⟨φ', ρ', S', h1, h2, h3, h4, h5⟩ := hn
        exact ⟨all.length - (i + 1), by omega, φ', ρ', S', rfl, h1, h2, h3, h4, h5⟩
      · obtain ⟨e1, r⟩ := hy v H' hv
        subst e1
        split at h
        · rename_i ρ1 eg
          refine ⟨φ, bs, ρ, S, all[i], s, en, r, ρ1, eg, fun σ1 en1 => ⟨φ, bs, ρ1, S, s, en1, ?_⟩⟩
          revert h
          cases fb ρ1 S with
          | nx ρ' S' => exact fun h σ' H2 φ' x s' e' => ⟨φ', ρ', S', by omega, s', e', j.ext x, PostS.shift x h⟩
          | ct ρ' S' => exact fun h σ' H2 φ' x s' e' => ⟨φ', ρ', S', by omega, s', e', j.ext x, PostS.shift x h⟩
          | bk ρ' S' => exact fun h => h
          | rt d S' => exact fun h => h
          | ex d r S' => exact fun h => h
          | bad => exact fun h => h
        · exact h.elim
    · have hi2 : i = all.length := by omega
      rw [List.drop_eq_nil_of_le (by omega)] at h
      unfold sForN at h
      obtain ⟨ho, h⟩ := sFor_if (P := fun r => PostS X.K X.mg W (xp X) bs H φ r D) h fun z => z
      exact .inl ⟨(j H φ S (Ext.refl _ _).keeps s ho).2 i (by omega), h σ H φ (.refl _ _) s en⟩
end
end Mi

namespace Mi
open PySem PySem.Spec PyProof.Rows L2

/-! ### list comprehensions -/
def wipeE (ρ : Env) : List Nat → Env
  | [] => ρ
  | v :: vs => (wipeE ρ vs).set v none
def tGw (X : Cx) (vs : List Nat) (t : GM) : TG := fun v σ H Q => ∃ φ bs ρ S d, Sim X.K X.mg H φ bs S ∧ EnvR X.K X.mg (xp X) H φ ρ σ ∧ Rep X.K X.mg H φ d v ∧ ∃ ρ', t d ρ S = some ρ' ∧ ∀ σ', EnvR X.K X.mg (xp X) H φ ρ' σ' → wipe σ' vs = wipe σ vs → Q σ' H
def tGws (X : Cx) (ws : List Nat) (ts : List GM) : TGs := fun vs σ H Q => ∃ φ bs ρ S ds, Sim X.K X.mg H φ bs S ∧ EnvR X.K X.mg (xp X) H φ ρ σ ∧ RepL X.K X.mg H φ ds vs ∧ ∃ ρ', gtAll ts ds ρ S = some ρ' ∧ ∀ σ', EnvR X.K X.mg (xp X) H φ ρ' σ' → wipe σ' ws = wipe σ ws → Q σ' H
theorem wipe_in {σ : L2.St} {i : Nat} {x : Option V} : ∀ {vs : List Nat}, (i ∈ vs → wipe (σ.set i x) vs = wipe σ vs) ∧ (i ∉ vs → wipe (σ.set i x) vs = (wipe σ vs).set i x)
  | [] => ⟨fun h => by simp at h, fun _ => rfl⟩
  | v :: vs => by
    obtain ⟨h1, h2⟩ := wipe_in (σ := σ) (i := i) (x := x) (vs := vs)
    constructor
    · intro h
      show (wipe (σ.set i x) vs).set v none = (wipe σ vs).set v none
      by_cases hi : i ∈ vs
      · rw [h1 hi]
      · have e : i = v := by
          rcases List.mem_cons.mp h with e | e
          · exact e
          · exact absurd e hi
        subst e
        rw [h2 hi, List.set_set]
    · intro h
      have hv : i ≠ v := fun e => h (by rw [e]; exact List.mem_cons_self)
      have hi : i ∉ vs := fun e => h (List.mem_cons_of_mem _ e)
      show (wipe (σ.set i x) vs).set v none = ((wipe σ vs).set v none).set i x
      rw [h2 hi, List.set_comm _ _ hv]
theorem wipe_idem {σ : L2.St} : ∀ {vs us : List Nat}, (∀ i ∈ us, i ∈ vs) → wipe (wipe σ us) vs = wipe σ vs
  | vs, [], _ => rfl
  | vs, u :: us, h => by
    show wipe ((wipe σ us).set u none) vs = _
    rw [(wipe_in (x := none)).1 (h u List.mem_cons_self)]
    exact wipe_idem fun i hi => h i (List.mem_cons_of_mem _ hi)
theorem wipe_wipe (σ : L2.St) (vs : List Nat) : wipe (wipe σ vs) vs = wipe σ vs := wipe_idem fun _ h => h
section
variable {X : Cx} {W : WX} {tg e elt : Expr} {f : EM} {k : Nat} {pos p : Pos}
theorem dgw_name {i : Nat} {x : Str} {vs : List Nat} (hN : X.N.Nodup) (hv : i ∈ vs := by decide) (hi : X.N[i]? = some x := by rfl) (hx : Loc X.env.scope x := by first | exact Or.inl rfl | exact Or.inr rfl) (hf : X.fn x = true ∨ X.env.scope.names.lookup x = some .local := by first | exact .inl rfl | exact .inr rfl | assumption) (hne : (x == ("error" : Str)) = false ∨ X.calm = true := by first | exact .inr rfl | exact .inl (by decide)) : PG X (.Name x pos) (tGw X vs (gtName i)) :=
  PG.wk (pg_name hN hi hx hf) fun v σ H Q h => by
    obtain ⟨φ, bs, ρ, S, d, s, en, r, ρ', e, q⟩ := h
    cases e
    exact q _ (en.set r i (xp_no hne hi)) ((wipe_in (x := some v)).1 hv)
theorem dgws_nil {vs : List Nat} : PGs X [] (tGws X vs []) := PGs.wk pgs_nil fun ws σ H Q h => by
  obtain ⟨φ, bs, ρ, S, ds, s, en, r, ρ', e, q⟩ := h
  cases r with
  | nil => cases e; exact ⟨rfl, q _ en rfl⟩
  | cons _ _ => cases e
theorem dgws_cons {vs : List Nat} {es : List Expr} {t : GM} {ts : List GM} (h1 : PG X e (tGw X vs t)) (h2 : PGs X es (tGws X vs ts)) (hs : (assignEach (e :: es) X.env).map (·.2) = assign e X.env :: (assignEach es X.env).map (·.2) := by rfl) : PGs X (e :: es) (tGws X vs (t :: ts)) := PGs.wk (pgs_cons h1 h2 hs) fun ws σ H Q h => by
  obtain ⟨φ, bs, ρ, S, ds, s, en, r, ρ', e, q⟩ := h
  cases r with
  | nil => cases e
  | cons r t' =>
    simp only [gtAll] at e
    split at e
    · rename_i ρ1 e1
      exact ⟨_, _, rfl, φ, bs, ρ, S, _, s, en, r, ρ1, e1, fun σ1 en1 w1 => ⟨φ, bs, ρ1, S, _, s, en1, t', ρ', e, fun σ2 en2 w2 => q σ2 en2 (w2.trans w1)⟩⟩
    · cases e
theorem dgw_tup {vs : List Nat} {es : List Expr} {n : Nat} {ts : List GM} (hc : X.calm = true) (h : PGs X es (tGws X vs ts)) (hn : (assignEach es X.env).length = ts.length := by rfl) (hst : (assignEach es X.env).findIdx? (·.1) = none := by rfl) : PG X (.Tuple es n pos) (tGw X vs (gtTup ts)) := by
  refine PG.wk (PG.or (pg_tup hc h hn hst) (pg_lst hc h hn hst)) fun v σ H Q h => ?_
  obtain ⟨φ, bs, ρ, S, d, s, en, r, ρ', e, q⟩ := h
  simp only [gtTup] at e
  split at e
  · rename_i ds ed
    obtain ⟨a, ws, rfl, hq, lr⟩ := s.seq r ed
    have hl : ws.length = ts.length := by rw [← lr.length]; exact gtAll_len e
    rcases hq with hq | hq
    · exact .inr ⟨a, ws, rfl, hq, hl, φ, bs, ρ, S, ds, s, en, lr, ρ', e, q⟩
    · exact .inl ⟨a, ws, rfl, hq, hl, φ, bs, ρ, S, ds, s, en, lr, ρ', e, q⟩
  · cases e
theorem EnvR.wipe {K : PySem.W.Frag} {mg : Str → Option Value} {P : List (Nat × Addr × Obj)} {H : Hp} {φ : Ph} {ρ : Env} {σ : L2.St} (e : EnvR K mg P H φ ρ σ) : ∀ vs : List Nat, EnvR K mg P H φ (wipeE ρ vs) (L2.wipe σ vs)
  | [] => e
  | v :: vs => (EnvR.wipe e vs).unset v none
/-- the tests of a clause -/
abbrev W0 : WX := fun _ _ _ _ => False
def tYesM : TM := fun _ S => .ok true S
theorem dts_nil : PTs X [] (tT X W tYesM) := ⟨fun pins s σ H Q I h => pts_nil.run pins s σ H Q I (by
  obtain ⟨φ, bs, ρ, S, s, en, h⟩ := h
  exact PostG.done (rel := RelB) s rfl h)⟩
theorem dts_one {c : Expr} {t : TM} (h : DT X W c t) : PTs X [c] (tT X W t) := pts_one h
theorem Cz.blk {s : Shared} {H : Hp} {scope : Scope} {cenv : PySem.Env} {fp : List Addr} (C : Cz X W k) : Cz (X.blk s H scope cenv fp) W0 k := ⟨C.hr, takes0, PassesOwn.never, C.calm⟩
noncomputable def lcN (g : GM) (t : TM) (f : EM) (src : Option Nat) (all : List D) : List D → List D → Env → Sto → R (List D)
  | [], acc => fun _ S => if okSrc src all S then .ok acc S else .bad
  | x :: xs, acc => fun ρ S => if okSrc src all S then match g x ρ S with
      | some ρ1 => match t ρ1 S with
        | .ok b S1 => if b = true then match f ρ1 S1 with
            | .ok y S2 => if acc.length < sizeLine then lcN g t f src all xs (acc ++ [y]) ρ S2 else .bad
            | _ => .bad
          else lcN g t f src all xs acc ρ S1
        | _ => .bad
      | none => .bad
    else .bad
noncomputable def eLc (c : Bool) (im : IM) (g : GM) (t : TM) (f : EM) (vs : List Nat) : EM := fun ρ S => (im ρ S).bind fun w S1 => match lcN g t f w.2 w.1 w.1 [] (wipeE ρ vs) S1 with
  | .ok acc S2 => mkL c acc S2
  | _ => .bad
/-- what a finished list is wished to be -/
def Fin (X : Cx) (W : WX) (bs : List Nat) (σ : L2.St) (H : Hp) (φ : Ph) (c : Bool) (Q : VK) (r : R (List D)) : Prop := match r with
  | .ok acc S2 => Post X W bs σ H φ (mkL c acc S2) Q
  | _ => False
/-- the loop's own list at Da: hidden -/
structure Hid (H1 : Hp) (φ1 : Ph) (Da : Addr) (H : Hp) (φ : Ph) : Prop where
  hh : φ.h = Da :: φ1.h
  ex : Ext H1 φ1 H ⟨φ.c, φ1.h⟩
theorem Hid.keeps {H1 H : Hp} {φ1 φ : Ph} {Da : Addr} (y : Hid H1 φ1 Da H φ) (hDa : H1 Da = none) : Keeps H1 φ1 H φ := by
  refine ⟨fun a o e n => ?_, fun n a e => y.ex.get e⟩
  obtain ⟨e1, n1⟩ := y.ex.keeps.at' a o e n
  refine ⟨e1, fun z => ?_⟩
  rcases z with z | z
  · exact n1 (.inl z)
  · rw [y.hh] at z
    rcases List.mem_cons.mp z with z | z
    · rw [z, hDa] at e; cases e
    · exact n1 (.inr z)
theorem Hid.step {H1 H H' : Hp} {φ1 φ φ' : Ph} {Da : Addr} {o : HO} (y : Hid H1 φ1 Da H φ) (x : Ext H φ H' φ') (eD : H Da = some o) : Hid H1 φ1 Da H' φ' ∧ H' Da = some o := by
  have hD : H' Da = H Da := x.hk Da (by rw [y.hh]; exact List.mem_cons_self)
  refine ⟨⟨x.hsame.trans y.hh, y.ex.trans ⟨x.pre, rfl, fun b hb => x.hk b (by rw [y.hh]; exact List.mem_cons_of_mem _ hb), fun b o e n => ?_, x.there⟩⟩, hD.trans eD⟩
  by_cases eb : b = Da
  · rw [eb] at e ⊢
    exact hD.trans e
  · refine x.keep b o e fun z => ?_
    rcases z with z | z
    · exact n (.inl z)
    · rw [y.hh] at z
      rcases List.mem_cons.mp z with z | z
      · exact eb z
      · exact n (.inr z)
theorem Hid.put {H1 H : Hp} {φ1 φ : Ph} {Da : Addr} {o : HO} (y : Hid H1 φ1 Da H φ) (hDa : H1 Da = none) (n1 : Da ∉ φ1.h) : Hid H1 φ1 Da (upd H Da o) φ := by
  refine ⟨y.hh, y.ex.pre, rfl, fun b hb => ?_, fun b u e n => ?_, fun b u e => ?_⟩
  · rw [upd_ne (show b ≠ Da from fun z => n1 (z ▸ hb))]; exact y.ex.hk b hb
  · rw [upd_ne (ne_of_none e hDa)]; exact y.ex.keep b u e n
  · rw [upd_ne (ne_of_none e hDa)]; exact y.ex.there b u e
theorem Keeps.put {H : Hp} {φ : Ph} {Da : Addr} {o : HO} (h : Da ∈ φ.h) : Keeps H φ (upd H Da o) φ :=
  ⟨fun a u e n => ⟨by rw [upd_ne (show a ≠ Da from fun z => n (.inr (z ▸ h)))]; exact e, n⟩, fun _ _ e => e⟩
theorem Sim.put {K : PySem.W.Frag} {mg : Str → Option Value} {H : Hp} {φ : Ph} {bs : List Nat} {S : Sto} {Da : Addr} {o : HO} (s : Sim K mg H φ bs S) (h : Da ∈ φ.h) (ho : Hdn (some o)) : Sim K mg (upd H Da o) φ bs S := by
  refine ⟨s.len, s.nd, s.dis, fun a ha => ?_, fun n a c h1 h2 => ?_, s.hd, s.cl⟩
  · by_cases ea : a = Da
    · rw [ea, upd_same]; exact ho
    · rw [upd_ne ea]; exact s.hid a ha
  · exact (s.cell n a c h1 h2).kp (Keeps.put h) s.cells (upd_ne fun e => s.dis a (List.mem_of_getElem? h1) (e ▸ h))
/-- a hidden thing is laid -/
theorem Sim.lay {K : PySem.W.Frag} {mg : Str → Option Value} {H1 : Hp} {φ1 : Ph} {bs : List Nat} {S : Sto} {Da : Addr} {o : HO} (s1 : Sim K mg H1 φ1 bs S) (hDa : H1 Da = none) (ho : Hdn (some o)) :
    Hid H1 φ1 Da (upd H1 Da o) (φ1.hide Da) ∧ Sim K mg (upd H1 Da o) (φ1.hide Da) bs S := by
  have nD : ¬ φ1.has Da := s1.fresh hDa
  have y0 : Hid H1 φ1 Da (upd H1 Da o) (φ1.hide Da) := ⟨rfl, Ext.new s1 hDa⟩
  have kp0 := y0.keeps hDa
  refine ⟨y0, s1.len, s1.nd, fun a ha z => ?_, fun a ha => ?_, fun n a c h1 h2 => ?_, s1.hd, s1.cl⟩
  · rcases List.mem_cons.mp z with z | z
    · rw [z] at ha; exact nD (.inl ha)
    · exact s1.dis a ha z
  · by_cases ea : a = Da
    · rw [ea, upd_same]; exact ho
    · rcases List.mem_cons.mp ha with z | z
      · exact absurd z ea
      · rw [upd_ne ea]; exact s1.hid a z
  · exact (s1.cell n a c h1 h2).kp kp0 s1.cells (upd_ne fun e => nD (.inl (e ▸ List.mem_of_getElem? h1)))
/-- .. and becomes a value -/
theorem Hid.val {K : PySem.W.Frag} {mg : Str → Option Value} {H1 H : Hp} {φ1 φ : Ph} {bs : List Nat} {S : Sto} {Da : Addr} (y : Hid H1 φ1 Da H φ) (n1 : Da ∉ φ1.h) (s : Sim K mg H φ bs S) :
    Sim K mg H ⟨φ.c, φ1.h⟩ bs S ∧ Keeps H φ H ⟨φ.c, φ1.h⟩ ∧ ¬ (Ph.mk φ.c φ1.h).has Da := by
  have k3 : Keeps H φ H ⟨φ.c, φ1.h⟩ := ⟨fun a o e n => ⟨e, fun z => n (by
    rcases z with z | z
    · exact .inl z
    · exact .inr (by rw [y.hh]; exact List.mem_cons_of_mem _ z))⟩, fun _ _ e => e⟩
  refine ⟨⟨s.len, s.nd, fun a ha z => s.dis a ha (by rw [y.hh]; exact List.mem_cons_of_mem _ z), fun a ha => s.hid a (by rw [y.hh]; exact List.mem_cons_of_mem _ ha), fun n a c h1 h2 => (s.cell n a c h1 h2).kp k3 s.cells rfl, s.hd, s.cl⟩, k3, fun z => ?_⟩
  rcases z with z | z
  · exact s.dis Da z (by rw [y.hh]; exact List.mem_cons_self)
  · exact n1 z
/-- .. or a cell -/
theorem Hid.cell {K : PySem.W.Frag} {mg : Str → Option Value} {H1 H : Hp} {φ1 φ : Ph} {bs : List Nat} {S : Sto} {Da : Addr} {c : Cell} (y : Hid H1 φ1 Da H φ) (hDa : H1 Da = none) (n1 : Da ∉ φ1.h) (s : Sim K mg H φ bs S) (hc : Keeps H φ H ⟨φ.c ++ [Da], φ1.h⟩ → CellOk K mg H ⟨φ.c ++ [Da], φ1.h⟩ Da c) :
    Ext H1 φ1 H ⟨φ.c ++ [Da], φ1.h⟩ ∧ Sim K mg H ⟨φ.c ++ [Da], φ1.h⟩ bs (S.add c) ∧ (φ.c ++ [Da])[S.new]? = some Da := by
  have hDm : Da ∈ φ.h := by rw [y.hh]; exact List.mem_cons_self
  have nc : Da ∉ φ.c := fun z => s.dis Da z hDm
  have kp : Keeps H φ H ⟨φ.c ++ [Da], φ1.h⟩ := ⟨fun a o e n => ⟨e, fun z => by
    rcases z with z | z
    · rcases List.mem_append.mp z with z' | z'
      · exact n (.inl z')
      · have ea : a = Da := by simpa using z'
        exact n (.inr (by rw [ea]; exact hDm))
    · exact n (.inr (by rw [y.hh]; exact List.mem_cons_of_mem _ z))⟩, fun n a e => by
    show (φ.c ++ [Da])[n]? = some a
    rw [List.getElem?_append_left (List.getElem?_eq_some_iff.mp e).1]
    exact e⟩
  refine ⟨?_, ?_, ?_⟩
  · obtain ⟨ψ, e, fr⟩ := y.ex.pre
    refine ⟨⟨ψ ++ [Da], by show φ.c ++ [Da] = _; rw [show φ.c = φ1.c ++ ψ from e, List.append_assoc], fun b hb => ?_⟩, rfl, y.ex.hk, y.ex.keep, y.ex.there⟩
    rcases List.mem_append.mp hb with z | z
    · exact fr b z
    · have eb : b = Da := by simpa using z
      rw [eb]; exact hDa
  · refine s.adopt (p := Da) rfl nc (fun a ha => ?_) (fun a ha => ?_) kp (fun _ _ => rfl) (hc kp)
    · have ha' : a ∈ φ.c ++ [Da] := ha
      show a ∉ φ1.h
      rcases List.mem_append.mp ha' with z | z
      · exact fun q => s.dis a z (by rw [y.hh]; exact List.mem_cons_of_mem _ q)
      · have ea : a = Da := by simpa using z
        rw [ea]; exact n1
    · exact s.hid a (by rw [y.hh]; exact List.mem_cons_of_mem _ ha)
  · rw [Sto.new_all, ← s.len, List.getElem?_append_right (Nat.le_refl _)]
    simp
theorem tLc_wk {im : IM} {g : GM} {t : TM} {f : EM} {vs : List Nat} {c : Bool} (σ : L2.St) (H : Hp) (Q : VK) (h : tE X W (eLc c im g t f vs) σ H Q) : tLc (tI X W im) (tGw X vs g) (tT X W0 t) (tE X W0 f) vs σ H Q := by
  obtain ⟨φ, bs, ρ, S, s, en, h⟩ := h
  refine ⟨φ, bs, ρ, S, s, en, ?_⟩
  unfold eLc at h
  cases q : im ρ S with
  | bad => rw [q] at h; exact h
  | ex d S1 => rw [q] at h; exact h
  | ok w S1 =>
    rw [q] at h
    obtain ⟨all, src⟩ := w
    intro H1 φ1 J x1 s1 o1 j1 Da hDa
    have en1 := en.ext x1 s.cells
    have h1 : Fin X W bs σ H1 φ1 c Q (lcN g t f src all all [] (wipeE ρ vs) S1) := by
      have h' := PostG.shift x1 h
      revert h'
      dsimp only [R.bind]
      cases lcN g t f src all all [] (wipeE ρ vs) S1 with
      | ok acc S2 => exact fun h' => h'
      | ex _ _ => exact fun h' => h'
      | bad => exact fun h' => h'
    have nD : ¬ φ1.has Da := s1.fresh hDa
    have n1 : Da ∉ φ1.h := fun z => nD (.inr z)
    obtain ⟨y0, sD⟩ := s1.lay (o := .lst []) hDa (.inl ⟨[], rfl⟩)
    refine ⟨fun i m H => ∃ φ S acc ws, m = all.length - i ∧ i ≤ all.length ∧ Hid H1 φ1 Da H φ ∧ Sim X.K X.mg H φ bs S ∧ H Da = some (.lst ws) ∧ RepL X.K X.mg H φ acc ws ∧ Fin X W bs σ H1 φ1 c Q (lcN g t f src all (all.drop i) acc (wipeE ρ vs) S),
      ⟨all.length, φ1.hide Da, S1, [], [], rfl, Nat.zero_le _, y0, sD, upd_same, .nil, h1⟩, fun i m H hw => ?_⟩
    obtain ⟨φ, S, acc, ws, rfl, hi, y, s, eD, lr, h⟩ := hw
    have hDm : Da ∈ φ.h := by rw [y.hh]; exact List.mem_cons_self
    by_cases hlt : i < all.length
    · rw [List.drop_eq_getElem_cons hlt] at h
      unfold lcN at h
      by_cases ho : okSrc src all S
      · rw [if_pos ho] at h
        obtain ⟨hgo, hy⟩ := (j1 H φ S (y.keeps hDa) s ho).1 i all[i] (List.getElem?_eq_getElem hlt)
        refine .inr ⟨hgo, fun H' => ∃ φ S acc ws, i + 1 ≤ all.length ∧ Hid H1 φ1 Da H' φ ∧ Sim X.K X.mg H' φ bs S ∧ H' Da = some (.lst ws) ∧ RepL X.K X.mg H' φ acc ws ∧ Fin X W bs σ H1 φ1 c Q (lcN g t f src all (all.drop (i + 1)) acc (wipeE ρ vs) S),
          fun H' hn => ?_, fun v H' hv => ?_⟩
        · obtain ⟨φ', S', acc', ws', q1, q2, q3, q4, q5, q6⟩ := hn
          exact ⟨all.length - (i + 1), by omega, φ', S', acc', ws', rfl, q1, q2, q3, q4, q5, q6⟩
        · obtain ⟨e1, r⟩ := hy v H' hv
          subst e1
          have en2 : EnvR X.K X.mg (xp X) H' φ (wipeE ρ vs) (wipe σ vs) := (en1.kp (y.keeps hDa) s1.cells).wipe vs
          cases eg : g all[i] (wipeE ρ vs) S with
          | none => rw [eg] at h; exact h.elim
          | some ρ1 =>
            rw [eg] at h
            dsimp only at h
            refine ⟨φ, bs, wipeE ρ vs, S, all[i], s, en2, r, ρ1, eg, fun σ2 e2 w2 => ⟨?_, φ, bs, ρ1, S, s, e2, ?_⟩⟩
            · rw [w2]; exact wipe_wipe σ vs
            · cases et : t ρ1 S with
              | bad => rw [et] at h; exact h.elim
              | ex _ _ => rw [et] at h; exact h.elim
              | ok b S1 =>
                rw [et] at h
                dsimp only at h
                intro b' H3 φ4 x4 s4 rb
                have rb' : b' = b := rb
                subst rb'
                have e3 := e2.ext x4 s.cells
                have lr4 := lr.ext x4 s.cells
                obtain ⟨y4, eD4⟩ := y.step x4 eD
                cases b' with
                | false => exact iteF ⟨φ4, S1, acc, ws, by omega, y4, s4, eD4, lr4, by rw [if_neg Bool.false_ne_true] at h; exact h⟩
                | true =>
                  rw [if_pos rfl] at h
                  refine iteT ⟨φ4, bs, ρ1, S1, s4, e3, ?_⟩
                  cases ef : f ρ1 S1 with
                  | bad => rw [ef] at h; exact h.elim
                  | ex _ _ => rw [ef] at h; exact h.elim
                  | ok d S2 =>
                    rw [ef] at h
                    dsimp only at h
                    intro u H5 φ5 x5 s5 r5
                    obtain ⟨y5, eD5⟩ := y4.step x5 eD4
                    have lr5 := lr4.ext x5 s4.cells
                    have hD5 : Da ∈ φ5.h := by rw [y5.hh]; exact List.mem_cons_self
                    by_cases hz : acc.length < sizeLine
                    · rw [if_pos hz] at h
                      refine ⟨ws, eD5, by rw [← lr5.length]; exact hz, φ5, S2, acc ++ [d], ws ++ [u], by omega, y5.put hDa n1, s5.put hD5 (.inl ⟨_, rfl⟩), upd_same, ?_, h⟩
                      exact (lr5.append (.cons r5 .nil)).kp (Keeps.put hD5) s5.cells
                    · rw [if_neg hz] at h; exact h.elim
      · rw [if_neg ho] at h; exact h.elim
    · have hi2 : i = all.length := by omega
      rw [List.drop_eq_nil_of_le (by omega)] at h
      unfold lcN at h
      by_cases ho : okSrc src all S
      · rw [if_pos ho] at h
        refine .inl ⟨(j1 H φ S (y.keeps hDa) s ho).2 i (by omega), ?_⟩
        cases c with
        | false =>
          obtain ⟨s3, k3, nn⟩ := y.val n1 s
          exact h _ _ _ y.ex s3 (.lst eD nn (lr.kp k3 s.cells))
        | true =>
          obtain ⟨xs, hs, hg⟩ := y.cell (c := .lst acc) hDa n1 s fun kp => ⟨ws, eD, lr.kp kp s.cells⟩
          exact h _ _ _ xs hs (.ref hg)
      · rw [if_neg ho] at h; exact h.elim
theorem xp_blk {s : Shared} {H : Hp} {sc : Scope} {en : PySem.Env} {fp : List Addr} (h : X.calm = true) : xp (X.blk s H sc en fp) = xp X := by
  unfold xp
  rw [h]
  rfl
theorem tE_blk {s : Shared} {H : Hp} {sc : Scope} {en : PySem.Env} {fp : List Addr} {W : WX} {β γ : Type} {rel : Rel β γ} {f : Env → Sto → R β} (h : X.calm = true) : tG (X.blk s H sc en fp) W rel f = tG X W rel f := by
  unfold tG
  rw [xp_blk h]
theorem tGw_blk {s : Shared} {H : Hp} {sc : Scope} {en : PySem.Env} {fp : List Addr} {vs : List Nat} {g : GM} (h : X.calm = true) : tGw (X.blk s H sc en fp) vs g = tGw X vs g := by
  unfold tGw
  rw [xp_blk h]
theorem pts_blk {s : Shared} {H : Hp} {sc : Scope} {en : PySem.Env} {fp : List Addr} {W : WX} {t : TM} {ifs : List Expr} (h : X.calm = true) (ht : PTs (X.blk s H sc en fp) ifs (tT (X.blk s H sc en fp) W t)) : PTs (X.blk s H sc en fp) ifs (tT X W t) := by
  have e : tT (X.blk s H sc en fp) W t = tT X W t := tE_blk h
  rw [← e]; exact ht
theorem pe_blk {s : Shared} {H : Hp} {sc : Scope} {en : PySem.Env} {fp : List Addr} {W : WX} {t : EM} {e : Expr} (h : X.calm = true) (ht : PE (X.blk s H sc en fp) e (tE (X.blk s H sc en fp) W t)) : PE (X.blk s H sc en fp) e (tE X W t) := by
  have e : tE (X.blk s H sc en fp) W t = tE X W t := tE_blk h
  rw [← e]; exact ht
theorem pg_blk {s : Shared} {H : Hp} {sc : Scope} {en : PySem.Env} {fp : List Addr} {vs : List Nat} {g : GM} {tg : Expr} (h : X.calm = true) (ht : PG (X.blk s H sc en fp) tg (tGw (X.blk s H sc en fp) vs g)) : PG (X.blk s H sc en fp) tg (tGw X vs g) := by
  rw [← tGw_blk h]; exact ht
theorem de_lc {ifs : List Expr} {scope : Scope} {own : List (Str × Nat)} {im : IM} {g : GM} {t : TM} {f : EM} (c : Bool) (C : Cz X W k) (hN : X.N.Nodup) (hi : DI X W tg e im) (ok : BlkOk X.N X.env.scope scope own)
    (hg : ∀ (s : Shared) (H : Hp) (Cl : Addr) (cl : List (Str × Addr)) (fp : List Addr), PG (X.blk s H scope (compEnvC scope cl Cl X.env) fp) tg (tGw (X.blk s H scope (compEnvC scope cl Cl X.env) fp) (own.map (·.2)) g))
    (ht : ∀ (s : Shared) (H : Hp) (Cl : Addr) (cl : List (Str × Addr)) (fp : List Addr), PTs (X.blk s H scope (compEnvC scope cl Cl X.env) fp) ifs (tT (X.blk s H scope (compEnvC scope cl Cl X.env) fp) W0 t))
    (he : ∀ (s : Shared) (H : Hp) (Cl : Addr) (cl : List (Str × Addr)) (fp : List Addr), DE (X.blk s H scope (compEnvC scope cl Cl X.env) fp) W0 elt f) (hs : ∀ x, foldedSetIterable e X.env x = pure x := by intro _; rfl) :
    DE X W (.ListComp elt [⟨tg, e, ifs, 0⟩] scope pos) (eLc c im g t f (own.map (·.2))) := (pe_lc C.calm hN hi ok (fun s H Cl cl fp => pg_blk C.calm (hg s H Cl cl fp)) (fun s H Cl cl fp => pts_blk C.calm (ht s H Cl cl fp)) (fun s H Cl cl fp => pe_blk C.calm (he s H Cl cl fp)) hs).wk tLc_wk
/-- name = [..] -/
theorem ds_setLc {ifs : List Expr} {scope : Scope} {own : List (Str × Nat)} {im : IM} {g : GM} {t : TM} {f : EM} {i : Nat} {y : Str} {py spos : Pos} (c : Bool) (C : Cz X W k) (hN : X.N.Nodup) (hsw : swapsWith (.ListComp elt [⟨tg, e, ifs, 0⟩] scope pos) (some (.Name y py)) spos.line X.env = pure true)
    (hi : DI X W tg e im) (ok : BlkOk X.N X.env.scope scope own)
    (hg : ∀ (s : Shared) (H : Hp) (Cl : Addr) (cl : List (Str × Addr)) (fp : List Addr), PG (X.blk s H scope (compEnvC scope cl Cl X.env) fp) tg (tGw (X.blk s H scope (compEnvC scope cl Cl X.env) fp) (own.map (·.2)) g))
    (ht : ∀ (s : Shared) (H : Hp) (Cl : Addr) (cl : List (Str × Addr)) (fp : List Addr), PTs (X.blk s H scope (compEnvC scope cl Cl X.env) fp) ifs (tT (X.blk s H scope (compEnvC scope cl Cl X.env) fp) W0 t))
    (he : ∀ (s : Shared) (H : Hp) (Cl : Addr) (cl : List (Str × Addr)) (fp : List Addr), DE (X.blk s H scope (compEnvC scope cl Cl X.env) fp) W0 elt f)
    (hy : X.N[i]? = some y := by rfl) (hyl : X.env.scope.names.lookup y = some .local := by rfl) (hs : ∀ x, foldedSetIterable e X.env x = pure x := by intro _; rfl) :
    DS X W (.Assign [.Name y py] (.ListComp elt [⟨tg, e, ifs, 0⟩] scope pos) spos) (sAsg (eLc c im g t f (own.map (·.2))) (gtName i)) := by
  refine (ps_setLc (wi := tI X W im) (g := tGw X (own.map fun x : Str × Nat => x.2) g) (tt := tT X W0 t) (te := tE X W0 f) C.calm hN hy hyl hsw hi ok (fun s H Cl cl fp => pg_blk C.calm (hg s H Cl cl fp)) (fun s H Cl cl fp => pts_blk C.calm (ht s H Cl cl fp)) (fun s H Cl cl fp => pe_blk C.calm (he s H Cl cl fp)) hs).wk fun D σ H h => ?_
  refine tLc_wk (W := W) (c := c) σ H _ ?_
  obtain ⟨φ, bs, ρ, S, s, en, h⟩ := h
  refine tG_thenS s en h fun d S1 v H1 φ1 x1 s1 e1 r1 h1 => ?_
  exact h1 _ H1 φ1 (.refl _ _) s1 (e1.set r1 i (xp_no (.inr C.calm) hy))
/-! ### dict displays -/
def pList : List (EM × EM) → Env → Sto → R (List (Key × D))
  | [] => fun _ S => .ok [] S
  | (f, g) :: r => fun ρ S => (f ρ S).bind fun x S1 => match keyD x with
    | some kk => (g ρ S1).bind fun y S2 => (pList r ρ S2).bind fun ps S3 => .ok ((kk, y) :: ps) S3
    | none => .bad
def mergeD (kvs more : List (Key × D)) : List (Key × D) := more.foldl (fun acc kv => putD acc kv.1 kv.2) kvs
def eDisp (c : Bool) (fs : List (EM × EM)) : EM := fun ρ S => (pList fs ρ S).bind fun ps S1 => mkD c (mergeD [] ps) S1
theorem RepK.merge {K : PySem.W.Frag} {mg : Str → Option Value} {H : Hp} {φ : Ph} : ∀ {ds : List (Key × D)} {vs : List (Key × V)} {es : List (Key × D)} {ws : List (Key × V)}, RepK K mg H φ ds vs → RepK K mg H φ es ws → RepK K mg H φ (mergeD es ds) (mergeK ws vs)
  | _, _, _, _, .nil, h => h
  | _, _, es, ws, .cons (k := kk) (d := d) (v := v) r t, h => by
    have q := RepK.merge t (h.put (kk := kk) r)
    exact q
/-- the pairs, as they are read -/
def RelP : Rel (List (Key × D)) (List (V × V)) := fun K mg H φ ds ps => ∃ kvs : List (Key × V), ps = kvs.map (fun kv => (kV kv.1, kv.2)) ∧ RepK K mg H φ ds kvs
theorem tP_wk : ∀ {fs : List (EM × EM)} {σ : L2.St} {H : Hp} {Q : List (V × V) → Hp → Prop}, tG X W RelP (pList fs) σ H Q → tPairs (fs.map fun p => (tE X W p.1, tE X W p.2)) σ H Q
  | [], σ, H, Q, h => by
    obtain ⟨φ, bs, ρ, S, s, en, h⟩ := h
    exact PostG.done (rel := RelP) s ⟨[], rfl, .nil⟩ h
  | (f, g) :: fs, σ, H, Q, h => by
    obtain ⟨φ, bs, ρ, S, s, en, h⟩ := h
    refine tG_then s en h fun d S1 v H1 φ1 x1 s1 e1 r1 h1 => ?_
    split at h1
    · rename_i kk ek
      have hv := r1.key ek
      refine tG_then s1 e1 h1 fun dy S2 y H2 φ2 x2 s2 e2 r2 h2 => ?_
      refine tP_wk (fs := fs) ⟨φ2, bs, ρ, S2, s2, e2, ?_⟩
      revert h2
      cases pList fs ρ S2 with
      | ok ps S3 =>
        intro h2 vs H3 φ3 x3 s3 r3
        obtain ⟨kvs, rfl, rk⟩ := r3
        exact h2 _ H3 φ3 x3 s3 ⟨(kk, y) :: kvs, by rw [hv]; rfl, .cons (r2.ext x3 s2.cells) rk⟩
      | ex _ _ => exact fun h2 => h2
      | bad => exact fun h2 => h2
    · exact h1.elim
theorem pList_len : ∀ {fs : List (EM × EM)} {ρ : Env} {S S' : Sto} {ds : List (Key × D)}, pList fs ρ S = .ok ds S' → ds.length = fs.length
  | [], ρ, S, S', ds, h => by
    have h' : R.ok ([] : List (Key × D)) S = .ok ds S' := h
    cases h'; rfl
  | (f, g) :: fs, ρ, S, S', ds, h => by
    simp only [pList] at h
    cases e1 : f ρ S with
    | ok x S1 =>
      rw [e1] at h
      dsimp only [R.bind] at h
      split at h
      · cases e2 : g ρ S1 with
        | ok y S2 =>
          rw [e2] at h
          dsimp only [R.bind] at h
          cases e3 : pList fs ρ S2 with
          | ok ps S3 =>
            rw [e3] at h
            dsimp only [R.bind] at h
            cases h
            rw [List.length_cons, List.length_cons, pList_len e3]
          | ex _ _ => rw [e3] at h; cases h
          | bad => rw [e3] at h; cases h
        | ex _ _ => rw [e2] at h; cases h
        | bad => rw [e2] at h; cases h
      · cases h
    | ex _ _ => rw [e1] at h; cases h
    | bad => rw [e1] at h; cases h
theorem dp_nil {pos : Pos} : PPs X pos [] [] (([] : List (EM × EM)).map fun p => (tE X W p.1, tE X W p.2)) := pps_nil
theorem dp_cons {pos : Pos} {kx vx : Expr} {ks : List (Option Expr)} {vs : List Expr} {f g : EM} {fs : List (EM × EM)} (hk : DE X W kx f) (hv : DE X W vx g) (hr : PPs X pos ks vs (fs.map fun p => (tE X W p.1, tE X W p.2))) : PPs X pos (some kx :: ks) (vx :: vs) (((f, g) :: fs).map fun p => (tE X W p.1, tE X W p.2)) := pps_cons hk hv hr
theorem de_disp {pos : Pos} {keys : List (Option Expr)} {values : List Expr} {fs : List (EM × EM)} (c : Bool) (h : PPs X pos keys values (fs.map fun p => (tE X W p.1, tE X W p.2))) (hall : keys.all (·.isSome) = true := by rfl) (hl : keys.length = values.length := by rfl) (h0 : keys ≠ [] := by exact fun z => by cases z)
    (h15 : keys.length ≤ 15 := by exact Nat.le_of_ble_eq_true rfl) (hf : fs.length ≤ 15 := by exact Nat.le_of_ble_eq_true rfl) : DE X W (.Dict keys values pos) (eDisp c fs) := by
  refine (pe_disp h hall hl h0 h15).wk fun σ H Q h => ?_
  obtain ⟨φ, bs, ρ, S, s, en, h⟩ := h
  intro p hp
  obtain ⟨y0, s0⟩ := s.lay (o := .dK []) hp (.inr ⟨[], rfl⟩)
  have n1 : p ∉ φ.h := fun z => s.fresh hp (.inr z)
  refine tP_wk ⟨φ.hide p, bs, ρ, S, s0, en.kp (y0.keeps hp) s.cells, ?_⟩
  have hlen : ∀ ds S', pList fs ρ S = .ok ds S' → ds.length = fs.length := fun _ _ q => pList_len q
  unfold eDisp at h
  revert hlen h
  cases pList fs ρ S with
  | bad => exact fun h _ => h
  | ex e S1 =>
    intro h _ cls dx H' φ' x s' r
    obtain ⟨y, _⟩ := y0.step x upd_same
    obtain ⟨s3, k3, _⟩ := y.val n1 s'
    refine h cls dx H' _ y.ex s3 ?_
    obtain ⟨c, fs, C, rfl, h1, h2, h3, h0⟩ := r
    refine ⟨c, fs, C, rfl, h1, h2, fun hn => ?_, h0⟩
    obtain ⟨a, vs, h4, h5, h6⟩ := h3 hn
    exact ⟨a, vs, h4, h5, h6.kp k3 s'.cells⟩
  | ok ps S1 =>
    intro h hlen qs H' φ' x s' r
    obtain ⟨kvs, rfl, rk⟩ := r
    obtain ⟨y, eD⟩ := y0.step x upd_same
    have hD : p ∈ φ'.h := by rw [y.hh]; exact List.mem_cons_self
    refine ⟨eD, kvs, rfl, by rw [← rk.length, hlen _ _ rfl]; exact hf, ?_⟩
    have y2 := y.put (o := .dK (mergeK [] kvs)) hp n1
    have s2 := s'.put (o := .dK (mergeK [] kvs)) hD (.inr ⟨_, rfl⟩)
    have rk2 : RepK X.K X.mg (upd H' p (.dK (mergeK [] kvs))) φ' (mergeD [] ps) (mergeK [] kvs) := (rk.merge .nil).kp (Keeps.put hD) s'.cells
    cases c with
    | false =>
      obtain ⟨s3, k3, nn⟩ := y2.val n1 s2
      exact h _ _ _ y2.ex s3 (.dic (.inl upd_same) nn (rk2.kp k3 s2.cells))
    | true =>
      obtain ⟨xs, hs, hg⟩ := y2.cell (c := .dic (mergeD [] ps)) hp n1 s2 fun kp => ⟨_, upd_same, rk2.kp kp s2.cells⟩
      exact h _ _ _ xs hs (.ref hg)
/-- {} -/
def eDnew (c : Bool) : EM := fun _ S => mkD c [] S
theorem de_dnew {pos : Pos} (c : Bool) : DE X W (.Dict [] [] pos) (eDnew c) := pe_dnewK.wk fun σ H Q h => by
  obtain ⟨φ, bs, ρ, S, s, en, h⟩ := h
  exact fun p hp => mkD_ok s .nil hp h
end
end Mi

namespace Mi
open PySem PySem.Spec PyProof.Rows L2

/-! ### a def's frame -/
section
variable {K : PySem.W.Frag} {mg : Str → Option Value} {H H' : Hp} {φ φ' : Ph} {bs : List Nat} {S S' : Sto}
mutual
theorem Rep.bel : ∀ {d : D} {v : V}, Rep K mg H φ d v → d.lt φ.c.length = true
  | _, _, .non => rfl
  | _, _, .bl b => rfl
  | _, _, .int i => rfl
  | _, _, .str s g => rfl
  | _, _, .tup h hl => RepL.bel hl
  | _, _, .lst h n hl => RepL.bel hl
  | _, _, .frl h hl => RepL.bel hl
  | _, _, .dic h n hl => RepK.bel hl
  | _, _, .obj hm h n hl => RepF.bel hl
  | _, _, .ref h => decide_eq_true (List.getElem?_eq_some_iff.mp h).1
  | _, _, .exn _ _ => rfl
theorem RepL.bel : ∀ {d : List D} {v : List V}, RepL K mg H φ d v → D.ltL φ.c.length d = true
  | _, _, .nil => rfl
  | _, _, .cons h t => Bool.and_eq_true_iff.mpr ⟨Rep.bel h, RepL.bel t⟩
theorem RepK.bel : ∀ {d : List (Key × D)} {v : List (Key × V)}, RepK K mg H φ d v → D.ltK φ.c.length d = true
  | _, _, .nil => rfl
  | _, _, .cons h t => Bool.and_eq_true_iff.mpr ⟨Rep.bel h, RepK.bel t⟩
theorem RepF.bel : ∀ {d : List (Str × D)} {v : List (Str × V)}, RepF K mg H φ d v → D.ltF φ.c.length d = true
  | _, _, .nil => rfl
  | _, _, .cons h t => Bool.and_eq_true_iff.mpr ⟨Rep.bel h, RepF.bel t⟩
end
theorem CellOk.below {a : Addr} {c : Cell} (h : CellOk K mg H φ a c) : c.lt φ.c.length = true := by
  cases c with
  | lst ds => obtain ⟨vs, _, h⟩ := h; exact h.bel
  | dic ds => obtain ⟨vs, _, h⟩ := h; exact h.bel
  | ins c fs => obtain ⟨C, dx, vs, _, _, h⟩ := h; exact h.bel
/-- fewer cells -/
def Ph.cut (φ : Ph) (b : Nat) : Ph := ⟨φ.c.take b, φ.h⟩
theorem Ph.cut_has {b : Nat} {a : Addr} (h : (φ.cut b).has a) : φ.has a := by
  rcases h with h | h
  · exact .inl (List.mem_of_mem_take h)
  · exact .inr h
theorem cut_get {b n : Nat} {a : Addr} (hn : n < b) (h : φ.c[n]? = some a) : (φ.cut b).c[n]? = some a := by
  show (φ.c.take b)[n]? = some a
  rw [List.getElem?_take_of_lt hn]; exact h
mutual
theorem Rep.low {b : Nat} (hs : ∀ x, φ'.has x → φ.has x) (hg : ∀ (n : Nat) (a : Addr), n < b → φ.c[n]? = some a → φ'.c[n]? = some a) : ∀ {d : D} {v : V}, Rep K mg H φ d v → d.lt b = true → Rep K mg H φ' d v
  | _, _, .non, _ => .non
  | _, _, .bl b, _ => .bl b
  | _, _, .int i, _ => .int i
  | _, _, .str s g, _ => .str s g
  | _, _, .tup h hl, q => .tup h (RepL.low hs hg hl q)
  | _, _, .lst h n hl, q => .lst h (fun z => n (hs _ z)) (RepL.low hs hg hl q)
  | _, _, .frl h hl, q => .frl h (RepL.low hs hg hl q)
  | _, _, .dic h n hl, q => .dic h (fun z => n (hs _ z)) (RepK.low hs hg hl q)
  | _, _, .obj hm h n hl, q => .obj hm h (fun z => n (hs _ z)) (RepF.low hs hg hl q)
  | _, _, .ref h, q => .ref (hg _ _ (of_decide_eq_true q) h)
  | _, _, .exn e a, _ => .exn e a
theorem RepL.low {b : Nat} (hs : ∀ x, φ'.has x → φ.has x) (hg : ∀ (n : Nat) (a : Addr), n < b → φ.c[n]? = some a → φ'.c[n]? = some a) : ∀ {d : List D} {v : List V}, RepL K mg H φ d v → D.ltL b d = true → RepL K mg H φ' d v
  | _, _, .nil, _ => .nil
  | _, _, .cons h t, q => .cons (Rep.low hs hg h (Bool.and_eq_true_iff.mp q).1) (RepL.low hs hg t (Bool.and_eq_true_iff.mp q).2)
theorem RepK.low {b : Nat} (hs : ∀ x, φ'.has x → φ.has x) (hg : ∀ (n : Nat) (a : Addr), n < b → φ.c[n]? = some a → φ'.c[n]? = some a) : ∀ {d : List (Key × D)} {v : List (Key × V)}, RepK K mg H φ d v → D.ltK b d = true → RepK K mg H φ' d v
  | _, _, .nil, _ => .nil
  | _, _, .cons h t, q => .cons (Rep.low hs hg h (Bool.and_eq_true_iff.mp q).1) (RepK.low hs hg t (Bool.and_eq_true_iff.mp q).2)
theorem RepF.low {b : Nat} (hs : ∀ x, φ'.has x → φ.has x) (hg : ∀ (n : Nat) (a : Addr), n < b → φ.c[n]? = some a → φ'.c[n]? = some a) : ∀ {d : List (Str × D)} {v : List (Str × V)}, RepF K mg H φ d v → D.ltF b d = true → RepF K mg H φ' d v
  | _, _, .nil, _ => .nil
  | _, _, .cons h t, q => .cons (Rep.low hs hg h (Bool.and_eq_true_iff.mp q).1) (RepF.low hs hg t (Bool.and_eq_true_iff.mp q).2)
end
theorem Rep.cut {b : Nat} {d : D} {v : V} (h : Rep K mg H φ d v) (q : d.lt b = true) : Rep K mg H (φ.cut b) d v := h.low (fun _ z => Ph.cut_has z) (fun _ _ hn e => cut_get hn e) q
theorem RepL.cut' {b : Nat} {d : List D} {v : List V} (h : RepL K mg H φ d v) (q : D.ltL b d = true) : RepL K mg H (φ.cut b) d v := h.low (fun _ z => Ph.cut_has z) (fun _ _ hn e => cut_get hn e) q
theorem RepK.cut {b : Nat} {d : List (Key × D)} {v : List (Key × V)} (h : RepK K mg H φ d v) (q : D.ltK b d = true) : RepK K mg H (φ.cut b) d v := h.low (fun _ z => Ph.cut_has z) (fun _ _ hn e => cut_get hn e) q
theorem RepF.cut {b : Nat} {d : List (Str × D)} {v : List (Str × V)} (h : RepF K mg H φ d v) (q : D.ltF b d = true) : RepF K mg H (φ.cut b) d v := h.low (fun _ z => Ph.cut_has z) (fun _ _ hn e => cut_get hn e) q
theorem CellOk.low {a : Addr} {c : Cell} {b : Nat} (hs : ∀ x, φ'.has x → φ.has x) (hg : ∀ (n : Nat) (a : Addr), n < b → φ.c[n]? = some a → φ'.c[n]? = some a) (h : CellOk K mg H φ a c) (q : c.lt b = true) : CellOk K mg H φ' a c := by
  cases c with
  | lst ds => obtain ⟨vs, h1, h⟩ := h; exact ⟨vs, h1, h.low hs hg q⟩
  | dic ds => obtain ⟨vs, h1, h⟩ := h; exact ⟨vs, h1, h.low hs hg q⟩
  | ins c fs => obtain ⟨C, dx, vs, h0, h1, h⟩ := h; exact ⟨C, dx, vs, h0, h1, h.low hs hg q⟩
theorem CellOk.cut {a : Addr} {c : Cell} {b : Nat} (h : CellOk K mg H φ a c) (q : c.lt b = true) : CellOk K mg H (φ.cut b) a c := h.low (fun _ z => Ph.cut_has z) (fun _ _ hn e => cut_get hn e) q
theorem push_all (S : Sto) : S.push.all = S.all := by
  unfold Sto.push Sto.all
  rw [List.append_nil]
theorem Sim.push (s : Sim K mg H φ bs S) : Sim K mg H φ (S.all.length :: bs) S.push := by
  refine ⟨by rw [push_all]; exact s.len, s.nd, s.dis, s.hid, fun n a c h1 h2 => s.cell n a c h1 (by rw [push_all] at h2; exact h2), rfl, fun b hb => ?_⟩
  have hl : S.push.old.length = S.all.length := rfl
  rcases List.mem_cons.mp hb with e | hb
  · subst e
    refine ⟨Nat.le_of_eq hl.symm, fun n c hn h => ?_⟩
    rw [push_all] at h
    have hn' : n < φ.c.length := by rw [s.len]; exact hn
    have h2 := (s.cell n _ c (List.getElem?_eq_getElem hn') h).below
    rw [s.len] at h2
    exact h2
  · obtain ⟨h1, h2⟩ := s.cl b hb
    refine ⟨?_, fun n c hn h => h2 n c hn (by rw [push_all] at h; exact h)⟩
    rw [hl]
    unfold Sto.all
    rw [List.length_append]
    omega
/-- behind a frame -/
theorem Sim.pop (s : Sim K mg H φ bs S) (x : Ext H φ H' φ') (s' : Sim K mg H' φ' (S.all.length :: bs) S') : φ'.cut S.all.length = φ ∧ Ext H φ H' φ ∧ Sim K mg H' φ bs (S.pop S') := by
  have hc : φ'.cut S.all.length = φ := by
    obtain ⟨ψ, e, _⟩ := x.pre
    unfold Ph.cut
    rw [e, ← s.len, List.take_left, x.hsame]
  have hx : Ext H φ H' φ := ⟨⟨[], by simp, fun _ h => by simp at h⟩, rfl, x.hk, x.keep, x.there⟩
  refine ⟨hc, hx, ?_⟩
  have hol : S'.old.length = S.all.length := by
    have := s'.hd
    simpa using this.symm
  have hle : S.old.length ≤ S.all.length := by
    unfold Sto.all; rw [List.length_append]; omega
  have hall : (S.pop S').all = S'.old := by
    unfold Sto.pop Sto.all
    exact List.take_append_drop _ _
  have hget : ∀ {n : Nat} {c : Cell}, (S.pop S').all[n]? = some c → n < S.all.length ∧ S'.all[n]? = some c := fun {n c} h => by
    rw [hall] at h
    have hn := (List.getElem?_eq_some_iff.mp h).1
    refine ⟨by rw [← hol]; exact hn, ?_⟩
    unfold Sto.all
    rw [List.getElem?_append_left hn]; exact h
  refine ⟨by rw [hall, hol]; exact s.len, s.nd, s.dis, fun a ha => s'.hid a (by rw [x.hsame]; exact ha), fun n a c h1 h2 => ?_, ?_, fun b hb => ?_⟩
  · obtain ⟨hn, h2⟩ := hget h2
    have h3 := s'.cell n a c (x.get h1) h2
    have h4 := h3.cut ((s'.cl S.all.length List.mem_cons_self).2 n c hn h2)
    rw [hc] at h4
    exact h4
  · rw [s.hd]
    show some S.old.length = some (S'.old.take S.old.length).length
    rw [List.length_take, hol, Nat.min_eq_left hle]
  · refine ⟨?_, fun n c hn h => (s'.cl b (List.mem_cons_of_mem _ hb)).2 n c hn (hget h).2⟩
    show b ≤ (S'.old.take S.old.length).length
    rw [List.length_take, hol, Nat.min_eq_left hle]
    exact (s.cl b hb).1
end
/-! ### what a def hands back -/
def mapO {α β : Type} (f : α → Option β) : List α → Option (List β)
  | [] => some []
  | x :: xs => match f x, mapO f xs with
    | some y, some ys => some (y :: ys)
    | _, _ => none
/-- its own cells taken for values -/
def fz (b m : Nat) (S : Sto) : Nat → D → Option D
  | 0, d => if d.lt b = true then some d else none
  | k + 1, d => if d.lt b = true then some d else match d with
    | .ref n => if n < b ∨ n = m then none else match S.get n with
      | some (.lst xs) => (mapO (fz b m S k) xs).map .lst
      | some (.dic kvs) => (mapO (fun kv : Key × D => (fz b m S k kv.2).map fun d => (kv.1, d)) kvs).map .dic
      | some (.ins c fs) => (mapO (fun kv : Str × D => (fz b m S k kv.2).map fun d => (kv.1, d)) fs).map (.obj c)
      | none => none
    | .tup xs => (mapO (fz b m S k) xs).map .tup
    | .lst xs => (mapO (fz b m S k) xs).map .lst
    | _ => none
section
variable {K : PySem.W.Frag} {mg : Str → Option Value} {H : Hp} {φ ψ : Ph} {bs : List Nat} {S : Sto} {b m : Nat}
theorem mapO_L {f : D → Option D} (hf : ∀ d e v, f d = some e → Rep K mg H φ d v → Rep K mg H ψ e v) : ∀ {ds es : List D} {vs : List V}, mapO f ds = some es → RepL K mg H φ ds vs → RepL K mg H ψ es vs
  | [], _, _, h, .nil => by cases h; exact .nil
  | d :: ds, es, _, h, .cons r t => by
    simp only [mapO] at h
    split at h
    · rename_i e es' h1 h2
      cases h
      exact .cons (hf _ _ _ h1 r) (mapO_L hf h2 t)
    · cases h
theorem mapO_K {f : D → Option D} (hf : ∀ d e v, f d = some e → Rep K mg H φ d v → Rep K mg H ψ e v) : ∀ {ds es : List (Key × D)} {vs : List (Key × V)}, mapO (fun kv : Key × D => (f kv.2).map fun d => (kv.1, d)) ds = some es → RepK K mg H φ ds vs → RepK K mg H ψ es vs
  | [], _, _, h, .nil => by cases h; exact .nil
  | (k, d) :: ds, es, _, h, .cons r t => by
    simp only [mapO] at h
    split at h
    · rename_i e es' h1 h2
      cases h
      cases q : f d with
      | none => rw [q] at h1; cases h1
      | some e' =>
        rw [q] at h1
        cases h1
        exact .cons (hf _ _ _ q r) (mapO_K hf h2 t)
    · cases h
theorem mapO_F {f : D → Option D} (hf : ∀ d e v, f d = some e → Rep K mg H φ d v → Rep K mg H ψ e v) : ∀ {ds es : List (Str × D)} {vs : List (Str × V)}, mapO (fun kv : Str × D => (f kv.2).map fun d => (kv.1, d)) ds = some es → RepF K mg H φ ds vs → RepF K mg H ψ es vs
  | [], _, _, h, .nil => by cases h; exact .nil
  | (k, d) :: ds, es, _, h, .cons r t => by
    simp only [mapO] at h
    split at h
    · rename_i e es' h1 h2
      cases h
      cases q : f d with
      | none => rw [q] at h1; cases h1
      | some e' =>
        rw [q] at h1
        cases h1
        exact .cons (hf _ _ _ q r) (mapO_F hf h2 t)
    · cases h
theorem cut_out (s : Sim K mg H φ bs S) {n : Nat} {a : Addr} (h : φ.c[n]? = some a) (hn : ¬ n < b) : ¬ (φ.cut b).has a := fun z => by
  rcases z with z | z
  · obtain ⟨m, hm, e⟩ := List.getElem_of_mem z
    have hm' : m < b ∧ m < φ.c.length := by
      have : m < (φ.c.take b).length := hm
      rw [List.length_take] at this
      omega
    have e2 : φ.c[m]? = some a := by
      have e3 : (φ.c.take b)[m]? = some a := by exact (List.getElem?_eq_getElem hm).trans (congrArg some e)
      rw [List.getElem?_take_of_lt hm'.1] at e3
      exact e3
    have := nodup_ixA s.nd h e2
    omega
  · exact s.dis a (List.mem_of_getElem? h) z
where
  nodup_ixA {l : List Addr} (nd : l.Nodup) {i j : Nat} {x : Addr} (a : l[i]? = some x) (c : l[j]? = some x) : i = j := by
    obtain ⟨h1, e1⟩ := List.getElem?_eq_some_iff.mp a
    obtain ⟨h2, e2⟩ := List.getElem?_eq_some_iff.mp c
    exact (List.getElem_inj nd).mp (e1.trans e2.symm)
theorem fz_ok (s : Sim K mg H φ bs S) (hs : ∀ x, ψ.has x → φ.has x) (hg : ∀ (n : Nat) (a : Addr), n < b → φ.c[n]? = some a → ψ.c[n]? = some a) (ho : ∀ (n : Nat) (a : Addr), φ.c[n]? = some a → ¬ (n < b ∨ n = m) → ¬ ψ.has a) :
    ∀ (k : Nat) (d e : D) (v : V), fz b m S k d = some e → Rep K mg H φ d v → Rep K mg H ψ e v
  | 0, d, e, v, h, r => by
    unfold fz at h
    by_cases q : d.lt b = true
    · rw [if_pos q] at h; cases h; exact r.low hs hg q
    · rw [if_neg q] at h; cases h
  | k + 1, d, e, v, h, r => by
    unfold fz at h
    by_cases q : d.lt b = true
    · rw [if_pos q] at h; cases h; exact r.low hs hg q
    · rw [if_neg q] at h
      have ih := fz_ok s hs hg ho k
      cases r with
      | tup h1 h2 =>
        rename_i a ds vs
        dsimp only at h
        cases q2 : mapO (fz b m S k) ds with
        | none => rw [q2] at h; cases h
        | some es => rw [q2] at h; cases h; exact .tup h1 (mapO_L ih q2 h2)
      | lst h1 h2 h3 =>
        rename_i a ds vs
        dsimp only at h
        cases q2 : mapO (fz b m S k) ds with
        | none => rw [q2] at h; cases h
        | some es => rw [q2] at h; cases h; exact .lst h1 (fun z => h2 (hs _ z)) (mapO_L ih q2 h3)
      | @ref n a h1 =>
        dsimp only at h
        by_cases hn : n < b ∨ n = m
        · rw [if_pos hn] at h; cases h
        · rw [if_neg hn] at h
          split at h
          · rename_i xs e1
            obtain ⟨a', ev, _, vs, hv, lv⟩ := s.at (.ref h1) e1
            cases ev
            cases q2 : mapO (fz b m S k) xs with
            | none => rw [q2] at h; cases h
            | some es => rw [q2] at h; cases h; exact .lst hv (ho _ _ h1 hn) (mapO_L ih q2 lv)
          · rename_i xs e1
            obtain ⟨a', ev, _, vs, hv, lv⟩ := s.at (.ref h1) e1
            cases ev
            cases q2 : mapO (fun kv : Key × D => (fz b m S k kv.2).map fun d => (kv.1, d)) xs with
            | none => rw [q2] at h; cases h
            | some es => rw [q2] at h; cases h; exact .dic (.inl hv) (ho _ _ h1 hn) (mapO_K ih q2 lv)
          · rename_i c fs e1
            obtain ⟨a', ev, _, C, dx, vs, hm, hv, lv⟩ := s.at (.ref h1) e1
            cases ev
            cases q2 : mapO (fun kv : Str × D => (fz b m S k kv.2).map fun d => (kv.1, d)) fs with
            | none => rw [q2] at h; cases h
            | some es => rw [q2] at h; cases h; exact .obj hm hv (ho _ _ h1 hn) (mapO_F ih q2 lv)
          · cases h
      | _ => cases h
end
def initE (n : Nat) (ds : List D) : Env := ds.map some ++ List.replicate (n - ds.length) none
/-- a value is handed back, the frame's own cells with it as values -/
def give (S : Sto) (d : D) (S' : Sto) : R D := if S'.top.isEmpty = true then .ok d (S.pop S') else match fz S.new S'.all.length S' 24 d with
  | some d' => .ok d' (S.pop S')
  | none => .bad
def throwE (S : Sto) (e : D) (S' : Sto) : R D := if e.lt S.new = true then .ex e (S.pop S') else .bad
def runV (n : Nat) (body : SM) (ds : List D) (S : Sto) : R D := match body (initE n ds) S.push with
  | .nx _ S' => .ok .non (S.pop S')
  | .rt d S' => give S d S'
  | .ex e _ S' => throwE S e S'
  | _ => .bad
/-- a list of its own is handed back: a cell of the caller's -/
def runF (n : Nat) (body : SM) (ds : List D) (S : Sto) : R D := match body (initE n ds) S.push with
  | .rt (.ref m) S' => if m < S.new then .bad else match S'.get m with
    | some (.lst xs) => match mapO (fz S.new m S' 24) xs with
      | some ys => .ok (.ref S.new) ((S.pop S').add (.lst ys))
      | none => .bad
    | _ => .bad
  | .ex e _ S' => throwE S e S'
  | _ => .bad
/-- no frame of its own -/
def runL (n : Nat) (body : SM) (ds : List D) (S : Sto) : R D := match body (initE n ds) S with
  | .nx _ S' => .ok .non S'
  | .rt d S' => .ok d S'
  | .ex e _ S' => .ex e S'
  | _ => .bad
theorem init_env {K : PySem.W.Frag} {mg : Str → Option Value} {H : Hp} {φ : Ph} {ds : List D} {vs : List V} {N : List Str} (r : RepL K mg H φ ds vs) (hl : ds.length ≤ N.length) : EnvR K mg [] H φ (initE N.length ds) (L2.start N vs) := by
  unfold initE L2.start
  rw [← r.length]
  refine ⟨by simp [r.length], fun {i d} h => ?_, fun p hp => by cases hp⟩
  by_cases hi : i < ds.length
  · rw [List.getElem?_append_left (by simpa using hi), List.getElem?_map] at h
    cases q : ds[i]? with
    | none => rw [q] at h; cases h
    | some d' =>
      rw [q] at h
      cases h
      obtain ⟨v, hv, rv⟩ := r.get q
      refine ⟨v, ?_, rv⟩
      rw [List.getElem?_append_left (by simpa [← r.length] using hi), List.getElem?_map, hv]
      rfl
  · rw [List.getElem?_append_right (by simpa using Nat.le_of_not_lt hi)] at h
    have h' := List.mem_of_getElem? h
    rw [List.mem_replicate] at h'
    cases h'.2
section
variable {P : Program} {w : World} {K : PySem.W.Frag} {mg : Str → Option Value} {base : Heap}
/-- the body of the def st means B -/
def BodyOk (P : Program) (w : World) (K : PySem.W.Frag) (mg : Str → Option Value) (base : Heap) (N : List Str) (qual : Str) (st : Stmt) (k : Nat) (B : SM) : Prop :=
  ∀ (f : Addr) (cdv : Value) (A : Around) (outer : List PySem.Env) (s : Shared) (H : Hp) (E : XK), Cz (cxOf (L2.CX P w) P w K mg base N qual (defScope st) f cdv A outer s H E) (fun cls d _ H => E cls d H) k →
    DSs (cxOf (L2.CX P w) P w K mg base N qual (defScope st) f cdv A outer s H E) (fun cls d _ H => E cls d H) (defBody st) B
theorem take_len {N ps : List Str} (h : N.take ps.length = ps) : ps.length ≤ N.length := by
  have e := congrArg List.length h
  rw [List.length_take] at e
  omega
theorem ExR.cut {H : Hp} {φ : Ph} {e : D} {cls : Value} {d : Option Addr} {b : Nat} (r : ExR K mg H φ e cls d) (q : e.lt b = true) : ExR K mg H (φ.cut b) e cls d := by
  obtain ⟨c, fs, C, rfl, h1, h2, h3, h0⟩ := r
  refine ⟨c, fs, C, rfl, h1, h2, fun hn => ?_, h0⟩
  obtain ⟨a, vs, h4, h5, h6⟩ := h3 hn
  exact ⟨a, vs, h4, h5, h6.cut q⟩
/-- from the body to the def, for any way of handing back -/
theorem fnOk_of {x qual : Str} {st : Stmt} {f : Addr} {fd : FuncData} {N ps : List Str} {k : Nat} {B : SM} {G : List D → Sto → R D} (F : Fun K x qual st f fd) (Sc : FnScope N ps (defScope st)) (hb : BodyOk P w K mg base N qual st k B)
    (hG : ∀ (bs : List Nat) (H : Hp) (φ : Ph) (S : Sto) (ds : List D) (vs : List V) (Q : VK) (E : XK), Sim K mg H φ bs S → RepL K mg H φ ds vs → ds.length ≤ N.length → PostG K mg (fun cls d _ H' => E cls d H') Rep bs [] H φ (G ds S) Q →
      ∃ bs' S', Sim K mg H φ bs' S' ∧ PostS K mg (fun cls d _ H' => E cls d H') [] bs' H φ (B (initE N.length ds) S') { nx := fun _ H' => Q .non H', rt := Q }) :
    FnOk P w K mg base (L2.CX P w) (k + 1) f fd ps (spOf K mg ps.length G) := by
  refine F.okX Sc (fun vs H Q E h => h.1) fun cdv A outer s H vs Q E hr h => ?_
  obtain ⟨hl, φ, bs, ds, S, sim, r, h⟩ := h
  have hN : ds.length ≤ N.length := by rw [r.length, hl]; exact take_len Sc.pre
  obtain ⟨bs', S', sim', hp⟩ := hG bs H φ S ds vs Q E sim r hN h
  refine ⟨_, hb f cdv A outer s H E ⟨hr, takes_of rfl rfl rfl rfl, passes_of rfl, rfl⟩, φ, bs', initE N.length ds, S', sim', init_env r hN, hp⟩
theorem okV {x qual : Str} {st : Stmt} {f : Addr} {fd : FuncData} {N ps : List Str} {k : Nat} {B : SM} (F : Fun K x qual st f fd) (Sc : FnScope N ps (defScope st)) (hb : BodyOk P w K mg base N qual st k B) :
    FnOk P w K mg base (L2.CX P w) (k + 1) f fd ps (spOf K mg ps.length (runV N.length B)) := fnOk_of F Sc hb fun bs H φ S ds vs Q E s r hl h => by
  refine ⟨S.all.length :: bs, S.push, s.push, ?_⟩
  unfold runV at h
  revert h
  cases B (initE N.length ds) S.push with
  | nx ρ S' =>
    intro h σ H' φ' x s' e'
    obtain ⟨h1, h2, h3⟩ := s.pop x s'
    exact h .non H' φ h2 h3 .non
  | rt d S' =>
    intro h v H' φ' x s' r'
    obtain ⟨h1, h2, h3⟩ := s.pop x s'
    dsimp only at h
    unfold give at h
    by_cases q : S'.top.isEmpty = true
    · rw [if_pos q] at h
      refine h v H' φ h2 h3 ?_
      have hd := r'.bel
      have hl : φ'.c.length = S.all.length := by
        have e : S'.top = [] := List.isEmpty_iff.mp q
        have e2 : S'.old.length = S.all.length := by simpa using s'.hd.symm
        rw [s'.len]; unfold Sto.all; rw [e, List.append_nil]; exact e2
      rw [hl] at hd
      have := r'.cut hd
      rw [h1] at this
      exact this
    · rw [if_neg q] at h
      split at h
      · rename_i d' ef
        have := fz_ok (b := S.new) (ψ := φ'.cut S.new) s' (fun _ z => Ph.cut_has z) (fun _ _ hn e => cut_get hn e) (fun n a e hn => cut_out s' e (fun h => hn (.inl h))) 24 d d' v ef r'
        rw [Sto.new_all, h1] at this
        exact h v H' φ h2 h3 this
      · exact h.elim
  | ex e ρ S' =>
    intro h cls dx σ H' φ' x s' e' r'
    obtain ⟨h1, h2, h3⟩ := s.pop x s'
    dsimp only at h
    unfold throwE at h
    by_cases q : e.lt S.new = true
    · rw [if_pos q] at h
      have := r'.cut q
      rw [Sto.new_all, h1] at this
      exact h cls dx H' φ h2 h3 this
    · rw [if_neg q] at h; exact h.elim
  | bk _ _ => exact fun h => h.elim
  | ct _ _ => exact fun h => h.elim
  | bad => exact fun h => h.elim
theorem okL {x qual : Str} {st : Stmt} {f : Addr} {fd : FuncData} {N ps : List Str} {k : Nat} {B : SM} (F : Fun K x qual st f fd) (Sc : FnScope N ps (defScope st)) (hb : BodyOk P w K mg base N qual st k B) :
    FnOk P w K mg base (L2.CX P w) (k + 1) f fd ps (spOf K mg ps.length (runL N.length B)) := fnOk_of F Sc hb fun bs H φ S ds vs Q E s r hl h => by
  refine ⟨bs, S, s, ?_⟩
  unfold runL at h
  revert h
  cases B (initE N.length ds) S with
  | nx ρ S' => exact fun h σ H' φ' x s' e' => h .non H' φ' x s' .non
  | rt d S' => exact fun h => h
  | ex e ρ S' => exact fun h cls dx σ H' φ' x s' e' r' => h cls dx H' φ' x s' r'
  | bk _ _ => exact fun h => h.elim
  | ct _ _ => exact fun h => h.elim
  | bad => exact fun h => h.elim
end
end Mi

namespace Mi
open PySem PySem.Spec PyProof.Rows L2
section
variable {P : Program} {w : World} {K : PySem.W.Frag} {mg : Str → Option Value} {base : Heap}
theorem okF {x qual : Str} {st : Stmt} {f : Addr} {fd : FuncData} {N ps : List Str} {k : Nat} {B : SM} (F : Fun K x qual st f fd) (Sc : FnScope N ps (defScope st)) (hb : BodyOk P w K mg base N qual st k B) :
    FnOk P w K mg base (L2.CX P w) (k + 1) f fd ps (spOf K mg ps.length (runF N.length B)) := fnOk_of F Sc hb fun bs H φ S ds vs Q E s r hl h => by
  refine ⟨S.all.length :: bs, S.push, s.push, ?_⟩
  unfold runF at h
  revert h
  cases B (initE N.length ds) S.push with
  | rt d S' =>
    intro h v H' φ' x s' r'
    obtain ⟨h1, h2, h3⟩ := s.pop x s'
    cases r' with
    | @ref m a ha =>
      dsimp only at h
      by_cases hm : m < S.new
      · rw [if_pos hm] at h; exact h.elim
      · rw [if_neg hm] at h
        split at h
        · rename_i xs e1
          obtain ⟨a', ev, _, ws, hv, lv⟩ := s'.at (.ref ha) e1
          cases ev
          split at h
          · rename_i ys hq
            rw [Sto.new_all] at hq hm
            have hout : ¬ φ.has a := by
              have := cut_out (b := S.all.length) s' ha hm
              rw [h1] at this
              exact this
            have fresh : H a = none := by
              cases q : H a with
              | none => rfl
              | some o =>
                obtain ⟨ψ, e, fr⟩ := x.pre
                have hin : a ∈ φ.c ++ ψ := by rw [← e]; exact List.mem_of_getElem? ha
                rcases List.mem_append.mp hin with z | z
                · exact absurd (.inl z) hout
                · rw [fr a z] at q; cases q
            have hx : Ext H φ H' (φ.add a) := by
              refine ⟨⟨[a], rfl, fun b hb => ?_⟩, rfl, h2.hk, h2.keep, h2.there⟩
              have e : b = a := by simpa using hb
              rw [e]; exact fresh
            have hsub : ∀ b, (φ.add a).has b → φ'.has b := fun b z => by
              rcases z with z | z
              · have z' : b ∈ φ.c ++ [a] := z
                obtain ⟨ψ, e, fr⟩ := x.pre
                rcases List.mem_append.mp z' with z' | z'
                · exact .inl (by rw [e]; exact List.mem_append_left _ z')
                · have e2 : b = a := by simpa using z'
                  exact .inl (by rw [e2]; exact List.mem_of_getElem? ha)
              · exact .inr (by rw [x.hsame]; exact z)
            have hlen : φ.c.length = S.all.length := s.len
            have hget : ∀ (n : Nat) (b : Addr), n < S.all.length → φ'.c[n]? = some b → (φ.add a).c[n]? = some b := fun n b hn e => by
              obtain ⟨ψ, e2, _⟩ := x.pre
              rw [e2, List.getElem?_append_left (by rw [hlen]; exact hn)] at e
              show (φ.c ++ [a])[n]? = some b
              rw [List.getElem?_append_left (by rw [hlen]; exact hn)]
              exact e
            have hno : ∀ (n : Nat) (b : Addr), φ'.c[n]? = some b → ¬ (n < S.all.length ∨ n = m) → ¬ (φ.add a).has b := fun n b e hn z => by
              have hnb : ¬ φ.has b := by
                have := cut_out (b := S.all.length) s' e (fun q => hn (.inl q))
                rw [h1] at this
                exact this
              rcases z with z | z
              · have z' : b ∈ φ.c ++ [a] := z
                rcases List.mem_append.mp z' with z' | z'
                · exact hnb (.inl z')
                · have e2 : b = a := by simpa using z'
                  subst e2
                  exact hn (.inr (cut_out.nodup_ixA s'.nd e ha))
              · exact hnb (.inr z)
            have hcell : CellOk K mg H' (φ.add a) a (.lst ys) := ⟨ws, hv, mapO_L (fun d e v hd r => fz_ok s' hsub hget hno 24 d e v hd r) hq lv⟩
            have hs : Sim K mg H' (φ.add a) bs ((S.pop S').add (.lst ys)) := by
              have hlow : ∀ (n : Nat) (b : Addr) (c : Cell), φ.c[n]? = some b → (S.pop S').all[n]? = some c → CellOk K mg H' (φ.add a) b c := fun n b c g1 g2 => by
                have hn : n < S.all.length := by rw [← hlen]; exact (List.getElem?_eq_some_iff.mp g1).1
                have hall : (S.pop S').all = S'.old := by
                  unfold Sto.pop Sto.all
                  exact List.take_append_drop _ _
                rw [hall] at g2
                have g3 : S'.all[n]? = some c := by
                  unfold Sto.all
                  rw [List.getElem?_append_left (List.getElem?_eq_some_iff.mp g2).1]; exact g2
                exact (s'.cell n b c (x.get g1) g3).low hsub hget ((s'.cl S.all.length List.mem_cons_self).2 n c hn g3)
              refine ⟨?_, ?_, fun b hb => ?_, h3.hid, fun n b c g1 g2 => ?_, h3.hd, fun b hb => ?_⟩
              · rw [Sto.add_all]
                show (φ.c ++ [a]).length = _
                rw [List.length_append, List.length_append, h3.len]; rfl
              · show (φ.c ++ [a]).Nodup
                rw [List.nodup_append]
                refine ⟨h3.nd, by simp, fun b hb c hc => ?_⟩
                have e : c = a := by simpa using hc
                subst e
                intro e2; subst e2; exact hout (.inl hb)
              · have hb' : b ∈ φ.c ++ [a] := hb
                show b ∉ φ.h
                rcases List.mem_append.mp hb' with z | z
                · exact h3.dis b z
                · have e : b = a := by simpa using z
                  rw [e]; exact fun q => hout (.inr q)
              · have g1 : (φ.c ++ [a])[n]? = some b := g1
                rw [Sto.add_all] at g2
                by_cases hn : n < φ.c.length
                · rw [List.getElem?_append_left hn] at g1
                  rw [List.getElem?_append_left (by rw [← h3.len]; exact hn)] at g2
                  exact hlow n b c g1 g2
                · rw [List.getElem?_append_right (by omega)] at g1
                  rw [List.getElem?_append_right (by rw [← h3.len]; omega), ← h3.len] at g2
                  have hz : n - φ.c.length = 0 := by
                    have := (List.getElem?_eq_some_iff.mp g1).1
                    simp at this; omega
                  rw [hz] at g1 g2
                  simp at g1 g2
                  subst g1 g2
                  exact hcell
              · obtain ⟨g1, g2⟩ := h3.cl b hb
                refine ⟨g1, fun n d hn e => ?_⟩
                rw [Sto.add_all] at e
                have : n < (S.pop S').all.length := by
                  unfold Sto.all; rw [List.length_append]; omega
                rw [List.getElem?_append_left this] at e
                exact g2 n d hn e
            refine h _ H' _ hx hs (.ref ?_)
            show (φ.c ++ [a])[S.new]? = some a
            rw [Sto.new_all, ← hlen, List.getElem?_append_right (Nat.le_refl _)]
            simp
          · exact h.elim
        · exact h.elim
    | _ => exact h.elim
  | ex e ρ S' =>
    intro h cls dx σ H' φ' x s' e' r'
    obtain ⟨h1, h2, h3⟩ := s.pop x s'
    dsimp only at h
    unfold throwE at h
    by_cases q : e.lt S.new = true
    · rw [if_pos q] at h
      have := r'.cut q
      rw [Sto.new_all, h1] at this
      exact h cls dx H' φ h2 h3 this
    · rw [if_neg q] at h; exact h.elim
  | nx _ _ => exact fun h => h.elim
  | bk _ _ => exact fun h => h.elim
  | ct _ _ => exact fun h => h.elim
  | bad => exact fun h => h.elim
end
end Mi

namespace Mi
open PySem PySem.Spec PyProof.Rows L2

/-! ### methods of lists -/
/-- o.m(e, ..), o a list -/
def eMeth (f : EM) (fs : List EM) (g : D → List D → Sto → R D) : EM := fun ρ S => (f ρ S).bind fun x S1 => match lstS S1 x with
  | some _ => (aList fs ρ S1).bind fun ds S2 => g x ds S2
  | none => .bad
def MtD (X : Cx) (W : WX) (r : V → List V → Hp → VK → Prop) (g : D → List D → Sto → R D) : Prop := ∀ bs σ H φ S d ds x vs Q, Sim X.K X.mg H φ bs S → Rep X.K X.mg H φ d x → RepL X.K X.mg H φ ds vs → Post X W bs σ H φ (g d ds S) Q → r x vs H Q
section
variable {X : Cx} {W : WX} {o e : Expr} {es : List Expr} {f : EM} {fs : List EM} {k : Nat} {apos cpos : Pos} {name : Str} {id : String} {r : V → List V → Hp → VK → Prop} {g : D → List D → Sto → R D}
theorem tBM_wk (hk : MtD X W r g) (σ : L2.St) (H : Hp) (Q : VK) (h : tE X W (eMeth f fs g) σ H Q) : tBM X.K "list" r (tE X W f) (tA X W (aList fs)) σ H Q := by
  obtain ⟨φ, bs, ρ, S, s, en, h⟩ := h
  refine tG_then s en h fun d S1 v H1 φ1 x1 s1 e1 r1 h1 => ?_
  split at h1
  · rename_i xs ex
    obtain ⟨a, vs, rfl, hq, lr⟩ := s1.lst r1 ex
    refine ⟨.inl ⟨rfl, vs, hq⟩, ?_⟩
    refine tG_then (rel := RepL) s1 e1 h1 fun ds S2 us H2 φ2 x2 s2 e2 r2 h2 => ?_
    exact hk bs σ H2 φ2 S2 d ds _ us Q s2 (r1.ext x2 s1.cells) r2 h2
  · exact h1.elim
theorem de_meth (slot : Slot "list" name id) (hty : typeOf (.builtin id) = pure (.type "method_descriptor")) (hm : MtR X id r) (hk : MtD X W r g) (ho : DE X W o f) (ha : DA X W (e :: es) (aList fs))
    (hbase : attributeBase o name X.env (eval o X.env) = eval o X.env := by rfl)
    (hfew : ((backTo cpos (starEach (e :: es) X.env)).all (fun x => !x.1) && (backToKw cpos (keywordEach [] X.env)).all (fun x => x.1.isSome)
      && decide ((e :: es).length + ([] : List Keyword).length + (if ([] : List Keyword).isEmpty then 0 else 1) < 30)) = true := by rfl)
    (hline : (apos.endLine == cpos.line) = true := by rfl) (hs : starEach (e :: es) X.env = (false, eval e X.env) :: starEach es X.env := by rfl) (hplain : (backTo cpos (starEach es X.env)).any (·.1) = false := by rfl) :
    DE X W (.Call (.Attribute o name apos) (e :: es) [] cpos) (eMeth f fs g) := (pe_bm PySem.F.plainAttrs_list slot hty hm ho ha hbase hfew hline hs hplain).wk (tBM_wk hk)
theorem de_meth0 (slot : Slot "list" name id) (hty : typeOf (.builtin id) = pure (.type "method_descriptor")) (hm : MtR X id r) (hk : MtD X W r g) (ho : DE X W o f)
    (hbase : attributeBase o name X.env (eval o X.env) = eval o X.env := by rfl) (hline : (apos.endLine == cpos.line) = true := by rfl) : DE X W (.Call (.Attribute o name apos) [] [] cpos) (eMeth f [] g) :=
  (pe_bm0 PySem.F.plainAttrs_list slot hty hm ho hbase hline).wk fun σ H Q h => by
    obtain ⟨φ, bs, ρ, S, s, en, h⟩ := h
    refine tG_then s en h fun d S1 v H1 φ1 x1 s1 e1 r1 h1 => ?_
    split at h1
    · rename_i xs ex
      obtain ⟨a, vs, rfl, hq, lr⟩ := s1.lst r1 ex
      exact ⟨.inl ⟨rfl, vs, hq⟩, hk bs σ H1 φ1 S1 d [] _ [] Q s1 r1 .nil h1⟩
    · exact h1.elim
/-- the cell n holds other items now -/
def putL (n : Nat) (xs : List D) (d : D) (S : Sto) : R D := if S.may n (.lst xs) = true then .ok d (S.set n (.lst xs)) else .bad
theorem putL_ok {bs : List Nat} {σ : L2.St} {H : Hp} {φ : Ph} {S : Sto} {n : Nat} {a : Addr} {xs : List D} {vs : List V} {d : D} {v : V} {Q : VK} (s : Sim X.K X.mg H φ bs S) (ha : φ.c[n]? = some a) (lr : RepL X.K X.mg H φ xs vs) (rd : Rep X.K X.mg H φ d v)
    (h : Post X W bs σ H φ (putL n xs d S) Q) : Q v (upd H a (.lst vs)) := by
  obtain ⟨hm, h⟩ := if_bad (P := fun r => Post X W bs σ H φ r Q) h fun z => z
  have x : Ext H φ (upd H a (.lst vs)) φ := Ext.wr s ha
  exact h _ _ _ x (s.wr ha hm ⟨vs, upd_same, lr.ext x s.cells⟩) (rd.ext x s.cells)
def mAppend (x : D) (ds : List D) (S : Sto) : R D := match x, ds with
  | .ref n, [d] => match S.get n with
    | some (.lst xs) => if xs.length < sizeLine then putL n (xs ++ [d]) .non S else .bad
    | _ => .bad
  | _, _ => .bad
theorem append_ok : MtD X W rAppend mAppend := by
  intro bs σ H φ S d ds x vs Q s rd rl h
  cases rd with
  | @ref n a ha =>
    cases rl with
    | nil => exact h.elim
    | cons r1 t =>
      cases t with
      | cons _ _ => exact h.elim
      | nil =>
        simp only [mAppend] at h
        split at h
        · rename_i xs e
          obtain ⟨hl, h⟩ := if_bad (P := fun r => Post X W bs σ H φ r Q) h fun z => z
          obtain ⟨a', ev, _, ws, hv, lv⟩ := s.at (.ref ha) e
          cases ev
          exact ⟨a, ws, _, rfl, rfl, hv, by rw [← lv.length]; exact hl, putL_ok s ha (lv.append (.cons r1 .nil)) .non h⟩
        · exact h.elim
  | _ => exact h.elim
theorem de_append (ho : DE X W o f) (ha : DA X W (e :: es) (aList fs)) (hbase : attributeBase o "append" X.env (eval o X.env) = eval o X.env := by rfl)
    (hfew : ((backTo cpos (starEach (e :: es) X.env)).all (fun x => !x.1) && (backToKw cpos (keywordEach [] X.env)).all (fun x => x.1.isSome)
      && decide ((e :: es).length + ([] : List Keyword).length + (if ([] : List Keyword).isEmpty then 0 else 1) < 30)) = true := by rfl)
    (hline : (apos.endLine == cpos.line) = true := by rfl) (hs : starEach (e :: es) X.env = (false, eval e X.env) :: starEach es X.env := by rfl) (hplain : (backTo cpos (starEach es X.env)).any (·.1) = false := by rfl) :
    DE X W (.Call (.Attribute o "append" apos) (e :: es) [] cpos) (eMeth f fs mAppend) := de_meth PySem.F.slot_list_append PySem.F.type_list_append mt_append append_ok ho ha hbase hfew hline hs hplain
/-- extend, by a list that is a cell or a value -/
def mExtend (x : D) (ds : List D) (S : Sto) : R D := match x, ds with
  | .ref n, [d] => match S.get n with
    | some (.lst xs) => match d with
      | .frl _ => .bad
      | d => match lstS S d with
        | some ys => if xs.length + ys.length ≤ sizeLine then putL n (xs ++ ys) .non S else .bad
        | none => .bad
    | _ => .bad
  | _, _ => .bad
theorem Sim.lstM {K : PySem.W.Frag} {mg : Str → Option Value} {H : Hp} {φ : Ph} {bs : List Nat} {S : Sto} (s : Sim K mg H φ bs S) {d : D} {v : V} {xs : List D} (r : Rep K mg H φ d v) (hn : ∀ ys, d ≠ .frl ys) (e : lstS S d = some xs) : ∃ a vs, v = .ref a ∧ H a = some (.lst vs) ∧ RepL K mg H φ xs vs := by
  cases r with
  | lst h _ hl => cases e; exact ⟨_, _, rfl, h, hl⟩
  | frl h hl => exact absurd rfl (hn _)
  | @ref n a h =>
    simp only [lstS] at e
    split at e
    · rename_i ys q
      cases e
      obtain ⟨a', e', _, vs, hv, lv⟩ := s.at (.ref h) q
      cases e'
      exact ⟨_, _, rfl, hv, lv⟩
    · cases e
  | _ => cases e
theorem extend_ok : MtD X W rExtend mExtend := by
  intro bs σ H φ S d ds x vs Q s rd rl h
  cases rd with
  | @ref n a ha =>
    cases rl with
    | nil => exact h.elim
    | cons r1 t =>
      cases t with
      | cons _ _ => exact h.elim
      | nil =>
        simp only [mExtend] at h
        split at h
        · rename_i xs e
          obtain ⟨a', ev, _, ws, hv, lv⟩ := s.at (.ref ha) e
          cases ev
          split at h
          · exact h.elim
          · rename_i hn
            split at h
            · rename_i ys ey
              obtain ⟨hl, h⟩ := if_bad (P := fun r => Post X W bs σ H φ r Q) h fun z => z
              obtain ⟨b, zs, rfl, hb, lb⟩ := s.lstM r1 hn ey
              exact ⟨a, b, ws, zs, rfl, rfl, hv, hb, by rw [← lv.length, ← lb.length]; exact hl, putL_ok s ha (lv.append lb) .non h⟩
            · exact h.elim
        · exact h.elim
  | _ => exact h.elim
theorem de_extend (ho : DE X W o f) (ha : DA X W (e :: es) (aList fs)) (hbase : attributeBase o "extend" X.env (eval o X.env) = eval o X.env := by rfl)
    (hfew : ((backTo cpos (starEach (e :: es) X.env)).all (fun x => !x.1) && (backToKw cpos (keywordEach [] X.env)).all (fun x => x.1.isSome)
      && decide ((e :: es).length + ([] : List Keyword).length + (if ([] : List Keyword).isEmpty then 0 else 1) < 30)) = true := by rfl)
    (hline : (apos.endLine == cpos.line) = true := by rfl) (hs : starEach (e :: es) X.env = (false, eval e X.env) :: starEach es X.env := by rfl) (hplain : (backTo cpos (starEach es X.env)).any (·.1) = false := by rfl) :
    DE X W (.Call (.Attribute o "extend" apos) (e :: es) [] cpos) (eMeth f fs mExtend) := de_meth PySem.F.slot_list_extend PySem.F.type_list_extend mt_extend extend_ok ho ha hbase hfew hline hs hplain
def mPop (x : D) (ds : List D) (S : Sto) : R D := match x, ds with
  | .ref n, [] => match S.get n with
    | some (.lst xs) => match xs[xs.length - 1]? with
      | some d => putL n xs.dropLast d S
      | none => .bad
    | _ => .bad
  | _, _ => .bad
theorem RepL.dropLast {K : PySem.W.Frag} {mg : Str → Option Value} {H : Hp} {φ : Ph} {ds : List D} {vs : List V} (r : RepL K mg H φ ds vs) : RepL K mg H φ ds.dropLast vs.dropLast := by
  rw [List.dropLast_eq_take, List.dropLast_eq_take, r.length]
  exact r.take _
theorem pop_ok : MtD X W rPop mPop := by
  intro bs σ H φ S d ds x vs Q s rd rl h
  cases rd with
  | @ref n a ha =>
    cases rl with
    | cons _ _ => exact h.elim
    | nil =>
      simp only [mPop] at h
      split at h
      · rename_i xs e
        obtain ⟨a', ev, _, ws, hv, lv⟩ := s.at (.ref ha) e
        cases ev
        split at h
        · rename_i y ey
          obtain ⟨v, hv2, rv⟩ := lv.get ey
          exact ⟨a, ws, v, rfl, rfl, hv, by rw [← lv.length]; exact hv2, putL_ok s ha lv.dropLast rv h⟩
        · exact h.elim
      · exact h.elim
  | _ => exact h.elim
theorem de_pop (ho : DE X W o f) (hbase : attributeBase o "pop" X.env (eval o X.env) = eval o X.env := by rfl) (hline : (apos.endLine == cpos.line) = true := by rfl) : DE X W (.Call (.Attribute o "pop" apos) [] [] cpos) (eMeth f [] mPop) :=
  de_meth0 PySem.F.slot_list_pop PySem.F.type_list_pop mt_pop pop_ok ho hbase hline
def mReverse (x : D) (ds : List D) (S : Sto) : R D := match x, ds with
  | .ref n, [] => match S.get n with
    | some (.lst xs) => putL n xs.reverse .non S
    | _ => .bad
  | _, _ => .bad
theorem reverse_ok : MtD X W rReverse mReverse := by
  intro bs σ H φ S d ds x vs Q s rd rl h
  cases rd with
  | @ref n a ha =>
    cases rl with
    | cons _ _ => exact h.elim
    | nil =>
      simp only [mReverse] at h
      split at h
      · rename_i xs e
        obtain ⟨a', ev, _, ws, hv, lv⟩ := s.at (.ref ha) e
        cases ev
        exact ⟨a, ws, rfl, rfl, hv, putL_ok s ha lv.reverse .non h⟩
      · exact h.elim
  | _ => exact h.elim
theorem de_reverse (ho : DE X W o f) (hbase : attributeBase o "reverse" X.env (eval o X.env) = eval o X.env := by rfl) (hline : (apos.endLine == cpos.line) = true := by rfl) : DE X W (.Call (.Attribute o "reverse" apos) [] [] cpos) (eMeth f [] mReverse) :=
  de_meth0 PySem.F.slot_list_reverse PySem.F.type_list_reverse mt_reverse reverse_ok ho hbase hline
def mInsert (x : D) (ds : List D) (S : Sto) : R D := match x, ds with
  | .ref n, [.int i, d] => match S.get n with
    | some (.lst xs) => if xs.length < sizeLine ∧ 0 ≤ i ∧ i < 2 ^ 63 then putL n (xs.take i.toNat ++ [d] ++ xs.drop i.toNat) .non S else .bad
    | _ => .bad
  | _, _ => .bad
theorem insert_ok : MtD X W (fun x vs H Q => ∃ (l : Addr) (xs : List V) (i : Int) (y : V), x = .ref l ∧ vs = [.int i, y] ∧ H l = some (.lst xs) ∧ xs.length < sizeLine ∧ 0 ≤ i ∧ i < 2 ^ 63 ∧
    Q .non (upd H l (.lst (xs.take i.toNat ++ [y] ++ xs.drop i.toNat)))) mInsert := by
  intro bs σ H φ S d ds x vs Q s rd rl h
  cases rd with
  | @ref n a ha =>
    cases rl with
    | nil => exact h.elim
    | cons r1 t =>
      cases t with
      | nil => cases r1 <;> exact h.elim
      | cons r2 t =>
        cases t with
        | cons _ _ => cases r1 <;> exact h.elim
        | nil =>
          cases r1 with
          | int i =>
            simp only [mInsert] at h
            split at h
            · rename_i xs e
              obtain ⟨hl, h⟩ := if_bad (P := fun r => Post X W bs σ H φ r Q) h fun z => z
              obtain ⟨a', ev, _, ws, hv, lv⟩ := s.at (.ref ha) e
              cases ev
              exact ⟨a, ws, i, _, rfl, rfl, hv, by rw [← lv.length]; exact hl.1, hl.2.1, hl.2.2, putL_ok s ha (((lv.take _).append (.cons r2 .nil)).append (lv.drop _)) .non h⟩
            · exact h.elim
          | _ => exact h.elim
  | _ => exact h.elim
theorem de_insert (ho : DE X W o f) (ha : DA X W (e :: es) (aList fs)) (hbase : attributeBase o "insert" X.env (eval o X.env) = eval o X.env := by rfl)
    (hfew : ((backTo cpos (starEach (e :: es) X.env)).all (fun x => !x.1) && (backToKw cpos (keywordEach [] X.env)).all (fun x => x.1.isSome)
      && decide ((e :: es).length + ([] : List Keyword).length + (if ([] : List Keyword).isEmpty then 0 else 1) < 30)) = true := by rfl)
    (hline : (apos.endLine == cpos.line) = true := by rfl) (hs : starEach (e :: es) X.env = (false, eval e X.env) :: starEach es X.env := by rfl) (hplain : (backTo cpos (starEach es X.env)).any (·.1) = false := by rfl) :
    DE X W (.Call (.Attribute o "insert" apos) (e :: es) [] cpos) (eMeth f fs mInsert) := de_meth PySem.F.slot_list_insert PySem.F.type_list_insert mt_insert insert_ok ho ha hbase hfew hline hs hplain
end
/-! ### the law -/
/-- what the law's own call must give -/
def spLaw (K : PySem.W.Frag) : Sp := fun vs H Q _ => ∃ (a : Addr) (ns : List Int), vs = [.ref a] ∧ SqL K H a (ns.map V.int) ∧ ns.length ≤ 63 ∧ Only H ∧ ∀ H', Q (.bl true) H'
def Sto.nil : Sto := ⟨[], []⟩
def scr (ns : List Int) : D := .frl (ns.map .int)
theorem repL_ints {K : PySem.W.Frag} {mg : Str → Option Value} {H : Hp} {φ : Ph} : ∀ ns : List Int, RepL K mg H φ (ns.map .int) (ns.map V.int)
  | [] => .nil
  | n :: ns => .cons (.int n) (repL_ints ns)
theorem law_ok {P : Program} {w : World} {K : PySem.W.Frag} {mg : Str → Option Value} {base : Heap} {k : Nat} {f : Addr} {fd : FuncData} {ps : List Str} {G : List D → Sto → R D} (F : FnOk P w K mg base (L2.CX P w) k f fd ps (spOf K mg 1 G))
    (hG : ∀ ns : List Int, ns.length ≤ 63 → ∃ S', G [scr ns] .nil = .ok (.bl true) S') : FnOk P w K mg base (L2.CX P w) k f fd ps (spLaw K) := F.imp fun vs H Q E h => by
  obtain ⟨a, ns, rfl, hS, hl, ho, q⟩ := h
  obtain ⟨S', e⟩ := hG ns hl
  refine ⟨rfl, ⟨[], []⟩, [0], [scr ns], .nil, ⟨rfl, List.nodup_nil, fun _ h => by simp at h, fun _ h => by simp at h, fun n a c h _ => by simp at h, rfl, fun b hb => ?_⟩, .cons (.frl (vs := ns.map V.int) ?_ (repL_ints ns)) .nil, ?_⟩
  · have e : b = 0 := by simpa using hb
    subst e
    exact ⟨Nat.le_refl _, fun n c hn _ => absurd hn (Nat.not_lt_zero _)⟩
  · rcases hS with (h | ⟨o, h⟩) | h
    · rcases ho a with h2 | ⟨o, xs, h2⟩
      · rw [h2] at h; cases h
      · rw [h2] at h; cases h
    · exact .inl ⟨o, h⟩
    · exact .inr h
  · rw [e]
    intro v H' φ' _ _ r
    cases r with
    | bl _ => exact q H'
end Mi

namespace Mi
open PySem PySem.Spec PyProof.Rows L2

/-! ### what the top has written -/
/-- the def st stands under its name -/
structure DefAt (K : PySem.W.Frag) (mg : Str → Option Value) (x qual : Str) (st : Stmt) (ps : List Str) : Prop where
  ex : ∃ (f : Addr) (fd : FuncData), mg x = some (.ref f) ∧ Fun K x qual st f fd ∧ Binds K fd ps []
section
variable {P : Program} {w : World} {K : PySem.W.Frag} {mg : Str → Option Value} {base : Heap} {x qual : Str} {st : Stmt} {N ps : List Str} {k : Nat} {B : SM}
theorem DefAt.okV (D : DefAt K mg x qual st ps) (Sc : FnScope N ps (defScope st)) (hb : BodyOk P w K mg base N qual st k B) : CallOk P w K mg base (k + 1) x ps.length [] (runV N.length B) := by
  obtain ⟨f, fd, h1, h2, h3⟩ := D.ex
  exact ⟨f, fd, ps, [], [], h1, h2.kp, h3, .nil, fun _ _ => .nil, Mi.okV h2 Sc hb⟩
theorem DefAt.okF (D : DefAt K mg x qual st ps) (Sc : FnScope N ps (defScope st)) (hb : BodyOk P w K mg base N qual st k B) : CallOk P w K mg base (k + 1) x ps.length [] (runF N.length B) := by
  obtain ⟨f, fd, h1, h2, h3⟩ := D.ex
  exact ⟨f, fd, ps, [], [], h1, h2.kp, h3, .nil, fun _ _ => .nil, Mi.okF h2 Sc hb⟩
theorem DefAt.okL (D : DefAt K mg x qual st ps) (Sc : FnScope N ps (defScope st)) (hb : BodyOk P w K mg base N qual st k B) : CallOk P w K mg base (k + 1) x ps.length [] (runL N.length B) := by
  obtain ⟨f, fd, h1, h2, h3⟩ := D.ex
  exact ⟨f, fd, ps, [], [], h1, h2.kp, h3, .nil, fun _ _ => .nil, Mi.okL h2 Sc hb⟩
def badF : List D → Sto → R D := fun _ _ => .bad
theorem DefAt.bad (D : DefAt K mg x qual st ps) (n : Nat) : CallOk P w K mg base k x n [] badF := by
  obtain ⟨f, fd, h1, h2, h3⟩ := D.ex
  refine ⟨f, fd, ps, [], [], h1, h2.kp, h3, .nil, fun _ _ => .nil, fun vs H Q E h => ?_, fun A outer s H args us vs Q E hr he hb hv h => ?_⟩
  · obtain ⟨_, _, _, _, _, _, _, h⟩ := h; exact h.elim
  · obtain ⟨_, _, _, _, _, _, _, h⟩ := h; exact h.elim
end
/-- the law itself: its address, its promise -/
theorem DefAt.law {l : PySem.W.OpenLaw} {w : World} {K : PySem.W.Frag} {mg : Str → Option Value} {base : Heap} {x qual : Str} {st : Stmt} {f : Addr} {fd : FuncData} {p : Str} {N : List Str} {k : Nat} {B : SM} (F : Fun K x qual st f fd) (Sc : FnScope N [p] (defScope st)) (hb : BodyOk l.prog w K mg base N qual st k B)
    (hG : ∀ ns : List Int, ns.length ≤ 63 → ∃ S', runV N.length B [scr ns] .nil = .ok (.bl true) S') : FnOk l.prog w K mg base (L2.CX l.prog w) (k + 1) f fd [p] (spLaw K) := law_ok (Mi.okV F Sc hb) hG
theorem defAt_mk {K : PySem.W.Frag} {mg : Str → Option Value} {h : Heap} {x qual : Str} {st : Stmt} {ps : List Str} {f : Addr} {oc : Value} {od an : Option Addr} {osl : Array (Option Value)} {kV doc pm cdv ct : Value} (X : K.In h) (G : h.Ns mainGlobals mg)
    (a : PySem.W.nsIn K mainGlobals x = some (some (.ref f))) (l : K.lookup f = some ⟨oc, od, .func (PySem.W.fnOf x qual (defArgs st) (defBody st) (defScope st) .none kV doc pm an cdv ct), osl⟩) (c : PySem.W.codeIn K cdv qual = true) (k : PySem.W.keepIn K (.ref f) = true)
    (hb : ∀ (kV doc pm : Value) (an : Option Addr) (cdv ct : Value) (us : List Value), us.length = ps.length → bindArgs (PySem.W.fnOf x qual (defArgs st) (defBody st) (defScope st) .none kV doc pm an cdv ct) ⟨us, []⟩ = pure (ps.zip us)) : DefAt K mg x qual st ps := by
  have F := fun_mk (st := st) l c k
  exact ⟨f, _, PySem.W.mg_of X G a, F, F.binds hb⟩
/-- constants of the module -/
theorem glob_str {K : PySem.W.Frag} {mg : Str → Option Value} {h : Heap} {x z : Str} {t : Tok} (X : K.In h) (G : h.Ns mainGlobals mg) (a : PySem.W.nsIn K mainGlobals x = some (some (.str z t))) {l : List Nat} (hl : z.cps.toList = l) (g : goodS l = true) : Glob K mg x (.str l) := by
  subst hl
  exact ⟨.str z, _, PySem.W.mg_of X G a, ⟨t, rfl⟩, fun _ _ => .strOf z g⟩
theorem glob_int {K : PySem.W.Frag} {mg : Str → Option Value} {h : Heap} {x : Str} {i : Int} {t : Tok} (X : K.In h) (G : h.Ns mainGlobals mg) (a : PySem.W.nsIn K mainGlobals x = some (some (.int i t))) : Glob K mg x (.int i) := ⟨.int i, _, PySem.W.mg_of X G a, ⟨t, rfl⟩, fun _ _ => .int i⟩
/-- what a written value means -/
inductive WrL (K : PySem.W.Frag) (mg : Str → Option Value) : List D → List Value → Prop
  | nil : WrL K mg [] []
  | cons {d : D} {u : Value} {v : V} {ds : List D} {us : List Value} (r : RelV v u) (q : ∀ H φ, Rep K mg H φ d v) (t : WrL K mg ds us) : WrL K mg (d :: ds) (u :: us)
theorem WrL.reps {K : PySem.W.Frag} {mg : Str → Option Value} : ∀ {ds : List D} {us : List Value}, WrL K mg ds us → ∃ vs, Vals vs us ∧ ∀ H φ, RepL K mg H φ ds vs
  | _, _, .nil => ⟨[], .nil, fun _ _ => .nil⟩
  | _, _, .cons r q t => by
    obtain ⟨vs, h1, h2⟩ := t.reps
    exact ⟨_ :: vs, .cons r h1, fun H φ => .cons (q H φ) (h2 H φ)⟩
theorem wr_str {K : PySem.W.Frag} {mg : Str → Option Value} {z : Str} {t : Tok} {l : List Nat} {ds : List D} {us : List Value} (hl : z.cps.toList = l) (g : goodS l = true) (r : WrL K mg ds us) : WrL K mg (.str l :: ds) (.str z t :: us) := by
  subst hl
  exact .cons (v := .str z) ⟨t, rfl⟩ (fun _ _ => .strOf z g) r
theorem wr_int {K : PySem.W.Frag} {mg : Str → Option Value} {i : Int} {t : Tok} {ds : List D} {us : List Value} (r : WrL K mg ds us) : WrL K mg (.int i :: ds) (.int i t :: us) := .cons (v := .int i) ⟨t, rfl⟩ (fun _ _ => .int i) r
theorem glob_tup {K : PySem.W.Frag} {mg : Str → Option Value} {h : Heap} {x : Str} {a : Addr} {od : Option Addr} {its : Array Value} {n : Nat} {sl : Array (Option Value)} {ds : List D} (X : K.In h) (G : h.Ns mainGlobals mg) (e : PySem.W.nsIn K mainGlobals x = some (some (.ref a)))
    (l : K.lookup a = some ⟨.type "tuple", od, .seq its n, sl⟩) (hs : its.size ≤ sizeLine) (r : WrL K mg ds its.toList) : Glob K mg x (.tup ds) := by
  obtain ⟨vs, h1, h2⟩ := r.reps
  exact ⟨.ref a, _, PySem.W.mg_of X G e, rfl, fun H φ => .tup (.inr ⟨_, its, n, l, rfl, rfl, hs, h1⟩) (h2 H φ)⟩
/-! ### written dicts -/
/-- the module's dict x, its texts' keys -/
structure KdAt (K : PySem.W.Frag) (mg : Str → Option Value) (w : World) (x : Str) (kvs : List (List Nat × D)) : Prop where
  ex : ∃ (d : Addr) (es : Array DictEntry) (n : Nat), mg x = some (.ref d) ∧ KDict K w d es n ∧ ∀ p ∈ kvs, ∃ u v, PySem.W.nsIn K d ⟨p.1.toArray⟩ = some (some u) ∧ RelV v u ∧ ∀ H φ, Rep K mg H φ p.2 v
def kdG (kvs : List (List Nat × D)) : D → Option D
  | .str s => (kvs.find? fun p => decide (p.1 = s)).map (·.2)
  | _ => none
/-- X[e], X a dict of the module -/
def eKd (kvs : List (List Nat × D)) (f : EM) : EM := fun ρ S => (f ρ S).bind fun d S1 => .of S1 (kdG kvs d)
section
variable {X : Cx} {W : WX} {e : Expr} {f : EM} {pos p : Pos} {x : Str} {kvs : List (List Nat × D)}
theorem ix_kd {d : Addr} {es : Array DictEntry} {n : Nat} (Dk : KDict X.K X.w d es n) : IxR X (fun x y H Q => ∃ (z : Str) (u0 : Value) (v0 : V), x = .ref d ∧ y = .str z ∧ PySem.W.nsIn X.K d z = some (some u0) ∧ RelV v0 u0 ∧ Q v0 H) := by
  intro value slice pins s σ H x y v u Q I rx ry h hs
  obtain ⟨z, u0, v0, rfl, rfl, h1, h2, q⟩ := h
  have hT := kd_type Dk I
  cases rx
  unfold subscriptTail
  refine wpAny_bind (by
    rw [getitemInPython_of_ne hT.not_modules]
    refine wpAny_bind (wpAny_specialOf hT PySem.F.slot_dict_getitem.lookup ?_)
    have fin : wpAny (model X.prog X.w) X.A (subscripted slice false (.ref d) u) (fun r s3 => wpAny (model X.prog X.w) X.A (letTemporaryGo value (.ref d) r >>= fun _ => pure r) (EP X pins σ Q) X.xe s3) X.xe s := by
      rw [hs]
      exact wpAny_operating (thn (op_item_kd Dk pins s σ H (.ref d) (.str z) _ u _ I rfl ry ⟨z, u0, v0, rfl, rfl, h1, h2, q⟩) fun r s3 hr => wpAny_bind (wpAny_letTemporaryGo (wpAny_pure hr)))
    first
      | exact wpAny_pure (wpAny_bind fin)
      | exact wpAny_bind (wpAny_pure (wpAny_bind fin))
      | exact wpAny_bind fin)
theorem de_kd (T : KdAt X.K X.mg X.w x kvs) (he : DE X W e f) (hg : Gl X x := by rfl) (hd : (x == ("__debug__" : Str)) = false := by decide) (hs : PlainIx e := by exact fun _ _ => rfl) : DE X W (.Subscript (.Name x p) e pos) (eKd kvs f) := by
  obtain ⟨d, es, n, hm, hk, hall⟩ := T.ex
  refine (pe_ix (ix_kd hk) (pe_glob (v := .ref d) hg hm rfl hd) he hs).wk fun σ H Q h => ?_
  obtain ⟨φ, bs, ρ, S, s, en, h⟩ := h
  show tG X W Rep f σ H _
  refine tG_then s en h fun d1 S1 v H1 φ1 x1 s1 e1 r1 h1 => ?_
  obtain ⟨d2, e2, h2⟩ := of_post h1
  cases r1 with
  | str z g =>
    simp only [kdG] at e2
    cases q : kvs.find? fun p => decide (p.1 = z) with
    | none => rw [q] at e2; cases e2
    | some p =>
      rw [q] at e2
      cases e2
      have hp := List.mem_of_find?_eq_some q
      have hz : p.1 = z := by simpa using List.find?_some q
      obtain ⟨u, v, g1, g2, g3⟩ := hall p hp
      subst hz
      exact ⟨_, u, v, rfl, rfl, g1, g2, PostG.done s1 (g3 _ _) h2⟩
  | _ => cases e2
end
/-! ### small ones -/
section
variable {X : Cx} {W : WX} {a b : Expr} {f g : EM} {pos : Pos}
theorem de_strL {x : Str} {l : List Nat} {j pos} (hl : x.cps.toList = l := by decide +kernel) (g : goodS l = true := by decide +kernel) : DE X W (.Constant (.str x) j pos) (eC (.str l)) := by
  subst hl
  exact de_str g
def dNeg (d : D) (S : Sto) : R D := match d with
  | .int i => .ok (.int (-i)) S
  | _ => .bad
theorem de_neg (ha : DE X W a f) : DE X W (.UnaryOp .USub a pos) (eUn f dNeg) := (pe_un un_neg ha).wk fun σ H Q h => by
  obtain ⟨φ, bs, ρ, S, s, en, h⟩ := h
  refine tG_then s en h fun d S1 v H1 φ1 x1 s1 e1 r1 h1 => ?_
  cases r1 with
  | int i => exact ⟨i, rfl, PostG.done s1 (.int _) h1⟩
  | _ => exact h1.elim
/-- a * b of ints -/
abbrev dMul := dI CMul fun i j => i * j
theorem de_mul (ha : DE X W a f) (hb : DE X W b g) : DE X W (.BinOp a .Mult b pos) (eBin f g dMul) := de_bin op_mul dI_ok ha hb
end
end Mi

/-! Mi13: own classes: attributes, methods, instances. -/
namespace Mi
open PySem PySem.Spec PyProof.Rows L2

def insS (S : Sto) : D → Option (Str × List (Str × D))
  | .obj c fs => some (c, fs)
  | .ref n => match S.get n with
    | some (.ins c fs) => some (c, fs)
    | _ => none
  | _ => none
section
variable {K : PySem.W.Frag} {mg : Str → Option Value} {H : Hp} {φ : Ph} {bs : List Nat} {S : Sto}
theorem Sim.ins (s : Sim K mg H φ bs S) {d : D} {v : V} {c : Str} {fs : List (Str × D)} (r : Rep K mg H φ d v) (e : insS S d = some (c, fs)) :
    ∃ a C dx vs, v = .ref a ∧ mg c = some (.ref C) ∧ H a = some (.ins C dx vs) ∧ RepF K mg H φ fs vs := by
  cases r with
  | obj h1 h2 _ h3 => cases e; exact ⟨_, _, _, _, rfl, h1, h2, h3⟩
  | @ref n a h =>
    unfold insS at e
    cases q : S.get n with
    | none => simp only [q] at e; cases e
    | some cl =>
      cases cl with
      | ins c' fs' =>
        simp only [q] at e
        cases e
        obtain ⟨a', e', _, C, dx, vs, h1, h2, h3⟩ := s.at (.ref h) q
        cases e'
        exact ⟨_, _, _, _, rfl, h1, h2, h3⟩
      | lst _ => simp only [q] at e; cases e
      | dic _ => simp only [q] at e; cases e
  | _ => cases e
theorem RepF.look {f : Str} : ∀ {fs : List (Str × D)} {vs : List (Str × V)}, RepF K mg H φ fs vs → (∀ d, fs.lookup f = some d → ∃ v, vs.lookup f = some v ∧ Rep K mg H φ d v) ∧ (fs.lookup f = none → vs.lookup f = none)
  | _, _, .nil => ⟨fun _ h => (by cases h), fun _ => rfl⟩
  | (k, d) :: ds, (_, v) :: vs, .cons r t => by
    have ih := RepF.look (f := f) t
    simp only [List.lookup_cons]
    cases q : f == k with
    | true => exact ⟨fun d e => (by cases e; exact ⟨_, rfl, r⟩), fun e => (by cases e)⟩
    | false => exact ih
def putA (f : Str) (d : D) : List (Str × D) → List (Str × D)
  | [] => [(f, d)]
  | (g, x) :: r => if g = f then (g, d) :: r else (g, x) :: putA f d r
theorem RepF.length : ∀ {fs : List (Str × D)} {vs : List (Str × V)}, RepF K mg H φ fs vs → fs.length = vs.length
  | _, _, .nil => rfl
  | _, _, .cons _ t => congrArg Nat.succ t.length
theorem RepF.put {f : Str} {d : D} {v : V} (r : Rep K mg H φ d v) : ∀ {fs : List (Str × D)} {vs : List (Str × V)}, RepF K mg H φ fs vs → RepF K mg H φ (putA f d fs) (putF f v vs)
  | _, _, .nil => .cons r .nil
  | (k, d') :: ds, (_, v') :: vs, .cons q t => by
    unfold putA putF
    by_cases h : k = f
    · rw [if_pos h, if_pos h]; exact .cons r t
    · rw [if_neg h, if_neg h]; exact .cons q (t.put r)
end
/-- the instances' attributes may be asked for f -/
structure FldAt (K : PySem.W.Frag) (mg : Str → Option Value) (cs : List Str) (f : Str) : Prop where
  ex : ∀ c ∈ cs, ∃ C, mg c = some (.ref C) ∧ Cls K C ∧ NoAttr K C f
/-- the method m of the class c, given n arguments beside the instance, means G -/
structure MtOk (P : Program) (w : World) (K : PySem.W.Frag) (mg : Str → Option Value) (base : Heap) (k : Nat) (c m : Str) (n : Nat) (dds : List D) (G : List D → Sto → R D) : Prop where
  ex : ∃ (C f : Addr) (fd : FuncData) (ps : List Str) (dvs : List V) (ds : List Value), mg c = some (.ref C) ∧ Cls K C ∧ Meth K C m f ∧ Binds K fd ps ds ∧ Vals dvs ds ∧ (∀ H φ, RepL K mg H φ dds dvs) ∧
    FnOk P w K mg base (L2.CX P w) k f fd ps (spOf K mg (n + 1 + dds.length) G)
/-- the class c, called with n arguments: G is its __init__ -/
structure NewOk (P : Program) (w : World) (K : PySem.W.Frag) (mg : Str → Option Value) (base : Heap) (k : Nat) (c : Str) (n : Nat) (dds : List D) (G : List D → Sto → R D) : Prop where
  ex : ∃ (C f : Addr) (fd : FuncData) (ps : List Str) (dvs : List V) (ds : List Value), mg c = some (.ref C) ∧ Mk K C f ∧ Binds K fd ps ds ∧ Vals dvs ds ∧ (∀ H φ, RepL K mg H φ dds dvs) ∧
    FnOk P w K mg base (L2.CX P w) k f fd ps (spOf K mg (n + 1 + dds.length) G)
/-- o.f -/
def eFld (cs : List Str) (g : EM) (f : Str) : EM := fun ρ S => (g ρ S).bind fun d S1 => match insS S1 d with
  | some (c, fs) => if c ∈ cs then .of S1 (fs.lookup f) else .bad
  | none => .bad
/-- o.m(..) of an instance of the class c -/
def eMc (c m : Str) (g : EM) (fs : List EM) (dds : List D) (G : List D → Sto → R D) : EM := fun ρ S => (g ρ S).bind fun d S1 => match insS S1 d with
  | some (c', as) => if c' = c ∧ as.lookup m = none then (aList fs ρ S1).bind fun ds S2 => G (d :: ds ++ dds) S2 else .bad
  | none => .bad
/-- C(..) -/
def eNew (c : Str) (fs : List EM) (dds : List D) (G : List D → Sto → R D) : EM := fun ρ S => (aList fs ρ S).bind fun ds S1 => (G (.ref S1.new :: ds ++ dds) (S1.add (.ins c []))).bind fun d S2 => match d with
  | .non => .ok (.ref S1.new) S2
  | _ => .bad
/-- o.f = v -/
def setA (cs : List Str) (S : Sto) (o : D) (f : Str) (v : D) : Option Sto := match o with
  | .ref n => match S.get n with
    | some (.ins c fs) => if c ∈ cs ∧ fs.length < 1000 ∧ S.may n (.ins c (putA f v fs)) = true then some (S.set n (.ins c (putA f v fs))) else none
    | _ => none
  | _ => none
def sSetA (cs : List Str) (fo : EM) (f : Str) (fv : EM) : SM := fun ρ S => (fv ρ S).bindS ρ fun v S1 => (fo ρ S1).bindS ρ fun o S2 => match setA cs S2 o f v with
  | some S3 => .nx ρ S3
  | none => .bad
section
variable {X : Cx} {W : WX} {e : Expr} {es : List Expr} {g : EM} {fs : List EM} {pos p apos : Pos} {k j : Nat} {x c m f : Str} {G : List D → Sto → R D} {cs : List Str} {dds : List D}
theorem de_fld (F : FldAt X.K X.mg cs f) (he : DE X W e g) (hb : attributeBase e f X.env (eval e X.env) = eval e X.env := by rfl) : DE X W (.Attribute e f pos) (eFld cs g f) := by
  refine (pe_fld he hb).wk fun σ H Q h => ?_
  obtain ⟨φ, bs, ρ, S, s, en, h⟩ := h
  unfold tFld
  refine tG_then s en h fun d S1 v H1 φ1 x1 s1 e1 r1 h1 => ?_
  cases q : insS S1 d with
  | none => rw [q] at h1; exact h1.elim
  | some cf =>
    obtain ⟨c, as⟩ := cf
    rw [q] at h1
    dsimp only at h1
    by_cases hc : c ∈ cs
    · rw [if_pos hc] at h1
      obtain ⟨a, C, dx, vs, ev, hm, hH, rf⟩ := s1.ins r1 q
      obtain ⟨C', hm', k1, k2⟩ := F.ex c hc
      rw [hm] at hm'
      cases hm'
      obtain ⟨u, eu, h2⟩ := of_post h1
      obtain ⟨w, ew, rw'⟩ := rf.look.1 u eu
      exact ⟨a, C, dx, vs, w, ev, hH, k1, k2, ew, PostG.done s1 rw' h2⟩
    · rw [if_neg hc] at h1; exact h1.elim
theorem ds_setA {eo ev : Expr} {fo fv : EM} {pos' : Pos} (F : FldAt X.K X.mg cs f) (ho : DE X W eo fo) (hv : DE X W ev fv) (hs : swapsWith ev (some (.Attribute eo f pos')) pos.line X.env = pure false := by rfl) :
    DS X W (.Assign [.Attribute eo f pos'] ev pos) (sSetA cs fo f fv) := by
  refine (ps_fld ho hv hs).wk fun D σ H h => ?_
  obtain ⟨φ, bs, ρ, S, s, en, h⟩ := h
  unfold sFld
  refine tG_thenS s en h fun v S1 y H1 φ1 x1 s1 e1 r1 h1 => ?_
  refine tG_thenS s1 e1 h1 fun o S2 ov H2 φ2 x2 s2 e2 r2 h2 => ?_
  have rv := r1.ext x2 s1.cells
  cases r2 with
  | @ref n a ha =>
    unfold setA at h2
    dsimp only at h2
    cases q : S2.get n with
    | none => rw [q] at h2; exact h2.elim
    | some cl =>
      rw [q] at h2
      cases cl with
      | ins c as =>
        dsimp only at h2
        by_cases hc : c ∈ cs ∧ as.length < 1000 ∧ S2.may n (.ins c (putA f v as)) = true
        · rw [if_pos hc] at h2
          obtain ⟨a', e', _, C, dx, vs, g1, g2, g3⟩ := s2.at (.ref ha) q
          cases e'
          obtain ⟨C', hm', k1, k2⟩ := F.ex c hc.1
          rw [g1] at hm'
          cases hm'
          refine ⟨a, C, dx, vs, rfl, g2, k1, k2, by rw [← g3.length]; exact hc.2.1, ?_⟩
          have xx : Ext H2 φ2 (upd H2 a (.ins C dx (putF f y vs))) φ2 := Ext.wr s2 ha
          exact h2 _ _ _ xx (s2.wr ha hc.2.2 ⟨C, dx, _, g1, upd_same, (g3.put rv).ext xx s2.cells⟩) (e2.ext xx s2.cells)
        · rw [if_neg hc] at h2; exact h2.elim
      | lst _ => exact h2.elim
      | dic _ => exact h2.elim
  | _ => exact h2.elim
/-! ### methods -/
section
variable {pl : Sem Bool} {eo y : Expr} {ys : List Expr} {ta : TE} {t : TA} {C fa : Addr} {fd : FuncData} {ps : List Str} {sp : Sp} {dvs : List V} {ds : List Value} {E : L2.St → XK}
theorem pe_mtSD (he : PE X eo ta) (c : Cls X.K C) (hm : Meth X.K C m fa)
    (F : FnOk X.prog X.w X.K X.mg X.base (L2.CX X.prog X.w) k fa fd ps sp) (hr : Room k X.A) (hb : Binds X.K fd ps ds) (hd : Vals dvs ds) (hx : ∀ σ, PassesAt (L2.CX X.prog X.w) X σ (E σ)) (ha : PA X (y :: ys) t)
    (z1 : starEach (y :: ys) X.env = (false, eval y X.env) :: starEach ys X.env) (z2 : (backTo pos (starEach ys X.env)).any (·.1) = false)
    (ht : eval (.Call (.Attribute eo m apos) (y :: ys) [] pos) X.env = (do
      let ov ← eval eo X.env
      standAt apos.atName
      let (f, first) ← holding [ov] (getMethod ov m pl)
      callWith pos f first (backTo pos (starEach (y :: ys) X.env)) (backToKw pos (keywordEach [] X.env)))) :
    PE X (.Call (.Attribute eo m apos) (y :: ys) [] pos) (fun σ H Q => ta σ H fun x H1 => ∃ a dx fs, x = .ref a ∧ H1 a = some (.ins C dx fs) ∧ fs.lookup m = none ∧ t σ H1 fun vs H2 => sp (x :: (vs ++ dvs)) H2 Q (E σ)) := by
  refine ⟨fun pins s σ H Q I h => PySem.W.methodCall_KW (pl := pl) (thn (he.run pins s σ H _ I h) fun u s1 hh => ?_) ht⟩
  obtain ⟨x, H1, I1, rx, a, dx, fs, ex, ea, l, q⟩ := hh
  subst ex
  have eu : u = Value.ref a := rx
  subst eu
  refine getmeth_ok I1 ea c hm l ?_
  refine PySem.W.callWith_K (first := [Value.ref a]) (h₀ := X.base) I1.ok.mod.kin hm.kp (thn (ha.run pos pins s1 σ H1 _ I1 q) fun us s2 hh => ?_) z1 z2
  obtain ⟨vs, H2, I2, r, q2⟩ := hh
  exact ⟨I2.kIn, run_fnSD (us := Value.ref a :: us) (vs := V.ref a :: vs) F hr hb hd (hx σ) I2 (.cons rfl r) q2⟩
theorem pe_mtSD0 (he : PE X eo ta) (c : Cls X.K C) (hm : Meth X.K C m fa)
    (F : FnOk X.prog X.w X.K X.mg X.base (L2.CX X.prog X.w) k fa fd ps sp) (hr : Room k X.A) (hb : Binds X.K fd ps ds) (hd : Vals dvs ds) (hx : ∀ σ, PassesAt (L2.CX X.prog X.w) X σ (E σ))
    (ht : eval (.Call (.Attribute eo m apos) [] [] pos) X.env = (do
      let ov ← eval eo X.env
      standAt apos.atName
      let (f, first) ← holding [ov] (getMethod ov m pl)
      callWith pos f first (backTo pos (starEach [] X.env)) (backToKw pos (keywordEach [] X.env)))) :
    PE X (.Call (.Attribute eo m apos) [] [] pos) (fun σ H Q => ta σ H fun x H1 => ∃ a dx fs, x = .ref a ∧ H1 a = some (.ins C dx fs) ∧ fs.lookup m = none ∧ sp (x :: dvs) H1 Q (E σ)) := by
  refine ⟨fun pins s σ H Q I h => PySem.W.methodCall_KW (pl := pl) (thn (he.run pins s σ H _ I h) fun u s1 hh => ?_) ht⟩
  obtain ⟨x, H1, I1, rx, a, dx, fs, ex, ea, l, q⟩ := hh
  subst ex
  have eu : u = Value.ref a := rx
  subst eu
  refine getmeth_ok I1 ea c hm l ?_
  exact PySem.W.callWith_K0 (first := [Value.ref a]) I1.kIn hm.kp (run_fnSD (us := [Value.ref a]) (vs := [V.ref a]) F hr hb hd (hx σ) I1 (.cons rfl .nil) q)
theorem run_mkSD {pins : List (Addr × Obj)} {σ : L2.St} {H : Hp} {s : Shared} {Q : VK} {us : List Value} {vs : List V} (M : Mk X.K C fa) (F : FnOk X.prog X.w X.K X.mg X.base (L2.CX X.prog X.w) k fa fd ps sp) (hr : Room (k + 1) X.A)
    (hb : Binds X.K fd ps ds) (hd : Vals dvs ds) (hx : PassesAt (L2.CX X.prog X.w) X σ (E σ)) (I : Inv X pins σ H s) (r : Vals vs us)
    (h : ∀ x dx, H x = none → H dx = none → dx ≠ x → sp (.ref x :: (vs ++ dvs)) (upd (upd H dx (.own x)) x (.ins C dx [])) (fun v H2 => v = .non ∧ Q (.ref x) H2) (E σ)) :
    wpAny (model X.prog X.w) X.A (call (.ref C) us) (EP X pins σ Q) X.xe s := by
  generalize hn : s.heap.objs.size = n at *
  have big : n ≤ n + 1 := Nat.le_succ n
  have hq := h (n + 1) n (I.hok.fresh (by omega)) (I.hok.fresh (by omega)) (Nat.ne_of_lt (Nat.lt_succ_self n))
  have I2 := Inv.made (C := C) I
  rw [hn] at I2
  have r2 : Vals (V.ref (n + 1) :: (vs ++ dvs)) (Value.ref (n + 1) :: (us ++ ds)) := .cons rfl (r.append hd)
  have hl : (Value.ref (n + 1) :: us ++ ds).length = ps.length := r2.length.symm.trans (F.len _ _ _ _ hq)
  have run := F.run _ X.stack _ _ ⟨Value.ref (n + 1) :: us, []⟩ (Value.ref (n + 1) :: (us ++ ds)) _ _ (E σ) (hr.make C us []) (I2.env0.make C us []) (hb _ (Value.ref (n + 1) :: us) I2.kIn hl) r2 hq
  refine wpAny_call (make_map (f := fa) I.kIn M.makes M.init (beq_iff_eq.mp M.fn) (codeAny_mono (by rw [hn]; exact run) fun r s' hq' => ?_))
  cases r with
  | error e => exact hx pins _ _ e s' I2 hq'
  | ok fl =>
    cases fl with
    | ret u =>
      obtain ⟨v, H', I3, rv, ev, q3⟩ := I2.after hq'
      subst ev
      exact ⟨rv, ⟨V.ref (n + 1), H', I3, by rw [hn]; rfl, q3⟩⟩
    | _ => exact False.elim hq'
theorem pe_mkSD (M : Mk X.K C fa) (F : FnOk X.prog X.w X.K X.mg X.base (L2.CX X.prog X.w) k fa fd ps sp) (hr : Room (k + 1) X.A) (hg : Gl X x) (hm : X.mg x = some (.ref C)) (hb : Binds X.K fd ps ds) (hd : Vals dvs ds)
    (hx : ∀ σ, PassesAt (L2.CX X.prog X.w) X σ (E σ)) (ha : PA X (y :: ys) t) (hdb : (x == ("__debug__" : Str)) = false) (z1 : starEach (y :: ys) X.env = (false, eval y X.env) :: starEach ys X.env) (z2 : (backTo pos (starEach ys X.env)).any (·.1) = false) :
    PE X (.Call (.Name x p) (y :: ys) [] pos) (fun σ H Q => t σ H fun vs H1 => ∀ a dx, H1 a = none → H1 dx = none → dx ≠ a → sp (.ref a :: (vs ++ dvs)) (upd (upd H1 dx (.own a)) a (.ins C dx [])) (fun v H2 => v = .non ∧ Q (.ref a) H2) (E σ)) := by
  refine ⟨fun pins s σ H Q I h => wpAny_Call_Name_kw (ld_glob I hg hm ?_ hdb)⟩
  refine PySem.W.callWith_K (h₀ := X.base) I.ok.mod.kin M.kp (thn (ha.run pos pins s σ H _ I h) fun us s1 hh => ?_) z1 z2
  obtain ⟨vs, H1, I1, r, q⟩ := hh
  exact ⟨I1.kIn, run_mkSD M F hr hb hd (hx σ) I1 r q⟩
end
theorem Sim.own {K : PySem.W.Frag} {mg : Str → Option Value} {H : Hp} {φ : Ph} {bs : List Nat} {S : Sto} {a dx C : Addr} {c : Str} (s : Sim K mg H φ bs S) (ha : H a = none) (hd : H dx = none) (hn : dx ≠ a) (hm : mg c = some (.ref C)) :
    Ext H φ (upd (upd H dx (.own a)) a (.ins C dx [])) (φ.add a) ∧ Sim K mg (upd (upd H dx (.own a)) a (.ins C dx [])) (φ.add a) bs (S.add (.ins c [])) := by
  have x1 : Ext H φ (upd H dx (.own a)) φ := Ext.new s hd
  have s1 : Sim K mg (upd H dx (.own a)) φ bs S := s.new hd
  have ha' : upd H dx (.own a) a = none := by rw [upd_ne (fun e => hn e.symm)]; exact ha
  refine ⟨x1.trans (Ext.newCell s1 ha'), s1.newCell ha' ⟨C, dx, [], hm, upd_same, .nil⟩⟩
theorem de_mt {eo y : Expr} {ys : List Expr} {pl : Sem Bool} (C : Cz X W k) (F : MtOk X.prog X.w X.K X.mg X.base j c m fs.length dds G) (hj : j ≤ k) (ho : DE X W eo g) (ha : DA X W (y :: ys) (aList fs))
    (z1 : starEach (y :: ys) X.env = (false, eval y X.env) :: starEach ys X.env := by rfl) (z2 : (backTo pos (starEach ys X.env)).any (·.1) = false := by rfl)
    (ht : eval (.Call (.Attribute eo m apos) (y :: ys) [] pos) X.env = (do
      let ov ← eval eo X.env
      standAt apos.atName
      let (f, first) ← holding [ov] (getMethod ov m pl)
      callWith pos f first (backTo pos (starEach (y :: ys) X.env)) (backToKw pos (keywordEach [] X.env))) := by rfl) :
    DE X W (.Call (.Attribute eo m apos) (y :: ys) [] pos) (eMc c m g fs dds G) := by
  obtain ⟨Ca, f, fd, ps, dvs, dus, hm, c1, c2, hb, hv, hd, F⟩ := F.ex
  refine (pe_mtSD (E := fun σ => WE W σ) ho c1 c2 (F.mono hj) C.hr hb hv (fun σ => passAt C.tk σ) ha z1 z2 ht).wk fun σ H Q h => ?_
  obtain ⟨φ, bs, ρ, S, s, en, h⟩ := h
  refine tG_then s en h fun d S1 v H1 φ1 x1 s1 e1 r1 h1 => ?_
  cases q : insS S1 d with
  | none => rw [q] at h1; exact h1.elim
  | some cf =>
    obtain ⟨c', as⟩ := cf
    rw [q] at h1
    dsimp only at h1
    by_cases hc : c' = c ∧ as.lookup m = none
    · rw [if_pos hc] at h1
      obtain ⟨hc1, hc2⟩ := hc
      subst hc1
      obtain ⟨a, C', dx, vs, ev, hm', hH, rf⟩ := s1.ins r1 q
      rw [hm] at hm'
      cases hm'
      refine ⟨a, dx, vs, ev, hH, rf.look.2 hc2, ?_⟩
      refine ⟨φ1, bs, ρ, S1, s1, e1, ?_⟩
      have hl : ∀ ds S', aList fs ρ S1 = .ok ds S' → ds.length = fs.length := fun _ _ q => aList_len q
      revert h1 hl
      cases aList fs ρ S1 with
      | ok ds S2 =>
        intro h1 hl vs2 H2 φ2 x2 s2 r2
        refine ⟨?_, φ2, bs, d :: ds ++ dds, S2, s2, .cons (r1.ext x2 s1.cells) (r2.append (hd _ _)), PostG.chg (PostG.shift x2 h1) fun _ _ _ z => z⟩
        rw [List.length_cons, List.length_append, ← r2.length, ← (hd H φ).length, hl _ _ rfl]
        omega
      | ex e S2 => exact fun h1 _ => h1
      | bad => exact fun h1 _ => h1
    · rw [if_neg hc] at h1; exact h1.elim
theorem de_mt0 {eo : Expr} {pl : Sem Bool} (C : Cz X W k) (F : MtOk X.prog X.w X.K X.mg X.base j c m 0 dds G) (hj : j ≤ k) (ho : DE X W eo g)
    (ht : eval (.Call (.Attribute eo m apos) [] [] pos) X.env = (do
      let ov ← eval eo X.env
      standAt apos.atName
      let (f, first) ← holding [ov] (getMethod ov m pl)
      callWith pos f first (backTo pos (starEach [] X.env)) (backToKw pos (keywordEach [] X.env))) := by rfl) :
    DE X W (.Call (.Attribute eo m apos) [] [] pos) (eMc c m g [] dds G) := by
  obtain ⟨Ca, f, fd, ps, dvs, dus, hm, c1, c2, hb, hv, hd, F⟩ := F.ex
  refine (pe_mtSD0 (E := fun σ => WE W σ) ho c1 c2 (F.mono hj) C.hr hb hv (fun σ => passAt C.tk σ) ht).wk fun σ H Q h => ?_
  obtain ⟨φ, bs, ρ, S, s, en, h⟩ := h
  refine tG_then s en h fun d S1 v H1 φ1 x1 s1 e1 r1 h1 => ?_
  cases q : insS S1 d with
  | none => rw [q] at h1; exact h1.elim
  | some cf =>
    obtain ⟨c', as⟩ := cf
    rw [q] at h1
    dsimp only at h1
    by_cases hc : c' = c ∧ as.lookup m = none
    · rw [if_pos hc] at h1
      obtain ⟨hc1, hc2⟩ := hc
      subst hc1
      obtain ⟨a, C', dx, vs, ev, hm', hH, rf⟩ := s1.ins r1 q
      rw [hm] at hm'
      cases hm'
      refine ⟨a, dx, vs, ev, hH, rf.look.2 hc2, ?_, φ1, bs, d :: dds, S1, s1, .cons r1 (hd _ _), PostG.chg h1 fun _ _ _ z => z⟩
      rw [List.length_cons, ← (hd H φ).length]
      omega
    · rw [if_neg hc] at h1; exact h1.elim
theorem de_new {y : Expr} {ys : List Expr} (C : Cz X W k) (F : NewOk X.prog X.w X.K X.mg X.base j x fs.length dds G) (hj : j + 1 ≤ k) (ha : DA X W (y :: ys) (aList fs)) (hg : Gl X x := by rfl) (hdb : (x == ("__debug__" : Str)) = false := by decide)
    (z1 : starEach (y :: ys) X.env = (false, eval y X.env) :: starEach ys X.env := by rfl) (z2 : (backTo pos (starEach ys X.env)).any (·.1) = false := by rfl) :
    DE X W (.Call (.Name x p) (y :: ys) [] pos) (eNew x fs dds G) := by
  obtain ⟨Ca, f, fd, ps, dvs, dus, hm, c1, hb, hv, hd, F⟩ := F.ex
  refine (pe_mkSD (E := fun σ => WE W σ) c1 F (C.hr.mono hj) hg hm hb hv (fun σ => passAt C.tk σ) ha hdb z1 z2).wk fun σ H Q h => tApp h fun bs H1 φ S ds vs s r hl h => ?_
  intro a dx na nd nn
  obtain ⟨xx, ss⟩ := s.own na nd nn hm
  have ra : Rep X.K X.mg (upd (upd H1 dx (.own a)) a (.ins Ca dx [])) (φ.add a) (.ref S.new) (.ref a) := .ref (by
    show (φ.c ++ [a])[S.new]? = some a
    rw [Sto.new_all, ← s.len, List.getElem?_append_right (Nat.le_refl _)]
    simp)
  refine ⟨?_, φ.add a, bs, .ref S.new :: ds ++ dds, S.add (.ins x []), ss, .cons ra ((r.ext xx s.cells).append (hd _ _)), ?_⟩
  · rw [List.length_cons, List.length_append, ← r.length, ← (hd H φ).length, hl]
    omega
  · have h2 := PostG.shift xx h
    revert h2
    cases G (.ref S.new :: ds ++ dds) (S.add (.ins x [])) with
    | ok d S2 =>
      intro h2 v H2 φ2 x2 s2 r2
      cases d with
      | non =>
        cases r2
        exact ⟨rfl, h2 _ _ _ x2 s2 (ra.ext x2 ss.cells)⟩
      | _ => exact h2.elim
    | ex e S2 => exact fun h2 c dx H2 φ2 x2 s2 r2 => h2 c dx H2 φ2 x2 s2 r2
    | bad => exact fun h2 => h2
end
end Mi

/-! Mi14: more built-in functions. -/
namespace Mi
open PySem PySem.Spec PyProof.Rows L2
def decS (i : Int) : Str := (toString i : String)
def strG (_ : Sto) : D → Option D
  | .int i => if i.natAbs.log2 < 1920 ∧ goodS (decS i).cps.toList = true then some (.str (decS i).cps.toList) else none
  | _ => none
def b2 (g : Sto → D → D → Option D) (ds : List D) (S : Sto) : R D := match ds with
  | [d, e] => .of S (g S d e)
  | _ => .bad
def intsD : List D → Option (List Int)
  | [] => some []
  | .int i :: r => (intsD r).map (i :: ·)
  | _ :: _ => none
def blsD : List D → Option (List Bool)
  | [] => some []
  | .bl i :: r => (blsD r).map (i :: ·)
  | _ :: _ => none
def max2G (_ : Sto) : D → D → Option D
  | .int i, .int j => some (.int (if j > i then j else i))
  | _, _ => none
def min2G (_ : Sto) : D → D → Option D
  | .int i, .int j => some (.int (if j < i then j else i))
  | _, _ => none
def sumG (S : Sto) (d : D) : Option D := match lstS S d with
  | some xs => match intsD xs with
    | some ns => some (.int ns.sum)
    | none => none
  | none => none
def maxL : List Int → Option Int
  | [] => none
  | i :: r => some (r.foldl (fun a b => if a < b then b else a) i)
def minL : List Int → Option Int
  | [] => none
  | i :: r => some (r.foldl (fun a b => if b < a then b else a) i)
def maxG (S : Sto) (d : D) : Option D := match lstS S d with
  | some xs => match intsD xs with
    | some ns => (maxL ns).map .int
    | none => none
  | none => none
def minG (S : Sto) (d : D) : Option D := match lstS S d with
  | some xs => match intsD xs with
    | some ns => (minL ns).map .int
    | none => none
  | none => none
def anyG (S : Sto) (d : D) : Option D := match lstS S d with
  | some xs => match blsD xs with
    | some ns => some (.bl (ns.any id))
    | none => none
  | none => none
def allG (S : Sto) (d : D) : Option D := match lstS S d with
  | some xs => match blsD xs with
    | some ns => some (.bl (ns.all id))
    | none => none
  | none => none
section
variable {X : Cx} {W : WX} {e : Expr} {es : List Expr} {f : EM} {fs : List EM} {pos p : Pos} {k j n : Nat}
theorem intsD_rep {K : PySem.W.Frag} {mg : Str → Option Value} {H : Hp} {φ : Ph} : ∀ {ds : List D} {vs : List V} {ns : List Int}, RepL K mg H φ ds vs → intsD ds = some ns → vs = ns.map V.int
  | [], _, ns, .nil, e => by cases e; rfl
  | d :: ds, _, ns, .cons r t, e => by
    cases r with
    | int i =>
      have e' : (intsD ds).map (i :: ·) = some ns := e
      cases q : intsD ds with
      | none => rw [q] at e'; cases e'
      | some ms =>
        rw [q] at e'
        cases e'
        rw [intsD_rep t q]; rfl
    | _ => cases e
theorem blsD_rep {K : PySem.W.Frag} {mg : Str → Option Value} {H : Hp} {φ : Ph} : ∀ {ds : List D} {vs : List V} {ns : List Bool}, RepL K mg H φ ds vs → blsD ds = some ns → vs = ns.map V.bl
  | [], _, ns, .nil, e => by cases e; rfl
  | d :: ds, _, ns, .cons r t, e => by
    cases r with
    | bl i =>
      have e' : (blsD ds).map (i :: ·) = some ns := e
      cases q : blsD ds with
      | none => rw [q] at e'; cases e'
      | some ms =>
        rw [q] at e'
        cases e'
        rw [blsD_rep t q]; rfl
    | _ => cases e
theorem str_ok {n : Nat} : CallD X W n (fun xs H Q => ∃ i, xs = [.int i] ∧ i.natAbs.log2 < 1920 ∧ Q (.str (toString i : String)) H) (b1 strG) := by
  intro bs σ H φ S ds vs Q s r hl h
  obtain ⟨d, v, d', rfl, r, e, h⟩ := b1_of (n := n) s r h
  cases r with
  | int i =>
    have e' : (if i.natAbs.log2 < 1920 ∧ goodS (decS i).cps.toList = true then some (D.str (decS i).cps.toList) else none) = some d' := e
    by_cases q : i.natAbs.log2 < 1920 ∧ goodS (decS i).cps.toList = true
    · rw [if_pos q] at e'
      cases e'
      exact ⟨i, rfl, q.1, PostG.done s (.strOf (decS i) q.2) h⟩
    · rw [if_neg q] at e'; cases e'
  | _ => cases e
theorem de_strc (hm : X.mg "str" = none) (ha : DA X W (e :: es) (aList fs)) (hg : Gl X "str" := by rfl) (he : starEach (e :: es) X.env = (false, eval e X.env) :: starEach es X.env := by rfl) (hpl : (backTo pos (starEach es X.env)).any (·.1) = false := by rfl) :
    DE X W (.Call (.Name "str" p) (e :: es) [] pos) (eApp fs (b1 strG)) := (pe_callTy call_str_int hg hm (by decide +kernel) ha (by decide) (by decide) he hpl).wk (tCB_wk str_ok)
theorem b2_of {g : Sto → D → D → Option D} {bs : List Nat} {σ : L2.St} {H : Hp} {φ : Ph} {S : Sto} {ds : List D} {vs : List V} {Q : VK} (s : Sim X.K X.mg H φ bs S) (r : RepL X.K X.mg H φ ds vs) (h : Post X W bs σ H φ (b2 g ds S) Q) :
    ∃ d v d2 v2 d', vs = [v, v2] ∧ Rep X.K X.mg H φ d v ∧ Rep X.K X.mg H φ d2 v2 ∧ g S d d2 = some d' ∧ Post X W bs σ H φ (.ok d' S) Q := by
  cases r with
  | nil => exact h.elim
  | cons r t =>
    cases t with
    | nil => exact h.elim
    | cons r2 t =>
      cases t with
      | cons _ _ => exact h.elim
      | nil =>
        rename_i d v d2 v2
        have h' : Post X W bs σ H φ (R.of S (g S d d2)) Q := h
        cases q : g S d d2 with
        | none => rw [q] at h'; exact h'.elim
        | some d' => rw [q] at h'; exact ⟨d, v, d2, v2, d', rfl, r, r2, q, h'⟩
theorem max_ok (n : Nat) : CallD X W n (fun xs H Q => (∃ i j, xs = [.int i, .int j] ∧ Q (.int (if j > i then j else i)) H) ∨ rMax X.K xs H Q) (fun ds S => match ds with
    | [_, _] => b2 max2G ds S
    | ds => b1 maxG ds S) := by
  intro bs σ H φ S ds vs Q s r hl h
  cases r with
  | nil => exact h.elim
  | cons r t =>
    cases t with
    | cons r2 t =>
      cases t with
      | cons _ _ => exact h.elim
      | nil =>
        obtain ⟨d, v, d2, v2, d', ev, q1, q2, e, h⟩ := b2_of s (.cons r (.cons r2 .nil)) h
        cases ev
        cases q1 with
        | int i =>
          cases q2 with
          | int j => cases e; exact .inl ⟨i, j, rfl, PostG.done s (.int _) h⟩
          | _ => cases e
        | _ => cases e
    | nil =>
      obtain ⟨d, v, d', ev, r, e, h⟩ := b1_of (n := n) s (.cons r .nil) h
      cases ev
      unfold maxG at e
      split at e
      · rename_i xs ex
        split at e
        · rename_i ns en
          obtain ⟨a, ws, rfl, hq, lr⟩ := s.lst r ex
          have ew := intsD_rep lr en
          subst ew
          cases ns with
          | nil => cases e
          | cons i r =>
            cases e
            refine .inr ⟨a, i :: r, rfl, hq, Nat.succ_pos _, fun m hm hmax => ?_⟩
            have hh : (List.foldl (fun a b => if a < b then b else a) i r) = m := by
              have h1 : ∀ (l : List Int) (i : Int), (List.foldl (fun a b => if a < b then b else a) i l) ∈ i :: l ∧ ∀ y ∈ i :: l, y ≤ List.foldl (fun a b => if a < b then b else a) i l := by
                intro l
                induction l with
                | nil => intro i; simp
                | cons b l ih =>
                  intro i
                  obtain ⟨g1, g2⟩ := ih (if i < b then b else i)
                  simp only [List.foldl_cons]
                  refine ⟨?_, fun y hy => ?_⟩
                  · rcases List.mem_cons.mp g1 with q | q
                    · rw [q]
                      split
                      · exact List.mem_cons_of_mem _ List.mem_cons_self
                      · exact List.mem_cons_self
                    · exact List.mem_cons_of_mem _ (List.mem_cons_of_mem _ q)
                  · have g3 := g2 _ List.mem_cons_self
                    rcases List.mem_cons.mp hy with q | q
                    · subst q
                      refine Int.le_trans ?_ g3
                      split <;> omega
                    · rcases List.mem_cons.mp q with q | q
                      · subst q
                        refine Int.le_trans ?_ g3
                        split <;> omega
                      · exact g2 y (List.mem_cons_of_mem _ q)
              obtain ⟨g1, g2⟩ := h1 r i
              have := hmax _ g1
              have := g2 m hm
              omega
            rw [← hh]
            exact PostG.done s (.int _) h
        · cases e
      · cases e
theorem de_max (C : Cz X W k) (hm : X.mg "max" = none) (ha : DA X W (e :: es) (aList fs)) (hg : Gl X "max" := by rfl) (he : starEach (e :: es) X.env = (false, eval e X.env) :: starEach es X.env := by rfl) (hpl : (backTo pos (starEach es X.env)).any (·.1) = false := by rfl) :
    DE X W (.Call (.Name "max" p) (e :: es) [] pos) (eApp fs (fun ds S => match ds with
    | [_, _] => b2 max2G ds S
    | ds => b1 maxG ds S)) := (pe_callB (CallR.or (call_max2 C.calm) (cr_max C.calm)) hg hm (by decide +kernel) ha (by decide) (by decide) he hpl).wk (tCB_wk (max_ok _))
theorem min2_ok {n : Nat} : CallD X W n (fun xs H Q => ∃ i j, xs = [.int i, .int j] ∧ Q (.int (if j < i then j else i)) H) (b2 min2G) := by
  intro bs σ H φ S ds vs Q s r hl h
  obtain ⟨d, v, d2, v2, d', rfl, q1, q2, e, h⟩ := b2_of s r h
  cases q1 with
  | int i =>
    cases q2 with
    | int j => cases e; exact ⟨i, j, rfl, PostG.done s (.int _) h⟩
    | _ => cases e
  | _ => cases e
theorem de_min2 (C : Cz X W k) (hm : X.mg "min" = none) (ha : DA X W (e :: es) (aList fs)) (hg : Gl X "min" := by rfl) (he : starEach (e :: es) X.env = (false, eval e X.env) :: starEach es X.env := by rfl) (hpl : (backTo pos (starEach es X.env)).any (·.1) = false := by rfl) :
    DE X W (.Call (.Name "min" p) (e :: es) [] pos) (eApp fs (b2 min2G)) := (pe_callB (call_min2 C.calm) hg hm (by decide +kernel) ha (by decide) (by decide) he hpl).wk (tCB_wk min2_ok)
theorem sum_ok {n : Nat} : CallD X W n (rSum X.K) (b1 sumG) := by
  intro bs σ H φ S ds vs Q s r hl h
  obtain ⟨d, v, d', rfl, r, e, h⟩ := b1_of (n := n) s r h
  unfold sumG at e
  split at e
  · rename_i xs ex
    split at e
    · rename_i ns en
      obtain ⟨a, ws, rfl, hq, lr⟩ := s.lst r ex
      have ew := intsD_rep lr en
      subst ew
      cases e
      exact ⟨a, ns, rfl, hq, PostG.done s (.int _) h⟩
    · cases e
  · cases e
theorem de_sum (C : Cz X W k) (hm : X.mg "sum" = none) (ha : DA X W (e :: es) (aList fs)) (hg : Gl X "sum" := by rfl) (he : starEach (e :: es) X.env = (false, eval e X.env) :: starEach es X.env := by rfl) (hpl : (backTo pos (starEach es X.env)).any (·.1) = false := by rfl) :
    DE X W (.Call (.Name "sum" p) (e :: es) [] pos) (eApp fs (b1 sumG)) := (pe_callB (cr_sum C.calm) hg hm (by decide +kernel) ha (by decide) (by decide) he hpl).wk (tCB_wk sum_ok)
theorem any_ok {n : Nat} : CallD X W n (rAny X.K) (b1 anyG) := by
  intro bs σ H φ S ds vs Q s r hl h
  obtain ⟨d, v, d', rfl, r, e, h⟩ := b1_of (n := n) s r h
  unfold anyG at e
  split at e
  · rename_i xs ex
    split at e
    · rename_i ns en
      obtain ⟨a, ws, rfl, hq, lr⟩ := s.lst r ex
      have ew := blsD_rep lr en
      subst ew
      cases e
      exact ⟨a, ns, rfl, hq, PostG.done s (.bl _) h⟩
    · cases e
  · cases e
theorem all_ok {n : Nat} : CallD X W n (rAll X.K) (b1 allG) := by
  intro bs σ H φ S ds vs Q s r hl h
  obtain ⟨d, v, d', rfl, r, e, h⟩ := b1_of (n := n) s r h
  unfold allG at e
  split at e
  · rename_i xs ex
    split at e
    · rename_i ns en
      obtain ⟨a, ws, rfl, hq, lr⟩ := s.lst r ex
      have ew := blsD_rep lr en
      subst ew
      cases e
      exact ⟨a, ns, rfl, hq, PostG.done s (.bl _) h⟩
    · cases e
  · cases e
theorem de_any (C : Cz X W k) (hm : X.mg "any" = none) (ha : DA X W (e :: es) (aList fs)) (hg : Gl X "any" := by rfl) (he : starEach (e :: es) X.env = (false, eval e X.env) :: starEach es X.env := by rfl) (hpl : (backTo pos (starEach es X.env)).any (·.1) = false := by rfl) :
    DE X W (.Call (.Name "any" p) (e :: es) [] pos) (eApp fs (b1 anyG)) := (pe_callB (cr_any C.calm) hg hm (by decide +kernel) ha (by decide) (by decide) he hpl).wk (tCB_wk any_ok)
theorem de_all (C : Cz X W k) (hm : X.mg "all" = none) (ha : DA X W (e :: es) (aList fs)) (hg : Gl X "all" := by rfl) (he : starEach (e :: es) X.env = (false, eval e X.env) :: starEach es X.env := by rfl) (hpl : (backTo pos (starEach es X.env)).any (·.1) = false := by rfl) :
    DE X W (.Call (.Name "all" p) (e :: es) [] pos) (eApp fs (b1 allG)) := (pe_callB (cr_all C.calm) hg hm (by decide +kernel) ha (by decide) (by decide) he hpl).wk (tCB_wk all_ok)
end
end Mi

/-! Mi15: comprehensions with two for's. -/
namespace Mi
open PySem PySem.Spec PyProof.Rows L2
noncomputable def lc2N (g : GM) (t : TM) (im1 : IM) (g1 : GM) (t1 : TM) (f : EM) (vs1 : List Nat) (src : Option Nat) (all : List D) : List D → List D → Env → Sto → R (List D)
  | [], acc => fun _ S => if okSrc src all S then .ok acc S else .bad
  | x :: xs, acc => fun ρ S => if okSrc src all S then match g x ρ S with
      | some ρ1 => match t ρ1 S with
        | .ok b S1 => if b = true then match im1 ρ1 S1 with
            | .ok w S2 => match lcN g1 t1 f w.2 w.1 w.1 acc (wipeE ρ1 vs1) S2 with
              | .ok acc' S3 => lc2N g t im1 g1 t1 f vs1 src all xs acc' ρ S3
              | _ => .bad
            | _ => .bad
          else lc2N g t im1 g1 t1 f vs1 src all xs acc ρ S1
        | _ => .bad
      | none => .bad
    else .bad
noncomputable def eLc2 (c : Bool) (im : IM) (g : GM) (t : TM) (im1 : IM) (g1 : GM) (t1 : TM) (f : EM) (vs vs1 : List Nat) : EM := fun ρ S => (im ρ S).bind fun w S1 => match lc2N g t im1 g1 t1 f vs1 w.2 w.1 w.1 [] (wipeE ρ vs) S1 with
  | .ok acc S2 => mkL c acc S2
  | _ => .bad
/-- .. behind the inner walk -/
noncomputable def lcBack (k : List D → Sto → R (List D)) (r : R (List D)) : R (List D) := match r with
  | .ok acc S => k acc S
  | _ => .bad
section
variable {X : Cx} {W : WX} {elt tg e tg1 e1 : Expr} {pos : Pos} {k : Nat}
theorem Keeps.ext {H H' H2 : Hp} {φ φ' φ2 : Ph} (x : Keeps H φ H' φ') (y : Ext H' φ' H2 φ2) : Keeps H φ H2 φ2 := x.trans y.keeps
theorem tLc2_wk {im im1 : IM} {g g1 : GM} {t t1 : TM} {f : EM} {vs vs1 : List Nat} {c : Bool} (σ : L2.St) (H : Hp) (Q : VK) (h : tE X W (eLc2 c im g t im1 g1 t1 f vs vs1) σ H Q) :
    tLc2 (tI X W im) (tGw X vs g) (tT X W0 t) (tI X W0 im1) (tGw X vs1 g1) (tT X W0 t1) (tE X W0 f) vs vs1 σ H Q := by
  obtain ⟨φ, bs, ρ, S, s, en, h⟩ := h
  refine ⟨φ, bs, ρ, S, s, en, ?_⟩
  unfold eLc2 at h
  cases q : im ρ S with
  | bad => rw [q] at h; exact h
  | ex d S1 => rw [q] at h; exact h
  | ok w S1 =>
    rw [q] at h
    obtain ⟨all, src⟩ := w
    intro H1 φ1 J x1 s1 o1 j1 Da hDa
    have en1 := en.ext x1 s.cells
    have h1 : Fin X W bs σ H1 φ1 c Q (lc2N g t im1 g1 t1 f vs1 src all all [] (wipeE ρ vs) S1) := by
      have h' := PostG.shift x1 h
      revert h'
      dsimp only [R.bind]
      cases lc2N g t im1 g1 t1 f vs1 src all all [] (wipeE ρ vs) S1 with
      | ok acc S2 => exact fun h' => h'
      | ex _ _ => exact fun h' => h'
      | bad => exact fun h' => h'
    have nD : ¬ φ1.has Da := s1.fresh hDa
    have n1 : Da ∉ φ1.h := fun z => nD (.inr z)
    obtain ⟨y0, sD⟩ := s1.lay (o := .lst []) hDa (.inl ⟨[], rfl⟩)
    let N := fun (i : Nat) (acc : List D) (S : Sto) => lc2N g t im1 g1 t1 f vs1 src all (all.drop i) acc (wipeE ρ vs) S
    refine ⟨fun i m H => ∃ φ S acc ws, m = all.length - i ∧ i ≤ all.length ∧ Hid H1 φ1 Da H φ ∧ Sim X.K X.mg H φ bs S ∧ H Da = some (.lst ws) ∧ RepL X.K X.mg H φ acc ws ∧ Fin X W bs σ H1 φ1 c Q (N i acc S),
      ⟨all.length, φ1.hide Da, S1, [], [], rfl, Nat.zero_le _, y0, sD, upd_same, .nil, h1⟩, fun i m H hw => ?_⟩
    obtain ⟨φ, S, acc, ws, rfl, hi, y, s, eD, lr, h⟩ := hw
    have hDm : Da ∈ φ.h := by rw [y.hh]; exact List.mem_cons_self
    by_cases hlt : i < all.length
    · have h : Fin X W bs σ H1 φ1 c Q (lc2N g t im1 g1 t1 f vs1 src all (all.drop i) acc (wipeE ρ vs) S) := h
      rw [List.drop_eq_getElem_cons hlt] at h
      unfold lc2N at h
      by_cases ho : okSrc src all S
      · rw [if_pos ho] at h
        obtain ⟨hgo, hy⟩ := (j1 H φ S (y.keeps hDa) s ho).1 i all[i] (List.getElem?_eq_getElem hlt)
        refine .inr ⟨hgo, fun H' => ∃ φ S acc ws, i + 1 ≤ all.length ∧ Hid H1 φ1 Da H' φ ∧ Sim X.K X.mg H' φ bs S ∧ H' Da = some (.lst ws) ∧ RepL X.K X.mg H' φ acc ws ∧ Fin X W bs σ H1 φ1 c Q (N (i + 1) acc S),
          fun H' hn => ?_, fun v H' hv => ?_⟩
        · obtain ⟨φ', S', acc', ws', q1, q2, q3, q4, q5, q6⟩ := hn
          exact ⟨all.length - (i + 1), by omega, φ', S', acc', ws', rfl, q1, q2, q3, q4, q5, q6⟩
        · obtain ⟨e1, r⟩ := hy v H' hv
          subst e1
          have en2 : EnvR X.K X.mg (xp X) H' φ (wipeE ρ vs) (wipe σ vs) := (en1.kp (y.keeps hDa) s1.cells).wipe vs
          cases eg : g all[i] (wipeE ρ vs) S with
          | none => rw [eg] at h; exact h.elim
          | some ρ1 =>
            rw [eg] at h
            dsimp only at h
            refine ⟨φ, bs, wipeE ρ vs, S, all[i], s, en2, r, ρ1, eg, fun σ2 e2 w2 => ⟨?_, φ, bs, ρ1, S, s, e2, ?_⟩⟩
            · rw [w2]; exact wipe_wipe σ vs
            · cases et : t ρ1 S with
              | bad => rw [et] at h; exact h.elim
              | ex _ _ => rw [et] at h; exact h.elim
              | ok b S1 =>
                rw [et] at h
                dsimp only at h
                intro b' H3 φ4 x4 s4 rb
                have rb' : b' = b := rb
                subst rb'
                have e3 := e2.ext x4 s.cells
                have lr4 := lr.ext x4 s.cells
                obtain ⟨y4, eD4⟩ := y.step x4 eD
                cases b' with
                | false => exact iteF ⟨φ4, S1, acc, ws, by omega, y4, s4, eD4, lr4, by rw [if_neg Bool.false_ne_true] at h; exact h⟩
                | true =>
                  rw [if_pos rfl] at h
                  refine iteT ⟨φ4, bs, ρ1, S1, s4, e3, ?_⟩
                  cases ei : im1 ρ1 S1 with
                  | bad => rw [ei] at h; exact h.elim
                  | ex _ _ => rw [ei] at h; exact h.elim
                  | ok w S2 =>
                    rw [ei] at h
                    obtain ⟨all1, src1⟩ := w
                    dsimp only at h
                    intro H5 φ5 J1 x5 s5 o5 j5
                    have e5 := e3.ext x5 s4.cells
                    have lr5 := lr4.ext x5 s4.cells
                    obtain ⟨y5, eD5⟩ := y4.step x5 eD4
                    have hb : Fin X W bs σ H1 φ1 c Q (lcBack (fun acc S => N (i + 1) acc S) (lcN g1 t1 f src1 all1 all1 acc (wipeE ρ1 vs1) S2)) := by
                      revert h
                      unfold lcBack
                      cases lcN g1 t1 f src1 all1 all1 acc (wipeE ρ1 vs1) S2 with
                      | ok a b => exact fun h => h
                      | ex _ _ => exact fun h => h
                      | bad => exact fun h => h
                    clear h
                    refine ⟨fun j m H => ∃ φ S acc ws, m = all1.length - j ∧ j ≤ all1.length ∧ Hid H1 φ1 Da H φ ∧ Keeps H5 φ5 H φ ∧ Sim X.K X.mg H φ bs S ∧ H Da = some (.lst ws) ∧ RepL X.K X.mg H φ acc ws ∧
                        Fin X W bs σ H1 φ1 c Q (lcBack (fun acc S => N (i + 1) acc S) (lcN g1 t1 f src1 all1 (all1.drop j) acc (wipeE ρ1 vs1) S)),
                      ⟨all1.length, φ5, S2, acc, ws, rfl, Nat.zero_le _, y5, (Ext.refl _ _).keeps, s5, eD5, lr5, hb⟩, fun j m H hw => ?_⟩
                    obtain ⟨φ6, S6, acc6, ws6, rfl, hj, y6, kp6, s6, eD6, lr6, h6⟩ := hw
                    by_cases hjt : j < all1.length
                    · rw [List.drop_eq_getElem_cons hjt] at h6
                      unfold lcN at h6
                      by_cases ho6 : okSrc src1 all1 S6
                      · rw [if_pos ho6] at h6
                        obtain ⟨hgo6, hy6⟩ := (j5 H φ6 S6 kp6 s6 ho6).1 j all1[j] (List.getElem?_eq_getElem hjt)
                        refine .inr ⟨hgo6, fun H' => ∃ φ S acc ws, j + 1 ≤ all1.length ∧ Hid H1 φ1 Da H' φ ∧ Keeps H5 φ5 H' φ ∧ Sim X.K X.mg H' φ bs S ∧ H' Da = some (.lst ws) ∧ RepL X.K X.mg H' φ acc ws ∧
                            Fin X W bs σ H1 φ1 c Q (lcBack (fun acc S => N (i + 1) acc S) (lcN g1 t1 f src1 all1 (all1.drop (j + 1)) acc (wipeE ρ1 vs1) S)), fun H' hn => ?_, fun v H' hv => ?_⟩
                        · obtain ⟨φ', S', acc', ws', q1, q2, q2', q3, q4, q5, q6⟩ := hn
                          exact ⟨all1.length - (j + 1), by omega, φ', S', acc', ws', rfl, q1, q2, q2', q3, q4, q5, q6⟩
                        · obtain ⟨e7, r7⟩ := hy6 v H' hv
                          subst e7
                          have en7 : EnvR X.K X.mg (xp X) H' φ6 (wipeE ρ1 vs1) (wipe σ2 vs1) := (e5.kp kp6 s5.cells).wipe vs1
                          cases eg7 : g1 all1[j] (wipeE ρ1 vs1) S6 with
                          | none => rw [eg7] at h6; exact h6.elim
                          | some ρ7 =>
                            rw [eg7] at h6
                            dsimp only at h6
                            refine ⟨φ6, bs, wipeE ρ1 vs1, S6, all1[j], s6, en7, r7, ρ7, eg7, fun σ8 e8 w8 => ⟨?_, φ6, bs, ρ7, S6, s6, e8, ?_⟩⟩
                            · rw [w8]; exact wipe_wipe σ2 vs1
                            · cases et7 : t1 ρ7 S6 with
                              | bad => rw [et7] at h6; exact h6.elim
                              | ex _ _ => rw [et7] at h6; exact h6.elim
                              | ok b S7 =>
                                rw [et7] at h6
                                dsimp only at h6
                                intro b' H9 φ9 x9 s9 rb
                                have rb' : b' = b := rb
                                subst rb'
                                have e9 := e8.ext x9 s6.cells
                                have lr9 := lr6.ext x9 s6.cells
                                obtain ⟨y9, eD9⟩ := y6.step x9 eD6
                                have kp9 := kp6.ext x9
                                cases b' with
                                | false => exact iteF ⟨φ9, S7, acc6, ws6, by omega, y9, kp9, s9, eD9, lr9, by rw [if_neg Bool.false_ne_true] at h6; exact h6⟩
                                | true =>
                                  rw [if_pos rfl] at h6
                                  refine iteT ⟨φ9, bs, ρ7, S7, s9, e9, ?_⟩
                                  cases ef : f ρ7 S7 with
                                  | bad => rw [ef] at h6; exact h6.elim
                                  | ex _ _ => rw [ef] at h6; exact h6.elim
                                  | ok d S8 =>
                                    rw [ef] at h6
                                    dsimp only at h6
                                    intro u Ha φa xa sa ra
                                    obtain ⟨ya, eDa⟩ := y9.step xa eD9
                                    have lra := lr9.ext xa s9.cells
                                    have hDa' : Da ∈ φa.h := by rw [ya.hh]; exact List.mem_cons_self
                                    by_cases hz : acc6.length < sizeLine
                                    · rw [if_pos hz] at h6
                                      refine ⟨ws6, eDa, by rw [← lra.length]; exact hz, φa, S8, acc6 ++ [d], ws6 ++ [u], by omega, ya.put hDa n1, (kp9.ext xa).trans (Keeps.put hDa'), sa.put hDa' (.inl ⟨_, rfl⟩), upd_same, ?_, h6⟩
                                      exact (lra.append (.cons ra .nil)).kp (Keeps.put hDa') sa.cells
                                    · rw [if_neg hz] at h6; exact h6.elim
                      · rw [if_neg ho6] at h6; exact h6.elim
                    · have hj2 : j = all1.length := by omega
                      rw [List.drop_eq_nil_of_le (by omega)] at h6
                      unfold lcN at h6
                      by_cases ho6 : okSrc src1 all1 S6
                      · rw [if_pos ho6] at h6
                        exact .inl ⟨(j5 H φ6 S6 kp6 s6 ho6).2 j (by omega), φ6, S6, acc6, ws6, by omega, y6, s6, eD6, lr6, h6⟩
                      · rw [if_neg ho6] at h6; exact h6.elim
      · rw [if_neg ho] at h; exact h.elim
    · have hi2 : i = all.length := by omega
      have h : Fin X W bs σ H1 φ1 c Q (lc2N g t im1 g1 t1 f vs1 src all (all.drop i) acc (wipeE ρ vs) S) := h
      rw [List.drop_eq_nil_of_le (by omega)] at h
      unfold lc2N at h
      by_cases ho : okSrc src all S
      · rw [if_pos ho] at h
        refine .inl ⟨(j1 H φ S (y.keeps hDa) s ho).2 i (by omega), ?_⟩
        cases c with
        | false =>
          obtain ⟨s3, k3, nn⟩ := y.val n1 s
          exact h _ _ _ y.ex s3 (.lst eD nn (lr.kp k3 s.cells))
        | true =>
          obtain ⟨xs, hs, hg⟩ := y.cell (c := .lst acc) hDa n1 s fun kp => ⟨ws, eD, lr.kp kp s.cells⟩
          exact h _ _ _ xs hs (.ref hg)
      · rw [if_neg ho] at h; exact h.elim
theorem tI_blk {s : Shared} {H : Hp} {sc : Scope} {en : PySem.Env} {fp : List Addr} {W : WX} {im : IM} (h : X.calm = true) : tI (X.blk s H sc en fp) W im = tI X W im := by
  unfold tI
  rw [xp_blk h]
theorem pi_blk {s : Shared} {H : Hp} {sc : Scope} {en : PySem.Env} {fp : List Addr} {im : IM} (h : X.calm = true) (ht : PI (X.blk s H sc en fp) tg e (tI (X.blk s H sc en fp) W im)) : PI (X.blk s H sc en fp) tg e (tI X W im) := by
  rw [← tI_blk h]; exact ht
theorem de_lc2 {ifs ifs1 : List Expr} {scope : Scope} {own : List (Str × Nat)} {im im1 : IM} {g g1 : GM} {t t1 : TM} {f : EM} (c : Bool) (vs1 : List Nat) (C : Cz X W k) (hN : X.N.Nodup) (hi : DI X W tg e im) (ok : BlkOk X.N X.env.scope scope own) (hv : ∀ i ∈ vs1, i ∈ own.map (·.2))
    (hg : ∀ (s : Shared) (H : Hp) (Cl : Addr) (cl : List (Str × Addr)) (fp : List Addr), PG (X.blk s H scope (compEnvC scope cl Cl X.env) fp) tg (tGw (X.blk s H scope (compEnvC scope cl Cl X.env) fp) (own.map (·.2)) g))
    (ht : ∀ (s : Shared) (H : Hp) (Cl : Addr) (cl : List (Str × Addr)) (fp : List Addr), PTs (X.blk s H scope (compEnvC scope cl Cl X.env) fp) ifs (tT (X.blk s H scope (compEnvC scope cl Cl X.env) fp) W0 t))
    (hi1 : ∀ (s : Shared) (H : Hp) (Cl : Addr) (cl : List (Str × Addr)) (fp : List Addr), DI (X.blk s H scope (compEnvC scope cl Cl X.env) fp) W0 tg1 e1 im1)
    (hg1 : ∀ (s : Shared) (H : Hp) (Cl : Addr) (cl : List (Str × Addr)) (fp : List Addr), PG (X.blk s H scope (compEnvC scope cl Cl X.env) fp) tg1 (tGw (X.blk s H scope (compEnvC scope cl Cl X.env) fp) vs1 g1))
    (ht1 : ∀ (s : Shared) (H : Hp) (Cl : Addr) (cl : List (Str × Addr)) (fp : List Addr), PTs (X.blk s H scope (compEnvC scope cl Cl X.env) fp) ifs1 (tT (X.blk s H scope (compEnvC scope cl Cl X.env) fp) W0 t1))
    (he : ∀ (s : Shared) (H : Hp) (Cl : Addr) (cl : List (Str × Addr)) (fp : List Addr), DE (X.blk s H scope (compEnvC scope cl Cl X.env) fp) W0 elt f) (hs : ∀ x, foldedSetIterable e X.env x = pure x := by intro _; rfl) (hs1 : ∀ env x, foldedSetIterable e1 env x = pure x := by intro _ _; rfl) :
    DE X W (.ListComp elt [⟨tg, e, ifs, 0⟩, ⟨tg1, e1, ifs1, 0⟩] scope pos) (eLc2 c im g t im1 g1 t1 f (own.map (·.2)) vs1) :=
  (pe_lc2 C.calm hN hi ok hv (fun s H Cl cl fp => pg_blk C.calm (hg s H Cl cl fp)) (fun s H Cl cl fp => pts_blk C.calm (ht s H Cl cl fp)) (fun s H Cl cl fp => pi_blk C.calm (hi1 s H Cl cl fp)) (fun s H Cl cl fp => pg_blk C.calm (hg1 s H Cl cl fp))
    (fun s H Cl cl fp => pts_blk C.calm (ht1 s H Cl cl fp)) (fun s H Cl cl fp => pe_blk C.calm (he s H Cl cl fp)) hs hs1).wk tLc2_wk
/-- name = [.. for .. for ..] -/
theorem ds_setLc2 {ifs ifs1 : List Expr} {scope : Scope} {own : List (Str × Nat)} {im im1 : IM} {g g1 : GM} {t t1 : TM} {f : EM} {i : Nat} {y : Str} {py spos : Pos} (c : Bool) (vs1 : List Nat) (C : Cz X W k) (hN : X.N.Nodup)
    (hsw : swapsWith (.ListComp elt [⟨tg, e, ifs, 0⟩, ⟨tg1, e1, ifs1, 0⟩] scope pos) (some (.Name y py)) spos.line X.env = pure true) (hi : DI X W tg e im) (ok : BlkOk X.N X.env.scope scope own) (hv : ∀ i ∈ vs1, i ∈ own.map (·.2))
    (hg : ∀ (s : Shared) (H : Hp) (Cl : Addr) (cl : List (Str × Addr)) (fp : List Addr), PG (X.blk s H scope (compEnvC scope cl Cl X.env) fp) tg (tGw (X.blk s H scope (compEnvC scope cl Cl X.env) fp) (own.map (·.2)) g))
    (ht : ∀ (s : Shared) (H : Hp) (Cl : Addr) (cl : List (Str × Addr)) (fp : List Addr), PTs (X.blk s H scope (compEnvC scope cl Cl X.env) fp) ifs (tT (X.blk s H scope (compEnvC scope cl Cl X.env) fp) W0 t))
    (hi1 : ∀ (s : Shared) (H : Hp) (Cl : Addr) (cl : List (Str × Addr)) (fp : List Addr), DI (X.blk s H scope (compEnvC scope cl Cl X.env) fp) W0 tg1 e1 im1)
    (hg1 : ∀ (s : Shared) (H : Hp) (Cl : Addr) (cl : List (Str × Addr)) (fp : List Addr), PG (X.blk s H scope (compEnvC scope cl Cl X.env) fp) tg1 (tGw (X.blk s H scope (compEnvC scope cl Cl X.env) fp) vs1 g1))
    (ht1 : ∀ (s : Shared) (H : Hp) (Cl : Addr) (cl : List (Str × Addr)) (fp : List Addr), PTs (X.blk s H scope (compEnvC scope cl Cl X.env) fp) ifs1 (tT (X.blk s H scope (compEnvC scope cl Cl X.env) fp) W0 t1))
    (he : ∀ (s : Shared) (H : Hp) (Cl : Addr) (cl : List (Str × Addr)) (fp : List Addr), DE (X.blk s H scope (compEnvC scope cl Cl X.env) fp) W0 elt f)
    (hy : X.N[i]? = some y := by rfl) (hyl : X.env.scope.names.lookup y = some .local := by rfl) (hs : ∀ x, foldedSetIterable e X.env x = pure x := by intro _; rfl) (hs1 : ∀ env x, foldedSetIterable e1 env x = pure x := by intro _ _; rfl) :
    DS X W (.Assign [.Name y py] (.ListComp elt [⟨tg, e, ifs, 0⟩, ⟨tg1, e1, ifs1, 0⟩] scope pos) spos) (sAsg (eLc2 c im g t im1 g1 t1 f (own.map (·.2)) vs1) (gtName i)) := by
  refine (ps_setLc2 (wi := tI X W im) (g := tGw X (own.map fun x : Str × Nat => x.2) g) (tt := tT X W0 t) (wi1 := tI X W0 im1) (g1 := tGw X vs1 g1) (tt1 := tT X W0 t1) (te := tE X W0 f) C.calm hN hy hyl hsw hi ok hv
    (fun s H Cl cl fp => pg_blk C.calm (hg s H Cl cl fp)) (fun s H Cl cl fp => pts_blk C.calm (ht s H Cl cl fp)) (fun s H Cl cl fp => pi_blk C.calm (hi1 s H Cl cl fp)) (fun s H Cl cl fp => pg_blk C.calm (hg1 s H Cl cl fp))
    (fun s H Cl cl fp => pts_blk C.calm (ht1 s H Cl cl fp)) (fun s H Cl cl fp => pe_blk C.calm (he s H Cl cl fp)) hs hs1).wk fun D σ H h => ?_
  refine tLc2_wk (W := W) (c := c) σ H _ ?_
  obtain ⟨φ, bs, ρ, S, s, en, h⟩ := h
  refine tG_thenS s en h fun d S1 v H1 φ1 x1 s1 e1 r1 h1 => ?_
  exact h1 _ H1 φ1 (.refl _ _) s1 (e1.set r1 i (xp_no (.inr C.calm) hy))
end
end Mi

/-! Mi16: raise, try; methods and classes as the text has them. -/
namespace Mi
open PySem PySem.Spec PyProof.Rows L2
/-- an own exception class, without __init__ -/
structure ExAt (K : PySem.W.Frag) (mg : Str → Option Value) (x : Str) : Prop where
  ex : ∃ C, mg x = some (.ref C) ∧ PySem.W.excIn K C [.type "ValueError", .type "Exception", .type "BaseException", .type "object"] "ValueError.__new__" = true ∧ PySem.W.keepIn K (.ref C) = true ∧
    PySem.W.subIn K (.ref C) (.type "BaseException") = some true ∧ PySem.W.typeIn K (.ref C) = some (.type "type")
/-- which classes the clause «except x» takes -/
structure ExTab (K : PySem.W.Frag) (mg : Str → Option Value) (x : Str) (l : List (Str × Bool)) : Prop where
  ex : ∃ C, mg x = some (.ref C) ∧ ∀ p ∈ l, ∀ D, mg p.1 = some (.ref D) → PySem.W.exmOne K (.ref D) (.ref C) = some p.2
def sRaise (x : Str) : SM := fun ρ S => .ex (.obj x []) ρ S
/-- the suite's end -/
def sOut (i : Nat) : SR → SR
  | .nx ρ S => .nx (ρ.set i none) S
  | .bk ρ S => .bk (ρ.set i none) S
  | .ct ρ S => .ct (ρ.set i none) S
  | .rt d S => .rt d S
  | _ => .bad
def exIs (l : List (Str × Bool)) : D → Option Bool
  | .obj c _ => l.lookup c
  | _ => none
/-- try: B; except ..: Bs, the exception in slot i -/
def sTryAs (B : SM) (l : List (Str × Bool)) (i : Nat) (Bs : SM) : SM := fun ρ S => match B ρ S with
  | .ex e ρ' S' => match exIs l e with
    | some true => sOut i (Bs (ρ'.set i (some (.exn e))) S')
    | some false => .ex e ρ' S'
    | none => .bad
  | r => r
theorem lookup_mem {α : Type} {c : Str} {b : α} : ∀ {l : List (Str × α)}, l.lookup c = some b → (c, b) ∈ l
  | [], h => by cases h
  | (k, v) :: l, h => by
    rw [List.lookup_cons] at h
    cases q : c == k with
    | true =>
      rw [q] at h
      cases h
      rw [beq_iff_eq.mp q]
      exact List.mem_cons_self
    | false =>
      rw [q] at h
      exact List.mem_cons_of_mem _ (lookup_mem h)
section
variable {X : Cx} {W : WX} {k : Nat} {x n : Str} {pos pos' p p2 np : Pos} {i : Nat} {l : List (Str × Bool)} {B Bs : SM} {body suite : List Stmt} {b₀ : Stmt}
theorem ds_raise {m : Str} {j : Nat} (C : Cz X W k) (E : ExAt X.K X.mg x) (hg : Gl X x := by rfl) (hdb : (x == ("__debug__" : Str)) = false := by decide) :
    DS X W (.Raise (some (.Call (.Name x p) [.Constant (.str m) j p2] [] pos)) none pos') (sRaise x) := by
  obtain ⟨Ca, h1, h2, h3, h4, h5⟩ := E.ex
  refine (L2.ps_raise C.calm C.tk (L2.pmk_own PySem.F.excBase_ValueError h2 h1 h3 (L2.raises_own h4 h5) hg hdb)).wk fun D σ H h => ?_
  obtain ⟨φ, bs, ρ, S, s, en, h⟩ := h
  exact h (.ref Ca) none σ H φ (Ext.refl _ _) s en ⟨x, [], Ca, rfl, h1, rfl, fun z => absurd rfl z, fun _ => rfl⟩
theorem xp_calm (h : X.calm = true) : xp X = [] := by unfold xp; rw [h]; rfl
theorem tS_tr {pn : List (Addr × Obj)} {xe : Value → Shared → Prop} (h : X.calm = true) : tS (X.tr pn xe) W B = tS X W B := by
  unfold tS
  have e : xp (X.tr pn xe) = xp X := by rw [xp_calm h]; exact xp_calm (X := X.tr pn xe) h
  rw [e]
theorem Cz.tr {pn : List (Addr × Obj)} {xe : Value → Shared → Prop} {W' : WX} (C : Cz X W k) (tk : L2.Takes (X.tr pn xe) W') (po : PassesOwn (model X.prog X.w) X.A X.env xe) : Cz (X.tr pn xe) W' k := ⟨C.hr, tk, po, C.calm⟩
theorem EnvR.held {K : PySem.W.Frag} {mg : Str → Option Value} {H : Hp} {φ : Ph} {ρ : Env} {σ : L2.St} {P : List (Nat × Addr × Obj)} {e : D} {a : Addr} {oe : Obj} {cls : Value} {dx : Option Addr} {i : Nat} (en : EnvR K mg [] H φ ρ σ) (hP : ∀ p ∈ P, p = (i, a, oe))
    (hz : Zc cls dx oe) (hf : ∃ vs, oe.data = .fields vs) (r : ExR K mg H φ e cls dx) : EnvR K mg P H φ (ρ.set i (some (.exn e))) (σ.set i (some (.ref a))) := by
  have e2 := EnvR.set en (.exn e a) i (fun p hp => by cases hp)
  refine ⟨e2.len, e2.rep, fun p hp d v h1 h2 => ?_⟩
  have ep := hP p hp
  subst ep
  have hl : i < ρ.length := by
    have := (List.getElem?_eq_some_iff.mp h1).1
    simpa using this
  have hl2 : i < σ.length := by rw [← en.len]; exact hl
  rw [List.getElem?_set_self hl] at h1
  rw [List.getElem?_set_self hl2] at h2
  cases h1
  cases h2
  exact ⟨cls, dx, rfl, hz, hf, r⟩
theorem EnvR.loose {K : PySem.W.Frag} {mg : Str → Option Value} {H : Hp} {φ : Ph} {ρ : Env} {σ : L2.St} {P : List (Nat × Addr × Obj)} (en : EnvR K mg P H φ ρ σ) : EnvR K mg [] H φ ρ σ :=
  ⟨en.len, en.rep, fun p hp => by cases hp⟩
theorem idx_of {N : List Str} {i : Nat} {x : Str} (hN : N.Nodup) (hi : N[i]? = some x) : N.idxOf x = i := by
  obtain ⟨hl, e⟩ := List.getElem?_eq_some_iff.mp hi
  subst e
  exact hN.idxOf_getElem i hl
theorem ds_tryAs (C : Cz X W k) (hN : X.N.Nodup) (T : ExTab X.K X.mg x l)
    (hb : ∀ (W' : WX) (pn : List (Addr × Obj)) (xe : Value → Shared → Prop), Cz (X.tr pn xe) W' k → DSs (X.tr pn xe) W' body B)
    (hsu : ∀ (a : Addr) (oe : Obj) (pn : List (Addr × Obj)), DSs (X.suite a ((a, oe) :: pn)) W0 (b₀ :: suite) Bs)
    (hi : X.N[i]? = some ("error" : Str) := by rfl) (hln : X.env.kindOf ("error" : Str) = some .local := by rfl) (hg : Gl X x := by rfl) (hdb : (x == ("__debug__" : Str)) = false := by decide)
    (hs : X.stack = X.env :: X.outer := by rfl) (hf : X.env.frame = some X.env.locals := by rfl) :
    DS X W (.Try body [.ExceptHandler (some (.Name x np)) (some "error") (b₀ :: suite) pos'] [] [] pos) (sTryAs B l i Bs) := by
  obtain ⟨Cc, hm, ht⟩ := T.ex
  let ts : Addr → Value → Option Addr → TS := fun a cls d D σ H => ∀ oe, Zc cls d oe → (∃ vs, oe.data = .fields vs) →
    ∃ φ bs ρ S, Sim X.K X.mg H φ bs S ∧ EnvR X.K X.mg [(i, a, oe)] H φ ρ σ ∧ PostS X.K X.mg W0 [(i, a, oe)] bs H φ (Bs ρ S) D
  have key := L2.ps_try_as (X := X) (np := np) (pos := pos) (pos' := pos') (tb := fun W' => tS X W' B) (ts := ts) (Wout := W) hs hf hN hi hln ⟨hg, hdb, .inl hm⟩ C.tk
    (fun W' pn xe tk po => by
      have h := hb W' pn xe (C.tr tk po)
      rw [← tS_tr (pn := pn) (xe := xe) C.calm]
      exact h)
    (fun a oe cls d pn hz hf => (hsu a oe pn).wk fun D σ H h => by
      have h' := h oe hz hf
      unfold tS
      have ex : xp (X.suite a ((a, oe) :: pn)) = [(i, a, oe)] := by
        show (List.map (fun q => (X.N.idxOf ("error" : Str), q)) [(a, oe)]) = _
        rw [idx_of hN hi]; rfl
      rw [ex]
      exact h')
  refine key.wk fun D σ H h => ?_
  obtain ⟨φ, bs, ρ, S, s, en, h⟩ := h
  refine ⟨φ, bs, ρ, S, s, en, ?_⟩
  have hx : xp X = [] := xp_calm C.calm
  rw [hx] at h ⊢
  revert h
  unfold sTryAs
  cases B ρ S with
  | ex e ρ' S' =>
    intro h cls dx σ' H' φ' x' s' e' r'
    dsimp only at h
    have r0 := r'
    obtain ⟨c, fs, Ca, rfl, h1, rfl, h3, h0⟩ := r'
    cases q : l.lookup c with
    | none => rw [show exIs l (.obj c fs) = none from q] at h; exact h.elim
    | some b =>
      rw [show exIs l (.obj c fs) = some b from q] at h
      refine ⟨b, ht _ (lookup_mem q) _ h1, fun hb a na oe hz hf => ?_, fun hb => ?_⟩
      · subst hb
        refine ⟨φ', bs, ρ'.set i (some (.exn (.obj c fs))), S', s', e'.held (fun p hp => by simpa using hp) hz hf r0, ?_⟩
        have h := PostS.shift x' h
        dsimp only at h
        revert h
        cases Bs (ρ'.set i (some (.exn (.obj c fs)))) S' with
        | nx ρ2 S2 => exact fun h σ2 H2 φ2 x2 s2 e2 => h _ H2 φ2 x2 s2 (e2.loose.unset i none)
        | bk ρ2 S2 => exact fun h σ2 H2 φ2 x2 s2 e2 => h _ H2 φ2 x2 s2 (e2.loose.unset i none)
        | ct ρ2 S2 => exact fun h σ2 H2 φ2 x2 s2 e2 => h _ H2 φ2 x2 s2 (e2.loose.unset i none)
        | rt d S2 => exact fun h => h
        | ex _ _ _ => exact fun h => h.elim
        | bad => exact fun h => h.elim
      · subst hb
        exact h _ _ _ H' φ' x' s' e' r0
  | nx _ _ => exact fun h => h
  | bk _ _ => exact fun h => h
  | ct _ _ => exact fun h => h
  | rt _ _ => exact fun h => h
  | bad => exact fun h => h
end
/-! ### isinstance of the exception that is held -/
/-- l: the classes that may be held, and whether they are of the class x -/
structure ExIsAt (K : PySem.W.Frag) (mg : Str → Option Value) (x : Str) (l : List (Str × Bool)) : Prop where
  ex : ∃ C, mg x = some (.ref C) ∧ ∀ p ∈ l, ∀ D, mg p.1 = some (.ref D) → L2.ExcC K D ∧ PySem.W.kitOne K (.ref D) (.ref C) = some p.2
def eExI (l : List (Str × Bool)) (i : Nat) : EM := fun ρ S => match ρ[i]? with
  | some (some (.exn (.obj c []))) => (R.of S (l.lookup c)).bind fun b S1 => .ok (.bl b) S1
  | _ => .bad
section
variable {X : Cx} {W : WX} {k : Nat} {x : Str} {pos p p2 p3 : Pos} {i : Nat} {l : List (Str × Bool)} {a : Addr} {oe : Obj} {pn : List (Addr × Obj)}
theorem de_exI (hN : X.N.Nodup) (T : ExIsAt X.K X.mg x l) (hm0 : X.mg "isinstance" = none) (hi : X.N[i]? = some ("error" : Str) := by rfl) (hv : Vis X.env.scope "error" := by first | exact Or.inl rfl | exact Or.inr (Or.inl rfl) | exact Or.inr (Or.inr rfl))
    (hg : Gl X x := by rfl) (hdb : (x == ("__debug__" : Str)) = false := by decide) (hg0 : Gl X "isinstance" := by rfl)
    (he : starEach [.Name "error" p2, .Name x p3] X.env = (false, eval (.Name "error" p2) X.env) :: starEach [.Name x p3] X.env := by rfl) (hpl : (backTo pos (starEach [.Name x p3] X.env)).any (·.1) = false := by rfl) :
    DE (X.suite a ((a, oe) :: pn)) W (.Call (.Name "isinstance" p) [.Name "error" p2, .Name x p3] [] pos) (eExI l i) := by
  obtain ⟨Cx2, hm, ht⟩ := T.ex
  refine ⟨fun pins s σ H Q I h => ?_⟩
  obtain ⟨φ, bs, ρ, S, sm, en, h⟩ := h
  unfold eExI at h
  split at h
  · rename_i c he2
    obtain ⟨v, hv1, hr⟩ := en.rep he2
    have ex : xp (X.suite a ((a, oe) :: pn)) = [(i, a, oe)] := by
      show (List.map (fun q => (X.N.idxOf ("error" : Str), q)) [(a, oe)]) = _
      rw [idx_of hN hi]; rfl
    obtain ⟨cls, dx, rfl, hz, hf, r⟩ := en.exn (i, a, oe) (by rw [ex]; exact List.mem_cons_self) _ v he2 hv1
    obtain ⟨c', fs, Ca, ee, h1, rfl, h3, h0⟩ := r
    cases ee
    have hdx := h0 rfl
    subst hdx
    cases q : l.lookup c with
    | none => rw [q] at h; exact h.elim
    | some b =>
      rw [q] at h
      obtain ⟨g1, g2⟩ := ht _ (lookup_mem q) _ h1
      refine (L2.pe_callB (X := X.suite a ((a, oe) :: pn)) (L2.call_isE g1 hz hf) hg0 hm0 (by decide +kernel) (pa_cons (pv i hi hv (by decide) (by decide)) (pa_cons (L2.pe_glob (v := .ref Cx2) hg hm rfl hdb) pa_nil)) (by decide) (by decide) he hpl).run pins s σ H Q I ?_
      exact ⟨.ref a, hv1, .ref Cx2, .ref Cx2, b, rfl, fun u hu => hu, g2, PostG.done sm (.bl b) h⟩
  · exact h.elim
end
end Mi

/-! Mi17: methods and classes as the text has them. -/
namespace Mi
open PySem PySem.Spec PyProof.Rows L2
structure MtAt (K : PySem.W.Frag) (mg : Str → Option Value) (c m qual : Str) (st : Stmt) (ps : List Str) : Prop where
  ex : ∃ (C f : Addr) (fd : FuncData), mg c = some (.ref C) ∧ Cls K C ∧ Meth K C m f ∧ Fun K m qual st f fd ∧ Binds K fd ps []
structure NwAt (K : PySem.W.Frag) (mg : Str → Option Value) (c qual : Str) (st : Stmt) (ps : List Str) : Prop where
  ex : ∃ (C f : Addr) (fd : FuncData), mg c = some (.ref C) ∧ Mk K C f ∧ Fun K "__init__" qual st f fd ∧ Binds K fd ps []
section
variable {P : Program} {w : World} {K : PySem.W.Frag} {mg : Str → Option Value} {base : Heap} {c m qual p : Str} {st : Stmt} {N ps : List Str} {k : Nat} {B : SM}
theorem MtAt.okV (D : MtAt K mg c m qual st (p :: ps)) (Sc : FnScope N (p :: ps) (defScope st)) (hb : BodyOk P w K mg base N qual st k B) : MtOk P w K mg base (k + 1) c m ps.length [] (runV N.length B) := by
  obtain ⟨C, f, fd, h1, h2, h3, h4, h5⟩ := D.ex
  exact ⟨C, f, fd, p :: ps, [], [], h1, h2, h3, h5, .nil, fun _ _ => .nil, Mi.okV h4 Sc hb⟩
theorem MtAt.okF (D : MtAt K mg c m qual st (p :: ps)) (Sc : FnScope N (p :: ps) (defScope st)) (hb : BodyOk P w K mg base N qual st k B) : MtOk P w K mg base (k + 1) c m ps.length [] (runF N.length B) := by
  obtain ⟨C, f, fd, h1, h2, h3, h4, h5⟩ := D.ex
  exact ⟨C, f, fd, p :: ps, [], [], h1, h2, h3, h5, .nil, fun _ _ => .nil, Mi.okF h4 Sc hb⟩
theorem MtAt.okL (D : MtAt K mg c m qual st (p :: ps)) (Sc : FnScope N (p :: ps) (defScope st)) (hb : BodyOk P w K mg base N qual st k B) : MtOk P w K mg base (k + 1) c m ps.length [] (runL N.length B) := by
  obtain ⟨C, f, fd, h1, h2, h3, h4, h5⟩ := D.ex
  exact ⟨C, f, fd, p :: ps, [], [], h1, h2, h3, h5, .nil, fun _ _ => .nil, Mi.okL h4 Sc hb⟩
theorem MtAt.bad (D : MtAt K mg c m qual st ps) (n : Nat) : MtOk P w K mg base k c m n [] badF := by
  obtain ⟨C, f, fd, h1, h2, h3, h4, h5⟩ := D.ex
  refine ⟨C, f, fd, ps, [], [], h1, h2, h3, h5, .nil, fun _ _ => .nil, fun vs H Q E h => ?_, fun A outer s H args us vs Q E hr he hb hv h => ?_⟩
  · obtain ⟨_, _, _, _, _, _, _, h⟩ := h; exact h.elim
  · obtain ⟨_, _, _, _, _, _, _, h⟩ := h; exact h.elim
theorem NwAt.okL (D : NwAt K mg c qual st (p :: ps)) (Sc : FnScope N (p :: ps) (defScope st)) (hb : BodyOk P w K mg base N qual st k B) : NewOk P w K mg base (k + 1) c ps.length [] (runL N.length B) := by
  obtain ⟨C, f, fd, h1, h2, h4, h5⟩ := D.ex
  exact ⟨C, f, fd, p :: ps, [], [], h1, h2, h5, .nil, fun _ _ => .nil, Mi.okL h4 Sc hb⟩
theorem mtAt_mk {h : Heap} {ps : List Str} {C f : Addr} {oc : Value} {od an : Option Addr} {osl : Array (Option Value)} {kV doc pm cdv ct : Value} (X : K.In h) (G : h.Ns mainGlobals mg)
    (a : PySem.W.nsIn K mainGlobals c = some (some (.ref C))) (pg : PySem.W.plainGet K C Str.empty = true) (hd : PySem.W.hasDictIn K C = true) (po : PySem.W.plainOver K C = true) (sa : PySem.W.findIn K (.ref C) "__setattr__" = some (some (.builtin "object.__setattr__")))
    (at_ : PySem.W.findIn K (.ref C) m = some (some (.ref f))) (fn : PySem.W.isFn K (.ref f) = true)
    (l : K.lookup f = some ⟨oc, od, .func (PySem.W.fnOf m qual (defArgs st) (defBody st) (defScope st) .none kV doc pm an cdv ct), osl⟩) (e : PySem.W.codeIn K cdv qual = true) (k : PySem.W.keepIn K (.ref f) = true)
    (hb : ∀ (kV doc pm : Value) (an : Option Addr) (cdv ct : Value) (us : List Value), us.length = ps.length → bindArgs (PySem.W.fnOf m qual (defArgs st) (defBody st) (defScope st) .none kV doc pm an cdv ct) ⟨us, []⟩ = pure (ps.zip us)) : MtAt K mg c m qual st ps := by
  have F := fun_mk (st := st) l e k
  exact ⟨C, f, _, PySem.W.mg_of X G a, ⟨pg, hd, po, sa⟩, ⟨at_, fn, k⟩, F, F.binds hb⟩
theorem nwAt_mk {h : Heap} {ps : List Str} {C f : Addr} {oc : Value} {od an : Option Addr} {osl : Array (Option Value)} {kV doc pm cdv ct : Value} (X : K.In h) (G : h.Ns mainGlobals mg)
    (a : PySem.W.nsIn K mainGlobals c = some (some (.ref C))) (mk : PySem.W.makesIn K C = true) (kc : PySem.W.keepIn K (.ref C) = true)
    (at_ : PySem.W.findIn K (.ref C) "__init__" = some (some (.ref f))) (fn : PySem.W.isFn K (.ref f) = true)
    (l : K.lookup f = some ⟨oc, od, .func (PySem.W.fnOf "__init__" qual (defArgs st) (defBody st) (defScope st) .none kV doc pm an cdv ct), osl⟩) (e : PySem.W.codeIn K cdv qual = true) (k : PySem.W.keepIn K (.ref f) = true)
    (hb : ∀ (kV doc pm : Value) (an : Option Addr) (cdv ct : Value) (us : List Value), us.length = ps.length → bindArgs (PySem.W.fnOf "__init__" qual (defArgs st) (defBody st) (defScope st) .none kV doc pm an cdv ct) ⟨us, []⟩ = pure (ps.zip us)) : NwAt K mg c qual st ps := by
  have F := fun_mk (st := st) l e k
  exact ⟨C, f, _, PySem.W.mg_of X G a, ⟨mk, at_, fn, kc⟩, F, F.binds hb⟩
end
end Mi
namespace Mi
open PySem PySem.Spec PyProof.Rows L2
/-! ### the truth of a conditional expression -/
def tIfM (t u v : TM) : TM := fun ρ S => (t ρ S).bind fun b S1 => if b = true then u ρ S1 else v ρ S1
theorem dt_ifx {X : Cx} {W : WX} {c a b : Expr} {t u v : TM} {pos : Pos} (hc : DT X W c t) (ha : DT X W a u) (hb : DT X W b v) : DT X W (.IfExp c a b pos) (tIfM t u v) := by
  refine ⟨fun pins s σ H Q I h => isTrue_IfExp ?_⟩
  have h0 : tT X W t σ H (fun d H1 => if d = true then tT X W u σ H1 Q else tT X W v σ H1 Q) := by
    obtain ⟨φ, bs, ρ, S, sm, en, h⟩ := h
    refine ⟨φ, bs, ρ, S, sm, en, ?_⟩
    unfold tIfM at h
    revert h
    cases t ρ S with
    | ok b S1 =>
      intro h d H1 φ1 x1 s1 r1
      have r2 : d = b := r1
      subst r2
      have e1 := en.ext x1 sm.cells
      have h2 := PostG.shift x1 h
      cases d with
      | true => exact iteT ⟨φ1, bs, ρ, S1, s1, e1, h2⟩
      | false => exact iteF ⟨φ1, bs, ρ, S1, s1, e1, h2⟩
    | ex e S1 => exact fun h => h
    | bad => exact fun h => h
  refine wpAny_mono (hc.run pins s σ H _ I h0) (fun d s1 hh => ?_) fun _ _ z => z
  obtain ⟨H1, I1, q1⟩ := hh
  cases d with
  | true => exact ha.run pins s1 σ H1 Q I1 (by simpa using q1)
  | false => exact hb.run pins s1 σ H1 Q I1 (by simpa using q1)
end Mi

/-! Ma0: reckoning with the meanings. -/
namespace Mi
open PySem PySem.Spec PyProof.Rows L2
noncomputable instance decD : DecidableEq D := fun _ _ => Classical.propDecidable _
/-! ### running -/
section
variable {f g h : EM} {a b : SM} {t u : TM} {ρ ρ' : Env} {S S' : Sto} {d e x y : D} {i j : Nat} {α β : Type}
@[simp] theorem x_bind_ok (a : α) (S : Sto) (k : α → Sto → R β) : R.bind (.ok a S) k = k a S := (rfl)
@[simp] theorem x_bind_ex (e : D) (S : Sto) (k : α → Sto → R β) : R.bind (.ex e S) k = .ex e S := (rfl)
@[simp] theorem x_bindS_ok (a : α) (S : Sto) (k : α → Sto → SR) : R.bindS ρ (.ok a S) k = k a S := (rfl)
@[simp] theorem x_bindS_ex (e : D) (S : Sto) (k : α → Sto → SR) : R.bindS ρ (.ex e S) k = .ex e ρ S := (rfl)
@[simp] theorem x_of_some (a : α) : R.of S (some a) = .ok a S := (rfl)
@[simp] theorem x_var : eVar i ρ S = (match ρ[i]? with
  | some (some d) => .ok d S
  | _ => .bad) := (rfl)
@[simp] theorem x_C : eC d ρ S = .ok d S := (rfl)
@[simp] theorem x_bin {k : D → D → Sto → R D} : eBin f g k ρ S = (f ρ S).bind fun x S1 => (g ρ S1).bind fun y S2 => k x y S2 := (rfl)
@[simp] theorem x_un {k : D → Sto → R D} : eUn f k ρ S = (f ρ S).bind k := (rfl)
@[simp] theorem x_tru : eTru f ρ S = (f ρ S).bind fun d S1 => .of S1 (truS S1 d) := (rfl)
@[simp] theorem x_tst : eTst f ρ S = (f ρ S).bind fun d S1 => .of S1 (blD d) := (rfl)
@[simp] theorem x_not : tNotM t ρ S = (t ρ S).bind fun b S1 => .ok (!b) S1 := (rfl)
@[simp] theorem x_and : tAndM t u ρ S = (t ρ S).bind fun b S1 => if b = true then u ρ S1 else .ok false S1 := (rfl)
@[simp] theorem x_or : tOrM t u ρ S = (t ρ S).bind fun b S1 => if b = true then .ok true S1 else u ρ S1 := (rfl)
@[simp] theorem x_orV : eOrV f g ρ S = (f ρ S).bind fun d S1 => (match truS S1 d with
  | some true => .ok d S1
  | some false => g ρ S1
  | none => .bad) := (rfl)
@[simp] theorem x_andV : eAndV f g ρ S = (f ρ S).bind fun d S1 => (match truS S1 d with
  | some true => g ρ S1
  | some false => .ok d S1
  | none => .bad) := (rfl)
@[simp] theorem x_notV : eNotV f ρ S = (f ρ S).bind fun d S1 => (match truS S1 d with
  | some k => .ok (.bl (!k)) S1
  | none => .bad) := (rfl)
@[simp] theorem x_if : eIf t f g ρ S = (t ρ S).bind fun b S1 => if b = true then f ρ S1 else g ρ S1 := (rfl)
@[simp] theorem x_chain {k k' : D → D → Sto → R D} : eChain f g h k k' ρ S = (f ρ S).bind fun x S1 => (g ρ S1).bind fun y S2 => (k x y S2).bind fun z S3 => (match blD z with
  | some true => (h ρ S3).bind fun w S4 => k' y w S4
  | some false => .ok (.bl false) S3
  | none => .bad) := (rfl)
@[simp] theorem x_l0 : aList [] ρ S = .ok [] S := (rfl)
@[simp] theorem x_l1 {fs : List EM} : aList (f :: fs) ρ S = (f ρ S).bind fun x S1 => (aList fs ρ S1).bind fun xs S2 => .ok (x :: xs) S2 := (rfl)
@[simp] theorem x_app {fs : List EM} {k : List D → Sto → R D} : eApp fs k ρ S = (aList fs ρ S).bind k := (rfl)
@[simp] theorem x_call {fs : List EM} {ds : List D} {k : List D → Sto → R D} : eCall fs ds k ρ S = (aList fs ρ S).bind fun xs S1 => k (xs ++ ds) S1 := (rfl)
@[simp] theorem x_tup {ds : List D} : dTup ds S = .ok (.tup ds) S := (rfl)
@[simp] theorem x_lstF {ds : List D} : dLst false ds S = .ok (.lst ds) S := (rfl)
@[simp] theorem x_lstT {ds : List D} : dLst true ds S = .ok (.ref S.new) (S.add (.lst ds)) := (rfl)
@[simp] theorem x_mkF {ds : List D} : mkL false ds S = .ok (.lst ds) S := (rfl)
@[simp] theorem x_mkT {ds : List D} : mkL true ds S = .ok (.ref S.new) (S.add (.lst ds)) := (rfl)
@[simp] theorem x_mdF {ds : List (Key × D)} : mkD false ds S = .ok (.dic ds) S := (rfl)
@[simp] theorem x_mdT {ds : List (Key × D)} : mkD true ds S = .ok (.ref S.new) (S.add (.dic ds)) := (rfl)
@[simp] theorem x_b1 {k : Sto → D → Option D} : b1 k [d] S = .of S (k S d) := (rfl)
@[simp] theorem x_intI {n : Int} : intG S (.int n) = some (.int n) := (rfl)
@[simp] theorem x_absI {n : Int} : absG S (.int n) = some (.int (if n < 0 then -n else n)) := (rfl)
@[simp] theorem x_isT {T : String} : eIsT T f ρ S = (f ρ S).bind fun d S1 => (match tyS S1 d with
  | some t => .ok (.bl (isTy T t)) S1
  | none => .bad) := (rfl)
@[simp] theorem x_oN : oNone ρ S = .ok none S := (rfl)
@[simp] theorem x_oS : oSome f ρ S = (f ρ S).bind fun d S1 => .of S1 ((intD d).map some) := (rfl)
@[simp] theorem x_sl {c : Bool} {lo hi : Env → Sto → R (Option Int)} : eSl c f lo hi ρ S = (f ρ S).bind fun x S1 => (lo ρ S1).bind fun l S2 => (hi ρ S2).bind fun h S3 => dSl c x l h S3 := (rfl)
@[simp] theorem x_slT {c : Bool} {xs : List D} {lo hi : Option Int} : dSl c (.tup xs) lo hi S = .ok (.tup (cutG xs lo hi)) S := (rfl)
@[simp] theorem x_slL {c : Bool} {xs : List D} {lo hi : Option Int} : dSl c (.lst xs) lo hi S = mkL c (cutG xs lo hi) S := (rfl)
@[simp] theorem x_intD {n : Int} : intD (.int n) = some n := (rfl)
@[simp] theorem x_blD {b : Bool} : blD (.bl b) = some b := (rfl)
@[simp] theorem x_truB {b : Bool} : truS S (.bl b) = some b := (rfl)
@[simp] theorem x_kd {kvs : List (List Nat × D)} : eKd kvs f ρ S = (f ρ S).bind fun d S1 => .of S1 (kdG kvs d) := (rfl)
@[simp] theorem x_kdG {kvs : List (List Nat × D)} {s : List Nat} : kdG kvs (.str s) = (kvs.find? fun p => decide (p.1 = s)).map (·.2) := (rfl)
-- statements
@[simp] theorem x_skip : sSkip ρ S = .nx ρ S := (rfl)
@[simp] theorem x_seq : sSeq a b ρ S = (match a ρ S with
  | .nx ρ' S' => b ρ' S'
  | r => r) := (rfl)
@[simp] theorem x_expr : sExpr f ρ S = (f ρ S).bindS ρ fun _ S1 => .nx ρ S1 := (rfl)
@[simp] theorem x_ret : sRet f ρ S = (f ρ S).bindS ρ fun d S1 => .rt d S1 := (rfl)
@[simp] theorem x_sif : sIf t a b ρ S = (t ρ S).bindS ρ fun k S1 => if k = true then a ρ S1 else b ρ S1 := (rfl)
@[simp] theorem x_asg {i : Nat} : sAsg f (gtName i) ρ S = (f ρ S).bindS ρ fun d S1 => .nx (ρ.set i (some d)) S1 := (rfl)
theorem x_asgG {t : GM} : sAsg f t ρ S = (f ρ S).bindS ρ fun d S1 => (match t d ρ S1 with
  | some ρ' => .nx ρ' S1
  | none => .bad) := (rfl)
@[simp] theorem x_par {fs : List EM} : sPar i j fs ρ S = (aList fs ρ S).bindS ρ fun ds S1 => (match ds with
  | [d, d'] => .nx ((ρ.set i (some d)).set j (some d')) S1
  | _ => .bad) := (rfl)
@[simp] theorem x_setIx {fo fi fv : EM} : sSetIx fo fi fv ρ S = (fv ρ S).bindS ρ fun v S1 => (fo ρ S1).bindS ρ fun o S2 => (fi ρ S2).bindS ρ fun i S3 => (match setS S3 o i v with
  | some S4 => .nx ρ S4
  | none => .bad) := (rfl)
@[simp] theorem x_for {im : IM} {gt : GM} : sFor im gt a ρ S = (im ρ S).bindS ρ fun w S1 => sForN gt a w.2 w.1 w.1 ρ S1 := (rfl)
@[simp] theorem x_iVal : iVal f ρ S = (f ρ S).bind fun d S1 => .of S1 (itS S1 d) := (rfl)
@[simp] theorem x_itT {xs : List D} : itS S (.tup xs) = some (xs, none) := (rfl)
@[simp] theorem x_itL {xs : List D} : itS S (.lst xs) = some (xs, none) := (rfl)
@[simp] theorem x_itF {xs : List D} : itS S (.frl xs) = some (xs, none) := (rfl)
@[simp] theorem x_iR1 : iRange [f] ρ S = (f ρ S).bind fun d S1 => (match d with
  | .int j => if -(2 ^ 62) ≤ j ∧ j < 2 ^ 62 then .ok (rangeL 0 j.toNat, none) S1 else .bad
  | _ => .bad) := by
  show (R.bind (R.bind (f ρ S) _) _) = _
  cases f ρ S with
  | ok d S1 => cases d <;> rfl
  | ex _ _ => rfl
  | bad => rfl
@[simp] theorem x_kInt {n : Int} : keyD (.int n) = some (.inl n) := (rfl)
@[simp] theorem x_kStr {s : List Nat} : keyD (.str s) = some (.inr ⟨s.toArray⟩) := (rfl)
@[simp] theorem x_disp {c : Bool} {fs : List (EM × EM)} : eDisp c fs ρ S = (pList fs ρ S).bind fun ps S1 => mkD c (mergeD [] ps) S1 := (rfl)
@[simp] theorem x_dnew {c : Bool} : eDnew c ρ S = mkD c [] S := (rfl)
@[simp] theorem x_p0 : pList [] ρ S = .ok [] S := (rfl)
@[simp] theorem x_p1 {r : List (EM × EM)} : pList ((f, g) :: r) ρ S = (f ρ S).bind fun x S1 => (match keyD x with
  | some kk => (g ρ S1).bind fun y S2 => (pList r ρ S2).bind fun ps S3 => .ok ((kk, y) :: ps) S3
  | none => .bad) := (rfl)
@[simp] theorem x_lc {c : Bool} {im : IM} {gt : GM} {vs : List Nat} : eLc c im gt t f vs ρ S = (im ρ S).bind fun w S1 => (match lcN gt t f w.2 w.1 w.1 [] (wipeE ρ vs) S1 with
  | .ok acc S2 => mkL c acc S2
  | _ => .bad) := (rfl)
@[simp] theorem x_yes : tYesM ρ S = .ok true S := (rfl)
-- operators
@[simp] theorem x_addI {m n : Int} {c : Bool} : dAdd c (.int m) (.int n) S = .ok (.int (m + n)) S := (rfl)
@[simp] theorem x_addL {m n : List D} {c : Bool} : dAdd c (.lst m) (.lst n) S = if m.length + n.length ≤ sizeLine then mkL c (m ++ n) S else .bad := (rfl)
@[simp] theorem x_addT {m n : List D} {c : Bool} : dAdd c (.tup m) (.tup n) S = if m.length + n.length ≤ sizeLine then .ok (.tup (m ++ n)) S else .bad := (rfl)
@[simp] theorem x_subI {m n : Int} : dSub (.int m) (.int n) S = .ok (.int (m - n)) S := (rfl)
@[simp] theorem x_dI {C : Int → Int → Prop} [∀ i j, Decidable (C i j)] {k : Int → Int → Int} {m n : Int} : dI C k (.int m) (.int n) S = if C m n then .ok (.int (k m n)) S else .bad := (rfl)
@[simp] theorem x_ltI {m n : Int} : dLt (.int m) (.int n) S = .ok (.bl (decide (m < n))) S := (rfl)
@[simp] theorem x_gtI {m n : Int} : dGt (.int m) (.int n) S = .ok (.bl (decide (n < m))) S := (rfl)
@[simp] theorem x_leI {m n : Int} : dLe (.int m) (.int n) S = .ok (.bl (decide (m ≤ n))) S := by
  show R.ok (D.bl (!decide (n < m))) S = _
  by_cases q : m ≤ n
  · have : ¬ n < m := by omega
    simp [q, this]
  · have : n < m := by omega
    simp [q, this]
@[simp] theorem x_geI {m n : Int} : dGe (.int m) (.int n) S = .ok (.bl (decide (n ≤ m))) S := x_leI
@[simp] theorem x_isN : dIsN d .non S = .ok (.bl (isN d)) S := (rfl)
@[simp] theorem x_notN : dNotN d .non S = .ok (.bl (!isN d)) S := (rfl)
end
/-! ### == -/
mutual
def Pl : D → Bool
  | .non => true | .int _ => true | .str _ => true
  | .tup xs => PlL xs
  | .lst xs => PlL xs
  | _ => false
def PlL : List D → Bool
  | [] => true
  | x :: xs => Pl x && PlL xs
end
mutual
def dp : D → Nat
  | .tup xs => dpL xs + 1
  | .lst xs => dpL xs + 1
  | _ => 0
def dpL : List D → Nat
  | [] => 0
  | x :: xs => max (dp x) (dpL xs)
end
theorem PlL_all {xs : List D} : PlL xs = true ↔ ∀ x ∈ xs, Pl x = true := by
  induction xs with
  | nil => simp [PlL]
  | cons a r ih => simp [PlL, ih]
theorem dpL_le {xs : List D} {n : Nat} : dpL xs ≤ n ↔ ∀ x ∈ xs, dp x ≤ n := by
  induction xs with
  | nil => simp [dpL]
  | cons a r ih => simp [dpL, ih, Nat.max_le]
mutual
theorem pyD_pl : ∀ {d : D}, Pl d = true → ∃ p, pyD d = some p ∧ p.depth = dp d
  | .non, _ => ⟨_, rfl, rfl⟩
  | .int _, _ => ⟨_, rfl, rfl⟩
  | .str _, _ => ⟨_, rfl, rfl⟩
  | .tup xs, h => by
    obtain ⟨ps, e, q⟩ := pyL_pl (xs := xs) h
    exact ⟨.tuple ps, by rw [pyD, e]; rfl, by rw [PyData.depth, q, dp]⟩
  | .lst xs, h => by
    obtain ⟨ps, e, q⟩ := pyL_pl (xs := xs) h
    exact ⟨.list ps, by rw [pyD, e]; rfl, by rw [PyData.depth, q, dp]⟩
theorem pyL_pl : ∀ {xs : List D}, PlL xs = true → ∃ ps, pyL xs = some ps ∧ PyData.depthAll ps = dpL xs
  | [], _ => ⟨[], rfl, rfl⟩
  | x :: xs, h => by
    simp only [PlL, Bool.and_eq_true] at h
    obtain ⟨p, e, q⟩ := pyD_pl h.1
    obtain ⟨ps, e2, q2⟩ := pyL_pl h.2
    exact ⟨p :: ps, by rw [pyL, e, e2], by rw [PyData.depthAll, q, q2, dpL]⟩
end
mutual
theorem eqv_pl : ∀ {x y : D} {p q : PyData}, Pl x = true → Pl y = true → pyD x = some p → pyD y = some q → (PyData.eqv p q = true ↔ x = y)
  | .non, y, p, q, _, hy, e1, e2 => by
    cases e1
    cases y <;> simp only [Pl] at hy <;> simp only [pyD, Option.some.injEq, Option.map_eq_some_iff, reduceCtorEq] at e2
    all_goals first
      | (cases hy; done)
      | (subst e2; simp [PyData.eqv]; done)
      | (obtain ⟨_, _, e2⟩ := e2; subst e2; simp [PyData.eqv])
  | .int _, y, p, q, _, hy, e1, e2 => by
    cases e1
    cases y <;> simp only [Pl] at hy <;> simp only [pyD, Option.some.injEq, Option.map_eq_some_iff, reduceCtorEq] at e2
    all_goals first
      | (cases hy; done)
      | (subst e2; simp [PyData.eqv]; done)
      | (obtain ⟨_, _, e2⟩ := e2; subst e2; simp [PyData.eqv])
  | .str _, y, p, q, _, hy, e1, e2 => by
    cases e1
    cases y <;> simp only [Pl] at hy <;> simp only [pyD, Option.some.injEq, Option.map_eq_some_iff, reduceCtorEq] at e2
    all_goals first
      | (subst e2; simp [PyData.eqv]; done)
      | (obtain ⟨_, _, e2⟩ := e2; subst e2; simp [PyData.eqv])
  | .tup xs, y, p, q, hx, hy, e1, e2 => by
    obtain ⟨ps, e, _⟩ := pyL_pl (xs := xs) hx
    rw [pyD, e] at e1
    cases e1
    cases y with
    | tup ys =>
      obtain ⟨qs, e', _⟩ := pyL_pl (xs := ys) hy
      rw [pyD, e'] at e2
      cases e2
      simp only [PyData.eqv, D.tup.injEq]
      exact eqvAll_pl hx hy e e'
    | lst ys =>
      obtain ⟨qs, e', _⟩ := pyL_pl (xs := ys) hy
      rw [pyD, e'] at e2
      cases e2
      simp [PyData.eqv]
    | non => cases e2; simp [PyData.eqv]
    | int _ => cases e2; simp [PyData.eqv]
    | str _ => cases e2; simp [PyData.eqv]
    | bl _ => cases hy
    | dic _ => cases hy
    | obj _ _ => cases hy
    | ref _ => cases hy
    | frl _ => cases hy
    | exn _ => cases hy
  | .lst xs, y, p, q, hx, hy, e1, e2 => by
    obtain ⟨ps, e, _⟩ := pyL_pl (xs := xs) hx
    rw [pyD, e] at e1
    cases e1
    cases y with
    | lst ys =>
      obtain ⟨qs, e', _⟩ := pyL_pl (xs := ys) hy
      rw [pyD, e'] at e2
      cases e2
      simp only [PyData.eqv, D.lst.injEq]
      exact eqvAll_pl hx hy e e'
    | tup ys =>
      obtain ⟨qs, e', _⟩ := pyL_pl (xs := ys) hy
      rw [pyD, e'] at e2
      cases e2
      simp [PyData.eqv]
    | non => cases e2; simp [PyData.eqv]
    | int _ => cases e2; simp [PyData.eqv]
    | str _ => cases e2; simp [PyData.eqv]
    | bl _ => cases hy
    | dic _ => cases hy
    | obj _ _ => cases hy
    | ref _ => cases hy
    | frl _ => cases hy
    | exn _ => cases hy
theorem eqvAll_pl : ∀ {x y : List D} {p q : List PyData}, PlL x = true → PlL y = true → pyL x = some p → pyL y = some q → (PyData.eqvAll p q = true ↔ x = y)
  | [], [], _, _, _, _, e1, e2 => by cases e1; cases e2; simp [PyData.eqvAll]
  | [], y :: ys, _, _, _, hy, e1, e2 => by
    obtain ⟨qs, e', _⟩ := pyL_pl hy
    cases e1
    simp only [PlL, Bool.and_eq_true] at hy
    obtain ⟨p, e, _⟩ := pyD_pl hy.1
    obtain ⟨ps, e3, _⟩ := pyL_pl hy.2
    rw [pyL, e, e3] at e2
    cases e2
    simp [PyData.eqvAll]
  | y :: ys, [], _, _, hy, _, e2, e1 => by
    cases e1
    simp only [PlL, Bool.and_eq_true] at hy
    obtain ⟨p, e, _⟩ := pyD_pl hy.1
    obtain ⟨ps, e3, _⟩ := pyL_pl hy.2
    rw [pyL, e, e3] at e2
    cases e2
    simp [PyData.eqvAll]
  | x :: xs, y :: ys, _, _, hx, hy, e1, e2 => by
    simp only [PlL, Bool.and_eq_true] at hx hy
    obtain ⟨p, e, _⟩ := pyD_pl hx.1
    obtain ⟨ps, e3, _⟩ := pyL_pl hx.2
    obtain ⟨q, e', _⟩ := pyD_pl hy.1
    obtain ⟨qs, e3', _⟩ := pyL_pl hy.2
    rw [pyL, e, e3] at e1
    rw [pyL, e', e3'] at e2
    cases e1
    cases e2
    simp only [PyData.eqvAll, Bool.and_eq_true, List.cons.injEq]
    rw [eqv_pl hx.1 hy.1 e e', eqvAll_pl hx.2 hy.2 e3 e3']
end
theorem pyS_pl {S : Sto} {d : D} (h : Pl d = true) : pyS S d = pyD d := by
  cases d <;> first | rfl | cases h
theorem eqS_pl {S : Sto} {x y : D} (hx : Pl x = true) (hy : Pl y = true) (hd : dp x ≤ 64 ∨ dp y ≤ 64) : eqS S x y = some (decide (x = y)) := by
  obtain ⟨p, e1, d1⟩ := pyD_pl hx
  obtain ⟨q, e2, d2⟩ := pyD_pl hy
  have := eqv_pl hx hy e1 e2
  unfold eqS
  rw [pyS_pl hx, pyS_pl hy, e1, e2]
  simp only
  rw [if_pos (by omega)]
  by_cases h : x = y
  · rw [this.mpr h, decide_eq_true h]
  · have h2 : PyData.eqv p q = false := by
      cases z : PyData.eqv p q with
      | false => rfl
      | true => exact absurd (this.mp z) h
    rw [h2, decide_eq_false h]
theorem dEq_pl {S : Sto} {x y : D} (hx : Pl x = true) (hy : Pl y = true) (hd : dp x ≤ 64 ∨ dp y ≤ 64) : dEq x y S = .ok (.bl (decide (x = y))) S := by
  unfold dEq; rw [eqS_pl hx hy hd]
theorem dNe_pl {S : Sto} {x y : D} (hx : Pl x = true) (hy : Pl y = true) (hd : dp x ≤ 64 ∨ dp y ≤ 64) : dNe x y S = .ok (.bl (!decide (x = y))) S := by
  unfold dNe; rw [eqS_pl hx hy hd]
@[simp] theorem x_eqStr {S : Sto} {a b : List Nat} : dEq (.str a) (.str b) S = .ok (.bl (decide (a = b))) S := by
  rw [dEq_pl rfl rfl (.inl (Nat.zero_le _))]; simp
@[simp] theorem x_neStr {S : Sto} {a b : List Nat} : dNe (.str a) (.str b) S = .ok (.bl (!decide (a = b))) S := by
  rw [dNe_pl rfl rfl (.inl (Nat.zero_le _))]; simp
@[simp] theorem x_eqInt {S : Sto} {a b : Int} : dEq (.int a) (.int b) S = .ok (.bl (decide (a = b))) S := by
  rw [dEq_pl rfl rfl (.inl (Nat.zero_le _))]; simp
@[simp] theorem x_neInt {S : Sto} {a b : Int} : dNe (.int a) (.int b) S = .ok (.bl (!decide (a = b))) S := by
  rw [dNe_pl rfl rfl (.inl (Nat.zero_le _))]; simp
@[simp] theorem x_eqBl {S : Sto} {a b : Bool} : dEq (.bl a) (.bl b) S = .ok (.bl (a == b)) S := by
  cases a <;> cases b <;> rfl
@[simp] theorem x_neBl {S : Sto} {a b : Bool} : dNe (.bl a) (.bl b) S = .ok (.bl (!(a == b))) S := by
  cases a <;> cases b <;> rfl
theorem inS_pl {S : Sto} {x : D} {ys : List D} (hx : Pl x = true) (hy : PlL ys = true) (hd : dp x ≤ 64 ∨ dpL ys ≤ 64) (y : D) (e : y = .tup ys ∨ y = .lst ys) : inS S x y = some (decide (x ∈ ys)) := by
  obtain ⟨p, e1, d1⟩ := pyD_pl hx
  obtain ⟨qs, e2, d2⟩ := pyL_pl hy
  have hs : dicS S y = none ∧ seqS S y = some ys := by rcases e with rfl | rfl <;> exact ⟨rfl, rfl⟩
  have h0 : inS S x y = match pyS S x, pyL ys with
        | some p, some ps => if min (PyData.depthAll ps) p.depth ≤ 64 then some (ps.any fun q => PyData.eqv q p) else none
        | _, _ => none := by rcases e with rfl | rfl <;> rfl
  rw [h0, pyS_pl hx, e1, e2]
  simp only
  rw [if_pos (by omega)]
  congr 1
  clear h0 hs e d1 d2 hd
  induction ys generalizing qs with
  | nil => cases e2; simp
  | cons a r ih =>
    simp only [PlL, Bool.and_eq_true] at hy
    obtain ⟨q, e3, _⟩ := pyD_pl hy.1
    obtain ⟨qs', e4, _⟩ := pyL_pl hy.2
    rw [pyL, e3, e4] at e2
    cases e2
    rw [List.any_cons, ih hy.2 qs' e4]
    have := eqv_pl hy.1 hx e3 e1
    by_cases h : a = x
    · subst h
      rw [this.mpr rfl]; simp
    · have h2 : PyData.eqv q p = false := by
        cases z : PyData.eqv q p with
        | false => rfl
        | true => exact absurd (this.mp z) h
      rw [h2]
      have h' : ¬ x = a := fun z => h z.symm
      simp [h']
theorem PlL_str (l : List (List Nat)) : PlL (l.map D.str) = true := by
  induction l with
  | nil => rfl
  | cons a r ih => simpa [PlL, Pl] using ih
@[simp] theorem x_inT2 {S : Sto} {a b c : List Nat} : dIn (.str a) (.tup [.str b, .str c]) S = .ok (.bl (decide (a = b) || decide (a = c))) S := by
  unfold dIn
  rw [inS_pl (ys := [.str b, .str c]) rfl rfl (.inl (Nat.zero_le _)) _ (.inl rfl)]
  simp
/-! ### the store -/
section
variable {S S' T : Sto} {n m : Nat} {c : Cell}
@[simp] theorem get_push : S.push.get n = S.get n := by rw [Sto.get_all, Sto.get_all, push_all]
@[simp] theorem new_push : S.push.new = S.new := by rw [Sto.new_all, Sto.new_all, push_all]
theorem pop_push (h : S.old.length = T.old.length) : S.pop T.push = T := by
  unfold Sto.pop Sto.push
  rw [h]
  simp
@[simp] theorem pop_push_self : S.pop S.push = S := pop_push rfl
/-- all but the cell m stays -/
structure Sam (m : Nat) (S S' : Sto) : Prop where
  lo : S'.old.length = S.old.length
  lt : S'.top.length = S.top.length
  g : ∀ n, n ≠ m → S'.get n = S.get n
theorem Sam.refl : Sam m S S := ⟨rfl, rfl, fun _ _ => rfl⟩
theorem Sam.trans (a : Sam m S S') (b : Sam m S' T) : Sam m S T := ⟨b.lo.trans a.lo, b.lt.trans a.lt, fun n h => (b.g n h).trans (a.g n h)⟩
theorem Sam.set : Sam m S (S.set m c) := by
  refine ⟨Sto.set_old S m c, ?_, fun n h => ?_⟩
  · unfold Sto.set; split <;> simp
  · rw [Sto.get_all, Sto.get_all, Sto.set_all, List.getElem?_set_ne (fun q => h q.symm)]
theorem Sam.new (a : Sam m S S') : S'.new = S.new := by unfold Sto.new; rw [a.lo, a.lt]
theorem get_set (h : m < S.new) : (S.set m c).get m = some c := by
  rw [Sto.get_all, Sto.set_all, List.getElem?_set_self (by rw [← Sto.new_all]; exact h)]
theorem get_lt (h : S.get m = some c) : m < S.new := by
  rw [Sto.get_all] at h
  rw [Sto.new_all]
  exact (List.getElem?_eq_some_iff.mp h).1
theorem get_add : (S.add c).get S.new = some c := by
  rw [Sto.get_all, Sto.add_all, Sto.new_all, List.getElem?_append_right (Nat.le_refl _)]; simp
theorem get_add_lt (h : n < S.new) : (S.add c).get n = S.get n := by
  rw [Sto.get_all, Sto.get_all, Sto.add_all, List.getElem?_append_left (by rw [← Sto.new_all]; exact h)]
theorem new_add : (S.add c).new = S.new + 1 := by
  rw [Sto.new_all, Sto.new_all, Sto.add_all]; simp
/-- behind a frame that changed the cell m -/
theorem Sam.pop (a : Sam m S.push S') (hT : S'.top = []) : Sam m S (S.pop S') ∧ ∀ n, (S.pop S').get n = S'.get n := by
  have h1 : S'.old.length = (S.old ++ S.top).length := a.lo
  have hall : (S.pop S').all = S'.old := by
    unfold Sto.pop Sto.all
    exact List.take_append_drop _ _
  have h2 : S'.all = S'.old := by unfold Sto.all; rw [hT, List.append_nil]
  have hg : ∀ n, (S.pop S').get n = S'.get n := fun n => by rw [Sto.get_all, Sto.get_all, hall, h2]
  refine ⟨⟨?_, ?_, fun n h => ?_⟩, hg⟩
  · show (S'.old.take S.old.length).length = _
    rw [List.length_take, h1, List.length_append]; omega
  · show (S'.old.drop S.old.length).length = _
    rw [List.length_drop, h1, List.length_append]; omega
  · rw [hg, a.g n h]
    exact get_push
end
end Mi

/-! Ma1: reading and writing cells, loops, the laws' own draws. -/
namespace Mi
open PySem PySem.Spec PyProof.Rows L2
section
variable {S S' T : Sto} {n m : Nat} {c : Cell} {xs ys : List D} {kvs : List (Key × D)} {d v : D} {i : Int}
@[simp] theorem x_ixT : dIx (.tup xs) (.int i) S = (match atI xs i with
  | some d => .ok d S
  | none => .bad) := (rfl)
@[simp] theorem x_ixL : dIx (.lst xs) (.int i) S = (match atI xs i with
  | some d => .ok d S
  | none => .bad) := (rfl)
@[simp] theorem x_ixF : dIx (.frl xs) (.int i) S = (match atI xs i with
  | some d => .ok d S
  | none => .bad) := (rfl)
theorem x_ixR (h : S.get n = some (.lst xs)) : dIx (.ref n) (.int i) S = (match atI xs i with
  | some d => .ok d S
  | none => .bad) := by
  unfold dIx ixS
  simp only [dicS, seqS, lstS, h, intD]
  try (cases atI xs i <;> rfl)
theorem x_ixD {k : D} (h : S.get n = some (.dic kvs)) : dIx (.ref n) k S = (match keyD k with
  | some q => (match valD kvs q with
    | some d => .ok d S
    | none => .bad)
  | none => .bad) := by
  unfold dIx ixS
  simp only [dicS, h]
  cases keyD k with
  | none => rfl
  | some q => rfl
@[simp] theorem x_ixDv {k : D} : dIx (.dic kvs) k S = (match keyD k with
  | some q => (match valD kvs q with
    | some d => .ok d S
    | none => .bad)
  | none => .bad) := by
  unfold dIx ixS
  simp only [dicS]
  cases keyD k with
  | none => rfl
  | some q => rfl
theorem atI_nat {α : Type} {l : List α} {j : Nat} : atI l (j : Int) = l[j]? := by
  unfold atI ixN
  rw [if_pos (by omega)]
  by_cases h : (j : Int) < l.length
  · rw [if_pos h]; simp
  · rw [if_neg h]
    have : l.length ≤ j := by omega
    simp [this]
@[simp] theorem atI_0 {α : Type} {a : α} {l : List α} : atI (a :: l) 0 = some a := atI_nat (j := 0)
@[simp] theorem atI_1 {α : Type} {a b : α} {l : List α} : atI (a :: b :: l) 1 = some b := atI_nat (j := 1)
@[simp] theorem atI_2 {α : Type} {a b c : α} {l : List α} : atI (a :: b :: c :: l) 2 = some c := atI_nat (j := 2)
@[simp] theorem atI_3 {α : Type} {a b c d : α} {l : List α} : atI (a :: b :: c :: d :: l) 3 = some d := atI_nat (j := 3)
@[simp] theorem atI_4 {α : Type} {a b c d e : α} {l : List α} : atI (a :: b :: c :: d :: e :: l) 4 = some e := atI_nat (j := 4)
@[simp] theorem cut_1 {α : Type} {a : α} {l : List α} : cutG (a :: l) (some 1) none = l := by
  unfold cutG HT.sIx
  simp
@[simp] theorem x_lenT : lenG S (.tup xs) = some (.int xs.length) := (rfl)
@[simp] theorem x_lenL : lenG S (.lst xs) = some (.int xs.length) := (rfl)
@[simp] theorem x_lenF : lenG S (.frl xs) = some (.int xs.length) := (rfl)
theorem x_lenR (h : S.get n = some (.lst xs)) : lenG S (.ref n) = some (.int xs.length) := by
  unfold lenG lenS; simp only [h]; rfl
theorem may_new (h : S.old.length ≤ n) : S.may n c = true := by unfold Sto.may; simp [h]
theorem may_lt (h : c.lt 0 = true) : S.may n c = true := by unfold Sto.may; simp [h]
theorem ixN_nat' {n j : Nat} (hj : j < n) : ixN n (j : Int) = some j := by
  unfold ixN
  rw [if_pos (by omega), if_pos (by omega)]
  simp
theorem x_setL {j : Nat} (h : S.get n = some (.lst xs)) (hj : j < xs.length) (hm : S.may n (.lst (xs.set j v)) = true) : setS S (.ref n) (.int (j : Int)) v = some (S.set n (.lst (xs.set j v))) := by
  unfold setS
  simp only [h, intD]
  rw [ixN_nat' hj]
  simp only
  rw [if_pos hm]
theorem x_setD {k : D} {q : Key} (h : S.get n = some (.dic kvs)) (hk : keyD k = some q) (hl : kvs.length < sizeLine) (hm : S.may n (.dic (putD kvs q v)) = true) : setS S (.ref n) k v = some (S.set n (.dic (putD kvs q v))) := by
  unfold setS
  simp only [h, hk]
  rw [if_pos ⟨hl, hm⟩]
@[simp] theorem x_meth {f : EM} {fs : List EM} {g : D → List D → Sto → R D} {ρ : Env} : eMeth f fs g ρ S = (f ρ S).bind fun x S1 => (match lstS S1 x with
  | some _ => (aList fs ρ S1).bind fun ds S2 => g x ds S2
  | none => .bad) := (rfl)
theorem x_lstR (h : S.get n = some (.lst xs)) : lstS S (.ref n) = some xs := by
  unfold lstS; simp only [h]
theorem x_app1 (h : S.get n = some (.lst xs)) (hl : xs.length < sizeLine) (hm : S.may n (.lst (xs ++ [d])) = true) : mAppend (.ref n) [d] S = .ok .non (S.set n (.lst (xs ++ [d]))) := by
  unfold mAppend
  simp only [h]
  rw [if_pos hl]
  unfold putL
  rw [if_pos hm]
theorem x_append {f g : EM} {ρ : Env} {S1 S2 : Sto} (hf : f ρ S = .ok (.ref n) S1) (h1 : S1.get n = some (.lst ys)) (hg : g ρ S1 = .ok d S2) (h : S2.get n = some (.lst xs)) (hl : xs.length < sizeLine) (hm : S2.may n (.lst (xs ++ [d])) = true) :
    eMeth f [g] mAppend ρ S = .ok .non (S2.set n (.lst (xs ++ [d]))) := by
  unfold eMeth
  rw [hf]
  simp only [x_bind_ok, lstS, h1, x_l1, x_l0, hg, mAppend, h]
  rw [if_pos hl]
  unfold putL
  rw [if_pos hm]
theorem ltL_int {b : Nat} (l : List Int) : D.ltL b (l.map D.int) = true := by
  induction l with
  | nil => rfl
  | cons a r ih => simpa [D.ltL, D.lt] using ih
/-! ### loops -/
theorem forN_any {g : GM} {f : SM} {src : Option Nat} {all : List D} {P : List D → Env → Sto → Prop} {Q : SR → Prop}
    (hs : ∀ x xs ρ S, P (x :: xs) ρ S → okSrc src all S ∧ ∃ ρ1, g x ρ S = some ρ1 ∧ (match f ρ1 S with
      | .nx ρ' S' => P xs ρ' S'
      | .ct ρ' S' => P xs ρ' S'
      | .bk ρ' S' => Q (.nx ρ' S')
      | r => Q r))
    (he : ∀ ρ S, P [] ρ S → okSrc src all S ∧ Q (.nx ρ S)) : ∀ xs ρ S, P xs ρ S → Q (sForN g f src all xs ρ S)
  | [], ρ, S, h => by
    unfold sForN
    obtain ⟨h1, h2⟩ := he ρ S h
    rw [if_pos h1]
    exact h2
  | x :: xs, ρ, S, h => by
    unfold sForN
    obtain ⟨h1, ρ1, h2, h3⟩ := hs x xs ρ S h
    rw [if_pos h1, h2]
    dsimp only
    revert h3
    cases f ρ1 S with
    | nx ρ' S' => exact fun h3 => forN_any hs he xs ρ' S' h3
    | ct ρ' S' => exact fun h3 => forN_any hs he xs ρ' S' h3
    | _ => exact id
theorem forN_nx {g : GM} {f : SM} {src : Option Nat} {all : List D} (P : List D → Env → Sto → Prop)
    (ho : ∀ xs ρ S, P xs ρ S → okSrc src all S)
    (hs : ∀ x xs ρ S, P (x :: xs) ρ S → ∃ ρ1, g x ρ S = some ρ1 ∧ ∃ ρ' S', (f ρ1 S = .nx ρ' S' ∨ f ρ1 S = .ct ρ' S') ∧ P xs ρ' S') :
    ∀ xs ρ S, P xs ρ S → ∃ ρ' S', sForN g f src all xs ρ S = .nx ρ' S' ∧ P [] ρ' S' := fun xs ρ S h =>
  forN_any (P := P) (Q := fun r => ∃ ρ' S', r = .nx ρ' S' ∧ P [] ρ' S') (fun x xs ρ S h => by
    obtain ⟨ρ1, e, ρ', S', e2, p⟩ := hs x xs ρ S h
    refine ⟨ho _ _ _ h, ρ1, e, ?_⟩
    rcases e2 with e2 | e2 <;> rw [e2] <;> exact p) (fun ρ S h => ⟨ho _ _ _ h, ρ, S, rfl, h⟩) xs ρ S h
theorem okSrc_none {all : List D} : okSrc none all S := trivial
/-- a comprehension -/
theorem lcN_ok {g : GM} {t : TM} {f : EM} {src : Option Nat} {all : List D} {ρ : Env} (P : List D → List D → Sto → Prop)
    (ho : ∀ xs acc S, P xs acc S → okSrc src all S ∧ acc.length + xs.length ≤ sizeLine)
    (hs : ∀ x xs acc S, P (x :: xs) acc S → ∃ ρ1, g x ρ S = some ρ1 ∧ ∃ b S1, t ρ1 S = .ok b S1 ∧ (if b = true then ∃ y S2, f ρ1 S1 = .ok y S2 ∧ P xs (acc ++ [y]) S2 else P xs acc S1)) :
    ∀ xs acc S, P xs acc S → ∃ acc' S', lcN g t f src all xs acc ρ S = .ok acc' S' ∧ P [] acc' S'
  | [], acc, S, h => by
    unfold lcN
    rw [if_pos (ho _ _ _ h).1]
    exact ⟨acc, S, rfl, h⟩
  | x :: xs, acc, S, h => by
    unfold lcN
    obtain ⟨h1, h2⟩ := ho _ _ _ h
    rw [if_pos h1]
    obtain ⟨ρ1, e1, b, S1, e2, h3⟩ := hs x xs acc S h
    rw [e1]
    dsimp only
    rw [e2]
    dsimp only
    cases b with
    | false =>
      simp only [Bool.false_eq_true, if_false] at h3 ⊢
      exact lcN_ok P ho hs xs acc S1 h3
    | true =>
      simp only [if_true] at h3 ⊢
      obtain ⟨y, S2, e3, h4⟩ := h3
      rw [e3]
      dsimp only
      have hl : acc.length < sizeLine := by
        simp only [List.length_cons] at h2; omega
      rw [if_pos hl]
      exact lcN_ok P ho hs xs _ S2 h4
/-- .. whose parts leave the store, without a test -/
theorem lcN_map {g : GM} {f : EM} {src : Option Nat} {all : List D} {ρ : Env} {k : D → D} (ho : okSrc src all S) : ∀ (xs acc : List D), acc.length + xs.length ≤ sizeLine →
    (∀ x ∈ xs, ∃ ρ1, g x ρ S = some ρ1 ∧ f ρ1 S = .ok (k x) S) → lcN g tYesM f src all xs acc ρ S = .ok (acc ++ xs.map k) S
  | [], acc, _, _ => by
    unfold lcN
    rw [if_pos ho]; simp
  | x :: xs, acc, hl, h => by
    unfold lcN
    rw [if_pos ho]
    obtain ⟨ρ1, e1, e2⟩ := h x List.mem_cons_self
    rw [e1]
    dsimp only [x_yes]
    simp only [x_yes, if_true]
    rw [e2]
    simp only [List.length_cons] at hl
    dsimp only
    rw [if_pos (by omega), lcN_map ho xs _ (by simp; omega) fun y hy => h y (List.mem_cons_of_mem _ hy)]
    simp
end
/-! ### the laws' draws -/
/-- the state's cell holds; at most b draws were made -/
def Ok (m : Nat) (S : Sto) (b : Nat) : Prop := ∃ (row : List Int) (seed : Int) (a : Nat), (∀ r ∈ row, 0 ≤ r) ∧ 0 ≤ seed ∧ a ≤ b ∧ S.get m = some (.lst [.lst (row.map .int), .int a, .int seed])
theorem Ok.lt {m b : Nat} {S : Sto} (h : Ok m S b) : m < S.new := by obtain ⟨_, _, _, _, _, _, h⟩ := h; exact get_lt h
theorem Ok.le {m b c : Nat} {S : Sto} (h : Ok m S b) (hb : b ≤ c) : Ok m S c := by obtain ⟨r, s, a, h1, h2, h3, h⟩ := h; exact ⟨r, s, a, h1, h2, by omega, h⟩
theorem Ok.of {m b : Nat} {S S' : Sto} (h : Ok m S b) (e : S'.get m = S.get m) : Ok m S' b := by obtain ⟨r, s, a, h1, h2, h3, h⟩ := h; exact ⟨r, s, a, h1, h2, h3, e.trans h⟩
theorem Ok.push {m b : Nat} {S : Sto} (h : Ok m S b) : Ok m S.push b := h.of get_push
noncomputable def bTake : SM := (sSeq (sAsg (eBin (eVar 0) (eC (.int 1)) dIx) (gtName 2))
  (sSeq (sSetIx (eVar 0) (eC (.int 1)) (eBin (eVar 2) (eC (.int 1)) (dAdd false)))
  (sSeq (sIf (eTst (eBin (eVar 2) (eApp [(eBin (eVar 0) (eC (.int 0)) dIx)] (b1 lenG)) dLt)) (sRet (eBin (eApp [(eBin (eBin (eVar 0) (eC (.int 0)) dIx) (eVar 2) dIx)] (b1 intG)) (eVar 1) dMod)) sSkip)
  (sSeq (sAsg (eBin (eApp [(eBin (eBin (eBin (eVar 0) (eC (.int 2)) dIx) (eBin (eVar 2) (eC (.int 40503)) dMul) (dAdd false)) (eC (.int 48271)) dMul)] (b1 intG)) (eC (.int 2147483647)) dMod) (gtName 3))
  (sSeq (sAsg (eBin (eApp [(eBin (eBin (eVar 3) (eC (.int 69621)) dMul) (eBin (eVar 2) (eVar 2) dMul) (dAdd false))] (b1 intG)) (eC (.int 2147483629)) dMod) (gtName 3))
  (sRet (eBin (eBin (eVar 3) (eC (.int 11)) dDiv) (eVar 1) dMod)))))))
noncomputable def gTake : List D → Sto → R D := runV 4 bTake
def lim : Nat := 18446744073709551616
theorem cmulR {i j : Int} (h : -(2 ^ 64) < j) (h' : j < 2 ^ 64) : CMul i j := .inr ⟨h, h'⟩
theorem take_ok {m b : Nat} {S : Sto} {many : Int} (h : Ok m S b) (hb : b < lim) (hm : 0 < many) :
    ∃ i : Int, 0 ≤ i ∧ i < many ∧ ∃ S', gTake [.ref m, .int many] S = .ok (.int i) S' ∧ Ok m S' (b + 1) ∧ Sam m S S' := by
  obtain ⟨row, seed, a, hr, hs, ha, hg⟩ := h
  have hg' : S.push.get m = some (.lst [.lst (row.map .int), .int a, .int seed]) := get_push.trans hg
  let T := S.push.set m (.lst [.lst (row.map .int), .int ((a : Int) + 1), .int seed])
  have hT : T.get m = some (.lst [.lst (row.map .int), .int ((a : Int) + 1), .int seed]) := get_set (get_lt hg')
  have hset : setS S.push (.ref m) (.int 1) (.int ((a : Int) + 1)) = some T := x_setL (j := 1) hg' (by simp) (may_lt (by simp [Cell.lt, D.ltL, D.lt, ltL_int]))
  have hsam : Sam m S.push T := Sam.set
  have hTt : T.top = [] := List.eq_nil_of_length_eq_zero hsam.lt
  obtain ⟨p1, p2⟩ := hsam.pop hTt
  have fin : ∀ i : Int, 0 ≤ i → i < many → bTake (initE 4 [.ref m, .int many]) S.push = .rt (.int i) T → ∃ i : Int, 0 ≤ i ∧ i < many ∧ ∃ S', gTake [.ref m, .int many] S = .ok (.int i) S' ∧ Ok m S' (b + 1) ∧ Sam m S S' := fun i h0 h1 e => by
    refine ⟨i, h0, h1, S.pop T, ?_, ⟨row, seed, a + 1, hr, hs, by omega, (p2 m).trans (by rw [hT]; rfl)⟩, p1⟩
    unfold gTake runV
    rw [e]
    simp only [give, hTt]
    rfl
  by_cases hin : a < row.length
  · refine fin (row[a] % many) (Int.emod_nonneg _ (by omega)) (Int.emod_lt_of_pos _ hm) ?_
    have h1 : atI (row.map D.int) (a : Int) = some (.int row[a]) := by rw [atI_nat]; simp [hin]
    unfold bTake
    simp [initE, List.replicate, x_ixR hg', hset, x_ixR hT, hin, h1, hm]
  · have hmul : CMul (a : Int) (a : Int) := .inl ⟨by omega, by unfold lim at hb; omega⟩
    refine fin ((((seed + a * 40503) * 48271 % 2147483647 * 69621 + a * a) % 2147483629) / 11 % many) (Int.emod_nonneg _ (by omega)) (Int.emod_lt_of_pos _ hm) ?_
    have hlt : (a : Int) < 18446744073709551616 := by unfold lim at hb; omega
    unfold bTake
    simp [initE, List.replicate, x_ixR hg', hset, x_ixR hT, x_lenR, hin, hm, CMul, CDiv, hlt, show (-18446744073709551616 : Int) < (a : Int) by omega]

/-! ### the draws' start -/
noncomputable def bIn : SM := (sFor (iRange [(eC (.int 60))]) (gtName 5) (sIf (eTst (eBin (eVar 4) (eC (.int 0)) dGt)) (sSeq (sExpr (eMeth (eVar 1) [(eBin (eApp [(eVar 4)] (b1 intG)) (eC (.int 840)) dMod)] mAppend))
  (sAsg (eBin (eVar 4) (eC (.int 840)) dDiv) (gtName 4))) sSkip))
noncomputable def bOut : SM := (sSeq (sAsg (eApp [(eBin (eVar 0) (eVar 3) dIx)] (b1 absG)) (gtName 4))
  (sSeq (sAsg (eBin (eApp [(eBin (eBin (eBin (eVar 2) (eC (.int 31)) dMul) (eVar 4) (dAdd false)) (eVar 3) (dAdd false))] (b1 intG)) (eC (.int 2147483647)) dMod) (gtName 2))
  (sIf (eTst (eBin (eVar 4) (eBin (eC (.int 10)) (eC (.int 18)) dPow) dGe)) (sSeq (sAsg (eBin (eVar 4) (eBin (eC (.int 10)) (eC (.int 18)) dPow) dSub) (gtName 4))
  bIn) (sSeq (sAsg (eBin (eApp [(eBin (eBin (eBin (eVar 4) (eC (.int 1)) (dAdd false)) (eC (.int 48271)) dMul) (eBin (eVar 3) (eC (.int 69621)) dMul) (dAdd false))] (b1 intG)) (eC (.int 2147483647)) dMod) (gtName 6))
  (sSeq (sAsg (eBin (eApp [(eBin (eBin (eVar 6) (eC (.int 40692)) dMul) (eC (.int 5)) (dAdd false))] (b1 intG)) (eC (.int 2147483399)) dMod) (gtName 6))
  (sExpr (eMeth (eVar 1) [(eBin (eBin (eVar 6) (eC (.int 13)) dDiv) (eC (.int 840)) dMod)] mAppend)))))))
noncomputable def bStart : SM := (sSeq (sAsg (eApp [] (dLst true)) (gtName 1))
  (sSeq (sAsg (eC (.int 17)) (gtName 2))
  (sSeq (sFor (iRange [(eApp [(eVar 0)] (b1 lenG))]) (gtName 3) bOut)
  (sRet (eApp [(eVar 1), (eC (.int 0)), (eVar 2)] (dLst true))))))
noncomputable def gStart : List D → Sto → R D := runF 7 bStart
structure Ro (r : Nat) (T0 T : Sto) (k : Nat) (row : List Int) : Prop where
  g : T.get r = some (.lst (row.map .int))
  s : Sam r T0 T
  p : ∀ v ∈ row, 0 ≤ v
  l : row.length + k ≤ 3780
  o : T0.old.length ≤ r
theorem Ro.put {r : Nat} {T0 T : Sto} {k : Nat} {row : List Int} (h : Ro r T0 T (k + 1) row) {v : Int} (hv : 0 ≤ v) :
    Ro r T0 (T.set r (.lst (row.map .int ++ [.int v]))) k (row ++ [v]) ∧ mAppend (.ref r) [.int v] T = .ok .non (T.set r (.lst (row.map .int ++ [.int v]))) := by
  refine ⟨⟨?_, h.s.trans Sam.set, fun x hx => ?_, ?_, h.o⟩, x_app1 h.g ?_ (may_new ?_)⟩
  · rw [get_set (get_lt h.g)]; simp
  · rcases List.mem_append.mp hx with q | q
    · exact h.p x q
    · have : x = v := by simpa using q
      omega
  · have := h.l; simp; omega
  · have := h.l
    have h2 : (3780 : Nat) < sizeLine := by decide
    rw [List.length_map]; omega
  · have := h.s.lo; have := h.o; omega
theorem rangeL_succ (lo : Int) (n : Nat) : rangeL lo n = (List.range n).map fun i : Nat => D.int (lo + i) := rfl
theorem rangeL_len {lo : Int} {n : Nat} : (rangeL lo n).length = n := by rw [rangeL_succ]; simp
theorem rangeL_mem {n : Nat} {x : D} (h : x ∈ rangeL 0 n) : ∃ k : Nat, k < n ∧ x = .int k := by
  rw [rangeL_succ] at h
  obtain ⟨k, hk, e⟩ := List.mem_map.mp h
  exact ⟨k, List.mem_range.mp hk, by rw [← e]; simp⟩
theorem bIn_ok {r : Nat} {T0 T : Sto} {k : Nat} {row : List Int} {d0 d2 d3 : D} {o5 o6 : Option D} {cell : Int} (h : Ro r T0 T (60 + k) row) :
    ∃ c' o' T' row', bIn [some d0, some (.ref r), some d2, some d3, some (.int cell), o5, o6] T = .nx [some d0, some (.ref r), some d2, some d3, some (.int c'), o', o6] T' ∧ Ro r T0 T' k row' := by
  obtain ⟨ρ', S', e, c, o, row2, e2, _, p⟩ := forN_nx (g := gtName 5) (f := (sIf (eTst (eBin (eVar 4) (eC (.int 0)) dGt)) (sSeq (sExpr (eMeth (eVar 1) [(eBin (eApp [(eVar 4)] (b1 intG)) (eC (.int 840)) dMod)] mAppend))
  (sAsg (eBin (eVar 4) (eC (.int 840)) dDiv) (gtName 4))) sSkip)) (src := none) (all := rangeL 0 60)
    (fun xs ρ T => ∃ (c : Int) (o : Option D) (row : List Int), ρ = [some d0, some (.ref r), some d2, some d3, some (.int c), o, o6] ∧ True ∧ Ro r T0 T (xs.length + k) row)
    (fun _ _ _ _ => trivial) (fun x xs ρ T h => by
      obtain ⟨c, o, row, rfl, _, h⟩ := h
      refine ⟨_, rfl, ?_⟩
      by_cases hc : 0 < c
      · have h' : Ro r T0 T ((xs.length + k) + 1) row := by
          have := h; simp only [List.length_cons] at this; rw [show xs.length + 1 + k = xs.length + k + 1 by omega] at this; exact this
        obtain ⟨h2, h3⟩ := h'.put (v := c % 840) (Int.emod_nonneg _ (by omega))
        refine ⟨[some d0, some (.ref r), some d2, some d3, some (.int (c / 840)), some x, o6], _, .inl ?_, c / 840, some x, _, rfl, trivial, h2⟩
        simp [hc, x_lstR h.g, h3, CDiv]
      · refine ⟨[some d0, some (.ref r), some d2, some d3, some (.int c), some x, o6], T, .inl ?_, c, some x, row, rfl, trivial, ⟨h.g, h.s, h.p, ?_, h.o⟩⟩
        · simp [hc]
        · have := h.l; simp only [List.length_cons] at this; omega) (rangeL 0 60) [some d0, some (.ref r), some d2, some d3, some (.int cell), o5, o6] T ⟨cell, o5, row, rfl, trivial, by rw [rangeL_len]; exact h⟩
  subst e2
  refine ⟨c, o, S', row2, ?_, by simpa using p⟩
  unfold bIn
  simp
  exact e
theorem bOut_ok {r : Nat} {T0 T : Sto} {k : Nat} {row : List Int} {ns : List Int} {seed : Int} {j : Nat} {o4 o5 o6 : Option D} (h : Ro r T0 T (60 + k) row) (hj : j < ns.length) :
    ∃ s' o4' o5' o6' T' row', bOut [some (scr ns), some (.ref r), some (.int seed), some (.int j), o4, o5, o6] T = .nx [some (scr ns), some (.ref r), some (.int s'), some (.int j), o4', o5', o6'] T' ∧ 0 ≤ s' ∧ Ro r T0 T' k row' := by
  have h1 : atI (ns.map D.int) (j : Int) = some (.int ns[j]) := by rw [atI_nat]; simp [hj]
  generalize hc : (if ns[j] < 0 then -ns[j] else ns[j]) = cell at *
  by_cases hq : 1000000000000000000 ≤ cell
  · obtain ⟨c', o', T', row', e, q⟩ := bIn_ok (d0 := scr ns) (d2 := .int ((seed * 31 + cell + j) % 2147483647)) (d3 := .int j) (o5 := o5) (o6 := o6) (cell := cell - 1000000000000000000) h
    refine ⟨(seed * 31 + cell + j) % 2147483647, some (.int c'), o', o6, T', row', ?_, Int.emod_nonneg _ (by omega), q⟩
    unfold scr at e ⊢
    unfold bOut
    simp [h1, hc, CMul, CPow, hq, e]
  · have h' : Ro r T0 T (k + 1) row := ⟨h.g, h.s, h.p, by have := h.l; omega, h.o⟩
    obtain ⟨h2, h3⟩ := h'.put (v := ((((cell + 1) * 48271 + j * 69621) % 2147483647 * 40692 + 5) % 2147483399) / 13 % 840) (Int.emod_nonneg _ (by omega))
    refine ⟨(seed * 31 + cell + j) % 2147483647, some (.int cell), o5, some (.int ((((cell + 1) * 48271 + j * 69621) % 2147483647 * 40692 + 5) % 2147483399)), _, _, ?_, Int.emod_nonneg _ (by omega), h2⟩
    unfold scr
    unfold bOut
    simp [h1, hc, CMul, CPow, CDiv, hq, x_lstR h.g, h3]
theorem mapO_lt {b m : Nat} {S : Sto} {k : Nat} : ∀ {xs : List D}, D.ltL b xs = true → mapO (fz b m S k) xs = some xs
  | [], _ => rfl
  | x :: xs, h => by
    simp only [D.ltL, Bool.and_eq_true] at h
    have e : fz b m S k x = some x := by cases k <;> (unfold fz; rw [if_pos h.1])
    unfold mapO
    rw [e, mapO_lt h.2]
theorem runF_of {n m : Nat} {b : SM} {ds xs ys : List D} {S S' : Sto} (h : b (initE n ds) S.push = .rt (.ref m) S') (h1 : ¬ m < S.new) (h2 : S'.get m = some (.lst xs)) (h3 : mapO (fz S.new m S' 24) xs = some ys) :
    runF n b ds S = .ok (.ref S.new) ((S.pop S').add (.lst ys)) := by
  unfold runF
  rw [h]
  dsimp only
  rw [if_neg h1, h2]
  dsimp only
  rw [h3]
theorem runV_of {n : Nat} {b : SM} {ds : List D} {d : D} {S S' : Sto} (h : b (initE n ds) S.push = .rt d S') (h1 : S'.top = []) : runV n b ds S = .ok d (S.pop S') := by
  unfold runV
  rw [h]
  dsimp only [give]
  rw [h1]
  rfl
theorem runV_ex {n : Nat} {b : SM} {ds : List D} {e : D} {ρ : Env} {S S' : Sto} (h : b (initE n ds) S.push = .ex e ρ S') (h1 : e.lt S.new = true) : runV n b ds S = .ex e (S.pop S') := by
  unfold runV
  rw [h]
  dsimp only [throwE]
  rw [if_pos h1]
theorem runV_nx {n : Nat} {b : SM} {ds : List D} {ρ : Env} {S S' : Sto} (h : b (initE n ds) S.push = .nx ρ S') : runV n b ds S = .ok .non (S.pop S') := by
  unfold runV
  rw [h]
theorem runV_up {n : Nat} {b : SM} {ds : List D} {d d' : D} {S S' : Sto} (h : b (initE n ds) S.push = .rt d S') (h1 : fz S.new S'.all.length S' 24 d = some d') (h2 : S'.top.isEmpty = false) : runV n b ds S = .ok d' (S.pop S') := by
  unfold runV
  rw [h]
  dsimp only [give]
  rw [if_neg (by rw [h2]; exact Bool.false_ne_true), h1]
/-- .. that leaves the store -/
theorem runV_pure {n : Nat} {b : SM} {ds : List D} {d : D} {S : Sto} (h : b (initE n ds) S.push = .rt d S.push) : runV n b ds S = .ok d S := by
  rw [runV_of h rfl, pop_push_self]
theorem start_ok {S : Sto} {ns : List Int} (hn : ns.length ≤ 63) : ∃ c, gStart [scr ns] S = .ok (.ref S.new) (S.add c) ∧ Ok S.new (S.add c) 0 := by
  let r := S.new
  let T0 := S.push.add (.lst [])
  have hr : T0.get r = some (.lst (([] : List Int).map D.int)) := by
    have := get_add (S := S.push) (c := .lst [])
    rw [new_push] at this
    exact this
  have h0 : Ro r T0 T0 (60 * ns.length) [] := ⟨hr, Sam.refl, by simp, by simp; omega, by
    show S.push.old.length ≤ S.new
    rw [Sto.new_all]; exact Nat.le_refl _⟩
  obtain ⟨ρ', T, e, seed, row, o3, o4, o5, o6, e2, hs, p, _⟩ := forN_nx (g := gtName 3) (f := bOut) (src := none) (all := rangeL 0 ns.length)
    (fun xs ρ T => ∃ (seed : Int) (row : List Int) (o3 o4 o5 o6 : Option D), ρ = [some (scr ns), some (.ref r), some (.int seed), o3, o4, o5, o6] ∧ 0 ≤ seed ∧ Ro r T0 T (60 * xs.length) row ∧ ∀ x ∈ xs, ∃ k : Nat, k < ns.length ∧ x = .int k)
    (fun _ _ _ _ => trivial) (fun x xs ρ T h => by
      obtain ⟨seed, row, o3, o4, o5, o6, rfl, hs, h, hx⟩ := h
      obtain ⟨j, hj, rfl⟩ := hx x List.mem_cons_self
      refine ⟨_, rfl, ?_⟩
      have h' : Ro r T0 T (60 + 60 * xs.length) row := by
        have := h; simp only [List.length_cons] at this; rw [show 60 * (xs.length + 1) = 60 + 60 * xs.length by omega] at this; exact this
      obtain ⟨s', o4', o5', o6', T', row', e, hs', q⟩ := bOut_ok (seed := seed) (o4 := o4) (o5 := o5) (o6 := o6) h' hj
      exact ⟨_, T', .inl e, s', row', _, _, _, _, rfl, hs', q, fun y hy => hx y (List.mem_cons_of_mem _ hy)⟩)
    (rangeL 0 ns.length) [some (scr ns), some (.ref r), some (.int 17), none, none, none, none] T0 ⟨17, [], none, none, none, none, rfl, by omega, by rw [rangeL_len]; exact h0, fun x hx => rangeL_mem hx⟩
  subst e2
  have hnr : S.push.new = r := new_push
  have hTn : T.new = r + 1 := by
    rw [p.s.new]; show (S.push.add _).new = _; rw [new_add, hnr]
  let S' := T.add (.lst [.ref r, .int 0, .int seed])
  have hb : bStart (initE 7 [scr ns]) S.push = .rt (.ref T.new) S' := by
    unfold bStart
    have hlen : -4611686018427387904 ≤ (ns.length : Int) ∧ (ns.length : Int) < 4611686018427387904 := ⟨by omega, by omega⟩
    have e' : sForN (gtName 3) bOut none (rangeL 0 ns.length) (rangeL 0 ns.length) [some (D.frl (ns.map D.int)), some (.ref r), some (.int 17), none, none, none, none] (S.push.add (.lst [])) = _ := e
    simp [initE, List.replicate, scr, hlen.1, hlen.2, hnr, e']
    rfl
  have hg' : S'.get T.new = some (.lst [.ref r, .int 0, .int seed]) := get_add
  have hgr : S'.get r = some (.lst (row.map .int)) := by
    show (T.add _).get r = _
    rw [get_add_lt (by rw [hTn]; omega)]; exact p.g
  have hfz : mapO (fz S.new T.new S' 24) [.ref r, .int 0, .int seed] = some [.lst (row.map .int), .int 0, .int seed] := by
    have e1 : fz S.new T.new S' 24 (.ref r) = some (.lst (row.map .int)) := by
      unfold fz
      rw [if_neg (by simp [D.lt, r])]
      simp only
      rw [if_neg (by rw [hTn]; simp [r]), hgr]
      simp only
      rw [mapO_lt (ltL_int row)]
      rfl
    unfold mapO
    rw [e1, mapO_lt rfl]
  have hold : S'.old = S.push.old := by
    show T.old = T0.old
    apply List.ext_getElem?
    intro n
    by_cases hn : n < T0.old.length
    · have h1 := p.s.g n (by have := p.o; omega)
      rw [Sto.get_all, Sto.get_all] at h1
      unfold Sto.all at h1
      rw [List.getElem?_append_left (by rw [p.s.lo]; exact hn), List.getElem?_append_left hn] at h1
      exact h1
    · rw [List.getElem?_eq_none (by rw [p.s.lo]; omega), List.getElem?_eq_none (by omega)]
  have hpop : S.pop S' = S := by
    unfold Sto.pop
    rw [hold]
    show Sto.mk ((S.old ++ S.top).take S.old.length) ((S.old ++ S.top).drop S.old.length) = S
    simp
  refine ⟨.lst [.lst (row.map .int), .int 0, .int seed], ?_, row, seed, 0, p.p, hs, Nat.le_refl _, get_add⟩
  have := runF_of (n := 7) hb (by rw [hTn]; simp [r]) hg' hfz
  rw [hpop] at this
  exact this
end Mi

/-! Ma2: frames, short walks, dicts. -/
namespace Mi
open PySem PySem.Spec PyProof.Rows L2
section
variable {S S' T : Sto} {n m : Nat} {c : Cell} {xs ys all : List D} {kvs : List (Key × D)} {d v x : D} {i : Int} {ρ : Env} {g : GM} {f : SM} {t : TM} {e : EM}
@[simp] theorem forN_0 : sForN g f none all [] ρ S = .nx ρ S := by
  unfold sForN; rw [if_pos okSrc_none]
@[simp] theorem forN_1 : sForN g f none all (x :: xs) ρ S = (match g x ρ S with
  | some ρ1 => (match f ρ1 S with
    | .nx ρ' S' => sForN g f none all xs ρ' S'
    | .ct ρ' S' => sForN g f none all xs ρ' S'
    | .bk ρ' S' => .nx ρ' S'
    | r => r)
  | none => .bad) := by
  conv => lhs; unfold sForN
  rw [if_pos okSrc_none]
  try (cases g x ρ S with
    | none => rfl
    | some ρ1 => dsimp only; cases f ρ1 S <;> rfl)
@[simp] theorem lcN_0 {acc : List D} : lcN g t e none all [] acc ρ S = .ok acc S := by
  unfold lcN; rw [if_pos okSrc_none]
@[simp] theorem lcN_1 {acc : List D} : lcN g t e none all (x :: xs) acc ρ S = (match g x ρ S with
      | some ρ1 => (match t ρ1 S with
        | .ok b S1 => if b = true then (match e ρ1 S1 with
            | .ok y S2 => if acc.length < sizeLine then lcN g t e none all xs (acc ++ [y]) ρ S2 else .bad
            | _ => .bad)
          else lcN g t e none all xs acc ρ S1
        | _ => .bad)
      | none => .bad) := by
  conv => lhs; unfold lcN
  rw [if_pos okSrc_none]
  try (cases g x ρ S with
    | none => rfl
    | some ρ1 =>
      dsimp only
      cases t ρ1 S with
      | ok b S1 =>
        dsimp only
        cases b with
        | false => rfl
        | true => rw [if_pos rfl, if_pos rfl]; cases e ρ1 S1 <;> rfl
      | _ => rfl)
@[simp] theorem x_gtN {j : Nat} : gtName j d ρ S = some (ρ.set j (some d)) := (rfl)
theorem big : (1000000 : Nat) < sizeLine := by decide
@[simp] theorem big0 : 0 < sizeLine := by decide
@[simp] theorem big1 : 1 < sizeLine := by decide
@[simp] theorem big2 : 2 < sizeLine := by decide
@[simp] theorem big3 : 3 < sizeLine := by decide
@[simp] theorem big4 : 4 < sizeLine := by decide
theorem x_ixDS {k : D} (h : dicS S x = some kvs) : dIx x k S = (match keyD k with
  | some q => (match valD kvs q with
    | some d => .ok d S
    | none => .bad)
  | none => .bad) := by
  cases x with
  | dic l => cases h; exact x_ixDv
  | ref n =>
    unfold dicS at h
    cases q : S.get n with
    | none => simp only [q] at h; cases h
    | some c =>
      cases c with
      | dic l => simp only [q] at h; cases h; exact x_ixD q
      | lst _ => simp only [q] at h; cases h
      | ins _ _ => simp only [q] at h; cases h
  | _ => cases h
theorem dDict_ok {b : Bool} (h : dicS S x = some kvs) : dDict b [x] S = mkD b kvs S := by
  unfold dDict; simp only [h]
theorem dicS_ref (h : S.get n = some (.dic kvs)) : dicS S (.ref n) = some kvs := by unfold dicS; simp only [h]
theorem valD_put {k q : Key} : valD (putD kvs k v) q = if q = k then some v else valD kvs q := by
  unfold putD
  by_cases h : (kvs.any fun kv => decide (kv.1 = k)) = true
  · rw [if_pos h]
    unfold valD
    induction kvs with
    | nil => simp at h
    | cons a r ih =>
      obtain ⟨k', d'⟩ := a
      simp only [List.map_cons, List.find?_cons]
      by_cases hk : k' = k
      · subst hk
        by_cases hq : k' = q
        · subst hq; simp
        · have hq' : ¬ q = k' := fun z => hq z.symm
          simp only [if_true, hq, decide_false]
          rw [if_neg hq']
          by_cases hr : (r.any fun kv => decide (kv.1 = k')) = true
          · have := ih hr
            rw [if_neg hq'] at this
            exact this
          · congr 1
            have : r.map (fun kv => if kv.1 = k' then (kv.1, v) else kv) = r := by
              clear ih h
              induction r with
              | nil => rfl
              | cons b s ih2 =>
                simp only [List.any_cons, Bool.or_eq_true, decide_eq_true_eq, not_or] at hr
                simp only [List.map_cons, if_neg hr.1]
                rw [ih2 hr.2]
            rw [this]
      · have h2 : (r.any fun kv => decide (kv.1 = k)) = true := by
          simp only [List.any_cons, hk, decide_false, Bool.false_or] at h; exact h
        simp only [if_neg hk]
        by_cases hq : k' = q
        · subst hq; simp [hk]
        · simp only [hq, decide_false]
          exact ih h2
  · rw [if_neg h]
    unfold valD
    rw [List.find?_append]
    by_cases hq : q = k
    · subst hq
      have : kvs.find? (fun kv => decide (kv.1 = q)) = none := by
        rw [List.find?_eq_none]
        intro a ha hk
        exact h (List.any_eq_true.mpr ⟨a, ha, hk⟩)
      rw [this]; simp
    · have hq' : ¬ k = q := fun z => hq z.symm
      simp [hq, hq']
theorem putD_len {k : Key} : (putD kvs k v).length ≤ kvs.length + 1 := by
  unfold putD; split <;> simp
/-- T stands a frame over S -/
def Up (S T : Sto) : Prop := T.old = S.old ++ S.top
theorem Up.push : Up S S.push := rfl
theorem Up.add (h : Up S T) : Up S (T.add c) := h
theorem Up.new (h : Up S T) : S.new ≤ T.new := by
  unfold Up at h; unfold Sto.new; rw [h, List.length_append]; omega
theorem Up.set (h : Up S T) (hn : S.new ≤ n) : Up S (T.set n c) := by
  unfold Up at *
  unfold Sto.set
  have : T.old.length = S.new := by rw [h, List.length_append]; rfl
  rw [if_neg (by omega)]
  exact h
theorem Up.get (h : Up S T) (hn : n < S.new) : T.get n = S.get n := by
  unfold Up at h
  have h1 : n < T.old.length := by rw [h, List.length_append]; exact hn
  rw [Sto.get_all, Sto.get_all]
  unfold Sto.all
  rw [List.getElem?_append_left h1, h]
theorem Up.pop (h : Up S T) : S.pop T = S := by
  unfold Up at h
  unfold Sto.pop
  rw [h]; simp
theorem Up.may (h : Up S T) (hn : S.new ≤ n) : T.may n c = true := by
  refine may_new ?_
  unfold Up at h
  rw [h, List.length_append]; exact hn
theorem runV_lt {b : SM} {ds : List D} (h : b (initE n ds) S.push = .rt d S') (hd : d.lt S.new = true) : runV n b ds S = .ok d (S.pop S') := by
  unfold runV
  rw [h]
  dsimp only [give]
  have : fz S.new S'.all.length S' 24 d = some d := by unfold fz; rw [if_pos hd]
  rw [this]
  simp
theorem atI_in {α : Type} {l : List α} {i : Int} (h0 : 0 ≤ i) (h1 : i < l.length) : ∃ a, atI l i = some a ∧ a ∈ l := by
  obtain ⟨j, rfl⟩ := Int.eq_ofNat_of_zero_le h0
  have hj : j < l.length := by omega
  exact ⟨l[j], by rw [atI_nat]; simp [hj], List.getElem_mem hj⟩
end
end Mi

/-! Ma3: instances; stores by equations. -/
namespace Mi
open PySem PySem.Spec PyProof.Rows L2
section
variable {S S' T : Sto} {n m : Nat} {c d : Cell} {x v : D} {ρ : Env} {g f : EM} {cs : List Str} {fn : Str}
theorem Sto.ext {S T : Sto} (h1 : S.old.length = T.old.length) (h2 : S.all = T.all) : S = T := by
  obtain ⟨a, b⟩ := S
  obtain ⟨a', b'⟩ := T
  have h1 : a.length = a'.length := h1
  have h2 : a ++ b = a' ++ b' := h2
  obtain ⟨e1, e2⟩ := List.append_inj h2 h1
  rw [e1, e2]
theorem set_set : (S.set n c).set n d = S.set n d := by
  refine Sto.ext (by rw [Sto.set_old, Sto.set_old, Sto.set_old]) ?_
  rw [Sto.set_all, Sto.set_all, Sto.set_all, List.set_set]
theorem add_set_new : (S.add c).set S.new d = S.add d := by
  refine Sto.ext (by rw [Sto.set_old]; rfl) ?_
  rw [Sto.set_all, Sto.add_all, Sto.add_all, Sto.new_all, List.set_append_right _ _ (Nat.le_refl _)]
  simp
theorem add_set_lt (h : n < S.new) : (S.add c).set n d = (S.set n d).add c := by
  refine Sto.ext (by rw [Sto.set_old]; show S.old.length = (S.set n d).old.length; rw [Sto.set_old]) ?_
  rw [Sto.set_all, Sto.add_all, Sto.add_all, Sto.set_all, List.set_append_left _ _ (by rw [← Sto.new_all]; exact h)]
theorem new_set : (S.set n c).new = S.new := by
  rw [Sto.new_all, Sto.new_all, Sto.set_all, List.length_set]
theorem get_set_ne (h : n ≠ m) : (S.set n c).get m = S.get m := by
  rw [Sto.get_all, Sto.get_all, Sto.set_all, List.getElem?_set_ne h]
@[simp] theorem x_fld : eFld cs g fn ρ S = (g ρ S).bind fun d S1 => (match insS S1 d with
  | some (c, fs) => if c ∈ cs then .of S1 (fs.lookup fn) else .bad
  | none => .bad) := (rfl)
@[simp] theorem x_setA {fo fv : EM} : sSetA cs fo fn fv ρ S = (fv ρ S).bindS ρ fun v S1 => (fo ρ S1).bindS ρ fun o S2 => (match setA cs S2 o fn v with
  | some S3 => .nx ρ S3
  | none => .bad) := (rfl)
@[simp] theorem x_new {k : Str} {fs : List EM} {dds : List D} {G : List D → Sto → R D} : eNew k fs dds G ρ S = (aList fs ρ S).bind fun ds S1 => (G (.ref S1.new :: ds ++ dds) (S1.add (.ins k []))).bind fun d S2 => (match d with
  | .non => .ok (.ref S1.new) S2
  | _ => .bad) := (rfl)
@[simp] theorem x_mc {k m : Str} {fs : List EM} {dds : List D} {G : List D → Sto → R D} : eMc k m g fs dds G ρ S = (g ρ S).bind fun d S1 => (match insS S1 d with
  | some (c', as) => if c' = k ∧ as.lookup m = none then (aList fs ρ S1).bind fun ds S2 => G (d :: ds ++ dds) S2 else .bad
  | none => .bad) := (rfl)
theorem insS_ref {k : Str} {fs : List (Str × D)} (h : S.get n = some (.ins k fs)) : insS S (.ref n) = some (k, fs) := by
  unfold insS; simp only [h]
@[simp] theorem insS_obj {k : Str} {fs : List (Str × D)} : insS S (.obj k fs) = some (k, fs) := (rfl)
theorem setA_ok {k : Str} {fs : List (Str × D)} (h : S.get n = some (.ins k fs)) (hk : k ∈ cs) (hl : fs.length < 1000) (hm : S.may n (.ins k (putA fn v fs)) = true) : setA cs S (.ref n) fn v = some (S.set n (.ins k (putA fn v fs))) := by
  unfold setA
  simp only [h]
  rw [if_pos ⟨hk, hl, hm⟩]
@[simp] theorem x_ifx {t u w : TM} : tIfM t u w ρ S = (t ρ S).bind fun b S1 => if b = true then u ρ S1 else w ρ S1 := (rfl)
@[simp] theorem x_never {b : Env} : sNever b S = .bad := (rfl)
theorem szl {k : Nat} (h : k ≤ 1000000) : k ≤ sizeLine := Nat.le_trans h (Nat.le_of_lt big)
@[simp] theorem x_lenS {s : List Nat} (h : s.length ≤ 1000000) : lenG S (.str s) = some (.int s.length) := by
  show (if s.length ≤ sizeLine then some s.length else none).map (fun n => D.int n) = _
  rw [if_pos (szl h)]; rfl
@[simp] theorem x_ixS {s : List Nat} {i : Int} (h : s.length ≤ 1000000) : dIx (.str s) (.int i) S = (match atI s i with
  | some c => .ok (.str [c]) S
  | none => .bad) := by
  unfold dIx ixS
  simp only
  rw [if_pos (szl h)]
  cases atI s i <;> rfl
@[simp] theorem x_itS {s : List Nat} : itS S (.str s) = some (s.map fun c => .str [c], none) := (rfl)
@[simp] theorem x_inS1 {c : Nat} {t : List Nat} : dIn (.str [c]) (.str t) S = .ok (.bl (decide (c ∈ t))) S := (rfl)
@[simp] theorem x_ninS1 {c : Nat} {t : List Nat} : dNotIn (.str [c]) (.str t) S = .ok (.bl (!decide (c ∈ t))) S := (rfl)
theorem x_inStrs {s : List Nat} {l : List (List Nat)} {ys : List D} (h : ys = l.map D.str) : dIn (.str s) (.tup ys) S = .ok (.bl (decide (s ∈ l))) S := by
  subst h
  unfold dIn
  rw [inS_pl (ys := l.map D.str) rfl (PlL_str _) (.inl (Nat.zero_le _)) _ (.inl rfl)]
  simp
theorem x_ninStrs {s : List Nat} {l : List (List Nat)} {ys : List D} (h : ys = l.map D.str) : dNotIn (.str s) (.tup ys) S = .ok (.bl (!decide (s ∈ l))) S := by
  subst h
  unfold dNotIn
  rw [inS_pl (ys := l.map D.str) rfl (PlL_str _) (.inl (Nat.zero_le _)) _ (.inl rfl)]
  simp
@[simp] theorem x_addS {a b : List Nat} {c : Bool} (h : a.length + b.length ≤ 1000000) : dAdd c (.str a) (.str b) S = .ok (.str (a ++ b)) S := by
  show (if a.length + b.length ≤ sizeLine then R.ok (D.str (a ++ b)) S else .bad) = _
  rw [if_pos (szl h)]
/-- a comprehension whose parts leave the store -/
theorem lcN_filt {gt : GM} {t : TM} {src : Option Nat} {all : List D} {p : D → Bool} {k : D → D} (ho : okSrc src all S) : ∀ (xs acc : List D), acc.length + xs.length ≤ sizeLine →
    (∀ x ∈ xs, ∃ ρ1, gt x ρ S = some ρ1 ∧ t ρ1 S = .ok (p x) S ∧ (p x = true → f ρ1 S = .ok (k x) S)) → lcN gt t f src all xs acc ρ S = .ok (acc ++ (xs.filter p).map k) S
  | [], acc, _, _ => by
    unfold lcN
    rw [if_pos ho]; simp
  | x :: xs, acc, hl, h => by
    unfold lcN
    rw [if_pos ho]
    obtain ⟨ρ1, e1, e2, e3⟩ := h x List.mem_cons_self
    rw [e1]
    dsimp only
    rw [e2]
    simp only [List.length_cons] at hl
    cases q : p x with
    | false =>
      dsimp only
      rw [if_neg Bool.false_ne_true, lcN_filt ho xs acc (by omega) fun y hy => h y (List.mem_cons_of_mem _ hy)]
      simp [q]
    | true =>
      dsimp only
      rw [if_pos rfl, e3 q]
      dsimp only
      rw [if_pos (by omega), lcN_filt ho xs _ (by simp; omega) fun y hy => h y (List.mem_cons_of_mem _ hy)]
      simp [q]
end
end Mi

/-! Ma4: things walked, lists compared, comprehensions with two fors, frozen results. -/
namespace Mi
open PySem PySem.Spec PyProof.Rows L2
section
variable {S S' T : Sto} {n m : Nat} {c d : Cell} {x v : D} {ρ : Env} {g f : EM} {xs ys : List D}
theorem inS_ref (h : S.get n = some (.lst ys)) : inS S x (.ref n) = inS S x (.lst ys) := by
  unfold inS
  simp only [dicS, seqS, lstS, h]
theorem pyS_ref (h : S.get n = some (.lst ys)) : pyS S (.ref n) = pyS S (.lst ys) := by
  unfold pyS
  simp only [h]
  rw [pyD]
theorem eqS_refl (h : S.get n = some (.lst ys)) : eqS S (.ref n) x = eqS S (.lst ys) x := by
  unfold eqS
  rw [pyS_ref h]
theorem eqS_refr (h : S.get n = some (.lst ys)) : eqS S x (.ref n) = eqS S x (.lst ys) := by
  unfold eqS
  rw [pyS_ref h]
theorem dEq_refl (h : S.get n = some (.lst ys)) : dEq (.ref n) x S = dEq (.lst ys) x S := by
  unfold dEq; rw [eqS_refl h]
theorem dNe_refl (h : S.get n = some (.lst ys)) : dNe (.ref n) x S = dNe (.lst ys) x S := by
  unfold dNe; rw [eqS_refl h]
theorem dEq_refr (h : S.get n = some (.lst ys)) : dEq x (.ref n) S = dEq x (.lst ys) S := by
  unfold dEq; rw [eqS_refr h]
theorem dNe_refr (h : S.get n = some (.lst ys)) : dNe x (.ref n) S = dNe x (.lst ys) S := by
  unfold dNe; rw [eqS_refr h]
/-- what a walk over x goes through -/
def Itr (S : Sto) (x : D) (xs : List D) : Prop := ∃ src, itS S x = some (xs, src) ∧ okSrc src xs S
theorem Itr.lst : Itr S (.lst xs) xs := ⟨none, rfl, trivial⟩
theorem Itr.tup : Itr S (.tup xs) xs := ⟨none, rfl, trivial⟩
theorem Itr.ref (h : S.get n = some (.lst xs)) : Itr S (.ref n) xs := ⟨some n, by unfold itS; simp only [h], h⟩
theorem Itr.of (h : Itr S x xs) (e : ∀ n, x = .ref n → S'.get n = S.get n) : Itr S' x xs := by
  obtain ⟨src, h1, h2⟩ := h
  cases x with
  | ref n =>
    have e := e n rfl
    unfold itS at h1
    refine ⟨src, ?_, ?_⟩
    · unfold itS; simp only [e]; exact h1
    · cases q : S.get n with
      | none => simp only [q] at h1; cases h1
      | some c =>
        cases c with
        | lst l => simp only [q] at h1; cases h1; exact e.trans q
        | _ => simp only [q] at h1; cases h1
  | str s => cases h1; exact ⟨none, rfl, trivial⟩
  | tup s => cases h1; exact ⟨none, rfl, trivial⟩
  | lst s => cases h1; exact ⟨none, rfl, trivial⟩
  | frl s => cases h1; exact ⟨none, rfl, trivial⟩
  | _ => cases h1
theorem Itr.push (h : Itr S x xs) : Itr S.push x xs := h.of fun _ _ => get_push
theorem x_lc_map {b : Bool} {gt : GM} {vs : List Nat} {k : D → D} (h : Itr S x xs) (hg : g ρ S = .ok x S) (hl : xs.length ≤ 1000000) (hk : ∀ y ∈ xs, ∃ ρ1, gt y (wipeE ρ vs) S = some ρ1 ∧ f ρ1 S = .ok (k y) S) :
    eLc b (iVal g) gt tYesM f vs ρ S = mkL b (xs.map k) S := by
  obtain ⟨src, h1, h2⟩ := h
  have := big
  have e := lcN_map (acc := []) h2 xs (ρ := wipeE ρ vs) (g := gt) (f := f) (all := xs) (k := k) (by simp; omega) hk
  simp only [x_lc, x_iVal, hg, x_bind_ok, h1, x_of_some, e]
  rfl
theorem x_lc_filt {b : Bool} {gt : GM} {t : TM} {vs : List Nat} {p : D → Bool} {k : D → D} (h : Itr S x xs) (hg : g ρ S = .ok x S) (hl : xs.length ≤ 1000000) (hk : ∀ y ∈ xs, ∃ ρ1, gt y (wipeE ρ vs) S = some ρ1 ∧ t ρ1 S = .ok (p y) S ∧ (p y = true → f ρ1 S = .ok (k y) S)) :
    eLc b (iVal g) gt t f vs ρ S = mkL b ((xs.filter p).map k) S := by
  obtain ⟨src, h1, h2⟩ := h
  have := big
  have e := lcN_filt (acc := []) h2 xs (ρ := wipeE ρ vs) (gt := gt) (t := t) (f := f) (all := xs) (p := p) (k := k) (by simp; omega) hk
  simp only [x_lc, x_iVal, hg, x_bind_ok, h1, x_of_some, e]
  rfl
theorem lc2N_map {gt gt1 : GM} {im1 : IM} {vs1 : List Nat} {src : Option Nat} {all : List D} {k : D → D → D} {ws : D → List D} {N : Nat} (ho : okSrc src all S) : ∀ (xs acc : List D), acc.length + xs.length * N ≤ sizeLine →
    (∀ x ∈ xs, ∃ ρ1, gt x ρ S = some ρ1 ∧ ∃ src1, im1 ρ1 S = .ok (ws x, src1) S ∧ okSrc src1 (ws x) S ∧ (ws x).length ≤ N ∧ ∀ y ∈ ws x, ∃ ρ2, gt1 y (wipeE ρ1 vs1) S = some ρ2 ∧ f ρ2 S = .ok (k x y) S) →
    lc2N gt tYesM im1 gt1 tYesM f vs1 src all xs acc ρ S = .ok (acc ++ xs.flatMap fun x => (ws x).map (k x)) S
  | [], acc, _, _ => by
    unfold lc2N
    rw [if_pos ho]; simp
  | x :: xs, acc, hl, h => by
    unfold lc2N
    rw [if_pos ho]
    obtain ⟨ρ1, e1, src1, e2, o1, l1, h2⟩ := h x List.mem_cons_self
    rw [e1]
    dsimp only [x_yes]
    simp only [x_yes, if_true]
    rw [e2]
    simp only [List.length_cons, Nat.add_mul] at hl
    dsimp only
    rw [lcN_map o1 (ws x) acc (by omega) h2]
    dsimp only
    rw [lc2N_map ho xs _ (by simp; omega) fun y hy => h y (List.mem_cons_of_mem _ hy)]
    simp
theorem x_lc2_map {b : Bool} {gt gt1 : GM} {im1 : IM} {vs vs1 : List Nat} {k : D → D → D} {ws : D → List D} (N : Nat) (h : Itr S x xs) (hg : g ρ S = .ok x S) (hl : xs.length * N ≤ 1000000)
    (hk : ∀ x ∈ xs, ∃ ρ1, gt x (wipeE ρ vs) S = some ρ1 ∧ ∃ src1, im1 ρ1 S = .ok (ws x, src1) S ∧ okSrc src1 (ws x) S ∧ (ws x).length ≤ N ∧ ∀ y ∈ ws x, ∃ ρ2, gt1 y (wipeE ρ1 vs1) S = some ρ2 ∧ f ρ2 S = .ok (k x y) S) :
    eLc2 b (iVal g) gt tYesM im1 gt1 tYesM f vs vs1 ρ S = mkL b (xs.flatMap fun x => (ws x).map (k x)) S := by
  obtain ⟨src, h1, h2⟩ := h
  have := big
  have e := lc2N_map (acc := []) (N := N) h2 xs (ρ := wipeE ρ vs) (gt := gt) (gt1 := gt1) (im1 := im1) (f := f) (vs1 := vs1) (all := xs) (k := k) (ws := ws) (by simp; omega) hk
  unfold eLc2
  simp only [x_iVal, hg, x_bind_ok, h1, x_of_some, e]
  rfl
/-- a walk with a store: the state is a Lean value -/
theorem forN_st {gt : GM} {b : SM} {src : Option Nat} {all : List D} (P : List D → Env → Sto → Prop)
    (ho : ∀ xs ρ S, P xs ρ S → okSrc src all S)
    (hs : ∀ x xs ρ S, P (x :: xs) ρ S → ∃ ρ1, gt x ρ S = some ρ1 ∧ ∃ ρ' S', b ρ1 S = .nx ρ' S' ∧ P xs ρ' S') (xs : List D) (ρ : Env) (S : Sto) (h : P xs ρ S) :
    ∃ ρ' S', sForN gt b src all xs ρ S = .nx ρ' S' ∧ P [] ρ' S' :=
  forN_nx P ho (fun x xs ρ S h => by
    obtain ⟨ρ1, e, ρ', S', e2, p⟩ := hs x xs ρ S h
    exact ⟨ρ1, e, ρ', S', .inl e2, p⟩) xs ρ S h
theorem x_forI {gt : GM} {b : SM} {r : SR} (h : Itr S x xs) (hg : g ρ S = .ok x S) (hr : ∀ src, okSrc src xs S → sForN gt b src xs xs ρ S = r) : sFor (iVal g) gt b ρ S = r := by
  obtain ⟨src, h1, h2⟩ := h
  simp only [x_for, x_iVal, hg, x_bind_ok, h1, x_of_some, x_bindS_ok]
  exact hr src h2
theorem Itr.ups (h : Itr S x xs) : ∃ src, ∀ T, Up S T → itS T x = some (xs, src) ∧ okSrc src xs T := by
  obtain ⟨src, h1, h2⟩ := h
  cases x with
  | ref n =>
    unfold itS at h1
    cases q : S.get n with
    | none => simp only [q] at h1; cases h1
    | some c =>
      cases c with
      | lst l =>
        simp only [q] at h1
        cases h1
        exact ⟨some n, fun T u => by
          have e := (u.get (get_lt q)).trans q
          exact ⟨by unfold itS; simp only [e], e⟩⟩
      | _ => simp only [q] at h1; cases h1
  | str s => cases h1; exact ⟨none, fun _ _ => ⟨rfl, trivial⟩⟩
  | tup s => cases h1; exact ⟨none, fun _ _ => ⟨rfl, trivial⟩⟩
  | lst s => cases h1; exact ⟨none, fun _ _ => ⟨rfl, trivial⟩⟩
  | frl s => cases h1; exact ⟨none, fun _ _ => ⟨rfl, trivial⟩⟩
  | _ => cases h1
theorem Itr.up (h : Itr S x xs) (u : Up S T) : Itr T x xs := by
  obtain ⟨src, h⟩ := h.ups
  exact ⟨src, h T u⟩
/-- a list of its own or one in a cell -/
def Lis (S : Sto) (x : D) (xs : List D) : Prop := x = .lst xs ∨ ∃ n, x = .ref n ∧ S.get n = some (.lst xs)
theorem Lis.itr (h : Lis S x xs) : Itr S x xs := by
  rcases h with rfl | ⟨n, rfl, h⟩
  · exact .lst
  · exact .ref h
theorem Lis.of (h : Lis S x xs) (e : ∀ n, x = .ref n → S'.get n = S.get n) : Lis S' x xs := by
  rcases h with rfl | ⟨n, rfl, h⟩
  · exact .inl rfl
  · exact .inr ⟨n, rfl, (e n rfl).trans h⟩
theorem Lis.nin {y : D} (h : Lis S x xs) (hy : Pl y = true) (hx : PlL xs = true) (hd : dp y ≤ 64 ∨ dpL xs ≤ 64) : dNotIn y x S = .ok (.bl (!decide (y ∈ xs))) S := by
  have h1 := inS_pl (S := S) hy hx hd _ (.inr rfl)
  unfold dNotIn
  rcases h with rfl | ⟨n, rfl, h⟩
  · rw [h1]
  · rw [Mi.inS_ref h, h1]
theorem Lis.isin {y : D} (h : Lis S x xs) (hy : Pl y = true) (hx : PlL xs = true) (hd : dp y ≤ 64 ∨ dpL xs ≤ 64) : dIn y x S = .ok (.bl (decide (y ∈ xs))) S := by
  have h1 := inS_pl (S := S) hy hx hd _ (.inr rfl)
  unfold dIn
  rcases h with rfl | ⟨n, rfl, h⟩
  · rw [h1]
  · rw [Mi.inS_ref h, h1]
theorem Lis.dlist {b : Bool} (h : Lis S x xs) : dList b [x] S = mkL b xs S := by
  unfold dList
  rcases h with rfl | ⟨n, rfl, h⟩
  · rfl
  · simp only [seqS, lstS, h]
theorem Lis.dtuple (h : Lis S x xs) : dTuple [x] S = .ok (.tup xs) S := by
  unfold dTuple
  rcases h with rfl | ⟨n, rfl, h⟩
  · rfl
  · simp only [seqS, lstS, h]
theorem Lis.len (h : Lis S x xs) : lenG S x = some (.int xs.length) := by
  rcases h with rfl | ⟨n, rfl, h⟩
  · rfl
  · exact x_lenR h
theorem x_ext (h : S.get n = some (.lst xs)) (hl : xs.length + ys.length ≤ sizeLine) (hm : S.may n (.lst (xs ++ ys)) = true) : mExtend (.ref n) [.lst ys] S = .ok .non (S.set n (.lst (xs ++ ys))) := by
  unfold mExtend
  simp only [h, lstS]
  rw [if_pos hl]
  unfold putL
  rw [if_pos hm]
/-! ### results frozen -/
theorem give_some {S S' : Sto} {d d' : D} (h : fz S.new S'.all.length S' 24 d = some d') (ht : S'.top.isEmpty = false) : give S d S' = .ok d' (S.pop S') := by
  unfold give
  rw [ht, h]
  rfl
theorem runV_give {n : Nat} {b : SM} {ds : List D} {d d' : D} {S S' : Sto} (h : b (initE n ds) S.push = .rt d S') (hf : fz S.new S'.all.length S' 24 d = some d') (ht : S'.top.isEmpty = false) : runV n b ds S = .ok d' (S.pop S') := by
  unfold runV
  rw [h]
  exact give_some hf ht
theorem mapO_id {α : Type} {f : α → Option α} : ∀ {l : List α}, (∀ a ∈ l, f a = some a) → mapO f l = some l
  | [], _ => rfl
  | a :: l, h => by
    unfold mapO
    rw [h a List.mem_cons_self, mapO_id fun b hb => h b (List.mem_cons_of_mem _ hb)]
theorem fz_lt {b m k : Nat} {S : Sto} {d : D} (h : d.lt b = true) : fz b m S k d = some d := by
  cases k <;> (unfold fz; rw [if_pos h])
theorem ltL_all {b : Nat} {l : List D} : D.ltL b l = true ↔ ∀ d ∈ l, d.lt b = true := by
  induction l with
  | nil => simp [D.ltL]
  | cons a r ih => simp [D.ltL, ih]
/-- a list of the frame's own is handed back -/
theorem fz_ref {b m k : Nat} {S : Sto} {l : List D} (h : S.get n = some (.lst l)) (hb : b ≤ n) (hm : n < m) (hl : D.ltL b l = true) : fz b m S (k + 1) (.ref n) = some (.lst l) := by
  unfold fz
  rw [if_neg (by simp [D.lt]; omega)]
  simp only
  rw [if_neg (by omega), h]
  simp only
  rw [mapO_lt hl]
  rfl
theorem runV_list {n m : Nat} {b : SM} {ds : List D} {l : List D} {S S' : Sto} (h : b (initE n ds) S.push = .rt (.ref m) S') (hg : S'.get m = some (.lst l)) (hm : S.new ≤ m) (hl : D.ltL S.new l = true) (u : Up S S') : runV n b ds S = .ok (.lst l) S := by
  have hlt := get_lt hg
  have h0 : S'.old.length = S.new := by unfold Up at u; rw [u, List.length_append]; rfl
  have ht : S'.top.isEmpty = false := by
    cases q : S'.top with
    | nil =>
      unfold Sto.new at hlt
      rw [h0, q] at hlt
      simp at hlt; omega
    | cons _ _ => rfl
  rw [runV_give h (fz_ref hg hm (by rw [← Sto.new_all]; exact hlt) hl) ht, u.pop]
theorem runF_list {n m : Nat} {b : SM} {ds : List D} {l : List D} {S S' : Sto} (h : b (initE n ds) S.push = .rt (.ref m) S') (hg : S'.get m = some (.lst l)) (hm : S.new ≤ m) (hl : D.ltL S.new l = true) (u : Up S S') : runF n b ds S = .ok (.ref S.new) (S.add (.lst l)) := by
  rw [runF_of h (by omega) hg (mapO_lt hl), u.pop]
end
end Mi

namespace K75
open PySem PySem.Spec PyProof.Rows L2 Mi
/-! ### meanings -/
def c_CAPITAL : D := .str [65, 66, 67, 68, 69, 70, 71, 72, 73, 74, 75, 76, 77, 78, 79, 80, 81, 82, 83, 84, 85, 86, 87, 88, 89, 90]
def c_DIGITS : D := .str [48, 49, 50, 51, 52, 53, 54, 55, 56, 57]
def c_LONGEST : D := .int 12
def c_MOST_ARGUMENTS : D := .int 3
def c_RESERVED : D := .tup [.str [97, 108, 108], .str [115, 111, 109, 101], .str [110, 111, 116], .str [97, 110, 100], .str [111, 114], .str [105, 109, 112, 108, 105, 101, 115], .str [105, 102, 102], .str [116, 114, 117, 101], .str [102, 97, 108, 115, 101]]
def c_SMALL : D := .str [97, 98, 99, 100, 101, 102, 103, 104, 105, 106, 107, 108, 109, 110, 111, 112, 113, 114, 115, 116, 117, 118, 119, 120, 121, 122]
def cs_functions : List Str := ["Signature"]
def cs_relations : List Str := ["Signature"]
def cs_table : List Str := ["Signature"]
noncomputable def B_has_name_signs : SM := (sSeq (sIf (tNotM (eTst (eChain (eC (.int 1)) (eApp [(eVar 0)] (b1 lenG)) (eC c_LONGEST) dLe dLe))) (sRet (eC (.bl false))) sSkip)
  (sSeq (sFor (iVal (eVar 0)) (gtName 1) (sIf (tAndM (eTst (eBin (eVar 1) (eC c_SMALL) dNotIn)) (tAndM (eTst (eBin (eVar 1) (eC c_CAPITAL) dNotIn)) (eTst (eBin (eVar 1) (eC c_DIGITS) dNotIn)))) (sRet (eC (.bl false))) sSkip))
  (sRet (eC (.bl true)))))
noncomputable def F_has_name_signs : List D → Sto → R D := runV 2 B_has_name_signs
noncomputable def B_is_small_name : SM := (sRet (eAndV (eCall [(eVar 0)] [] F_has_name_signs) (eAndV (eBin (eBin (eVar 0) (eC (.int 0)) dIx) (eC c_SMALL) dIn) (eBin (eVar 0) (eC c_RESERVED) dNotIn))))
noncomputable def F_is_small_name : List D → Sto → R D := runV 1 B_is_small_name
noncomputable def B_is_capital_name : SM := (sRet (eAndV (eCall [(eVar 0)] [] F_has_name_signs) (eBin (eBin (eVar 0) (eC (.int 0)) dIx) (eC c_CAPITAL) dIn)))
noncomputable def F_is_capital_name : List D → Sto → R D := runV 1 B_is_capital_name
noncomputable def B_fresh_name : SM := (sSeq (sAsg (eC (.int 1)) (gtName 2))
  (sSeq (sWhile (eTst (eBin (eBin (eVar 0) (eApp [(eVar 2)] (b1 strG)) (dAdd false)) (eVar 1) dIn)) (sAug 2 (eC (.int 1)) dAddI))
  (sRet (eBin (eVar 0) (eApp [(eVar 2)] (b1 strG)) (dAdd false)))))
noncomputable def F_fresh_name : List D → Sto → R D := runV 3 B_fresh_name
noncomputable def B_Signature_constants : SM := (sRet (eLc false (iVal (eFld cs_functions (eVar 0) "functions")) (gtTup [(gtName 1), (gtName 2)]) (eTst (eBin (eVar 2) (eC (.int 0)) dEq)) (eVar 1) [1, 2]))
noncomputable def F_Signature_constants : List D → Sto → R D := runV 3 B_Signature_constants
noncomputable def B_Signature___init__ : SM := (sSeq (sSetA cs_functions (eVar 0) "functions" (eApp [(eLc false (iVal (eVar 1)) (gtTup [(gtName 3), (gtName 4)]) tYesM (eApp [(eVar 3), (eVar 4)] dTup) [3, 4])] (dTuple)))
  (sSeq (sSetA cs_relations (eVar 0) "relations" (eApp [(eLc false (iVal (eVar 2)) (gtTup [(gtName 3), (gtName 4)]) tYesM (eApp [(eVar 3), (eVar 4)] dTup) [3, 4])] (dTuple)))
  (sSeq (sSetA cs_table (eVar 0) "table" (eDnew true))
  (sFor (iVal (eBin (eFld cs_functions (eVar 0) "functions") (eFld cs_relations (eVar 0) "relations") (dAdd false))) (gtTup [(gtName 3), (gtName 4)]) (sSeq (sAsg (eBin (eApp [(eFld cs_table (eVar 0) "table")] (b1 lenG)) (eApp [(eFld cs_functions (eVar 0) "functions")] (b1 lenG)) dLt) (gtName 5))
  (sSeq (sIf (tOrM (eTst (eBin (eVar 3) (eFld cs_table (eVar 0) "table") dIn)) (tNotM (tIfM (eTru (eVar 5)) (eTru (eCall [(eVar 3)] [] F_is_small_name)) (eTru (eCall [(eVar 3)] [] F_is_capital_name))))) sNever sSkip)
  (sSeq (sIf (tNotM (eTst (eChain (eC (.int 0)) (eVar 4) (eC c_MOST_ARGUMENTS) dLe dLe))) sNever sSkip)
  (sSetIx (eFld cs_table (eVar 0) "table") (eVar 3) (eVar 4)))))))))
noncomputable def F_Signature___init__ : List D → Sto → R D := runL 6 B_Signature___init__
noncomputable def B_Signature_extended : SM := (sRet (eNew "Signature" [(eBin (eFld cs_functions (eVar 0) "functions") (eApp [(eVar 1)] (dTuple)) (dAdd false)), (eFld cs_relations (eVar 0) "relations")] [] F_Signature___init__))
noncomputable def F_Signature_extended : List D → Sto → R D := runV 2 B_Signature_extended
noncomputable def B_named_signature : SM := (sSeq (sIf (eTru (eMc "Signature" "constants" (eVar 0) [] [] F_Signature_constants)) (sRet (eVar 0)) sSkip)
  (sSeq (sAsg (eLc false (iVal (eBin (eFld cs_functions (eVar 0) "functions") (eFld cs_relations (eVar 0) "relations") (dAdd false))) (gtTup [(gtName 2), (gtName 3)]) tYesM (eVar 2) [2, 3]) (gtName 1))
  (sRet (eMc "Signature" "extended" (eVar 0) [(eApp [(eApp [(eCall [(eC (.str [99])), (eVar 1)] [] F_fresh_name), (eC (.int 0))] dTup)] (dLst false))] [] F_Signature_extended))))
noncomputable def F_named_signature : List D → Sto → R D := runV 4 B_named_signature
noncomputable def B_rows_of : SM := (sSeq (sAsg (eApp [(eApp [] dTup)] (dLst false)) (gtName 2))
  (sSeq (sFor (iRange [(eVar 1)]) (gtName 3) (sAsg (eLc2 false (iVal (eVar 2)) (gtName 4) tYesM (iVal (eVar 0)) (gtName 5) tYesM (eBin (eVar 4) (eApp [(eVar 5)] dTup) (dAdd false)) [4, 5] [5]) (gtName 2)))
  (sRet (eVar 2))))
noncomputable def F_rows_of : List D → Sto → R D := runV 6 B_rows_of
noncomputable def B_closed_terms : SM := (sSeq (sAsg (eLc true (iVal (eMc "Signature" "constants" (eVar 0) [] [] F_Signature_constants)) (gtName 2) tYesM (eApp [(eVar 2)] dTup) [2]) (gtName 3))
  (sSeq (sFor (iRange [(eVar 1)]) (gtName 4) (sSeq (sAsg (eApp [(eVar 3)] (dList true)) (gtName 5))
  (sSeq (sFor (iVal (eFld cs_functions (eVar 0) "functions")) (gtTup [(gtName 2), (gtName 6)]) (sIf (eTst (eBin (eVar 6) (eC (.int 0)) dGt)) (sSeq (sAsg (eLc false (iVal (eCall [(eVar 3), (eVar 6)] [] F_rows_of)) (gtName 8) tYesM (eBin (eApp [(eVar 2)] dTup) (eVar 8) (dAdd false)) [8]) (gtName 7))
  (sExpr (eMeth (eVar 5) [(eLc false (iVal (eVar 7)) (gtName 9) (eTst (eBin (eVar 9) (eVar 3) dNotIn)) (eVar 9) [9])] mExtend))) sSkip))
  (sAsg (eVar 5) (gtName 3)))))
  (sRet (eVar 3))))
noncomputable def F_closed_terms : List D → Sto → R D := runF 10 B_closed_terms
noncomputable def B__law_start : SM := (sSeq (sAsg (eApp [] (dLst true)) (gtName 1))
  (sSeq (sAsg (eC (.int 17)) (gtName 2))
  (sSeq (sFor (iRange [(eApp [(eVar 0)] (b1 lenG))]) (gtName 3) (sSeq (sAsg (eApp [(eBin (eVar 0) (eVar 3) dIx)] (b1 absG)) (gtName 4))
  (sSeq (sAsg (eBin (eApp [(eBin (eBin (eBin (eVar 2) (eC (.int 31)) dMul) (eVar 4) (dAdd false)) (eVar 3) (dAdd false))] (b1 intG)) (eC (.int 2147483647)) dMod) (gtName 2))
  (sIf (eTst (eBin (eVar 4) (eBin (eC (.int 10)) (eC (.int 18)) dPow) dGe)) (sSeq (sAsg (eBin (eVar 4) (eBin (eC (.int 10)) (eC (.int 18)) dPow) dSub) (gtName 4))
  (sFor (iRange [(eC (.int 60))]) (gtName 5) (sIf (eTst (eBin (eVar 4) (eC (.int 0)) dGt)) (sSeq (sExpr (eMeth (eVar 1) [(eBin (eApp [(eVar 4)] (b1 intG)) (eC (.int 840)) dMod)] mAppend))
  (sAsg (eBin (eVar 4) (eC (.int 840)) dDiv) (gtName 4))) sSkip))) (sSeq (sAsg (eBin (eApp [(eBin (eBin (eBin (eVar 4) (eC (.int 1)) (dAdd false)) (eC (.int 48271)) dMul) (eBin (eVar 3) (eC (.int 69621)) dMul) (dAdd false))] (b1 intG)) (eC (.int 2147483647)) dMod) (gtName 6))
  (sSeq (sAsg (eBin (eApp [(eBin (eBin (eVar 6) (eC (.int 40692)) dMul) (eC (.int 5)) (dAdd false))] (b1 intG)) (eC (.int 2147483399)) dMod) (gtName 6))
  (sExpr (eMeth (eVar 1) [(eBin (eBin (eVar 6) (eC (.int 13)) dDiv) (eC (.int 840)) dMod)] mAppend))))))))
  (sRet (eApp [(eVar 1), (eC (.int 0)), (eVar 2)] (dLst true))))))
noncomputable def F__law_start : List D → Sto → R D := runF 7 B__law_start
noncomputable def B__law_take : SM := (sSeq (sAsg (eBin (eVar 0) (eC (.int 1)) dIx) (gtName 2))
  (sSeq (sSetIx (eVar 0) (eC (.int 1)) (eBin (eVar 2) (eC (.int 1)) (dAdd false)))
  (sSeq (sIf (eTst (eBin (eVar 2) (eApp [(eBin (eVar 0) (eC (.int 0)) dIx)] (b1 lenG)) dLt)) (sRet (eBin (eApp [(eBin (eBin (eVar 0) (eC (.int 0)) dIx) (eVar 2) dIx)] (b1 intG)) (eVar 1) dMod)) sSkip)
  (sSeq (sAsg (eBin (eApp [(eBin (eBin (eBin (eVar 0) (eC (.int 2)) dIx) (eBin (eVar 2) (eC (.int 40503)) dMul) (dAdd false)) (eC (.int 48271)) dMul)] (b1 intG)) (eC (.int 2147483647)) dMod) (gtName 3))
  (sSeq (sAsg (eBin (eApp [(eBin (eBin (eVar 3) (eC (.int 69621)) dMul) (eBin (eVar 2) (eVar 2) dMul) (dAdd false))] (b1 intG)) (eC (.int 2147483629)) dMod) (gtName 3))
  (sRet (eBin (eBin (eVar 3) (eC (.int 11)) dDiv) (eVar 1) dMod)))))))
noncomputable def F__law_take : List D → Sto → R D := runV 4 B__law_take
noncomputable def B__law_tuples : SM := (sSeq (sAsg (eApp [(eApp [] dTup)] (dLst false)) (gtName 2))
  (sSeq (sFor (iRange [(eVar 1)]) (gtName 3) (sSeq (sAsg (eApp [] (dLst false)) (gtName 4))
  (sSeq (sFor (iVal (eVar 2)) (gtName 5) (sAsg (eBin (eVar 4) (eLc false (iVal (eVar 0)) (gtName 6) tYesM (eBin (eVar 5) (eApp [(eVar 6)] dTup) (dAdd false)) [6]) (dAdd false)) (gtName 4)))
  (sAsg (eVar 4) (gtName 2)))))
  (sRet (eVar 2))))
noncomputable def F__law_tuples : List D → Sto → R D := runV 7 B__law_tuples
noncomputable def B__law_closed : SM := (sSeq (sAsg (eLc false (iVal (eVar 0)) (gtTup [(gtName 2), (gtName 3)]) (eTst (eBin (eVar 3) (eC (.int 0)) dEq)) (eApp [(eVar 2)] dTup) [2, 3]) (gtName 4))
  (sSeq (sFor (iRange [(eVar 1)]) (gtName 5) (sSeq (sAsg (eApp [(eVar 4)] (dList true)) (gtName 6))
  (sSeq (sFor (iVal (eVar 0)) (gtTup [(gtName 2), (gtName 3)]) (sIf (eTst (eBin (eVar 3) (eC (.int 0)) dGt)) (sFor (iVal (eCall [(eVar 4), (eVar 3)] [] F__law_tuples)) (gtName 7) (sIf (eTst (eBin (eBin (eApp [(eVar 2)] dTup) (eVar 7) (dAdd false)) (eVar 4) dNotIn)) (sExpr (eMeth (eVar 6) [(eBin (eApp [(eVar 2)] dTup) (eVar 7) (dAdd false))] mAppend)) sSkip)) sSkip))
  (sAsg (eVar 6) (gtName 4)))))
  (sRet (eVar 4))))
noncomputable def F__law_closed : List D → Sto → R D := runV 8 B__law_closed
noncomputable def B_law : SM := (sSeq (sAsg (eCall [(eVar 0)] [] F__law_start) (gtName 1))
  (sSeq (sAsg (eSl false (eApp [(eC (.str [97])), (eC (.str [99, 51])), (eC (.str [122, 101, 114, 111]))] (dLst false)) oNone (oSome (eCall [(eVar 1), (eC (.int 4))] [] F__law_take))) (gtName 2))
  (sSeq (sAsg (eApp [] (dLst true)) (gtName 3))
  (sSeq (sFor (iVal (eVar 2)) (gtName 4) (sExpr (eMeth (eVar 3) [(eCall [(eVar 1), (eBin (eApp [(eVar 3)] (b1 lenG)) (eC (.int 1)) (dAdd false))] [] F__law_take), (eApp [(eVar 4), (eC (.int 0))] dTup)] mInsert)))
  (sSeq (sAsg (eBin (eApp [(eApp [(eC (.str [102])), (eC (.str [99, 50]))] (dLst false)), (eApp [(eC (.str [99, 49])), (eC (.str [99, 50]))] (dLst false)), (eApp [(eC (.str [99, 50])), (eC (.str [99, 49]))] (dLst false))] (dLst false)) (eCall [(eVar 1), (eC (.int 3))] [] F__law_take) dIx) (gtName 5))
  (sSeq (sFor (iVal (eSl false (eVar 5) oNone (oSome (eCall [(eVar 1), (eC (.int 3))] [] F__law_take)))) (gtName 4) (sExpr (eMeth (eVar 3) [(eCall [(eVar 1), (eBin (eApp [(eVar 3)] (b1 lenG)) (eC (.int 1)) (dAdd false))] [] F__law_take), (eApp [(eVar 4), (eBin (eC (.int 1)) (eCall [(eVar 1), (eC (.int 3))] [] F__law_take) (dAdd false))] dTup)] mInsert)))
  (sSeq (sAsg (eSl false (eApp [(eApp [(eC (.str [80])), (eC (.int 1))] dTup), (eApp [(eC (.str [67, 49])), (eC (.int 0))] dTup)] (dLst false)) oNone (oSome (eCall [(eVar 1), (eC (.int 3))] [] F__law_take))) (gtName 6))
  (sSeq (sAsg (eNew "Signature" [(eApp [(eVar 3)] (dList false)), (eApp [(eVar 6)] (dList false))] [] F_Signature___init__) (gtName 7))
  (sSeq (sAsg (eCall [(eVar 7)] [] F_named_signature) (gtName 8))
  (sSeq (sAsg (eApp [(eVar 3)] (dList true)) (gtName 9))
  (sSeq (sIf (eTst (eBin (eApp [(eVar 2)] (b1 lenG)) (eC (.int 0)) dEq)) (sSeq (sAsg (eC (.int 1)) (gtName 10))
  (sSeq (sAsg (eLc false (iVal (eVar 3)) (gtTup [(gtName 4), (gtName 16)]) tYesM (eVar 4) [4, 16]) (gtName 11))
  (sSeq (sFor (iRange [(eC (.int 3))]) (gtName 12) (sIf (eTst (eBin (eBin (eC (.str [99])) (eApp [(eVar 10)] (b1 strG)) (dAdd false)) (eVar 11) dIn)) (sAsg (eBin (eVar 10) (eC (.int 1)) (dAdd false)) (gtName 10)) sSkip))
  (sExpr (eMeth (eVar 9) [(eApp [(eBin (eC (.str [99])) (eApp [(eVar 10)] (b1 strG)) (dAdd false)), (eC (.int 0))] dTup)] mAppend))))) sSkip)
  (sSeq (sIf (tOrM (eTst (eBin (eFld cs_functions (eVar 8) "functions") (eApp [(eVar 9)] (dTuple)) dNe)) (eTst (eBin (eFld cs_relations (eVar 8) "relations") (eApp [(eVar 6)] (dTuple)) dNe))) (sRet (eC (.bl false))) sSkip)
  (sSeq (sIf (eTst (eBin (eFld cs_functions (eVar 7) "functions") (eApp [(eVar 3)] (dTuple)) dNe)) (sRet (eC (.bl false))) sSkip)
  (sSeq (sAsg (eApp [(eLc false (iVal (eVar 9)) (gtTup [(gtName 4), (gtName 16)]) tYesM (eVar 16) [4, 16])] ((fun ds S => match ds with
    | [_, _] => b2 max2G ds S
    | ds => b1 maxG ds S))) (gtName 13))
  (sSeq (sAsg (eCall [(eVar 1), (eC (.int 3))] [] F__law_take) (gtName 14))
  (sSeq (sIf (tOrM (eTst (eBin (eVar 13) (eC (.int 3)) dEq)) (tAndM (eTst (eBin (eVar 13) (eC (.int 2)) dEq)) (eTst (eBin (eApp [(eVar 9)] (b1 lenG)) (eC (.int 3)) dGt)))) (sAsg (eApp [(eVar 14), (eC (.int 1))] (b2 min2G)) (gtName 14)) sSkip)
  (sSeq (sAsg (eCall [(eVar 8), (eVar 14)] [] F_closed_terms) (gtName 15))
  (sSeq (sIf (tOrM (tNotM (eTru (eIsT "list" (eVar 15)))) (eTst (eBin (eVar 15) (eCall [(eVar 9), (eVar 14)] [] F__law_closed) dNe))) (sRet (eC (.bl false))) sSkip)
  (sSeq (sExpr (eMeth (eVar 15) [(eApp [(eC (.str [97]))] dTup)] mAppend))
  (sRet (eAndV (eBin (eCall [(eVar 8), (eVar 14)] [] F_closed_terms) (eCall [(eVar 9), (eVar 14)] [] F__law_closed) dEq) (eBin (eCall [(eVar 7), (eC (.int 0))] [] F_closed_terms) (eLc false (iVal (eVar 3)) (gtTup [(gtName 4), (gtName 16)]) (eTst (eBin (eVar 16) (eC (.int 0)) dEq)) (eApp [(eVar 4)] dTup) [4, 16]) dEq))))))))))))))))))))))
noncomputable def F_law : List D → Sto → R D := runV 17 B_law
end K75

/-! K75a: names. -/
namespace K75
open PySem PySem.Spec PyProof.Rows L2 Mi
/-- the law's small names: a c3 zero f c2 c1 -/
def smalls : List (List Nat) := [[97], [99, 51], [122, 101, 114, 111], [102], [99, 50], [99, 49]]
def caps : List (List Nat) := [[80], [67, 49]]
def reserved : List (List Nat) := [[97, 108, 108], [115, 111, 109, 101], [110, 111, 116], [97, 110, 100], [111, 114], [105, 109, 112, 108, 105, 101, 115], [105, 102, 102], [116, 114, 117, 101], [102, 97, 108, 115, 101]]
theorem res_ok {nm : List Nat} {S : Sto} : dNotIn (.str nm) c_RESERVED S = .ok (.bl (!decide (nm ∈ reserved))) S := x_ninStrs rfl
theorem small_ok {nm : List Nat} (h : nm ∈ smalls) (S : Sto) : F_is_small_name [.str nm] S = .ok (.bl true) S := by
  have hs : ∀ T : Sto, F_has_name_signs [.str nm] T = .ok (.bl true) T := fun T => by
    refine runV_pure ?_
    simp only [smalls, List.mem_cons, List.not_mem_nil, or_false] at h
    rcases h with rfl | rfl | rfl | rfl | rfl | rfl <;> simp [B_has_name_signs, initE, List.replicate, c_LONGEST, c_SMALL, c_CAPITAL, c_DIGITS]
  refine runV_pure ?_
  simp only [smalls, List.mem_cons, List.not_mem_nil, or_false] at h
  rcases h with rfl | rfl | rfl | rfl | rfl | rfl <;> simp [B_is_small_name, initE, List.replicate, hs, res_ok, reserved, c_SMALL]
theorem cap_ok {nm : List Nat} (h : nm ∈ caps) (S : Sto) : F_is_capital_name [.str nm] S = .ok (.bl true) S := by
  have hs : ∀ T : Sto, F_has_name_signs [.str nm] T = .ok (.bl true) T := fun T => by
    refine runV_pure ?_
    simp only [caps, List.mem_cons, List.not_mem_nil, or_false] at h
    rcases h with rfl | rfl <;> simp [B_has_name_signs, initE, List.replicate, c_LONGEST, c_SMALL, c_CAPITAL, c_DIGITS]
  refine runV_pure ?_
  simp only [caps, List.mem_cons, List.not_mem_nil, or_false] at h
  rcases h with rfl | rfl <;> simp [B_is_capital_name, initE, List.replicate, hs, c_CAPITAL]
end K75

/-! K75b: the signature is made. -/
namespace K75
open PySem PySem.Spec PyProof.Rows L2 Mi
abbrev Fn := List Nat × Nat
def pr (p : Fn) : D := .tup [.str p.1, .int p.2]
def ky (s : List Nat) : Key := .inr ⟨s.toArray⟩
theorem ky_inj {a b : List Nat} (h : ky a = ky b) : a = b := by
  have h1 : (⟨a.toArray⟩ : Str) = ⟨b.toArray⟩ := Sum.inr.inj h
  have h2 : a.toArray = b.toArray := congrArg Str.cps h1
  exact congrArg Array.toList h2
@[simp] theorem x_gtT {S : Sto} {ρ : Mi.Env} {i j : Nat} {a b : D} : gtTup [gtName i, gtName j] (.tup [a, b]) ρ S = some ((ρ.set i (some a)).set j (some b)) := (rfl)
theorem x_lenD {S : Sto} {n : Nat} {kvs : List (Key × D)} (h : S.get n = some (.dic kvs)) : lenG S (.ref n) = some (.int kvs.length) := by
  unfold lenG lenS; simp only [h]; rfl
theorem x_inD {S : Sto} {n : Nat} {kvs : List (Key × D)} {s : List Nat} (h : S.get n = some (.dic kvs)) : dIn (.str s) (.ref n) S = .ok (.bl (valD kvs (ky s)).isSome) S := by
  unfold dIn inS
  simp only [dicS, h, keyD]
  rfl
/-- the table behind the pairs l -/
def tab (l : List Fn) : List (Key × D) := l.map fun p => (ky p.1, .int p.2)
theorem tab_no {l : List Fn} {s : List Nat} (h : s ∉ l.map (·.1)) : valD (tab l) (ky s) = none := by
  unfold valD tab
  rw [List.find?_eq_none.mpr, Option.map_none]
  intro q hq
  obtain ⟨p, hp, rfl⟩ := List.mem_map.mp hq
  simp only [decide_eq_true_eq]
  exact fun e => h (List.mem_map.mpr ⟨p, hp, ky_inj e⟩)
theorem put_no {l : List Fn} {p : Fn} (h : p.1 ∉ l.map (·.1)) : putD (tab l) (ky p.1) (.int p.2) = tab (l ++ [p]) := by
  unfold putD
  rw [if_neg]
  · simp [tab]
  · intro hh
    obtain ⟨q, hq, e⟩ := List.any_eq_true.mp hh
    obtain ⟨p', hp, rfl⟩ := List.mem_map.mp hq
    exact h (List.mem_map.mpr ⟨p', hp, ky_inj (by simpa using e)⟩)
def sg (fs rs : List Fn) (t : D) : List (Str × D) := [("functions", .tup (fs.map pr)), ("relations", .tup (rs.map pr)), ("table", t)]
structure Okf (fs rs : List Fn) : Prop where
  sm : ∀ p ∈ fs, p.1 ∈ smalls
  ca : ∀ p ∈ rs, p.1 ∈ caps
  nd : ((fs ++ rs).map (·.1)).Nodup
  ar : ∀ p ∈ fs ++ rs, p.2 ≤ 3
  ln : fs.length + rs.length ≤ 1000
theorem mk_list {S : Sto} {fl : D} {l : List Fn} {ρ : Mi.Env} {i : Nat} (h : itS S fl = some (l.map pr, none)) (hl : l.length ≤ 1000) (hρ : ρ[i]? = some (some fl)) (h5 : 4 < ρ.length) :
    eApp [(eLc false (iVal (eVar i)) (gtTup [(gtName 3), (gtName 4)]) tYesM (eApp [(eVar 3), (eVar 4)] dTup) [3, 4])] dTuple ρ S = .ok (.tup (l.map pr)) S := by
  have e := lcN_map (g := gtTup [gtName 3, gtName 4]) (f := eApp [eVar 3, eVar 4] dTup) (src := none) (all := l.map pr) (S := S) (ρ := wipeE ρ [3, 4]) (k := id) okSrc_none (l.map pr) [] (by have := big; simp; omega) (fun x hx => by
    obtain ⟨p, _, rfl⟩ := List.mem_map.mp hx
    have hlen : (wipeE ρ [3, 4]).length = ρ.length := by simp [wipeE]
    refine ⟨_, x_gtT, ?_⟩
    have h4 : (((wipeE ρ [3, 4]).set 3 (some (.str p.1))).set 4 (some (.int p.2)))[4]? = some (some (.int p.2)) := by rw [List.getElem?_set_self (by rw [List.length_set, hlen]; exact h5)]
    have h3 : (((wipeE ρ [3, 4]).set 3 (some (.str p.1))).set 4 (some (.int p.2)))[3]? = some (some (.str p.1)) := by rw [List.getElem?_set_ne (by omega), List.getElem?_set_self (by rw [hlen]; omega)]
    simp [h3, h4, pr])
  simp at e
  simp [hρ, h, e, dTuple, seqS, lstS]
end K75

/-! K75c: Signature.__init__. -/
namespace K75
open PySem PySem.Spec PyProof.Rows L2 Mi
theorem e1 : (("table" : Str) == ("functions" : Str)) = false := by decide +kernel
theorem e2 : (("table" : Str) == ("relations" : Str)) = false := by decide +kernel
theorem e3 : (("relations" : Str) == ("functions" : Str)) = false := by decide +kernel
theorem sg_t {fs rs : List Fn} {t : D} : (sg fs rs t).lookup ("table" : Str) = some t := by
  unfold sg
  simp [List.lookup_cons, e1, e2]
theorem sg_f {fs rs : List Fn} {t : D} : (sg fs rs t).lookup ("functions" : Str) = some (.tup (fs.map pr)) := by
  unfold sg
  simp [List.lookup_cons]
theorem sg_r {fs rs : List Fn} {t : D} : (sg fs rs t).lookup ("relations" : Str) = some (.tup (rs.map pr)) := by
  unfold sg
  simp [List.lookup_cons, e3]
noncomputable def bTab : SM := (sSeq (sAsg (eBin (eApp [(eFld cs_table (eVar 0) "table")] (b1 lenG)) (eApp [(eFld cs_functions (eVar 0) "functions")] (b1 lenG)) dLt) (gtName 5))
  (sSeq (sIf (tOrM (eTst (eBin (eVar 3) (eFld cs_table (eVar 0) "table") dIn)) (tNotM (tIfM (eTru (eVar 5)) (eTru (eCall [(eVar 3)] [] F_is_small_name)) (eTru (eCall [(eVar 3)] [] F_is_capital_name))))) sNever sSkip)
  (sSeq (sIf (tNotM (eTst (eChain (eC (.int 0)) (eVar 4) (eC c_MOST_ARGUMENTS) dLe dLe))) sNever sSkip)
  (sSetIx (eFld cs_table (eVar 0) "table") (eVar 3) (eVar 4)))))
theorem tab_step {fs rs l r : List Fn} {p : Fn} {S : Sto} {n : Nat} {fl rl : D} {o5 : Option D} (O : Okf fs rs) (hn : n < S.new) (ht : S.old.length ≤ n) (hl : fs ++ rs = l ++ p :: r) :
    ∃ o5', bTab [some (.ref n), some fl, some rl, some (.str p.1), some (.int p.2), o5] ((S.set n (.ins "Signature" (sg fs rs (.ref S.new)))).add (.dic (tab l))) =
      .nx [some (.ref n), some fl, some rl, some (.str p.1), some (.int p.2), o5'] ((S.set n (.ins "Signature" (sg fs rs (.ref S.new)))).add (.dic (tab (l ++ [p])))) := by
  let T0 := S.set n (.ins "Signature" (sg fs rs (.ref S.new)))
  have hnew : T0.new = S.new := new_set
  let T := T0.add (.dic (tab l))
  have g1 : T.get n = some (.ins "Signature" (sg fs rs (.ref S.new))) := by
    show (T0.add _).get n = _
    rw [get_add_lt (by rw [hnew]; exact hn)]; exact get_set hn
  have g2 : T.get S.new = some (.dic (tab l)) := by rw [← hnew]; exact get_add
  have hp : p ∈ fs ++ rs := by rw [hl]; simp
  have hno : p.1 ∉ l.map (·.1) := by
    have := O.nd
    rw [hl, List.map_append, List.nodup_append] at this
    exact fun h => this.2.2 _ h _ List.mem_cons_self rfl
  have hlen : l.length < fs.length + rs.length := by
    have := congrArg List.length hl
    simp at this; omega
  have hbig := big
  have hset : setS T (.ref S.new) (.str p.1) (.int p.2) = some (T0.add (.dic (tab (l ++ [p])))) := by
    rw [x_setD (q := ky p.1) g2 rfl (by have := O.ln; simp [tab]; omega) (may_new (by
      show (T0.add _).old.length ≤ _
      show T0.old.length ≤ _
      rw [Sto.set_old]; unfold Sto.new; omega)), put_no hno]
    show some ((T0.add _).set S.new _) = _
    rw [← hnew, add_set_new]
  have hin : valD (tab l) (ky p.1) = none := tab_no hno
  have har := O.ar p hp
  have hcase : (l.length < fs.length ∧ p.1 ∈ smalls) ∨ (¬ l.length < fs.length ∧ p.1 ∈ caps) := by
    have h1 : (fs ++ rs)[l.length]? = some p := by rw [hl]; simp
    by_cases q : l.length < fs.length
    · rw [List.getElem?_append_left q] at h1
      exact .inl ⟨q, O.sm p (List.mem_of_getElem? h1)⟩
    · rw [List.getElem?_append_right (by omega)] at h1
      exact .inr ⟨q, O.ca p (List.mem_of_getElem? h1)⟩
  have h3 : (p.2 : Int) ≤ 3 := by omega
  have htl : (tab l).length = l.length := by simp [tab]
  have gi := insS_ref g1
  refine ⟨some (.bl (decide (l.length < fs.length))), ?_⟩
  show bTab _ T = .nx _ (T0.add _)
  rcases hcase with ⟨q1, q2⟩ | ⟨q1, q2⟩
  · unfold bTab
    simp [gi, cs_table, cs_functions, x_lenD g2, x_inD g2, hin, q1, small_ok q2, c_MOST_ARGUMENTS, h3, hset, htl, sg_t, sg_f]
  · unfold bTab
    simp [gi, cs_table, cs_functions, x_lenD g2, x_inD g2, hin, q1, cap_ok q2, c_MOST_ARGUMENTS, h3, hset, htl, sg_t, sg_f]
end K75

/-! K75d: Signature.__init__, whole. -/
namespace K75
open PySem PySem.Spec PyProof.Rows L2 Mi
theorem runL_nx {n : Nat} {b : SM} {ds : List D} {ρ : Mi.Env} {S S' : Sto} (h : b (initE n ds) S = .nx ρ S') : runL n b ds S = .ok .non S' := by
  unfold runL
  rw [h]
theorem tab_loop {fs rs : List Fn} {S : Sto} {n : Nat} {fl rl : D} (O : Okf fs rs) (hn : n < S.new) (ht : S.old.length ≤ n) {o3 o4 o5 : Option D} :
    ∃ ρ', sForN (gtTup [gtName 3, gtName 4]) bTab none ((fs ++ rs).map pr) ((fs ++ rs).map pr) [some (.ref n), some fl, some rl, o3, o4, o5] ((S.set n (.ins "Signature" (sg fs rs (.ref S.new)))).add (.dic [])) =
      .nx ρ' ((S.set n (.ins "Signature" (sg fs rs (.ref S.new)))).add (.dic (tab (fs ++ rs)))) := by
  obtain ⟨ρ', S', e, l, r, o3', o4', o5', h1, h2, rfl, h4⟩ := forN_nx (g := gtTup [gtName 3, gtName 4]) (f := bTab) (src := none) (all := (fs ++ rs).map pr)
    (fun xs ρ T => ∃ (l r : List Fn) (o3 o4 o5 : Option D), fs ++ rs = l ++ r ∧ xs = r.map pr ∧ ρ = [some (.ref n), some fl, some rl, o3, o4, o5] ∧ T = (S.set n (.ins "Signature" (sg fs rs (.ref S.new)))).add (.dic (tab l)))
    (fun _ _ _ _ => trivial) (fun x xs ρ T h => by
      obtain ⟨l, r, o3, o4, o5, h1, h2, rfl, rfl⟩ := h
      cases r with
      | nil => cases h2
      | cons p r =>
        cases h2
        obtain ⟨o5', e⟩ := tab_step (fl := fl) (rl := rl) (o5 := o5) O hn ht h1
        exact ⟨_, rfl, _, _, .inl e, l ++ [p], r, some (.str p.1), some (.int p.2), o5', by rw [h1]; simp, rfl, rfl, rfl⟩)
    ((fs ++ rs).map pr) [some (.ref n), some fl, some rl, o3, o4, o5] ((S.set n (.ins "Signature" (sg fs rs (.ref S.new)))).add (.dic [])) ⟨[], fs ++ rs, o3, o4, o5, rfl, rfl, rfl, rfl⟩
  have hr : r = [] := by cases r with
    | nil => rfl
    | cons _ _ => cases h2
  subst hr
  rw [List.append_nil] at h1
  refine ⟨[some (.ref n), some fl, some rl, o3', o4', o5'], ?_⟩
  rw [e, h4, h1]
theorem init_ok {fs rs : List Fn} {S : Sto} {n : Nat} {fl rl : D} (O : Okf fs rs) (hg : S.get n = some (.ins "Signature" [])) (ht : S.old.length ≤ n) (hf : ∀ T, itS T fl = some (fs.map pr, none)) (hr : ∀ T, itS T rl = some (rs.map pr, none)) :
    F_Signature___init__ [.ref n, fl, rl] S = .ok .non ((S.set n (.ins "Signature" (sg fs rs (.ref S.new)))).add (.dic (tab (fs ++ rs)))) := by
  have hn := get_lt hg
  have hbig := big
  have hln := O.ln
  let s1 : List (Str × D) := [("functions", .tup (fs.map pr))]
  let s2 : List (Str × D) := [("functions", .tup (fs.map pr)), ("relations", .tup (rs.map pr))]
  let c1 : Cell := .ins "Signature" s1
  let c2 : Cell := .ins "Signature" s2
  let c3 : Cell := .ins "Signature" (sg fs rs (.ref S.new))
  have g1 : (S.set n c1).get n = some c1 := get_set hn
  have a1 : setA cs_functions S (.ref n) "functions" (.tup (fs.map pr)) = some (S.set n c1) := setA_ok hg (by decide +kernel) (by simp) (may_new ht)
  have p2 : putA "relations" (.tup (rs.map pr)) s1 = s2 := by
    show putA "relations" _ [(("functions" : Str), D.tup (fs.map pr))] = s2
    unfold putA
    rw [if_neg (by decide +kernel)]
    rfl
  have a2 : setA cs_relations (S.set n c1) (.ref n) "relations" (.tup (rs.map pr)) = some (S.set n c2) := by
    rw [setA_ok g1 (by decide +kernel) (by show 1 < 1000; decide) (may_new (by rw [Sto.set_old]; exact ht)), p2, set_set]
  have g2 : ((S.set n c2).add (.dic [])).get n = some c2 := by rw [get_add_lt (by rw [new_set]; exact hn)]; exact get_set hn
  have p3 : putA "table" (.ref S.new) s2 = sg fs rs (.ref S.new) := by
    show putA "table" _ [(("functions" : Str), D.tup (fs.map pr)), (("relations" : Str), D.tup (rs.map pr))] = _
    unfold putA
    rw [if_neg (by decide +kernel)]
    unfold putA
    rw [if_neg (by decide +kernel)]
    rfl
  have a3 : setA cs_table ((S.set n c2).add (.dic [])) (.ref n) "table" (.ref S.new) = some ((S.set n c3).add (.dic [])) := by
    rw [setA_ok g2 (by decide +kernel) (by show 2 < 1000; decide) (may_new (by show (S.set n c2).old.length ≤ n; rw [Sto.set_old]; exact ht)), p3, add_set_lt (by rw [new_set]; exact hn), set_set]
  have g3 : insS ((S.set n c3).add (.dic [])) (.ref n) = some (("Signature" : Str), sg fs rs (.ref S.new)) := insS_ref (by rw [get_add_lt (by rw [new_set]; exact hn)]; exact get_set hn)
  have m1 := mk_list (S := S) (fl := fl) (l := fs) (ρ := [some (.ref n), some fl, some rl, none, none, none]) (i := 1) (hf S) (by omega) rfl (by simp)
  have m2 := mk_list (S := S.set n c1) (fl := rl) (l := rs) (ρ := [some (.ref n), some fl, some rl, none, none, none]) (i := 2) (hr _) (by omega) rfl (by simp)
  obtain ⟨ρ', el⟩ := tab_loop (fs := fs) (rs := rs) (fl := fl) (rl := rl) (o3 := none) (o4 := none) (o5 := none) O hn ht
  have hin : ("Signature" : Str) ∈ cs_functions := by decide +kernel
  have hin2 : ("Signature" : Str) ∈ cs_relations := by decide +kernel
  refine runL_nx (ρ := ρ') ?_
  have hadd : (fs.map pr).length + (rs.map pr).length ≤ sizeLine := by simp; omega
  have hadd' : fs.length + rs.length ≤ sizeLine := by omega
  unfold bTab at el
  rw [List.map_append] at el
  simp only [B_Signature___init__, x_seq, x_setA, initE, List.map_cons, List.map_nil, List.length_cons, List.length_nil, List.replicate, List.cons_append, List.nil_append, m1, m2, x_bindS_ok, x_var, List.getElem?_cons_zero, a1, a2]
  simp [new_set, a3, g3, hin, hin2, sg_f, sg_r, hadd']
  exact el
end K75

/-! K75e: constants, a signature made and extended. -/
namespace K75
open PySem PySem.Spec PyProof.Rows L2 Mi
def SigD (S : Sto) (d : D) (fs rs : List Fn) : Prop := ∃ t, insS S d = some (("Signature" : Str), sg fs rs t)
def consts (fs : List Fn) : List (List Nat) := (fs.filter fun p => decide (p.2 = 0)).map (·.1)
theorem SigD.push {S : Sto} {d : D} {fs rs : List Fn} (h : SigD S d fs rs) : SigD S.push d fs rs := by
  obtain ⟨t, h⟩ := h
  refine ⟨t, ?_⟩
  rw [← h]; unfold insS; simp only [get_push]
theorem filt_pr (fs : List Fn) (p : Fn → Bool) (k : Fn → D) (P : D → Bool) (Kk : D → D) (hp : ∀ a, P (pr a) = p a) (hk : ∀ a, Kk (pr a) = k a) : ((fs.map pr).filter P).map Kk = (fs.filter p).map k := by
  induction fs with
  | nil => rfl
  | cons a r ih =>
    simp only [List.map_cons, List.filter_cons, hp]
    split <;> simp [ih, hk]
theorem constants_ok {S : Sto} {d : D} {fs rs : List Fn} (h : SigD S d fs rs) (hl : fs.length ≤ 1000) : F_Signature_constants [d] S = .ok (.lst ((consts fs).map .str)) S := by
  obtain ⟨t, h⟩ := h.push
  have hin : ("Signature" : Str) ∈ cs_functions := by decide +kernel
  let P : D → Bool := fun x => match x with
    | .tup [_, .int a] => decide (a = 0)
    | _ => false
  let Kk : D → D := fun x => match x with
    | .tup [n, _] => n
    | _ => .non
  have e := lcN_filt (gt := gtTup [gtName 1, gtName 2]) (t := eTst (eBin (eVar 2) (eC (.int 0)) dEq)) (f := eVar 1) (src := none) (all := fs.map pr) (S := S.push) (ρ := [some d, none, none]) (p := P) (k := Kk) okSrc_none (fs.map pr) [] (by have := big; simp; omega) (fun x hx => by
    obtain ⟨p, _, rfl⟩ := List.mem_map.mp hx
    refine ⟨_, x_gtT, ?_, fun _ => ?_⟩
    · simp [P, pr]
    · simp [Kk, pr])
  rw [filt_pr fs (fun p => decide (p.2 = 0)) (fun p => .str p.1) P Kk (fun a => by simp [P, pr]) (fun a => rfl)] at e
  refine runV_pure ?_
  simp only [List.nil_append] at e
  simp [B_Signature_constants, initE, List.replicate, h, hin, sg_f, wipeE, e, consts]
end K75

/-! K75f: a signature extended, the fresh name, the named signature. -/
namespace K75
open PySem PySem.Spec PyProof.Rows L2 Mi
theorem ltL_pr {b : Nat} (l : List Fn) : D.ltL b (l.map pr) = true := by
  induction l with
  | nil => rfl
  | cons a r ih => simpa [D.ltL, D.lt, pr] using ih
theorem ltL_str {b : Nat} (l : List (List Nat)) : D.ltL b (l.map D.str) = true := by
  induction l with
  | nil => rfl
  | cons a r ih => simpa [D.ltL, D.lt] using ih
theorem ltK_tab {b : Nat} (l : List Fn) : D.ltK b (tab l) = true := by
  induction l with
  | nil => rfl
  | cons a r ih => simpa [tab, D.ltK, D.lt] using ih
theorem fz_sig {b m n t : Nat} {S : Sto} {fs rs l : List Fn} (h1 : S.get n = some (.ins "Signature" (sg fs rs (.ref t)))) (h2 : S.get t = some (.dic (tab l))) (hn : b ≤ n) (ht : b ≤ t) (nm : n ≠ m) (tm : t ≠ m) :
    fz b m S 24 (.ref n) = some (.obj "Signature" (sg fs rs (.dic (tab l)))) := by
  have e1 : fz b m S 23 (.ref t) = some (.dic (tab l)) := by
    unfold fz
    rw [if_neg (by simp [D.lt]; omega)]
    simp only
    rw [if_neg (by omega), h2]
    simp only
    rw [mapO_id]
    · rfl
    · intro a ha
      have hl : a.2.lt b = true := by
        obtain ⟨p, _, rfl⟩ := List.mem_map.mp ha
        rfl
      rw [fz_lt hl]
      rfl
  unfold fz
  rw [if_neg (by simp [D.lt]; omega)]
  simp only
  rw [if_neg (by omega), h1]
  simp only [sg, mapO]
  rw [fz_lt (d := .tup (fs.map pr)) (by rw [D.lt]; exact ltL_pr fs), fz_lt (d := .tup (rs.map pr)) (by rw [D.lt]; exact ltL_pr rs), e1]
  rfl
theorem SigD.up {S T : Sto} {d : D} {fs rs : List Fn} (u : Up S T) (h : SigD S d fs rs) : SigD T d fs rs := by
  obtain ⟨t, h⟩ := h
  refine ⟨t, ?_⟩
  cases d with
  | ref n =>
    have hn : n < S.new := by
      unfold insS at h
      cases q : S.get n with
      | none => simp only [q] at h; cases h
      | some c => exact get_lt q
    rw [← h]
    unfold insS
    simp only [u.get hn]
  | _ => first | exact h | cases h
theorem sig_has {S : Sto} {d : D} {fs rs : List Fn} (h : SigD S d fs rs) {ρ : Mi.Env} {i : Nat} (hi : ρ[i]? = some (some d)) : eFld cs_functions (eVar i) "functions" ρ S = .ok (.tup (fs.map pr)) S ∧ eFld cs_relations (eVar i) "relations" ρ S = .ok (.tup (rs.map pr)) S := by
  obtain ⟨t, h⟩ := h
  have h1 : ("Signature" : Str) ∈ cs_functions := by decide +kernel
  have h2 : ("Signature" : Str) ∈ cs_relations := by decide +kernel
  constructor <;> simp [hi, h, h1, h2, sg_f, sg_r]
theorem extended_ok {S : Sto} {d : D} {fs rs : List Fn} {p : Fn} (h : SigD S d fs rs) (O : Okf (fs ++ [p]) rs) : F_Signature_extended [d, .lst [pr p]] S = .ok (.obj "Signature" (sg (fs ++ [p]) rs (.dic (tab (fs ++ [p] ++ rs))))) S := by
  have hp := h.push
  let T := S.push.add (.ins "Signature" [])
  have hn : S.push.new = S.new := new_push
  have hold : T.old.length = S.new := by show (S.old ++ S.top).length = _; rw [List.length_append]; rfl
  have hg : T.get S.push.new = some (.ins "Signature" []) := get_add
  have i := init_ok (S := T) (n := S.push.new) (fl := .tup ((fs ++ [p]).map pr)) (rl := .tup (rs.map pr)) O hg (by rw [hold, hn]; exact Nat.le_refl _) (fun _ => rfl) (fun _ => rfl)
  have hTn : T.new = S.new + 1 := by show (S.push.add _).new = _; rw [new_add, hn]
  let T1 := T.set S.push.new (.ins "Signature" (sg (fs ++ [p]) rs (.ref T.new)))
  have hT1 : T1.new = S.new + 1 := by show (T.set _ _).new = _; rw [new_set, hTn]
  let T2 := T1.add (.dic (tab (fs ++ [p] ++ rs)))
  have u : Up S T2 := Up.add (Up.set (Up.add Up.push) (by rw [hn]; exact Nat.le_refl _))
  have g1 : T2.get S.push.new = some (.ins "Signature" (sg (fs ++ [p]) rs (.ref T.new))) := by
    show (T1.add _).get _ = _
    rw [get_add_lt (by rw [hT1, hn]; omega)]
    exact get_set (get_lt hg)
  have g2 : T2.get T.new = some (.dic (tab (fs ++ [p] ++ rs))) := by
    have := get_add (S := T1) (c := .dic (tab (fs ++ [p] ++ rs)))
    rw [hT1, ← hTn] at this
    exact this
  have hall : T2.all.length = S.new + 2 := by
    rw [← Sto.new_all]; show (T1.add _).new = _; rw [new_add, hT1]
  have hln := O.ln
  have hbig := big
  have hpe : S.pop T2 = S := u.pop
  obtain ⟨f1, f2⟩ := sig_has hp (ρ := [some d, some (.lst [pr p])]) (i := 0) rfl
  have hcat : dAdd false (.tup (fs.map pr)) (.tup [pr p]) S.push = .ok (.tup ((fs ++ [p]).map pr)) S.push := by
    rw [x_addT, if_pos (by simp at hln ⊢; omega)]; simp
  refine (runV_give (S' := T2) (d := .ref S.push.new) (d' := .obj "Signature" (sg (fs ++ [p]) rs (.dic (tab (fs ++ [p] ++ rs))))) ?_ (fz_sig g1 g2 (by rw [hn]; exact Nat.le_refl _) (by rw [hTn]; omega) (by rw [hall, hn]; omega) (by rw [hall, hTn]; omega)) ?_).trans (by rw [hpe])
  · show B_Signature_extended [some d, some (.lst [pr p])] S.push = _
    unfold B_Signature_extended
    have hi : F_Signature___init__ [D.ref S.push.new, D.tup ((fs ++ [p]).map pr), D.tup (rs.map pr)] (S.push.add (.ins "Signature" [])) = .ok .non T2 := i
    simp only [x_ret, x_new, x_l1, x_l0, x_bin, f1, f2, x_bind_ok, x_app, x_var, List.getElem?_cons_succ, List.getElem?_cons_zero, dTuple, seqS, lstS, hcat, List.append_nil, hi, x_bindS_ok]
  · show (List.isEmpty (_ ++ [_])) = false
    simp
/-! the fresh name -/
noncomputable def fresh (l : List (List Nat)) : List Nat := if [99, 49] ∉ l then [99, 49] else if [99, 50] ∉ l then [99, 50] else [99, 51]
theorem dec1 {S : Sto} : strG S (.int 1) = some (.str [49]) := by
  unfold strG
  dsimp only
  rw [if_pos (by decide +kernel)]
  exact congrArg (fun x => some (D.str x)) (by decide +kernel)
theorem dec2 {S : Sto} : strG S (.int 2) = some (.str [50]) := by
  unfold strG
  dsimp only
  rw [if_pos (by decide +kernel)]
  exact congrArg (fun x => some (D.str x)) (by decide +kernel)
theorem dec3 {S : Sto} : strG S (.int 3) = some (.str [51]) := by
  unfold strG
  dsimp only
  rw [if_pos (by decide +kernel)]
  exact congrArg (fun x => some (D.str x)) (by decide +kernel)
theorem whN_s {t : TM} {f : SM} {n : Nat} {ρ : Mi.Env} {S : Sto} : sWhileN t f (n + 1) ρ S = (t ρ S).bindS ρ fun b S1 => if b = true then match f ρ S1 with
      | .nx ρ' S' => sWhileN t f n ρ' S'
      | .ct ρ' S' => sWhileN t f n ρ' S'
      | .bk ρ' S' => .nx ρ' S'
      | r => r
    else .nx ρ S1 := rfl
theorem while4 (t : TM) (f : SM) : ∃ n, sWhile t f = sWhileN t f (n + 4) := ⟨1099511627772, rfl⟩
theorem x_inLs {S : Sto} {s : List Nat} {l : List (List Nat)} : dIn (.str s) (.lst (l.map D.str)) S = .ok (.bl (decide (s ∈ l))) S := by
  unfold dIn
  rw [inS_pl (ys := l.map D.str) rfl (PlL_str _) (.inl (Nat.zero_le _)) _ (.inr rfl)]
  simp
theorem fresh_ok {S : Sto} {l : List (List Nat)} (h3 : [99, 51] ∉ l) : F_fresh_name [.str [99], .lst (l.map .str)] S = .ok (.str (fresh l)) S := by
  refine runV_pure ?_
  unfold B_fresh_name fresh
  obtain ⟨n, hn⟩ := while4 (eTst (eBin (eBin (eVar 0) (eApp [(eVar 2)] (b1 strG)) (dAdd false)) (eVar 1) dIn)) (sAug 2 (eC (.int 1)) dAddI)
  rw [hn]
  by_cases h1 : [99, 49] ∈ l
  · by_cases h2 : [99, 50] ∈ l
    · simp [initE, List.replicate, whN_s, sAug, dAddI, dec1, dec2, dec3, x_inLs, h1, h2, h3]
    · simp [initE, List.replicate, whN_s, sAug, dAddI, dec1, dec2, dec3, x_inLs, h1, h2, h3]
  · simp [initE, List.replicate, whN_s, sAug, dAddI, dec1, dec2, dec3, x_inLs, h1, h3]
end K75

/-! K75g: the closed terms. -/
namespace K75
open PySem PySem.Spec PyProof.Rows L2 Mi
def tups (T : List D) : Nat → List (List D)
  | 0 => [[]]
  | k + 1 => (tups T k).flatMap fun row => T.map fun t => row ++ [t]
def mk (p : Fn) (row : List D) : D := .tup (.str p.1 :: row)
noncomputable def grow1 (T : List D) (p : Fn) : List D := if 0 < p.2 then ((tups T p.2).map (mk p)).filter fun x => !decide (x ∈ T) else []
noncomputable def grow (fs : List Fn) (T : List D) : List D := T ++ fs.flatMap (grow1 T)
noncomputable def closed (fs : List Fn) : Nat → List D
  | 0 => (consts fs).map fun n => .tup [.str n]
  | k + 1 => grow fs (closed fs k)
theorem tups_len (T : List D) : ∀ k, (tups T k).length = T.length ^ k
  | 0 => rfl
  | k + 1 => by
    have : ∀ l : List (List D), (l.flatMap fun row => T.map fun t => row ++ [t]).length = l.length * T.length := fun l => by
      induction l with
      | nil => simp
      | cons a r ih => simp [ih, Nat.add_mul, Nat.add_comm]
    rw [tups, this, tups_len T k, Nat.pow_succ]
theorem tups_row {T : List D} : ∀ {k : Nat} {r : List D}, r ∈ tups T k → r.length = k ∧ ∀ t ∈ r, t ∈ T
  | 0, r, h => by
    simp [tups] at h
    subst h
    simp
  | k + 1, r, h => by
    simp only [tups, List.mem_flatMap, List.mem_map] at h
    obtain ⟨r', h1, t, h2, rfl⟩ := h
    obtain ⟨h3, h4⟩ := tups_row h1
    refine ⟨by simp [h3], fun x hx => ?_⟩
    rcases List.mem_append.mp hx with q | q
    · exact h4 x q
    · have : x = t := by simpa using q
      rw [this]; exact h2
theorem grow1_len (T : List D) (p : Fn) (h : p.2 ≤ 3) (hT : T.length ≤ 100) : (grow1 T p).length ≤ 1000000 := by
  unfold grow1
  split
  · refine Nat.le_trans (List.length_filter_le _ _) ?_
    rw [List.length_map, tups_len]
    calc T.length ^ p.2 ≤ 100 ^ p.2 := Nat.pow_le_pow_left hT _
      _ ≤ 100 ^ 3 := Nat.pow_le_pow_right (by decide) h
      _ ≤ 1000000 := by decide
  · exact Nat.zero_le _
/-- good terms: plain, flat enough, with nothing of a store in them -/
structure Gt (k : Nat) (x : D) : Prop where
  p : Pl x = true
  d : dp x ≤ k
  l : x.lt 0 = true
theorem Gt.le {k j : Nat} {x : D} (h : Gt k x) (hk : k ≤ j) : Gt j x := ⟨h.p, Nat.le_trans h.d hk, h.l⟩
theorem ltL_zero {l : List D} (h : ∀ d ∈ l, d.lt 0 = true) : D.ltL 0 l = true := ltL_all.mpr h
theorem mk_gt {k : Nat} {p : Fn} {row : List D} (h : ∀ x ∈ row, Gt k x) : Gt (k + 1) (mk p row) := by
  refine ⟨?_, ?_, ?_⟩
  · simp only [mk, Pl, PlL, Bool.true_and]
    exact PlL_all.mpr fun x hx => (h x hx).p
  · simp only [mk, dp]
    refine Nat.succ_le_succ (dpL_le.mpr fun x hx => ?_)
    rcases List.mem_cons.mp hx with q | q
    · rw [q]; exact Nat.zero_le _
    · exact (h x q).d
  · simp only [mk, D.lt, D.ltL, Bool.true_and]
    exact ltL_all.mpr fun x hx => (h x hx).l
theorem closed_gt (fs : List Fn) : ∀ k, ∀ x ∈ closed fs k, Gt (k + 1) x
  | 0, x, h => by
    simp only [closed, List.mem_map] at h
    obtain ⟨n, _, rfl⟩ := h
    exact ⟨rfl, Nat.le_refl _, rfl⟩
  | k + 1, x, h => by
    simp only [closed, grow, List.mem_append, List.mem_flatMap] at h
    rcases h with h | ⟨p, _, h⟩
    · exact (closed_gt fs k x h).le (by omega)
    · unfold grow1 at h
      split at h
      · obtain ⟨h, _⟩ := List.mem_filter.mp h
        obtain ⟨row, hr, rfl⟩ := List.mem_map.mp h
        exact mk_gt fun y hy => closed_gt fs k y ((tups_row hr).2 y hy)
      · cases h
/-- rows_of -/
theorem lt_big {n : Nat} (h : n ≤ 1000) : n ≤ sizeLine ∧ n < sizeLine := by have := big; omega
noncomputable def kRow (x t : D) : D := match x with
  | .tup r => .tup (r ++ [t])
  | _ => .non
theorem flat_tup (T : List D) (R : List (List D)) : ((R.map D.tup).flatMap fun x => T.map (kRow x)) = (R.flatMap fun row => T.map fun t => row ++ [t]).map D.tup := by
  induction R with
  | nil => rfl
  | cons a r ih => simp [ih, kRow]
theorem pow_le {T : List D} {k : Nat} (hT : T.length ≤ 100) (hk : k ≤ 3) : T.length ^ k ≤ 1000000 := by
  calc T.length ^ k ≤ 100 ^ k := Nat.pow_le_pow_left hT _
      _ ≤ 100 ^ 3 := Nat.pow_le_pow_right (by decide) hk
      _ ≤ 1000000 := by decide
theorem rows_ok {S : Sto} {x : D} {T : List D} {a : Nat} (h : Itr S x T) (hT : T.length ≤ 100) (ha : a ≤ 3) : F_rows_of [x, .int a] S = .ok (.lst ((tups T a).map .tup)) S := by
  refine runV_pure ?_
  have hp := h.push
  obtain ⟨ρ', S', e, k, o3, e1, e2, rfl, rfl⟩ := forN_st (gt := gtName 3) (b := sAsg (eLc2 false (iVal (eVar 2)) (gtName 4) tYesM (iVal (eVar 0)) (gtName 5) tYesM (eBin (eVar 4) (eApp [(eVar 5)] dTup) (dAdd false)) [4, 5] [5]) (gtName 2)) (src := none) (all := rangeL 0 a)
    (fun xs ρ S' => ∃ (k : Nat) (o3 : Option D), k + xs.length = a ∧ k ≤ a ∧ ρ = [some x, some (.int a), some (.lst ((tups T k).map .tup)), o3, none, none] ∧ S' = S.push)
    (fun _ _ _ _ => trivial) (fun y ys ρ S' h => by
      obtain ⟨k, o3, e1, e2, rfl, rfl⟩ := h
      refine ⟨_, x_gtN, ?_⟩
      simp only [List.length_cons] at e1
      have e := x_lc2_map (b := false) (g := eVar 2) (ρ := [some x, some (.int a), some (.lst ((tups T k).map .tup)), some y, none, none]) (x := .lst ((tups T k).map .tup)) (gt := gtName 4) (gt1 := gtName 5) (im1 := iVal (eVar 0)) (vs := [4, 5]) (vs1 := [5]) (f := eBin (eVar 4) (eApp [(eVar 5)] dTup) (dAdd false)) (k := kRow) (ws := fun _ => T) T.length
        (Itr.lst (S := S.push)) (by simp) (by rw [List.length_map, tups_len, ← Nat.pow_succ]; exact pow_le hT (by omega)) (fun z hz => by
          obtain ⟨r, hr, rfl⟩ := List.mem_map.mp hz
          obtain ⟨src, hs1, hs2⟩ := hp
          refine ⟨_, x_gtN, src, ?_, hs2, Nat.le_refl _, fun w hw => ?_⟩
          · simp [wipeE, hs1]
          · refine ⟨_, x_gtN, ?_⟩
            have hl := (lt_big (show r.length + 1 ≤ 1000 by rw [(tups_row hr).1]; omega)).1
            simp [wipeE, kRow, hl])
      rw [flat_tup] at e
      refine ⟨_, _, (?_ : _ = SR.nx [some x, some (.int a), some (.lst ((tups T (k + 1)).map .tup)), some y, none, none] S.push), k + 1, some y, by omega, by omega, rfl, rfl⟩
      simp only [List.set_cons_succ, List.set_cons_zero, x_asg, e, x_mkF, x_bindS_ok]
      rfl)
    (rangeL 0 a) [some x, some (.int a), some (.lst [.tup []]), none, none, none] S.push ⟨0, none, by rw [rangeL_len]; omega, Nat.zero_le _, rfl, rfl⟩
  have hk : k = a := by simpa using e1
  subst hk
  have hlim : -4611686018427387904 ≤ (k : Int) ∧ (k : Int) < 4611686018427387904 := by omega
  unfold B_rows_of
  simp [initE, List.replicate, hlim.1, hlim.2]
  rw [e]
  rfl
end K75

/-! K75h: _law_tuples, closed_terms. -/
namespace K75
open PySem PySem.Spec PyProof.Rows L2 Mi
theorem flat_len (T : List D) (R : List (List D)) : (R.flatMap fun row => T.map fun t => row ++ [t]).length = R.length * T.length := by
  induction R with
  | nil => simp
  | cons a r ih => simp [ih, Nat.add_mul, Nat.add_comm]
theorem tuples_ok {S : Sto} {x : D} {T : List D} {a : Nat} (h : Itr S x T) (hT : T.length ≤ 100) (ha : a ≤ 3) : F__law_tuples [x, .int a] S = .ok (.lst ((tups T a).map .tup)) S := by
  refine runV_pure ?_
  have hp := h.push
  have hbig := big
  obtain ⟨ρ', S', e, k, o3, o4, o5, e1, e2, rfl, rfl⟩ := forN_st (gt := gtName 3) (b := (sSeq (sAsg (eApp [] (dLst false)) (gtName 4))
  (sSeq (sFor (iVal (eVar 2)) (gtName 5) (sAsg (eBin (eVar 4) (eLc false (iVal (eVar 0)) (gtName 6) tYesM (eBin (eVar 5) (eApp [(eVar 6)] dTup) (dAdd false)) [6]) (dAdd false)) (gtName 4)))
  (sAsg (eVar 4) (gtName 2))))) (src := none) (all := rangeL 0 a)
    (fun xs ρ S' => ∃ (k : Nat) (o3 o4 o5 : Option D), k + xs.length = a ∧ k ≤ a ∧ ρ = [some x, some (.int a), some (.lst ((tups T k).map .tup)), o3, o4, o5, none] ∧ S' = S.push)
    (fun _ _ _ _ => trivial) (fun y ys ρ S' h => by
      obtain ⟨k, o3, o4, o5, e1, e2, rfl, rfl⟩ := h
      refine ⟨_, x_gtN, ?_⟩
      simp only [List.length_cons] at e1
      obtain ⟨ρ', S', e, l, r, o5', f1, f2, rfl, rfl⟩ := forN_st (gt := gtName 5) (b := sAsg (eBin (eVar 4) (eLc false (iVal (eVar 0)) (gtName 6) tYesM (eBin (eVar 5) (eApp [(eVar 6)] dTup) (dAdd false)) [6]) (dAdd false)) (gtName 4)) (src := none) (all := (tups T k).map .tup)
        (fun xs ρ S' => ∃ (l r : List (List D)) (o5 : Option D), tups T k = l ++ r ∧ xs = r.map .tup ∧ ρ = [some x, some (.int a), some (.lst ((tups T k).map .tup)), some y, some (.lst ((l.flatMap fun row => T.map fun t => row ++ [t]).map .tup)), o5, none] ∧ S' = S.push)
        (fun _ _ _ _ => trivial) (fun z zs ρ S' h => by
          obtain ⟨l, r, o5, f1, f2, rfl, rfl⟩ := h
          cases r with
          | nil => cases f2
          | cons row r =>
            cases f2
            refine ⟨_, x_gtN, ?_⟩
            have hr : row ∈ tups T k := by rw [f1]; simp
            have hl := (lt_big (show row.length + 1 ≤ 1000 by rw [(tups_row hr).1]; omega)).1
            have el := x_lc_map (b := false) (g := eVar 0) (ρ := [some x, some (.int a), some (.lst ((tups T k).map .tup)), some y, some (.lst ((l.flatMap fun row => T.map fun t => row ++ [t]).map .tup)), some (.tup row), none]) (gt := gtName 6) (vs := [6]) (f := eBin (eVar 5) (eApp [(eVar 6)] dTup) (dAdd false)) (k := fun t => .tup (row ++ [t]))
              hp (by simp) (by omega) (fun w hw => ⟨_, x_gtN, by simp [wipeE, hl]⟩)
            have hsz : ((l ++ row :: r).flatMap fun row => T.map fun t => row ++ [t]).length ≤ 1000000 := by
              rw [← f1, flat_len, tups_len, ← Nat.pow_succ]; exact pow_le hT (by omega)
            rw [flat_len] at hsz
            have hsz' : l.length * T.length + T.length ≤ sizeLine := by
              have : (l.length + 1) * T.length ≤ (l ++ row :: r).length * T.length := Nat.mul_le_mul_right _ (by simp)
              rw [Nat.add_mul] at this
              omega
            refine ⟨_, _, (?_ : _ = SR.nx [some x, some (.int a), some (.lst ((tups T k).map .tup)), some y, some (.lst (((l ++ [row]).flatMap fun row => T.map fun t => row ++ [t]).map .tup)), some (.tup row), none] S.push), l ++ [row], r, _, by rw [f1]; simp, rfl, rfl, rfl⟩
            simp only [List.set_cons_succ, List.set_cons_zero, x_asg, x_bin, el, x_mkF, x_var, List.getElem?_cons_succ, List.getElem?_cons_zero, x_bind_ok, x_addL]
            rw [if_pos (by rw [List.length_map, flat_len, List.length_map]; exact hsz')]
            simp)
        ((tups T k).map .tup) [some x, some (.int a), some (.lst ((tups T k).map .tup)), some y, some (.lst []), o5, none] S.push ⟨[], tups T k, o5, rfl, rfl, rfl, rfl⟩
      have hr : r = [] := by cases r with
        | nil => rfl
        | cons _ _ => cases f2
      subst hr
      rw [List.append_nil] at f1
      subst f1
      refine ⟨_, _, (?_ : _ = SR.nx [some x, some (.int a), some (.lst ((tups T (k + 1)).map .tup)), some y, some (.lst ((tups T (k + 1)).map .tup)), o5', none] S.push), k + 1, some y, _, o5', by omega, by omega, rfl, rfl⟩
      simp
      rw [e]
      rfl)
    (rangeL 0 a) [some x, some (.int a), some (.lst [.tup []]), none, none, none, none] S.push ⟨0, none, none, none, by rw [rangeL_len]; omega, Nat.zero_le _, rfl, rfl⟩
  have hk : k = a := by simpa using e1
  subst hk
  have hlim : -4611686018427387904 ≤ (k : Int) ∧ (k : Int) < 4611686018427387904 := by omega
  unfold B__law_tuples
  simp [initE, List.replicate, hlim.1, hlim.2]
  rw [e]
  rfl
end K75

/-! K75i: closed_terms. -/
namespace K75
open PySem PySem.Spec PyProof.Rows L2 Mi
theorem mc_const {S : Sto} {d : D} {fs rs : List Fn} {ρ : Mi.Env} {i : Nat} (h : SigD S d fs rs) (hl : fs.length ≤ 1000) (hi : ρ[i]? = some (some d)) : eMc "Signature" "constants" (eVar i) [] [] F_Signature_constants ρ S = .ok (.lst ((consts fs).map .str)) S := by
  have e := constants_ok h hl
  obtain ⟨t, h⟩ := h
  have n1 : (sg fs rs t).lookup ("constants" : Str) = none := by
    unfold sg
    simp [List.lookup_cons, show (("constants" : Str) == ("functions" : Str)) = false by decide +kernel, show (("constants" : Str) == ("relations" : Str)) = false by decide +kernel, show (("constants" : Str) == ("table" : Str)) = false by decide +kernel]
  simp [hi, h, n1, e]
noncomputable def bCl : SM := (sIf (eTst (eBin (eVar 6) (eC (.int 0)) dGt)) (sSeq (sAsg (eLc false (iVal (eCall [(eVar 3), (eVar 6)] [] F_rows_of)) (gtName 8) tYesM (eBin (eApp [(eVar 2)] dTup) (eVar 8) (dAdd false)) [8]) (gtName 7))
  (sExpr (eMeth (eVar 5) [(eLc false (iVal (eVar 7)) (gtName 9) (eTst (eBin (eVar 9) (eVar 3) dNotIn)) (eVar 9) [9])] mExtend))) sSkip)
noncomputable def kMk (p : Fn) (x : D) : D := match x with
  | .tup r => mk p r
  | _ => .non
theorem Gts.pl {T : List D} {k : Nat} (h : ∀ x ∈ T, Gt k x) : PlL T = true ∧ dpL T ≤ k := ⟨PlL_all.mpr fun x hx => (h x hx).p, dpL_le.mpr fun x hx => (h x hx).d⟩
theorem cl_e2 {S : Sto} {m : Nat} {T : List D} {p : Fn} {ρ : Mi.Env} (hm : S.get m = some (.lst T)) (hp : p.2 ≤ 3) (hT : T.length ≤ 100) (h2 : ρ[2]? = some (some (.str p.1))) (h3 : ρ[3]? = some (some (.ref m))) (h6 : ρ[6]? = some (some (.int p.2))) (h8 : 8 < ρ.length) :
    eLc false (iVal (eCall [(eVar 3), (eVar 6)] [] F_rows_of)) (gtName 8) tYesM (eBin (eApp [(eVar 2)] dTup) (eVar 8) (dAdd false)) [8] ρ S = .ok (.lst ((tups T p.2).map (mk p))) S := by
  have e1 := rows_ok (S := S) (x := .ref m) (T := T) (a := p.2) (.ref hm) hT hp
  have hlen : (tups T p.2).length ≤ 1000000 := by rw [tups_len]; exact pow_le hT hp
  have e2 := x_lc_map (S := S) (b := false) (g := eCall [(eVar 3), (eVar 6)] [] F_rows_of) (ρ := ρ) (x := .lst ((tups T p.2).map .tup)) (gt := gtName 8) (vs := [8]) (f := eBin (eApp [(eVar 2)] dTup) (eVar 8) (dAdd false)) (k := kMk p)
      .lst (by simp [e1, h3, h6]) (by rw [List.length_map]; exact hlen) (fun w hw => by
        obtain ⟨r, hr, rfl⟩ := List.mem_map.mp hw
        have hl := (lt_big (show 1 + r.length ≤ 1000 by rw [(tups_row hr).1]; omega)).1
        have q2 : (((wipeE ρ [8]).set 8 (some (.tup r))))[2]? = some (some (.str p.1)) := by simp [wipeE, h2]
        have q8 : (((wipeE ρ [8]).set 8 (some (.tup r))))[8]? = some (some (.tup r)) := by simp [wipeE, h8]
        exact ⟨_, x_gtN, by simp [q2, q8, hl, kMk, mk]⟩)
  have e2' : ((tups T p.2).map D.tup).map (kMk p) = (tups T p.2).map (mk p) := by rw [List.map_map]; rfl
  rw [e2'] at e2
  exact e2
theorem cl_e3 {S : Sto} {m : Nat} {T l : List D} {ρ : Mi.Env} (hm : S.get m = some (.lst T)) (h3 : ρ[3]? = some (some (.ref m))) (h7 : ρ[7]? = some (some (.lst l))) (h9 : 9 < ρ.length) (hl : l.length ≤ 1000000) (hT : ∀ x ∈ T, Gt 10 x) (hg : ∀ x ∈ l, Gt 11 x) :
    eLc false (iVal (eVar 7)) (gtName 9) (eTst (eBin (eVar 9) (eVar 3) dNotIn)) (eVar 9) [9] ρ S = .ok (.lst (l.filter fun x => !decide (x ∈ T))) S := by
  have e3 := x_lc_filt (S := S) (b := false) (g := eVar 7) (ρ := ρ) (x := .lst l) (gt := gtName 9) (t := eTst (eBin (eVar 9) (eVar 3) dNotIn)) (vs := [9]) (f := eVar 9) (p := fun x => !decide (x ∈ T)) (k := id)
      .lst (by simp [h7]) hl (fun w hw => by
        have := Lis.nin (S := S) (x := .ref m) (xs := T) (y := w) (.inr ⟨m, rfl, hm⟩) (hg w hw).p (Gts.pl hT).1 (.inl (by have := (hg w hw).d; omega))
        have q3 : (((wipeE ρ [9]).set 9 (some w)))[3]? = some (some (.ref m)) := by simp [wipeE, h3]
        have q9 : (((wipeE ρ [9]).set 9 (some w)))[9]? = some (some w) := by simp [wipeE, h9]
        exact ⟨_, x_gtN, by simp [q3, q9, this], fun _ => by simp [q9]⟩)
  rw [List.map_id] at e3
  exact e3
theorem cl_pos {S S' : Sto} {m L : Nat} {acc l l' : List D} {p : Fn} {d dep : D} {o4 o7 : Option D} {g g' : EM} (h0 : 0 < p.2) (hL : S.get L = some (.lst acc))
  (e2 : g' [some d, some dep, some (.str p.1), some (.ref m), o4, some (.ref L), some (.int p.2), o7, none, none] S = .ok (.lst l) S)
  (e3 : g [some d, some dep, some (.str p.1), some (.ref m), o4, some (.ref L), some (.int p.2), some (.lst l), none, none] S = .ok (.lst l') S)
  (e4 : mExtend (.ref L) [.lst l'] S = .ok .non S') :
  sIf (eTst (eBin (eVar 6) (eC (.int 0)) dGt)) (sSeq (sAsg g' (gtName 7)) (sExpr (eMeth (eVar 5) [g] mExtend))) sSkip [some d, some dep, some (.str p.1), some (.ref m), o4, some (.ref L), some (.int p.2), o7, none, none] S = .nx [some d, some dep, some (.str p.1), some (.ref m), o4, some (.ref L), some (.int p.2), some (.lst l), none, none] S' := by
  have hL' : lstS S (.ref L) = some acc := x_lstR hL
  have hd : decide ((0 : Int) < (p.2 : Int)) = true := by simp; omega
  simp only [x_sif, x_tst, x_bin, x_var, x_C, List.getElem?_cons_succ, List.getElem?_cons_zero, x_bind_ok, x_gtI, x_of_some, x_blD, x_bindS_ok, hd, if_true, x_seq, x_asg, e2, x_mkF, List.set_cons_succ, List.set_cons_zero, x_expr, x_meth, hL', x_l1, x_l0, e3, e4]
theorem cl_neg {S : Sto} {m L : Nat} {p : Fn} {d dep : D} {o4 o7 : Option D} {a : SM} (h0 : ¬ 0 < p.2) :
  sIf (eTst (eBin (eVar 6) (eC (.int 0)) dGt)) a sSkip [some d, some dep, some (.str p.1), some (.ref m), o4, some (.ref L), some (.int p.2), o7, none, none] S = .nx [some d, some dep, some (.str p.1), some (.ref m), o4, some (.ref L), some (.int p.2), o7, none, none] S := by
  have hd : decide ((0 : Int) < (p.2 : Int)) = false := by simp; omega
  simp only [x_sif, x_tst, x_bin, x_var, x_C, List.getElem?_cons_succ, List.getElem?_cons_zero, x_bind_ok, x_gtI, x_of_some, x_blD, x_bindS_ok, hd, Bool.false_eq_true, if_false, x_skip]
theorem cl_step {S0 S : Sto} {m L : Nat} {T acc : List D} {p : Fn} {d dep : D} {o4 o7 : Option D} (u : Up S0 S) (hm : S.get m = some (.lst T)) (hL : S.get L = some (.lst acc)) (hne : m ≠ L) (hL0 : S0.new ≤ L) (hp : p.2 ≤ 3) (hT : T.length ≤ 100) (hg : ∀ x ∈ T, Gt 10 x) (hacc : acc.length + (grow1 T p).length ≤ 1000000) :
    ∃ o7' S', bCl [some d, some dep, some (.str p.1), some (.ref m), o4, some (.ref L), some (.int p.2), o7, none, none] S = .nx [some d, some dep, some (.str p.1), some (.ref m), o4, some (.ref L), some (.int p.2), o7', none, none] S' ∧ Up S0 S' ∧ S'.get m = some (.lst T) ∧ S'.get L = some (.lst (acc ++ grow1 T p)) := by
  by_cases h0 : 0 < p.2
  · have e2 := cl_e2 (S := S) (ρ := [some d, some dep, some (.str p.1), some (.ref m), o4, some (.ref L), some (.int p.2), o7, none, none]) hm hp hT rfl rfl rfl (by simp)
    have hlen : ((tups T p.2).map (mk p)).length ≤ 1000000 := by rw [List.length_map, tups_len]; exact pow_le hT hp
    have hmk : ∀ x ∈ (tups T p.2).map (mk p), Gt 11 x := fun x hx => by
      obtain ⟨r, hr, rfl⟩ := List.mem_map.mp hx
      exact mk_gt fun y hy => hg y ((tups_row hr).2 y hy)
    have e3 := cl_e3 (S := S) (ρ := [some d, some dep, some (.str p.1), some (.ref m), o4, some (.ref L), some (.int p.2), some (.lst ((tups T p.2).map (mk p))), none, none]) hm rfl rfl (by simp) hlen hg hmk
    unfold grow1 at hacc
    rw [if_pos h0] at hacc
    have hbig := big
    refine ⟨some (.lst ((tups T p.2).map (mk p))), S.set L (.lst (acc ++ grow1 T p)), ?_, u.set hL0, by rw [get_set_ne (Ne.symm hne)]; exact hm, get_set (get_lt hL)⟩
    have e4 := x_ext (S := S) (n := L) (xs := acc) (ys := ((tups T p.2).map (mk p)).filter fun x => !decide (x ∈ T)) hL (by omega) (u.may hL0)
    have hgr : grow1 T p = ((tups T p.2).map (mk p)).filter fun x => !decide (x ∈ T) := by unfold grow1; rw [if_pos h0]
    rw [hgr]
    exact cl_pos h0 hL e2 e3 e4
  · refine ⟨o7, S, ?_, u, hm, by unfold grow1; rw [if_neg h0, List.append_nil]; exact hL⟩
    exact cl_neg h0
end K75

/-! K75j: closed_terms, whole. -/
namespace K75
open PySem PySem.Spec PyProof.Rows L2 Mi
/-- bounds: a signature whose terms are few -/
structure Few (fs : List Fn) : Prop where
  ar : ∀ p ∈ fs, p.2 ≤ 3
  co : (consts fs).length ≤ 3
  fu : (fs.filter fun p => decide (0 < p.2)).length ≤ 2
  ln : fs.length ≤ 10
theorem grow_len {T : List D} {c : Nat} (hT : T.length ≤ c) (hc : 1 ≤ c) : ∀ {fs : List Fn}, (∀ p ∈ fs, p.2 ≤ 3) → (fs.flatMap (grow1 T)).length ≤ (fs.filter fun p => decide (0 < p.2)).length * c ^ 3
  | [], _ => by simp
  | p :: fs, h => by
    have ih := grow_len hT hc (fs := fs) fun q hq => h q (List.mem_cons_of_mem _ hq)
    rw [List.flatMap_cons, List.length_append, List.filter_cons]
    by_cases h0 : 0 < p.2
    · have h1 : (grow1 T p).length ≤ c ^ 3 := by
        unfold grow1
        rw [if_pos h0]
        refine Nat.le_trans (List.length_filter_le _ _) ?_
        rw [List.length_map, tups_len]
        exact Nat.le_trans (Nat.pow_le_pow_left hT _) (Nat.pow_le_pow_right hc (h p List.mem_cons_self))
      rw [if_pos (by simpa using h0), List.length_cons, Nat.add_mul]
      omega
    · have h1 : grow1 T p = [] := by unfold grow1; rw [if_neg h0]
      rw [if_neg (by simpa using h0), h1]
      simpa using ih
theorem closed_len {fs : List Fn} (F : Few fs) : (closed fs 0).length ≤ 3 ∧ (closed fs 1).length ≤ 57 ∧ (closed fs 2).length ≤ 400000 := by
  have h0 : (closed fs 0).length ≤ 3 := by simpa [closed] using F.co
  have h1 : (closed fs 1).length ≤ 57 := by
    have := grow_len h0 (by decide) F.ar
    have h2 := F.fu
    simp only [closed, grow, List.length_append] at *
    omega
  refine ⟨h0, h1, ?_⟩
  have := grow_len h1 (by decide) F.ar
  have h2 := F.fu
  simp only [closed, grow, List.length_append] at *
  omega
theorem closed_lt {fs : List Fn} (F : Few fs) {k : Nat} (hk : k < 2) : (closed fs k).length ≤ 100 := by
  obtain ⟨h0, h1, _⟩ := closed_len F
  have : k = 0 ∨ k = 1 := by omega
  rcases this with rfl | rfl <;> omega
theorem grow_part {fs l r : List Fn} {p : Fn} {T : List D} (h : fs = l ++ p :: r) : (T ++ l.flatMap (grow1 T)).length + (grow1 T p).length ≤ (grow fs T).length := by
  subst h
  simp [grow]; omega
noncomputable def bLv : SM := (sSeq (sAsg (eApp [(eVar 3)] (dList true)) (gtName 5))
  (sSeq (sFor (iVal (eFld cs_functions (eVar 0) "functions")) (gtTup [(gtName 2), (gtName 6)]) bCl)
  (sAsg (eVar 5) (gtName 3))))
theorem seq3 {a b c : SM} {ρ ρ1 ρ2 ρ3 : Mi.Env} {S S1 S2 S3 : Sto} (h1 : a ρ S = .nx ρ1 S1) (h2 : b ρ1 S1 = .nx ρ2 S2) (h3 : c ρ2 S2 = .nx ρ3 S3) : sSeq a (sSeq b c) ρ S = .nx ρ3 S3 := by
  simp only [x_seq, h1, h2, h3]
theorem asg_ok {f : EM} {i : Nat} {ρ : Mi.Env} {S S1 : Sto} {d : D} (h : f ρ S = .ok d S1) : sAsg f (gtName i) ρ S = .nx (ρ.set i (some d)) S1 := by
  simp only [x_asg, h, x_bindS_ok]
theorem for_ok {im : IM} {gt : GM} {b : SM} {ρ : Mi.Env} {S S1 : Sto} {xs : List D} {src : Option Nat} {r : SR} (h : im ρ S = .ok (xs, src) S1) (h2 : sForN gt b src xs xs ρ S1 = r) : sFor im gt b ρ S = r := by
  simp only [x_for, h, x_bindS_ok, h2]
theorem lv_step {S0 S : Sto} {m k : Nat} {fs rs : List Fn} {d dep : D} {o2 o4 o5 o6 o7 : Option D} (hs : SigD S0 d fs rs) (F : Few fs) (u : Up S0 S) (hm : S.get m = some (.lst (closed fs k))) (hk : k < 2) :
    ∃ o2' o5' o6' o7' L S', bLv [some d, some dep, o2, some (.ref m), o4, o5, o6, o7, none, none] S = .nx [some d, some dep, o2', some (.ref L), o4, o5', o6', o7', none, none] S' ∧ Up S0 S' ∧ S'.get L = some (.lst (closed fs (k + 1))) ∧ S0.new ≤ L := by
  have hT := closed_lt F hk
  have hg : ∀ x ∈ closed fs k, Gt 10 x := fun x hx => (closed_gt fs k x hx).le (by omega)
  have hmn := get_lt hm
  have hgl : (grow fs (closed fs k)).length ≤ 400000 := by
    obtain ⟨_, h1, h2⟩ := closed_len F
    have : k = 0 ∨ k = 1 := by omega
    rcases this with rfl | rfl
    · exact Nat.le_trans h1 (by decide)
    · exact h2
  have e1 : sAsg (eApp [(eVar 3)] (dList true)) (gtName 5) [some d, some dep, o2, some (.ref m), o4, o5, o6, o7, none, none] S = .nx [some d, some dep, o2, some (.ref m), o4, some (.ref S.new), o6, o7, none, none] (S.add (.lst (closed fs k))) := by
    have := Lis.dlist (b := true) (S := S) (x := .ref m) (xs := closed fs k) (.inr ⟨m, rfl, hm⟩)
    rw [asg_ok (d := .ref S.new) (S1 := S.add (.lst (closed fs k)))]
    · rfl
    · simp only [x_app, x_l1, x_l0, x_var, List.getElem?_cons_succ, List.getElem?_cons_zero, x_bind_ok, this, x_mkT]
  have uL : S0.new ≤ S.new := u.new
  obtain ⟨ρ', S', e2, l, r, o2', o6', o7', f1, f2, rfl, u', g1, g2⟩ := forN_st (gt := gtTup [(gtName 2), (gtName 6)]) (b := bCl) (src := none) (all := fs.map pr)
    (fun xs ρ S' => ∃ (l r : List Fn) (o2 o6 o7 : Option D), fs = l ++ r ∧ xs = r.map pr ∧ ρ = [some d, some dep, o2, some (.ref m), o4, some (.ref S.new), o6, o7, none, none] ∧ Up S0 S' ∧ S'.get m = some (.lst (closed fs k)) ∧ S'.get S.new = some (.lst (closed fs k ++ l.flatMap (grow1 (closed fs k)))))
    (fun _ _ _ _ => trivial) (fun x xs ρ S' h => by
      obtain ⟨l, r, o2, o6, o7, f1, f2, rfl, u', g1, g2⟩ := h
      cases r with
      | nil => cases f2
      | cons p r =>
        cases f2
        have hp : p ∈ fs := by rw [f1]; simp
        obtain ⟨o7', S2, e, u2, g3, g4⟩ := cl_step (p := p) (d := d) (dep := dep) (o4 := o4) (o7 := o7) u' g1 g2 (by omega) uL (F.ar p hp) hT hg (Nat.le_trans (grow_part f1) (by omega))
        exact ⟨_, rfl, _, S2, e, l ++ [p], r, _, _, o7', by rw [f1]; simp, rfl, rfl, u2, g3, by rw [g4]; simp⟩)
    (fs.map pr) [some d, some dep, o2, some (.ref m), o4, some (.ref S.new), o6, o7, none, none] (S.add (.lst (closed fs k))) ⟨[], fs, _, _, _, rfl, rfl, rfl, u.add, by rw [get_add_lt hmn]; exact hm, by rw [get_add]; simp⟩
  have hr : r = [] := by cases r with
    | nil => rfl
    | cons _ _ => cases f2
  subst hr
  rw [List.append_nil] at f1
  subst f1
  have hs1 := hs.up (u.add (c := .lst (closed fs k)))
  have f := (sig_has hs1 (ρ := [some d, some dep, o2, some (.ref m), o4, some (.ref S.new), o6, o7, none, none]) (i := 0) rfl).1
  have e3 : sFor (iVal (eFld cs_functions (eVar 0) "functions")) (gtTup [(gtName 2), (gtName 6)]) bCl [some d, some dep, o2, some (.ref m), o4, some (.ref S.new), o6, o7, none, none] (S.add (.lst (closed fs k))) = _ := for_ok (by rw [x_iVal, f]; rfl) e2
  refine ⟨o2', some (.ref S.new), o6', o7', S.new, S', seq3 e1 e3 ?_, u', g2, uL⟩
  rw [asg_ok (d := .ref S.new) (S1 := S') (by simp)]
  rfl
theorem closed_ok {S : Sto} {d : D} {fs rs : List Fn} {k : Nat} (hs : SigD S d fs rs) (F : Few fs) (hk : k ≤ 2) : F_closed_terms [d, .int k] S = .ok (.ref S.new) (S.add (.lst (closed fs k))) := by
  have hln := F.ln
  have hsp := hs.push
  have e1 := mc_const (ρ := [some d, some (.int k), none, none, none, none, none, none, none, none]) (i := 0) hsp (by omega) rfl
  have e2 := x_lc_map (S := S.push) (b := true) (g := eMc "Signature" "constants" (eVar 0) [] [] F_Signature_constants) (ρ := [some d, some (.int k), none, none, none, none, none, none, none, none]) (x := .lst ((consts fs).map .str)) (gt := gtName 2) (vs := [2]) (f := eApp [(eVar 2)] dTup) (k := fun x => .tup [x])
    .lst e1 (by have := F.co; simp; omega) (fun w hw => ⟨_, x_gtN, by simp [wipeE]⟩)
  have e2' : ((consts fs).map D.str).map (fun x => D.tup [x]) = closed fs 0 := by rw [List.map_map]; rfl
  rw [e2', x_mkT] at e2
  have hn : S.push.new = S.new := new_push
  have hg0 : (S.push.add (.lst (closed fs 0))).get S.push.new = some (.lst (closed fs 0)) := get_add
  obtain ⟨ρ', S', e3, j, m, o2, o4, o5, o6, o7, h1, h2, rfl, u, hm, hmn⟩ := forN_st (gt := gtName 4) (b := bLv) (src := none) (all := rangeL 0 k)
    (fun xs ρ S' => ∃ (j m : Nat) (o2 o4 o5 o6 o7 : Option D), j + xs.length = k ∧ j ≤ k ∧ ρ = [some d, some (.int k), o2, some (.ref m), o4, o5, o6, o7, none, none] ∧ Up S S' ∧ S'.get m = some (.lst (closed fs j)) ∧ S.new ≤ m)
    (fun _ _ _ _ => trivial) (fun x xs ρ S' h => by
      obtain ⟨j, m, o2, o4, o5, o6, o7, h1, h2, rfl, u, hm, hmn⟩ := h
      simp only [List.length_cons] at h1
      obtain ⟨o2', o5', o6', o7', L, S2, e, u2, g, hL⟩ := lv_step (dep := .int k) (o2 := o2) (o4 := some x) (o5 := o5) (o6 := o6) (o7 := o7) hs F u hm (by omega)
      exact ⟨_, x_gtN, _, S2, e, j + 1, L, _, _, _, _, _, by omega, by omega, rfl, u2, g, hL⟩)
    (rangeL 0 k) [some d, some (.int k), none, some (.ref S.push.new), none, none, none, none, none, none] (S.push.add (.lst (closed fs 0))) ⟨0, S.push.new, none, none, none, none, none, by rw [rangeL_len]; omega, Nat.zero_le _, rfl, Up.push.add, hg0, by rw [hn]; exact Nat.le_refl _⟩
  have hj : j = k := by simpa using h1
  subst hj
  have hlim : -4611686018427387904 ≤ (j : Int) ∧ (j : Int) < 4611686018427387904 := by omega
  have hb : B_closed_terms (initE 10 [d, .int j]) S.push = .rt (.ref m) S' := by
    show B_closed_terms [some d, some (.int j), none, none, none, none, none, none, none, none] S.push = _
    have a1 := asg_ok (i := 3) e2
    have a2 : sFor (iRange [(eVar 1)]) (gtName 4) bLv [some d, some (.int j), none, some (.ref S.push.new), none, none, none, none, none, none] (S.push.add (.lst (closed fs 0))) = _ := for_ok (xs := rangeL 0 j) (src := none) (S1 := S.push.add (.lst (closed fs 0))) (by simp [hlim.1, hlim.2]) e3
    show sSeq _ (sSeq (sFor _ _ bLv) _) _ _ = _
    rw [x_seq, a1]
    dsimp only [List.set_cons_succ, List.set_cons_zero]
    rw [x_seq, a2]
    rfl
  exact runF_list hb hm hmn (D.ltL_mono (Nat.zero_le _) _ (ltL_zero fun x hx => (closed_gt fs j x hx).l)) u
end K75

/-! K75k: _law_closed. -/
namespace K75
open PySem PySem.Spec PyProof.Rows L2 Mi
noncomputable def bRow : SM := (sIf (eTst (eBin (eBin (eApp [(eVar 2)] dTup) (eVar 7) (dAdd false)) (eVar 4) dNotIn)) (sExpr (eMeth (eVar 6) [(eBin (eApp [(eVar 2)] dTup) (eVar 7) (dAdd false))] mAppend)) sSkip)
noncomputable def bFn : SM := (sIf (eTst (eBin (eVar 3) (eC (.int 0)) dGt)) (sFor (iVal (eCall [(eVar 4), (eVar 3)] [] F__law_tuples)) (gtName 7) bRow) sSkip)
noncomputable def bLc : SM := (sSeq (sAsg (eApp [(eVar 4)] (dList true)) (gtName 6))
  (sSeq (sFor (iVal (eVar 0)) (gtTup [(gtName 2), (gtName 3)]) bFn)
  (sAsg (eVar 6) (gtName 4))))
noncomputable def put1 (T : List D) (p : Fn) (l : List (List D)) : List D := (l.map (mk p)).filter fun x => !decide (x ∈ T)
theorem row_step {S0 S : Sto} {L : Nat} {T acc : List D} {p : Fn} {row : List D} {fd dep t4 : D} {o5 : Option D} (u : Up S0 S) (ht : Lis S t4 T) (hL : S.get L = some (.lst acc)) (hL0 : S0.new ≤ L) (h4 : t4 ≠ .ref L) (hr : row.length ≤ 3) (hT : ∀ x ∈ T, Gt 10 x) (hg : ∀ x ∈ row, Gt 10 x) (hacc : acc.length ≤ 1000000) :
    ∃ S', bRow [some fd, some dep, some (.str p.1), some (.int p.2), some t4, o5, some (.ref L), some (.tup row)] S = .nx [some fd, some dep, some (.str p.1), some (.int p.2), some t4, o5, some (.ref L), some (.tup row)] S' ∧ Up S0 S' ∧ Lis S' t4 T ∧ S'.get L = some (.lst (acc ++ put1 T p [row])) := by
  have hl := (lt_big (show 1 + row.length ≤ 1000 by omega)).1
  have hm := mk_gt (p := p) hg
  have e := ht.nin hm.p (Gts.pl hT).1 (.inl (by have := hm.d; omega))
  have hbig := big
  by_cases q : mk p row ∈ T
  · refine ⟨S, ?_, u, ht, by simp [put1, q, hL]⟩
    unfold mk at e q
    unfold bRow
    simp [hl, e, q]
  · have ea := x_app1 (d := mk p row) hL (by omega) (u.may hL0)
    refine ⟨S.set L (.lst (acc ++ [mk p row])), ?_, u.set hL0, ht.of fun n hn => get_set_ne (fun z => h4 (by rw [hn, z])), by rw [get_set (get_lt hL)]; simp [put1, q]⟩
    have hL' : lstS S (.ref L) = some acc := x_lstR hL
    unfold mk at e q ea
    unfold bRow
    simp [hl, e, q, ea, hL', mk]
theorem fn_step {S0 S : Sto} {L : Nat} {T acc : List D} {p : Fn} {fd dep t4 : D} {o5 o7 : Option D} (u : Up S0 S) (ht : Lis S t4 T) (hL : S.get L = some (.lst acc)) (hL0 : S0.new ≤ L) (h4 : t4 ≠ .ref L) (hp : p.2 ≤ 3) (hT : T.length ≤ 100) (hg : ∀ x ∈ T, Gt 10 x) (hacc : acc.length + (grow1 T p).length ≤ 1000000) :
    ∃ o7' S', bFn [some fd, some dep, some (.str p.1), some (.int p.2), some t4, o5, some (.ref L), o7] S = .nx [some fd, some dep, some (.str p.1), some (.int p.2), some t4, o5, some (.ref L), o7'] S' ∧ Up S0 S' ∧ Lis S' t4 T ∧ S'.get L = some (.lst (acc ++ grow1 T p)) := by
  by_cases h0 : 0 < p.2
  · have e1 := tuples_ok (S := S) (x := t4) (T := T) (a := p.2) ht.itr hT hp
    have hgr : grow1 T p = put1 T p (tups T p.2) := by unfold grow1 put1; rw [if_pos h0]
    rw [hgr] at hacc ⊢
    obtain ⟨ρ', S', e2, l, r, o7', f1, f2, rfl, u', t', g2⟩ := forN_st (gt := gtName 7) (b := bRow) (src := none) (all := (tups T p.2).map .tup)
      (fun xs ρ S' => ∃ (l r : List (List D)) (o7 : Option D), tups T p.2 = l ++ r ∧ xs = r.map .tup ∧ ρ = [some fd, some dep, some (.str p.1), some (.int p.2), some t4, o5, some (.ref L), o7] ∧ Up S0 S' ∧ Lis S' t4 T ∧ S'.get L = some (.lst (acc ++ put1 T p l)))
      (fun _ _ _ _ => trivial) (fun x xs ρ S' h => by
        obtain ⟨l, r, o7, f1, f2, rfl, u', t', g2⟩ := h
        cases r with
        | nil => cases f2
        | cons row r =>
          cases f2
          have hr : row ∈ tups T p.2 := by rw [f1]; simp
          have hlen : (put1 T p l).length ≤ (put1 T p (tups T p.2)).length := by rw [f1]; simp [put1]
          obtain ⟨S2, e, u2, t2, g3⟩ := row_step (p := p) (fd := fd) (dep := dep) (o5 := o5) (row := row) u' t' g2 hL0 h4 (by rw [(tups_row hr).1]; exact hp) hg (fun x hx => hg x ((tups_row hr).2 x hx)) (by rw [List.length_append]; omega)
          exact ⟨_, x_gtN, _, S2, e, l ++ [row], r, _, by rw [f1]; simp, rfl, rfl, u2, t2, by rw [g3]; simp [put1]⟩)
      ((tups T p.2).map .tup) [some fd, some dep, some (.str p.1), some (.int p.2), some t4, o5, some (.ref L), o7] S ⟨[], tups T p.2, _, rfl, rfl, rfl, u, ht, by rw [hL]; simp [put1]⟩
    have hr : r = [] := by cases r with
      | nil => rfl
      | cons _ _ => cases f2
    subst hr
    rw [List.append_nil] at f1
    rw [← f1] at g2
    have hd : decide ((0 : Int) < (p.2 : Int)) = true := by simp; omega
    refine ⟨o7', S', ?_, u', t', g2⟩
    have e3 : sFor (iVal (eCall [(eVar 4), (eVar 3)] [] F__law_tuples)) (gtName 7) bRow [some fd, some dep, some (.str p.1), some (.int p.2), some t4, o5, some (.ref L), o7] S = _ := for_ok (by simp only [x_iVal, x_call, x_l1, x_l0, x_var, List.getElem?_cons_succ, List.getElem?_cons_zero, x_bind_ok, List.append_nil, e1, x_itL, x_of_some]) e2
    revert e3
    unfold bFn
    generalize (sFor (iVal (eCall [(eVar 4), (eVar 3)] [] F__law_tuples)) (gtName 7) bRow) = B
    intro e3
    simp only [x_sif, x_tst, x_bin, x_var, x_C, List.getElem?_cons_succ, List.getElem?_cons_zero, x_bind_ok, x_gtI, x_of_some, x_blD, x_bindS_ok, hd, if_true, e3]
  · refine ⟨o7, S, ?_, u, ht, by unfold grow1; rw [if_neg h0, List.append_nil]; exact hL⟩
    have hd : decide ((0 : Int) < (p.2 : Int)) = false := by simp; omega
    unfold bFn
    generalize (sFor (iVal (eCall [(eVar 4), (eVar 3)] [] F__law_tuples)) (gtName 7) bRow) = B
    simp only [x_sif, x_tst, x_bin, x_var, x_C, List.getElem?_cons_succ, List.getElem?_cons_zero, x_bind_ok, x_gtI, x_of_some, x_blD, x_bindS_ok, hd, Bool.false_eq_true, if_false, x_skip]
theorem lc_step {S0 S : Sto} {k : Nat} {fs : List Fn} {fd dep t4 : D} {o2 o3 o5 o6 o7 : Option D} (hs : Itr S0 fd (fs.map pr)) (F : Few fs) (u : Up S0 S) (ht : Lis S t4 (closed fs k)) (hk : k < 2) :
    ∃ o2' o3' o6' o7' L S', bLc [some fd, some dep, o2, o3, some t4, o5, o6, o7] S = .nx [some fd, some dep, o2', o3', some (.ref L), o5, o6', o7'] S' ∧ Up S0 S' ∧ S'.get L = some (.lst (closed fs (k + 1))) ∧ S0.new ≤ L := by
  have hT := closed_lt F hk
  have hg : ∀ x ∈ closed fs k, Gt 10 x := fun x hx => (closed_gt fs k x hx).le (by omega)
  have hgl : (grow fs (closed fs k)).length ≤ 400000 := by
    obtain ⟨_, h1, h2⟩ := closed_len F
    have : k = 0 ∨ k = 1 := by omega
    rcases this with rfl | rfl
    · exact Nat.le_trans h1 (by decide)
    · exact h2
  have h4 : t4 ≠ .ref S.new := by
    rcases ht with rfl | ⟨n, rfl, h⟩
    · exact fun z => by cases z
    · intro z
      cases z
      have := get_lt h
      omega
  have e1 : sAsg (eApp [(eVar 4)] (dList true)) (gtName 6) [some fd, some dep, o2, o3, some t4, o5, o6, o7] S = .nx [some fd, some dep, o2, o3, some t4, o5, some (.ref S.new), o7] (S.add (.lst (closed fs k))) := by
    have := ht.dlist (b := true)
    rw [asg_ok (d := .ref S.new) (S1 := S.add (.lst (closed fs k)))]
    · rfl
    · simp only [x_app, x_l1, x_l0, x_var, List.getElem?_cons_succ, List.getElem?_cons_zero, x_bind_ok, this, x_mkT]
  have uL : S0.new ≤ S.new := u.new
  obtain ⟨src, hsrc⟩ := hs.ups
  have t0 : Lis (S.add (.lst (closed fs k))) t4 (closed fs k) := by
    rcases ht with rfl | ⟨n, rfl, h⟩
    · exact .inl rfl
    · exact .inr ⟨n, rfl, by rw [get_add_lt (get_lt h)]; exact h⟩
  obtain ⟨ρ', S', e2, l, r, o2', o3', o7', f1, f2, rfl, u', g1, g2⟩ := forN_st (gt := gtTup [(gtName 2), (gtName 3)]) (b := bFn) (src := src) (all := fs.map pr)
    (fun xs ρ S' => ∃ (l r : List Fn) (o2 o3 o7 : Option D), fs = l ++ r ∧ xs = r.map pr ∧ ρ = [some fd, some dep, o2, o3, some t4, o5, some (.ref S.new), o7] ∧ Up S0 S' ∧ Lis S' t4 (closed fs k) ∧ S'.get S.new = some (.lst (closed fs k ++ l.flatMap (grow1 (closed fs k)))))
    (fun _ _ _ h => by
      obtain ⟨_, _, _, _, _, _, _, _, u, _⟩ := h
      exact (hsrc _ u).2) (fun x xs ρ S' h => by
      obtain ⟨l, r, o2, o3, o7, f1, f2, rfl, u', g1, g2⟩ := h
      cases r with
      | nil => cases f2
      | cons p r =>
        cases f2
        have hp : p ∈ fs := by rw [f1]; simp
        obtain ⟨o7', S2, e, u2, g3, g4⟩ := fn_step (p := p) (fd := fd) (dep := dep) (o5 := o5) (o7 := o7) u' g1 g2 uL h4 (F.ar p hp) hT hg (Nat.le_trans (grow_part f1) (by omega))
        exact ⟨_, rfl, _, S2, e, l ++ [p], r, _, _, o7', by rw [f1]; simp, rfl, rfl, u2, g3, by rw [g4]; simp⟩)
    (fs.map pr) [some fd, some dep, o2, o3, some t4, o5, some (.ref S.new), o7] (S.add (.lst (closed fs k))) ⟨[], fs, _, _, _, rfl, rfl, rfl, u.add, t0, by rw [get_add]; simp⟩
  have hr : r = [] := by cases r with
    | nil => rfl
    | cons _ _ => cases f2
  subst hr
  rw [List.append_nil] at f1
  subst f1
  have e3 : sFor (iVal (eVar 0)) (gtTup [(gtName 2), (gtName 3)]) bFn [some fd, some dep, o2, o3, some t4, o5, some (.ref S.new), o7] (S.add (.lst (closed fs k))) = _ := for_ok (by simp only [x_iVal, x_var, List.getElem?_cons_zero, x_bind_ok, (hsrc _ u.add).1, x_of_some]) e2
  refine ⟨o2', o3', some (.ref S.new), o7', S.new, S', seq3 e1 e3 ?_, u', g2, uL⟩
  rw [asg_ok (d := .ref S.new) (S1 := S') (by simp)]
  rfl
theorem lclosed_ok {S : Sto} {fd : D} {fs : List Fn} {k : Nat} (hs : Itr S fd (fs.map pr)) (F : Few fs) (hk : k ≤ 2) : F__law_closed [fd, .int k] S = .ok (.lst (closed fs k)) S := by
  have hln := F.ln
  have hsp := hs.push
  let P : D → Bool := fun x => match x with
    | .tup [_, .int a] => decide (a = 0)
    | _ => false
  let Kk : D → D := fun x => match x with
    | .tup [n, _] => .tup [n]
    | _ => .non
  have e2 := x_lc_filt (S := S.push) (b := false) (g := eVar 0) (ρ := [some fd, some (.int k), none, none, none, none, none, none]) (x := fd) (gt := gtTup [(gtName 2), (gtName 3)]) (t := eTst (eBin (eVar 3) (eC (.int 0)) dEq)) (vs := [2, 3]) (f := eApp [(eVar 2)] dTup) (p := P) (k := Kk)
    hsp rfl (by simp; omega) (fun x hx => by
      obtain ⟨p, _, rfl⟩ := List.mem_map.mp hx
      refine ⟨_, x_gtT, ?_, fun _ => ?_⟩
      · simp [P, pr, wipeE]
      · simp [Kk, pr, wipeE])
  rw [filt_pr fs (fun p => decide (p.2 = 0)) (fun p => .tup [.str p.1]) P Kk (fun a => by simp [P, pr]) (fun a => rfl)] at e2
  have e2' : (fs.filter fun p => decide (p.2 = 0)).map (fun p => D.tup [.str p.1]) = closed fs 0 := by simp [closed, consts]
  rw [e2', x_mkF] at e2
  obtain ⟨ρ', S', e3, j, t4, o2, o3, o5, o6, o7, h1, h2, rfl, u, hm, hmn⟩ := forN_st (gt := gtName 5) (b := bLc) (src := none) (all := rangeL 0 k)
    (fun xs ρ S' => ∃ (j : Nat) (t4 : D) (o2 o3 o5 o6 o7 : Option D), j + xs.length = k ∧ j ≤ k ∧ ρ = [some fd, some (.int k), o2, o3, some t4, o5, o6, o7] ∧ Up S S' ∧ Lis S' t4 (closed fs j) ∧ ((t4 = .lst (closed fs j) ∧ S' = S.push) ∨ ∃ m, t4 = .ref m ∧ S.new ≤ m))
    (fun _ _ _ _ => trivial) (fun x xs ρ S' h => by
      obtain ⟨j, t4, o2, o3, o5, o6, o7, h1, h2, rfl, u, hm, hmn⟩ := h
      simp only [List.length_cons] at h1
      obtain ⟨o2', o3', o6', o7', L, S2, e, u2, g, hL⟩ := lc_step (dep := .int k) (o2 := o2) (o3 := o3) (o5 := some x) (o6 := o6) (o7 := o7) hs F u hm (by omega)
      exact ⟨_, x_gtN, _, S2, e, j + 1, .ref L, _, _, _, _, _, by omega, by omega, rfl, u2, .inr ⟨L, rfl, g⟩, .inr ⟨L, rfl, hL⟩⟩)
    (rangeL 0 k) [some fd, some (.int k), none, none, some (.lst (closed fs 0)), none, none, none] S.push ⟨0, _, none, none, none, none, none, by rw [rangeL_len]; omega, Nat.zero_le _, rfl, Up.push, .inl rfl, .inl ⟨rfl, rfl⟩⟩
  have hj : j = k := by simpa using h1
  subst hj
  have hlim : -4611686018427387904 ≤ (j : Int) ∧ (j : Int) < 4611686018427387904 := by omega
  have hb : B__law_closed (initE 8 [fd, .int j]) S.push = .rt t4 S' := by
    show B__law_closed [some fd, some (.int j), none, none, none, none, none, none] S.push = _
    have a1 := asg_ok (i := 4) e2
    have a2 : sFor (iRange [(eVar 1)]) (gtName 5) bLc [some fd, some (.int j), none, none, some (.lst (closed fs 0)), none, none, none] S.push = _ := for_ok (xs := rangeL 0 j) (src := none) (S1 := S.push) (by simp [hlim.1, hlim.2]) e3
    show sSeq _ (sSeq (sFor _ _ bLc) _) _ _ = _
    rw [x_seq, a1]
    dsimp only [List.set_cons_succ, List.set_cons_zero]
    rw [x_seq, a2]
    rfl
  have hl0 : D.ltL 0 (closed fs j) = true := ltL_zero fun x hx => (closed_gt fs j x hx).l
  rcases hmn with ⟨rfl, rfl⟩ | ⟨m, rfl, hmn⟩
  · exact runV_pure hb
  · rcases hm with hm | ⟨m', hm, hm'⟩
    · cases hm
    · cases hm
      exact runV_list hb hm' hmn (D.ltL_mono (Nat.zero_le _) _ hl0) u
end K75

/-! K75l: named_signature. -/
namespace K75
open PySem PySem.Spec PyProof.Rows L2 Mi
theorem sq {a b : SM} {ρ ρ1 : Mi.Env} {S S1 : Sto} (h : a ρ S = .nx ρ1 S1) : sSeq a b ρ S = b ρ1 S1 := by simp only [x_seq, h]
theorem if_no {t : TM} {a b : SM} {ρ : Mi.Env} {S S1 : Sto} (h : t ρ S = .ok false S1) : sIf t a b ρ S = b ρ S1 := by
  simp only [x_sif, h, x_bindS_ok, Bool.false_eq_true, if_false]
theorem if_yes {t : TM} {a b : SM} {ρ : Mi.Env} {S S1 : Sto} (h : t ρ S = .ok true S1) : sIf t a b ρ S = a ρ S1 := by
  simp only [x_sif, h, x_bindS_ok, if_true]
theorem ret_ok {f : EM} {ρ : Mi.Env} {S S1 : Sto} {d : D} (h : f ρ S = .ok d S1) : sRet f ρ S = .rt d S1 := by
  simp only [x_ret, h, x_bindS_ok]
theorem expr_ok {f : EM} {ρ : Mi.Env} {S S1 : Sto} {d : D} (h : f ρ S = .ok d S1) : sExpr f ρ S = .nx ρ S1 := by
  simp only [x_expr, h, x_bindS_ok]
theorem mc_ext {S S2 : Sto} {d r e : D} {fs rs : List Fn} {ρ : Mi.Env} {i : Nat} {g : EM} (h : SigD S d fs rs) (hi : ρ[i]? = some (some d)) (hg : g ρ S = .ok e S) (hr : F_Signature_extended [d, e] S = .ok r S2) : eMc "Signature" "extended" (eVar i) [g] [] F_Signature_extended ρ S = .ok r S2 := by
  obtain ⟨t, h⟩ := h
  have n1 : (sg fs rs t).lookup ("extended" : Str) = none := by
    unfold sg
    simp [List.lookup_cons, show (("extended" : Str) == ("functions" : Str)) = false by decide +kernel, show (("extended" : Str) == ("relations" : Str)) = false by decide +kernel, show (("extended" : Str) == ("table" : Str)) = false by decide +kernel]
  simp [hi, h, n1, hg, hr]
theorem named_same {S : Sto} {d : D} {fs rs : List Fn} (h : SigD S d fs rs) (hl : fs.length ≤ 1000) (hc : consts fs ≠ []) : F_named_signature [d] S = .ok d S := by
  refine runV_pure ?_
  show B_named_signature [some d, none, none, none] S.push = _
  have e := mc_const (ρ := [some d, none, none, none]) (i := 0) h.push hl rfl
  unfold B_named_signature
  have ht : eTru (eMc "Signature" "constants" (eVar 0) [] [] F_Signature_constants) [some d, none, none, none] S.push = .ok true S.push := by
    cases q : consts fs with
    | nil => exact absurd q hc
    | cons a l =>
      rw [q] at e
      simp only [x_tru, e, x_bind_ok]
      rfl
  rw [x_seq, if_yes ht, ret_ok (d := d) (S1 := S.push) (by simp)]
theorem named_new {S : Sto} {d : D} {fs rs : List Fn} (h : SigD S d fs rs) (hl : fs.length + rs.length ≤ 900) (hc : consts fs = []) (h3 : [99, 51] ∉ (fs ++ rs).map (·.1)) (O : Okf (fs ++ [(fresh ((fs ++ rs).map (·.1)), 0)]) rs) :
    F_named_signature [d] S = .ok (.obj "Signature" (sg (fs ++ [(fresh ((fs ++ rs).map (·.1)), 0)]) rs (.dic (tab (fs ++ [(fresh ((fs ++ rs).map (·.1)), 0)] ++ rs))))) S := by
  refine runV_pure ?_
  show B_named_signature [some d, none, none, none] S.push = _
  have hp := h.push
  have hbig := big
  have e := mc_const (ρ := [some d, none, none, none]) (i := 0) hp (by omega) rfl
  have ht : eTru (eMc "Signature" "constants" (eVar 0) [] [] F_Signature_constants) [some d, none, none, none] S.push = .ok false S.push := by
    rw [hc] at e
    simp only [x_tru, e, x_bind_ok]
    rfl
  obtain ⟨f1, f2⟩ := sig_has hp (ρ := [some d, none, none, none]) (i := 0) rfl
  have hcat : eBin (eFld cs_functions (eVar 0) "functions") (eFld cs_relations (eVar 0) "relations") (dAdd false) [some d, none, none, none] S.push = .ok (.tup ((fs ++ rs).map pr)) S.push := by
    simp only [x_bin, f1, f2, x_bind_ok, x_addT]
    rw [if_pos (by simp; omega), List.map_append]
  let Kk : D → D := fun x => match x with
    | .tup [n, _] => n
    | _ => .non
  have e2 := x_lc_map (b := false) (S := S.push) (ρ := [some d, none, none, none]) (xs := (fs ++ rs).map pr) (gt := gtTup [(gtName 2), (gtName 3)]) (f := eVar 2) (vs := [2, 3]) (k := Kk) .tup hcat (by simp; omega) (fun w hw => by
    obtain ⟨p, _, rfl⟩ := List.mem_map.mp hw
    exact ⟨_, x_gtT, by simp [wipeE, Kk, pr]⟩)
  have e2' : ((fs ++ rs).map pr).map Kk = ((fs ++ rs).map (·.1)).map .str := by rw [List.map_map, List.map_map]; rfl
  rw [e2', x_mkF] at e2
  unfold B_named_signature
  refine (sq (if_no ht)).trans ((sq (asg_ok e2)).trans ?_)
  dsimp only [List.set_cons_succ, List.set_cons_zero]
  have ef := fresh_ok (S := S.push) h3
  have ex := extended_ok hp O
  clear e2 e2' hcat f1 f2 ht e
  revert ef ex
  generalize fresh ((fs ++ rs).map (·.1)) = c
  intro ef ex
  refine ret_ok (mc_ext (i := 0) (e := .lst [pr (c, 0)]) hp rfl ?_ ex)
  simp only [x_app, x_l1, x_l0, x_call, x_C, x_var, List.getElem?_cons_succ, List.getElem?_cons_zero, x_bind_ok, List.append_nil, ef, x_tup, x_lstF]
  rfl
end K75

/-! K75m: the law's draws. -/
namespace K75
open PySem PySem.Spec PyProof.Rows L2 Mi
theorem tk {m b : Nat} {S : Sto} {many : Int} (h : Ok m S b) (hb : b < lim) (hm : 0 < many) :
    ∃ i : Int, 0 ≤ i ∧ i < many ∧ ∃ S', F__law_take [.ref m, .int many] S = .ok (.int i) S' ∧ Ok m S' (b + 1) ∧ Sam m S S' := take_ok h hb hm
theorem tkn {m b : Nat} {S : Sto} {many : Nat} (h : Ok m S b) (hb : b < lim) (hm : 0 < many) :
    ∃ i : Nat, i < many ∧ ∃ S', F__law_take [.ref m, .int (many : Int)] S = .ok (.int (i : Int)) S' ∧ Ok m S' (b + 1) ∧ Sam m S S' := by
  obtain ⟨i, h0, h1, S', e, o, s⟩ := tk (many := (many : Int)) h hb (by omega)
  obtain ⟨n, rfl⟩ := Int.eq_ofNat_of_zero_le h0
  exact ⟨n, by omega, S', e, o, s⟩
theorem cut_to {α : Type} {l : List α} {i : Nat} : cutG l none (some (i : Int)) = l.take i := by
  unfold cutG
  rw [HT.sIx_nat, HT.sIx_none]
  simp [List.take_eq_take_iff]
structure St (S : Sto) (fl : List Fn) (b : Nat) : Prop where
  o : Ok 0 S b
  g : S.get 1 = some (.lst (fl.map pr))
  l : S.old.length = 0
  n : S.new = 2
theorem St.sam {S S' : Sto} {fl : List Fn} {b b' : Nat} (h : St S fl b) (o : Ok 0 S' b') (s : Sam 0 S S') : St S' fl b' := ⟨o, (s.g 1 (by decide)).trans h.g, s.lo.trans h.l, s.new.trans h.n⟩
theorem St.put {S : Sto} {fl : List Fn} {b : Nat} (h : St S fl b) (p : Fn) (i : Nat) (hl : fl.length ≤ 100) : ∃ S', mInsert (.ref 1) [.int (i : Int), pr p] S = .ok .non S' ∧ St S' (fl.take i ++ p :: fl.drop i) b ∨ ¬ i ≤ 100 := by
  by_cases hi : i ≤ 100
  · have hbig := big
    refine ⟨S.set 1 (.lst ((fl.take i ++ p :: fl.drop i).map pr)), .inl ⟨?_, ?_⟩⟩
    · unfold mInsert
      simp only [h.g]
      rw [if_pos ⟨by simp; omega, by omega, by omega⟩]
      unfold putL
      rw [if_pos (may_new (by rw [h.l]; omega))]
      simp [List.map_take, List.map_drop]
    · exact ⟨h.o.of (get_set_ne (by decide)), get_set (get_lt h.g), by rw [Sto.set_old]; exact h.l, by rw [new_set]; exact h.n⟩
  · exact ⟨S, .inr hi⟩
theorem ins_perm {fl : List Fn} {p : Fn} {i : Nat} : (fl.take i ++ p :: fl.drop i).Perm (p :: fl) := by
  have h : (fl.take i ++ p :: fl.drop i).Perm (p :: (fl.take i ++ fl.drop i)) := List.perm_middle
  rwa [List.take_append_drop] at h
/-- one insertion: the part after the place is drawn leaves all but the draws -/
theorem ins_step {S : Sto} {fl : List Fn} {b : Nat} {ρ : Mi.Env} {g : EM} (h : St S fl b) (hb : b + 10 < lim) (hl : fl.length ≤ 90) (h1 : ρ[1]? = some (some (.ref 0))) (h3 : ρ[3]? = some (some (.ref 1))) {Q : Fn → Prop}
    (hg : ∀ S1, St S1 fl (b + 1) → ∃ p S2, g ρ S1 = .ok (pr p) S2 ∧ Q p ∧ St S2 fl (b + 2)) :
    ∃ p fl' S', sExpr (eMeth (eVar 3) [(eCall [(eVar 1), (eBin (eApp [(eVar 3)] (b1 lenG)) (eC (.int 1)) (dAdd false))] [] F__law_take), g] mInsert) ρ S = .nx ρ S' ∧ Q p ∧ fl'.Perm (p :: fl) ∧ St S' fl' (b + 2) := by
  obtain ⟨i, hi, S1, e1, o1, s1⟩ := tkn (many := fl.length + 1) h.o (by omega) (by omega)
  have t1 := h.sam o1 s1
  obtain ⟨p, S2, e2, q, t2⟩ := hg S1 t1
  obtain ⟨S3, ⟨e3, t3⟩ | z⟩ := t2.put p i (by omega)
  · have hlen : lenG S (.ref 1) = some (.int fl.length) := by rw [x_lenR h.g, List.length_map]
    have hL : lstS S (.ref 1) = some (fl.map pr) := x_lstR h.g
    refine ⟨p, _, S3, ?_, q, ins_perm, t3⟩
    have e1' : F__law_take [.ref 0, .int ((fl.length : Int) + 1)] S = .ok (.int (i : Int)) S1 := by rw [← e1]; simp
    simp only [x_expr, x_meth, x_var, h3, x_bind_ok, hL, x_l1, x_call, h1, x_bin, x_app, x_l0, x_b1, hlen, x_of_some, x_C, x_addI, List.append_nil, e1', e2, e3, x_bindS_ok]
  · exact absurd (by omega) z
end K75

/-! K75n: the two rows of insertions; what is drawn is good. -/
namespace K75
open PySem PySem.Spec PyProof.Rows L2 Mi
noncomputable def bI1 : SM := (sExpr (eMeth (eVar 3) [(eCall [(eVar 1), (eBin (eApp [(eVar 3)] (b1 lenG)) (eC (.int 1)) (dAdd false))] [] F__law_take), (eApp [(eVar 4), (eC (.int 0))] dTup)] mInsert))
noncomputable def bI2 : SM := (sExpr (eMeth (eVar 3) [(eCall [(eVar 1), (eBin (eApp [(eVar 3)] (b1 lenG)) (eC (.int 1)) (dAdd false))] [] F__law_take), (eApp [(eVar 4), (eBin (eC (.int 1)) (eCall [(eVar 1), (eC (.int 3))] [] F__law_take) (dAdd false))] dTup)] mInsert))
theorem loop1 {S : Sto} {b : Nat} {cs : List (List Nat)} {o0 o2 o4 o5 : Option D} {ot : List (Option D)} (h : St S [] b) (hb : b + 50 < lim) (hc : cs.length ≤ 10) :
    ∃ o4' fl S', sForN (gtName 4) bI1 none (cs.map .str) (cs.map .str) (o0 :: some (.ref 0) :: o2 :: some (.ref 1) :: o4 :: ot) S = .nx (o0 :: some (.ref 0) :: o2 :: some (.ref 1) :: o4' :: ot) S' ∧ St S' fl (b + 2 * cs.length) ∧ fl.Perm (cs.map fun n => (n, 0)) := by
  obtain ⟨ρ', S', e, l, r, fl, o4', f1, f2, rfl, t, p⟩ := forN_st (gt := gtName 4) (b := bI1) (src := none) (all := cs.map .str)
    (fun xs ρ S' => ∃ (l r : List (List Nat)) (fl : List Fn) (o4 : Option D), cs = l ++ r ∧ xs = r.map .str ∧ ρ = (o0 :: some (.ref 0) :: o2 :: some (.ref 1) :: o4 :: ot) ∧ St S' fl (b + 2 * l.length) ∧ fl.Perm (l.map fun n => (n, 0)))
    (fun _ _ _ _ => trivial) (fun x xs ρ S' h => by
      obtain ⟨l, r, fl, o4, f1, f2, rfl, t, p⟩ := h
      cases r with
      | nil => cases f2
      | cons nm r =>
        cases f2
        have hl : l.length < 10 := by
          have := congrArg List.length f1
          simp at this; omega
        obtain ⟨q, fl', S2, e, rfl, p2, t2⟩ := ins_step (ρ := o0 :: some (.ref 0) :: o2 :: some (.ref 1) :: some (.str nm) :: ot) (g := eApp [(eVar 4), (eC (.int 0))] dTup) (Q := fun q => q = (nm, 0)) t (by omega) (by rw [p.length_eq, List.length_map]; omega) rfl rfl (fun S1 t1 => ⟨(nm, 0), S1, by simp [pr], rfl, t1.o.le (by omega), t1.g, t1.l, t1.n⟩)
        refine ⟨_, x_gtN, _, S2, e, l ++ [nm], r, fl', _, by rw [f1]; simp, rfl, rfl, by rw [List.length_append]; exact t2, ?_⟩
        rw [List.map_append]
        exact p2.trans ((List.Perm.cons _ p).trans (List.perm_append_singleton _ _).symm))
    (cs.map .str) (o0 :: some (.ref 0) :: o2 :: some (.ref 1) :: o4 :: ot) S ⟨[], cs, [], _, rfl, rfl, rfl, h, List.Perm.nil⟩
  have hr : r = [] := by cases r with
    | nil => rfl
    | cons _ _ => cases f2
  subst hr
  rw [List.append_nil] at f1
  subst f1
  exact ⟨o4', fl, S', e, t, p⟩
theorem loop2 {S : Sto} {b : Nat} {os : List (List Nat)} {fl0 : List Fn} {o0 o2 o4 o5 : Option D} {ot : List (Option D)} (h : St S fl0 b) (hb : b + 100 < lim) (hc : os.length ≤ 10) (hf : fl0.length ≤ 10) :
    ∃ o4' fl ps S', sForN (gtName 4) bI2 none (os.map .str) (os.map .str) (o0 :: some (.ref 0) :: o2 :: some (.ref 1) :: o4 :: ot) S = .nx (o0 :: some (.ref 0) :: o2 :: some (.ref 1) :: o4' :: ot) S' ∧ St S' fl (b + 2 * os.length) ∧ fl.Perm (ps ++ fl0) ∧ (ps.map (·.1)).Perm os ∧ ∀ p ∈ ps, 1 ≤ p.2 ∧ p.2 ≤ 3 := by
  obtain ⟨ρ', S', e, l, r, fl, ps, o4', f1, f2, rfl, t, p, pp, pa⟩ := forN_st (gt := gtName 4) (b := bI2) (src := none) (all := os.map .str)
    (fun xs ρ S' => ∃ (l r : List (List Nat)) (fl ps : List Fn) (o4 : Option D), os = l ++ r ∧ xs = r.map .str ∧ ρ = (o0 :: some (.ref 0) :: o2 :: some (.ref 1) :: o4 :: ot) ∧ St S' fl (b + 2 * l.length) ∧ fl.Perm (ps ++ fl0) ∧ (ps.map (·.1)).Perm l ∧ ∀ p ∈ ps, 1 ≤ p.2 ∧ p.2 ≤ 3)
    (fun _ _ _ _ => trivial) (fun x xs ρ S' h => by
      obtain ⟨l, r, fl, ps, o4, f1, f2, rfl, t, p, pp, pa⟩ := h
      cases r with
      | nil => cases f2
      | cons nm r =>
        cases f2
        have hl : l.length < 10 := by
          have := congrArg List.length f1
          simp at this; omega
        have hps : ps.length = l.length := by rw [← pp.length_eq, List.length_map]
        obtain ⟨q, fl', S2, e, ⟨q1, q2, q3⟩, p2, t2⟩ := ins_step (ρ := o0 :: some (.ref 0) :: o2 :: some (.ref 1) :: some (.str nm) :: ot) (g := eApp [(eVar 4), (eBin (eC (.int 1)) (eCall [(eVar 1), (eC (.int 3))] [] F__law_take) (dAdd false))] dTup) (Q := fun q => q.1 = nm ∧ 1 ≤ q.2 ∧ q.2 ≤ 3) t (by omega) (by rw [p.length_eq, List.length_append]; omega) rfl rfl (fun S1 t1 => by
          obtain ⟨i, hi, T, e1, o1, s1⟩ := tkn (many := 3) t1.o (by omega) (by omega)
          have e1' : F__law_take [.ref 0, .int 3] S1 = .ok (.int (i : Int)) T := e1
          exact ⟨(nm, 1 + i), T, by simp [pr, e1'], ⟨rfl, by simp, by simp; omega⟩, t1.sam o1 s1⟩)
        refine ⟨_, x_gtN, _, S2, e, l ++ [nm], r, fl', q :: ps, _, by rw [f1]; simp, rfl, rfl, by rw [List.length_append]; exact t2, p2.trans (p.cons q), ?_, fun a ha => ?_⟩
        · rw [List.map_cons, q1]
          exact (pp.cons nm).trans (List.perm_append_singleton _ _).symm
        · rcases List.mem_cons.mp ha with z | z
          · rw [z]; exact ⟨q2, q3⟩
          · exact pa a z)
    (os.map .str) (o0 :: some (.ref 0) :: o2 :: some (.ref 1) :: o4 :: ot) S ⟨[], os, fl0, [], _, rfl, rfl, rfl, h, List.Perm.refl _, List.Perm.refl _, fun _ h => by simp at h⟩
  have hr : r = [] := by cases r with
    | nil => rfl
    | cons _ _ => cases f2
  subst hr
  rw [List.append_nil] at f1
  subst f1
  exact ⟨o4', fl, ps, S', e, t, p, pp, pa⟩
def cnames : List (List Nat) := [[97], [99, 51], [122, 101, 114, 111]]
def orows : List (List (List Nat)) := [[[102], [99, 50]], [[99, 49], [99, 50]], [[99, 50], [99, 49]]]
def rnames : List Fn := [([80], 1), ([67, 49], 0)]
def onames (q : Nat) : List (List Nat) := orows.getD q []
theorem good_tab1 : ∀ i < 4, ∀ q < 3, ∀ j < 3, ∀ r < 3, ((cnames.take i ++ (onames q).take j) ++ (rnames.take r).map (·.1)).Nodup := by decide +kernel
theorem good_tab2 : ∀ i < 4, ∀ q < 3, ∀ j < 3, ((cnames.take i ++ (onames q).take j).all fun n => decide (n ∈ smalls)) = true := by decide +kernel
theorem good_tab3 : ∀ r < 3, ((rnames.take r).all fun p => decide (p.1 ∈ caps) && decide (p.2 ≤ 3)) = true := by decide +kernel
theorem good_tab (i : Nat) (hi : i < 4) (q : Nat) (hq : q < 3) (j : Nat) (hj : j < 3) (r : Nat) (hr : r < 3) : ((cnames.take i ++ (onames q).take j) ++ (rnames.take r).map (·.1)).Nodup ∧ (∀ n ∈ (cnames.take i ++ (onames q).take j), n ∈ smalls) ∧ (∀ p ∈ rnames.take r, p.1 ∈ caps ∧ p.2 ≤ 3) := by
  have h2 := good_tab2 i hi q hq j hj
  have h3 := good_tab3 r hr
  rw [List.all_eq_true] at h2 h3
  exact ⟨good_tab1 i hi q hq j hj r hr, fun n hn => by simpa using h2 n hn, fun p hp => by simpa using h3 p hp⟩
theorem good_tab0 : ∀ q < 3, ∀ j < 3, ∀ r < 3, [99, 51] ∉ (onames q).take j ++ (rnames.take r).map (·.1) := by decide +kernel
theorem good_c : ∀ c ∈ [[99, 49], [99, 50], [99, 51]], c ∈ smalls ∧ ∀ r < 3, c ∉ (rnames.take r).map (·.1) := by decide +kernel
/-- what was drawn -/
structure Drawn (fl : List Fn) (i q j : Nat) : Prop where
  hi : i < 4
  hq : q < 3
  hj : j < 3
  ex : ∃ ps : List Fn, fl.Perm (ps ++ (cnames.take i).map fun n => (n, 0)) ∧ (ps.map (·.1)).Perm ((onames q).take j) ∧ ∀ p ∈ ps, 1 ≤ p.2 ∧ p.2 ≤ 3
theorem Drawn.names {fl : List Fn} {i q j : Nat} (h : Drawn fl i q j) : (fl.map (·.1)).Perm (cnames.take i ++ (onames q).take j) := by
  obtain ⟨ps, p, pp, _⟩ := h.ex
  have h1 := p.map (·.1)
  rw [List.map_append, List.map_map] at h1
  have h2 : ((cnames.take i).map ((fun x : Fn => x.1) ∘ fun n => (n, 0))) = cnames.take i := by
    rw [show ((fun x : Fn => x.1) ∘ fun n : List Nat => (n, 0)) = id from rfl, List.map_id]
  rw [h2] at h1
  exact h1.trans ((pp.append_right _).trans List.perm_append_comm)
theorem Drawn.ar {fl : List Fn} {i q j : Nat} (h : Drawn fl i q j) : ∀ p ∈ fl, p.2 ≤ 3 := by
  obtain ⟨ps, p, pp, pa⟩ := h.ex
  intro a ha
  rcases List.mem_append.mp (p.mem_iff.mp ha) with z | z
  · exact (pa a z).2
  · obtain ⟨n, _, rfl⟩ := List.mem_map.mp z
    exact Nat.zero_le _
theorem onames_len (q : Nat) (j : Nat) (hj : j < 3) : ((onames q).take j).length ≤ 2 := by
  rw [List.length_take]; omega
theorem Drawn.len {fl : List Fn} {i q j : Nat} (h : Drawn fl i q j) : fl.length ≤ 5 := by
  have h1 := h.names.length_eq
  have h2 := onames_len q j h.hj
  have h3 := h.hi
  rw [List.length_map, List.length_append, List.length_take] at h1
  omega
theorem Drawn.co {fl : List Fn} {i q j : Nat} (h : Drawn fl i q j) : (consts fl).length = i := by
  obtain ⟨ps, p, pp, pa⟩ := h.ex
  have h1 := (p.filter fun a => decide (a.2 = 0)).length_eq
  have h2 : ps.filter (fun a => decide (a.2 = 0)) = [] := List.filter_eq_nil_iff.mpr fun a ha => by have := (pa a ha).1; simp; omega
  have h3 : ((cnames.take i).map fun n => ((n, 0) : Fn)).filter (fun a => decide (a.2 = 0)) = (cnames.take i).map fun n => (n, 0) := List.filter_eq_self.mpr fun a ha => by
    obtain ⟨n, _, rfl⟩ := List.mem_map.mp ha
    rfl
  rw [List.filter_append, h2, h3] at h1
  unfold consts
  rw [List.length_map, h1]
  have := h.hi
  simp [cnames]; omega
theorem Drawn.fu {fl : List Fn} {i q j : Nat} (h : Drawn fl i q j) : (fl.filter fun p => decide (0 < p.2)).length ≤ 2 := by
  obtain ⟨ps, p, pp, pa⟩ := h.ex
  have h1 := (p.filter fun a => decide (0 < a.2)).length_eq
  have h2 : ps.length ≤ 2 := by
    have := pp.length_eq
    rw [List.length_map] at this
    rw [this]; exact onames_len q j h.hj
  have h3 : ((cnames.take i).map fun n => ((n, 0) : Fn)).filter (fun a => decide (0 < a.2)) = [] := List.filter_eq_nil_iff.mpr fun a ha => by
    obtain ⟨n, _, rfl⟩ := List.mem_map.mp ha
    simp
  rw [List.filter_append, h3, List.append_nil] at h1
  rw [h1]
  exact Nat.le_trans (List.length_filter_le _ _) h2
theorem Drawn.few {fl : List Fn} {i q j : Nat} (h : Drawn fl i q j) : Few fl := ⟨h.ar, by rw [h.co]; have := h.hi; omega, h.fu, by have := h.len; omega⟩
theorem Drawn.okf {fl : List Fn} {i q j r : Nat} (h : Drawn fl i q j) (hr : r < 3) : Okf fl (rnames.take r) := by
  obtain ⟨g1, g2, g3⟩ := good_tab i h.hi q h.hq j h.hj r hr
  have hn := h.names
  refine ⟨fun p hp => g2 _ (hn.mem_iff.mp (List.mem_map_of_mem hp)), fun p hp => (g3 p hp).1, ?_, fun p hp => ?_, ?_⟩
  · rw [List.map_append]
    exact ((hn.append_right _).nodup_iff).mpr g1
  · rcases List.mem_append.mp hp with z | z
    · exact h.ar p z
    · exact (g3 p z).2
  · have := h.len
    rw [List.length_take]; omega
theorem fresh_in (l : List (List Nat)) : fresh l ∈ [[99, 49], [99, 50], [99, 51]] := by
  unfold fresh
  split
  · simp
  · split <;> simp
theorem fresh_no {l : List (List Nat)} (h3 : [99, 51] ∉ l) : fresh l ∉ l := by
  unfold fresh
  split
  · assumption
  · split
    · assumption
    · exact h3
theorem Drawn.ext {fl : List Fn} {q j r : Nat} (h : Drawn fl 0 q j) (hr : r < 3) {c : List Nat} (hc : c ∈ [[99, 49], [99, 50], [99, 51]]) (hn : c ∉ fl.map (·.1)) : Okf (fl ++ [(c, 0)]) (rnames.take r) ∧ Few (fl ++ [(c, 0)]) := by
  have O := h.okf hr
  obtain ⟨c1, c2⟩ := good_c c hc
  have hlen := h.len
  refine ⟨⟨fun p hp => ?_, O.ca, ?_, fun p hp => ?_, ?_⟩, ⟨fun p hp => ?_, ?_, ?_, ?_⟩⟩
  · rcases List.mem_append.mp hp with z | z
    · exact O.sm p z
    · have : p = (c, 0) := by simpa using z
      rw [this]; exact c1
  · have h1 := O.nd
    rw [List.map_append, List.map_append] at *
    have h2 : (fl.map (·.1) ++ [(c, 0)].map (fun x : Fn => x.1) ++ (rnames.take r).map (·.1)).Perm (c :: (fl.map (·.1) ++ (rnames.take r).map (·.1))) := by
      rw [List.append_assoc]
      exact List.perm_middle
    refine h2.nodup_iff.mpr (List.nodup_cons.mpr ⟨fun z => ?_, h1⟩)
    rcases List.mem_append.mp z with z | z
    · exact hn z
    · exact c2 r hr z
  · rcases List.mem_append.mp hp with z | z
    · rcases List.mem_append.mp z with z | z
      · exact h.ar p z
      · have : p = (c, 0) := by simpa using z
        rw [this]; exact Nat.zero_le _
    · exact O.ar p (List.mem_append_right _ z)
  · rw [List.length_append, List.length_take, List.length_singleton]; omega
  · rcases List.mem_append.mp hp with z | z
    · exact h.ar p z
    · have : p = (c, 0) := by simpa using z
      rw [this]; exact Nat.zero_le _
  · have := h.co
    simp only [consts, List.length_map] at *
    rw [List.filter_append, List.length_append, this]
    simp
  · have := h.fu
    rw [List.filter_append, List.length_append]
    simpa using this
  · rw [List.length_append, List.length_singleton]; omega
theorem fresh_same {fl : List Fn} {r : Nat} (hr : r < 3) : fresh ((fl ++ rnames.take r).map (·.1)) = fresh (fl.map (·.1)) := by
  have h1 := (good_c [99, 49] (by decide)).2 r hr
  have h2 := (good_c [99, 50] (by decide)).2 r hr
  unfold fresh
  rw [List.map_append]
  simp only [List.mem_append, h1, h2, or_false]
end K75

/-! K75o: the law. -/
namespace K75
open PySem PySem.Spec PyProof.Rows L2 Mi
theorem start0 {S : Sto} {ns : List Int} (hn : ns.length ≤ 63) : ∃ c, F__law_start [.frl (ns.map .int)] S = .ok (.ref S.new) (S.add c) ∧ Ok S.new (S.add c) 0 := start_ok hn
theorem pl_prs (l : List Fn) : Pl (.tup (l.map pr)) = true ∧ dp (.tup (l.map pr)) ≤ 2 := by
  constructor
  · simp only [Pl]
    exact PlL_all.mpr fun x hx => by
      obtain ⟨p, _, rfl⟩ := List.mem_map.mp hx
      rfl
  · simp only [dp]
    exact Nat.succ_le_succ (dpL_le.mpr fun x hx => by
      obtain ⟨p, _, rfl⟩ := List.mem_map.mp hx
      exact Nat.le_refl _)
theorem ne_prs (l : List Fn) (S : Sto) : dNe (.tup (l.map pr)) (.tup (l.map pr)) S = .ok (.bl false) S := by
  rw [dNe_pl (pl_prs l).1 (pl_prs l).1 (.inl (by have := (pl_prs l).2; omega))]
  simp
theorem pl_cl {T : List D} {k : Nat} (h : ∀ x ∈ T, Gt k x) : Pl (.lst T) = true ∧ dp (.lst T) ≤ k + 1 := ⟨(Gts.pl h).1, Nat.succ_le_succ (Gts.pl h).2⟩
theorem make_ok {S : Sto} {fs rs : List Fn} {fl rl : D} (O : Okf fs rs) (hf : ∀ T, itS T fl = some (fs.map pr, none)) (hr : ∀ T, itS T rl = some (rs.map pr, none)) (ho : S.old.length = 0) {f g : EM} {ρ : Mi.Env} (h1 : f ρ S = .ok fl S) (h2 : g ρ S = .ok rl S) :
    ∃ S', eNew "Signature" [f, g] [] F_Signature___init__ ρ S = .ok (.ref S.new) S' ∧ (∀ n, n < S.new → S'.get n = S.get n) ∧ S'.get S.new = some (.ins "Signature" (sg fs rs (.ref (S.new + 1)))) ∧ S'.new = S.new + 2 ∧ S'.old.length = 0 := by
  let T := S.add (.ins "Signature" [])
  have hg : T.get S.new = some (.ins "Signature" []) := get_add
  have hTn : T.new = S.new + 1 := new_add
  have hTo : T.old.length = 0 := ho
  have i := init_ok (S := T) (n := S.new) O hg (by rw [hTo]; exact Nat.zero_le _) hf hr
  rw [hTn] at i
  let T1 := T.set S.new (.ins "Signature" (sg fs rs (.ref (S.new + 1))))
  have hT1 : T1.new = S.new + 1 := by show (T.set _ _).new = _; rw [new_set, hTn]
  refine ⟨T1.add (.dic (tab (fs ++ rs))), ?_, fun n hn => ?_, ?_, ?_, ?_⟩
  · have i' : F_Signature___init__ [.ref S.new, fl, rl] (S.add (.ins "Signature" [])) = .ok .non (T1.add (.dic (tab (fs ++ rs)))) := i
    simp only [x_new, x_l1, x_l0, h1, h2, x_bind_ok, List.append_nil, i']
  · rw [get_add_lt (by rw [hT1]; omega)]
    show (T.set _ _).get n = _
    rw [get_set_ne (by omega)]
    exact get_add_lt hn
  · rw [get_add_lt (by rw [hT1]; omega)]
    exact get_set (get_lt hg)
  · rw [new_add, hT1]
  · show T1.old.length = 0
    show (T.set _ _).old.length = 0
    rw [Sto.set_old]; exact hTo
theorem SigD.get {S : Sto} {n : Nat} {fs rs : List Fn} {t : D} (h : S.get n = some (.ins "Signature" (sg fs rs t))) : SigD S (.ref n) fs rs := ⟨t, insS_ref h⟩
theorem max_ok (fs : List Fn) (h : fs ≠ []) (S : Sto) : ∃ w : Int, maxG S (.lst ((fs.map fun p => (p.2 : Int)).map .int)) = some (.int w) := by
  have hi : ∀ l : List Int, intsD (l.map .int) = some l := fun l => by
    induction l with
    | nil => rfl
    | cons a r ih => simp [intsD, ih]
  unfold maxG
  simp only [lstS, hi]
  cases fs with
  | nil => exact absurd rfl h
  | cons a r => exact ⟨_, rfl⟩
end K75

/-! K75p: the names that are due. -/
namespace K75
open PySem PySem.Spec PyProof.Rows L2 Mi
noncomputable def bNum : SM := (sIf (eTst (eBin (eBin (eC (.str [99])) (eApp [(eVar 10)] (b1 strG)) (dAdd false)) (eVar 11) dIn)) (sAsg (eBin (eVar 10) (eC (.int 1)) (dAdd false)) (gtName 10)) sSkip)
theorem num_step {S : Sto} {l : List (List Nat)} {n : Nat} {o0 o1 o2 o3 o4 o5 o6 o7 o8 o9 o12 : Option D} {ot : List (Option D)} {s : List Nat} (hs : strG S (.int n) = some (.str s)) (hl : s.length ≤ 10) :
    bNum (o0 :: o1 :: o2 :: o3 :: o4 :: o5 :: o6 :: o7 :: o8 :: o9 :: some (.int n) :: some (.lst (l.map .str)) :: o12 :: ot) S = .nx (o0 :: o1 :: o2 :: o3 :: o4 :: o5 :: o6 :: o7 :: o8 :: o9 :: some (.int (if 99 :: s ∈ l then ((n + 1 : Nat) : Int) else n)) :: some (.lst (l.map .str)) :: o12 :: ot) S := by
  unfold bNum
  by_cases h : 99 :: s ∈ l
  · simp [hs, x_addS (show [99].length + s.length ≤ 1000000 by simp; omega), x_inLs, h]
  · simp [hs, x_addS (show [99].length + s.length ≤ 1000000 by simp; omega), x_inLs, h]
theorem range3 : rangeL 0 3 = [.int 0, .int 1, .int 2] := rfl
theorem num_loop {S : Sto} {l : List (List Nat)} {o0 o1 o2 o3 o4 o5 o6 o7 o8 o9 o12 : Option D} {ot : List (Option D)} (h3 : [99, 51] ∉ l) :
    ∃ n : Nat, sForN (gtName 12) bNum none [.int 0, .int 1, .int 2] [.int 0, .int 1, .int 2] (o0 :: o1 :: o2 :: o3 :: o4 :: o5 :: o6 :: o7 :: o8 :: o9 :: some (.int 1) :: some (.lst (l.map .str)) :: o12 :: ot) S = .nx (o0 :: o1 :: o2 :: o3 :: o4 :: o5 :: o6 :: o7 :: o8 :: o9 :: some (.int n) :: some (.lst (l.map .str)) :: some (.int 2) :: ot) S ∧ ∃ s, strG S (.int n) = some (.str s) ∧ s.length ≤ 10 ∧ 99 :: s = fresh l := by
  have d1 : strG S (.int ((1 : Nat) : Int)) = some (.str [49]) := dec1
  have d2 : strG S (.int ((2 : Nat) : Int)) = some (.str [50]) := dec2
  have d3 : strG S (.int ((3 : Nat) : Int)) = some (.str [51]) := dec3
  by_cases h1 : [99, 49] ∈ l
  · by_cases h2 : [99, 50] ∈ l
    · refine ⟨3, ?_, [51], d3, by decide, by unfold fresh; simp [h1, h2]⟩
      rw [forN_1, x_gtN]
      dsimp only [List.set_cons_succ, List.set_cons_zero]
      have := num_step (S := S) (n := 1) (l := l) (o0 := o0) (o1 := o1) (o2 := o2) (o3 := o3) (o4 := o4) (o5 := o5) (o6 := o6) (o7 := o7) (o8 := o8) (o9 := o9) (o12 := some (.int 0)) (ot := ot) d1 (by decide)
      rw [if_pos h1] at this
      rw [show (1 : Int) = ((1 : Nat) : Int) from rfl, this]
      dsimp only
      rw [forN_1, x_gtN]
      dsimp only [List.set_cons_succ, List.set_cons_zero]
      have := num_step (S := S) (n := 2) (l := l) (o0 := o0) (o1 := o1) (o2 := o2) (o3 := o3) (o4 := o4) (o5 := o5) (o6 := o6) (o7 := o7) (o8 := o8) (o9 := o9) (o12 := some (.int 1)) (ot := ot) d2 (by decide)
      rw [if_pos h2] at this
      erw [this]
      dsimp only
      rw [forN_1, x_gtN]
      dsimp only [List.set_cons_succ, List.set_cons_zero]
      have := num_step (S := S) (n := 3) (l := l) (o0 := o0) (o1 := o1) (o2 := o2) (o3 := o3) (o4 := o4) (o5 := o5) (o6 := o6) (o7 := o7) (o8 := o8) (o9 := o9) (o12 := some (.int 2)) (ot := ot) d3 (by decide)
      rw [if_neg h3] at this
      erw [this]
      dsimp only
      rw [forN_0]
    · refine ⟨2, ?_, [50], d2, by decide, by unfold fresh; simp [h1, h2]⟩
      rw [forN_1, x_gtN]
      dsimp only [List.set_cons_succ, List.set_cons_zero]
      have := num_step (S := S) (n := 1) (l := l) (o0 := o0) (o1 := o1) (o2 := o2) (o3 := o3) (o4 := o4) (o5 := o5) (o6 := o6) (o7 := o7) (o8 := o8) (o9 := o9) (o12 := some (.int 0)) (ot := ot) d1 (by decide)
      rw [if_pos h1] at this
      rw [show (1 : Int) = ((1 : Nat) : Int) from rfl, this]
      dsimp only
      have t2 := fun o12 => num_step (S := S) (n := 2) (l := l) (o0 := o0) (o1 := o1) (o2 := o2) (o3 := o3) (o4 := o4) (o5 := o5) (o6 := o6) (o7 := o7) (o8 := o8) (o9 := o9) (o12 := o12) (ot := ot) d2 (by decide)
      rw [if_neg h2] at t2
      rw [forN_1, x_gtN]
      dsimp only [List.set_cons_succ, List.set_cons_zero]
      erw [t2]
      dsimp only
      rw [forN_1, x_gtN]
      dsimp only [List.set_cons_succ, List.set_cons_zero]
      erw [t2]
      dsimp only
      rw [forN_0]
  · refine ⟨1, ?_, [49], d1, by decide, by unfold fresh; simp [h1]⟩
    have t1 := fun o12 => num_step (S := S) (n := 1) (l := l) (o0 := o0) (o1 := o1) (o2 := o2) (o3 := o3) (o4 := o4) (o5 := o5) (o6 := o6) (o7 := o7) (o8 := o8) (o9 := o9) (o12 := o12) (ot := ot) d1 (by decide)
    rw [if_neg h1] at t1
    rw [forN_1, x_gtN]
    dsimp only [List.set_cons_succ, List.set_cons_zero]
    erw [t1]
    dsimp only
    rw [forN_1, x_gtN]
    dsimp only [List.set_cons_succ, List.set_cons_zero]
    erw [t1]
    dsimp only
    rw [forN_1, x_gtN]
    dsimp only [List.set_cons_succ, List.set_cons_zero]
    erw [t1]
    dsimp only
    rw [forN_0]
noncomputable def bDue : SM := (sSeq (sAsg (eC (.int 1)) (gtName 10))
  (sSeq (sAsg (eLc false (iVal (eVar 3)) (gtTup [(gtName 4), (gtName 16)]) tYesM (eVar 4) [4, 16]) (gtName 11))
  (sSeq (sFor (iRange [(eC (.int 3))]) (gtName 12) bNum)
  (sExpr (eMeth (eVar 9) [(eApp [(eBin (eC (.str [99])) (eApp [(eVar 10)] (b1 strG)) (dAdd false)), (eC (.int 0))] dTup)] mAppend)))))
theorem due_ok {S : Sto} {fl : List Fn} {m : Nat} {o0 o1 o2 o4 o5 o6 o7 o8 o10 o11 o12 o13 o14 o15 : Option D} (h1 : S.get 1 = some (.lst (fl.map pr))) (hm : S.get m = some (.lst (fl.map pr))) (ho : S.old.length = 0) (hl : fl.length ≤ 100) (h3 : [99, 51] ∉ fl.map (·.1)) :
    ∃ o10' o11' o12', bDue [o0, o1, o2, some (.ref 1), o4, o5, o6, o7, o8, some (.ref m), o10, o11, o12, o13, o14, o15, none] S = .nx [o0, o1, o2, some (.ref 1), o4, o5, o6, o7, o8, some (.ref m), o10', o11', o12', o13, o14, o15, none] (S.set m (.lst ((fl ++ [((fresh (fl.map (·.1)), 0) : Fn)]).map pr))) := by
  have hbig := big
  let Kk : D → D := fun x => match x with
    | .tup [n, _] => n
    | _ => .non
  have e2 := x_lc_map (b := false) (S := S) (g := eVar 3) (ρ := [o0, o1, o2, some (.ref 1), o4, o5, o6, o7, o8, some (.ref m), some (.int 1), o11, o12, o13, o14, o15, none]) (x := .ref 1) (xs := fl.map pr) (gt := gtTup [(gtName 4), (gtName 16)]) (f := eVar 4) (vs := [4, 16]) (k := Kk) (.ref h1) rfl (by simp; omega) (fun w hw => by
    obtain ⟨p, _, rfl⟩ := List.mem_map.mp hw
    exact ⟨_, x_gtT, by simp [wipeE, Kk, pr]⟩)
  have e2' : (fl.map pr).map Kk = (fl.map (·.1)).map .str := by rw [List.map_map, List.map_map]; rfl
  rw [e2', x_mkF] at e2
  obtain ⟨n, e3, s, hs, hsl, hf⟩ := num_loop (S := S) (l := fl.map (·.1)) (o0 := o0) (o1 := o1) (o2 := o2) (o3 := some (.ref 1)) (o4 := o4) (o5 := o5) (o6 := o6) (o7 := o7) (o8 := o8) (o9 := some (.ref m)) (o12 := o12) (ot := [o13, o14, o15, none]) h3
  refine ⟨some (.int n), some (.lst ((fl.map (·.1)).map .str)), some (.int 2), ?_⟩
  unfold bDue
  refine (sq (asg_ok (d := .int 1) (S1 := S) rfl)).trans ?_
  dsimp only [List.set_cons_succ, List.set_cons_zero]
  refine (sq (asg_ok e2)).trans ?_
  dsimp only [List.set_cons_succ, List.set_cons_zero]
  refine (sq (for_ok (S1 := S) (src := none) (xs := [.int 0, .int 1, .int 2]) (by simp [range3]) e3)).trans ?_
  rw [← hf]
  have hL : lstS S (.ref m) = some (fl.map pr) := x_lstR hm
  have ea := x_app1 (d := .tup [.str (99 :: s), .int 0]) hm (by simp; omega) (may_new (by rw [ho]; exact Nat.zero_le _))
  refine (expr_ok (d := .non) (S1 := S.set m (.lst (fl.map pr ++ [.tup [.str (99 :: s), .int 0]]))) ?_).trans (by simp [pr])
  simp [-x_addS, hL, hs, x_addS (show [99].length + s.length ≤ 1000000 by simp; omega), ea]
end K75

/-! K75q: the law. -/
namespace K75
open PySem PySem.Spec PyProof.Rows L2 Mi
def Tru (r : SR) : Prop := ∃ S', r = .rt (.bl true) S'
theorem sqT {a b : SM} {ρ ρ1 : Mi.Env} {S S1 : Sto} (h : a ρ S = .nx ρ1 S1) (h2 : Tru (b ρ1 S1)) : Tru (sSeq a b ρ S) := by rw [sq h]; exact h2
theorem if_skip {t : TM} {a : SM} {ρ : Mi.Env} {S S1 : Sto} (h : t ρ S = .ok false S1) : sIf t a sSkip ρ S = .nx ρ S1 := (if_no h).trans rfl
theorem Sam0.keep {S S' : Sto} (s : Sam 0 S S') {n : Nat} (h : 0 < n) : S'.get n = S.get n := s.g n (by omega)
/-- the law from the names that are due on -/
noncomputable def bEnd : SM := (sSeq (sIf (tOrM (eTst (eBin (eFld cs_functions (eVar 8) "functions") (eApp [(eVar 9)] (dTuple)) dNe)) (eTst (eBin (eFld cs_relations (eVar 8) "relations") (eApp [(eVar 6)] (dTuple)) dNe))) (sRet (eC (.bl false))) sSkip)
  (sSeq (sIf (eTst (eBin (eFld cs_functions (eVar 7) "functions") (eApp [(eVar 3)] (dTuple)) dNe)) (sRet (eC (.bl false))) sSkip)
  (sSeq (sAsg (eApp [(eLc false (iVal (eVar 9)) (gtTup [(gtName 4), (gtName 16)]) tYesM (eVar 16) [4, 16])] ((fun ds S => match ds with
    | [_, _] => b2 max2G ds S
    | ds => b1 maxG ds S))) (gtName 13))
  (sSeq (sAsg (eCall [(eVar 1), (eC (.int 3))] [] F__law_take) (gtName 14))
  (sSeq (sIf (tOrM (eTst (eBin (eVar 13) (eC (.int 3)) dEq)) (tAndM (eTst (eBin (eVar 13) (eC (.int 2)) dEq)) (eTst (eBin (eApp [(eVar 9)] (b1 lenG)) (eC (.int 3)) dGt)))) (sAsg (eApp [(eVar 14), (eC (.int 1))] (b2 min2G)) (gtName 14)) sSkip)
  (sSeq (sAsg (eCall [(eVar 8), (eVar 14)] [] F_closed_terms) (gtName 15))
  (sSeq (sIf (tOrM (tNotM (eTru (eIsT "list" (eVar 15)))) (eTst (eBin (eVar 15) (eCall [(eVar 9), (eVar 14)] [] F__law_closed) dNe))) (sRet (eC (.bl false))) sSkip)
  (sSeq (sExpr (eMeth (eVar 15) [(eApp [(eC (.str [97]))] dTup)] mAppend))
  (sRet (eAndV (eBin (eCall [(eVar 8), (eVar 14)] [] F_closed_terms) (eCall [(eVar 9), (eVar 14)] [] F__law_closed) dEq) (eBin (eCall [(eVar 7), (eC (.int 0))] [] F_closed_terms) (eLc false (iVal (eVar 3)) (gtTup [(gtName 4), (gtName 16)]) (eTst (eBin (eVar 16) (eC (.int 0)) dEq)) (eApp [(eVar 4)] dTup) [4, 16]) dEq)))))))))))
/-- what stands at the end's start -/
structure En (S : Sto) (fl due rs : List Fn) (nd : D) (b : Nat) : Prop where
  o : Ok 0 S b
  g1 : S.get 1 = some (.lst (fl.map pr))
  g2 : ∃ t, S.get 2 = some (.ins "Signature" (sg fl rs t))
  g4 : S.get 4 = some (.lst (due.map pr))
  nd : ∀ T : Sto, T.get 2 = S.get 2 → SigD T nd due rs
  l : S.old.length = 0
  n : S.new = 5
theorem En.sam {S S' : Sto} {fl due rs : List Fn} {nd : D} {b b' : Nat} (h : En S fl due rs nd b) (o : Ok 0 S' b') (s : Sam 0 S S') : En S' fl due rs nd b' := by
  have k := fun n (hn : 0 < n) => Sam0.keep s hn
  exact ⟨o, (k 1 (by decide)).trans h.g1, (by rw [k 2 (by decide)]; exact h.g2), (k 4 (by decide)).trans h.g4, fun T e => h.nd T (e.trans (k 2 (by decide))), s.lo.trans h.l, s.new.trans h.n⟩
/-- .. in a later store -/
structure Eq5 (S S' : Sto) : Prop where
  g : ∀ n, n < 5 → S'.get n = S.get n
  l : S'.old.length = S.old.length
theorem const_lc {S : Sto} {fl : List Fn} {ρ : Mi.Env} (h : S.get 1 = some (.lst (fl.map pr))) (hl : fl.length ≤ 100) (h3 : ρ[3]? = some (some (.ref 1))) (h16 : ρ.length = 17) :
    eLc false (iVal (eVar 3)) (gtTup [(gtName 4), (gtName 16)]) (eTst (eBin (eVar 16) (eC (.int 0)) dEq)) (eApp [(eVar 4)] dTup) [4, 16] ρ S = .ok (.lst (closed fl 0)) S := by
  let P : D → Bool := fun x => match x with
    | .tup [_, .int a] => decide (a = 0)
    | _ => false
  let Kk : D → D := fun x => match x with
    | .tup [n, _] => .tup [n]
    | _ => .non
  have e2 := x_lc_filt (S := S) (b := false) (g := eVar 3) (ρ := ρ) (x := .ref 1) (gt := gtTup [(gtName 4), (gtName 16)]) (t := eTst (eBin (eVar 16) (eC (.int 0)) dEq)) (vs := [4, 16]) (f := eApp [(eVar 4)] dTup) (p := P) (k := Kk)
    (.ref h) (by simp [h3]) (by simp; omega) (fun x hx => by
      obtain ⟨p, _, rfl⟩ := List.mem_map.mp hx
      refine ⟨_, x_gtT, ?_, fun _ => ?_⟩
      · simp [P, pr, wipeE, h16]
      · simp [Kk, pr, wipeE, h16])
  rw [filt_pr fl (fun p => decide (p.2 = 0)) (fun p => .tup [.str p.1]) P Kk (fun a => by simp [P, pr]) (fun a => rfl)] at e2
  have e2' : (fl.filter fun p => decide (p.2 = 0)).map (fun p => D.tup [.str p.1]) = closed fl 0 := by simp [closed, consts]
  rw [e2', x_mkF] at e2
  exact e2
theorem eq_cl {S : Sto} {T : List D} {k m : Nat} (h : ∀ x ∈ T, Gt k x) (hk : k ≤ 50) (hm : S.get m = some (.lst T)) : dEq (.ref m) (.lst T) S = .ok (.bl true) S ∧ dNe (.ref m) (.lst T) S = .ok (.bl false) S := by
  obtain ⟨h1, h2⟩ := pl_cl h
  constructor
  · rw [dEq_refl hm, dEq_pl h1 h1 (.inl (by omega))]; simp
  · rw [dNe_refl hm, dNe_pl h1 h1 (.inl (by omega))]; simp
theorem end_ok {S : Sto} {fl due rs : List Fn} {nd : D} {b : Nat} {o0 o2 o4 o5 o10 o11 o12 o13 o14 o15 : Option D} (E : En S fl due rs nd b) (hb : b + 10 < lim) (Ff : Few fl) (Fd : Few due) (hd : due ≠ []) :
    Tru (bEnd [o0, some (.ref 0), o2, some (.ref 1), o4, o5, some (.lst (rs.map pr)), some (.ref 2), some nd, some (.ref 4), o10, o11, o12, o13, o14, o15, none] S) := by
  obtain ⟨t, g2⟩ := E.g2
  have hs7 : SigD S (.ref 2) fl rs := SigD.get g2
  have hs8 := E.nd S rfl
  have hlf := Ff.ln
  have hld := Fd.ln
  unfold bEnd
  -- named
  obtain ⟨f1, f2⟩ := sig_has hs8 (ρ := [o0, some (.ref 0), o2, some (.ref 1), o4, o5, some (.lst (rs.map pr)), some (.ref 2), some nd, some (.ref 4), o10, o11, o12, o13, o14, o15, none]) (i := 8) rfl
  obtain ⟨f3, _⟩ := sig_has hs7 (ρ := [o0, some (.ref 0), o2, some (.ref 1), o4, o5, some (.lst (rs.map pr)), some (.ref 2), some nd, some (.ref 4), o10, o11, o12, o13, o14, o15, none]) (i := 7) rfl
  have t9 := Lis.dtuple (S := S) (x := .ref 4) (xs := due.map pr) (.inr ⟨4, rfl, E.g4⟩)
  have t6 := Lis.dtuple (S := S) (x := .lst (rs.map pr)) (xs := rs.map pr) (.inl rfl)
  have t3 := Lis.dtuple (S := S) (x := .ref 1) (xs := fl.map pr) (.inr ⟨1, rfl, E.g1⟩)
  refine sqT (if_skip (S1 := S) ?_) ?_
  · simp only [x_or, x_tst, x_bin, f1, f2, x_bind_ok, x_app, x_l1, x_l0, x_var, List.getElem?_cons_succ, List.getElem?_cons_zero, t9, t6, ne_prs, x_of_some, x_blD, Bool.false_eq_true, if_false]
  refine sqT (if_skip (S1 := S) ?_) ?_
  · simp only [x_tst, x_bin, f3, x_bind_ok, x_app, x_l1, x_l0, x_var, List.getElem?_cons_succ, List.getElem?_cons_zero, t3, ne_prs, x_of_some, x_blD]
  -- wide
  obtain ⟨w, hw⟩ := max_ok due hd S
  let Kk : D → D := fun x => match x with
    | .tup [_, a] => a
    | _ => .non
  have e2 := x_lc_map (b := false) (S := S) (g := eVar 9) (ρ := [o0, some (.ref 0), o2, some (.ref 1), o4, o5, some (.lst (rs.map pr)), some (.ref 2), some nd, some (.ref 4), o10, o11, o12, o13, o14, o15, none]) (x := .ref 4) (xs := due.map pr) (gt := gtTup [(gtName 4), (gtName 16)]) (f := eVar 16) (vs := [4, 16]) (k := Kk) (.ref E.g4) rfl (by simp; omega) (fun w hw => by
    obtain ⟨p, _, rfl⟩ := List.mem_map.mp hw
    exact ⟨_, x_gtT, by simp [wipeE, Kk, pr]⟩)
  have e2' : (due.map pr).map Kk = (due.map fun p => (p.2 : Int)).map .int := by rw [List.map_map, List.map_map]; rfl
  rw [e2', x_mkF] at e2
  refine sqT (asg_ok (d := .int w) (S1 := S) ?_) ?_
  · rw [x_app, x_l1, e2, x_bind_ok, x_l0, x_bind_ok, x_bind_ok]
    show b1 maxG _ _ = _
    rw [x_b1, hw]
    rfl
  dsimp only [List.set_cons_succ, List.set_cons_zero]
  -- depth
  obtain ⟨i, hi, S1, e1, o1, s1⟩ := tkn (many := 3) E.o (by omega) (by omega)
  have E1 := E.sam o1 s1
  have e1' : F__law_take [.ref 0, .int 3] S = .ok (.int (i : Int)) S1 := e1
  refine sqT (asg_ok (d := .int (i : Int)) (S1 := S1) ?_) ?_
  · simp only [x_call, x_l1, x_l0, x_var, x_C, List.getElem?_cons_succ, List.getElem?_cons_zero, x_bind_ok, List.append_nil, e1']
  dsimp only [List.set_cons_succ, List.set_cons_zero]
  have hdep : ∃ j : Nat, j ≤ 2 ∧ sIf (tOrM (eTst (eBin (eVar 13) (eC (.int 3)) dEq)) (tAndM (eTst (eBin (eVar 13) (eC (.int 2)) dEq)) (eTst (eBin (eApp [(eVar 9)] (b1 lenG)) (eC (.int 3)) dGt)))) (sAsg (eApp [(eVar 14), (eC (.int 1))] (b2 min2G)) (gtName 14)) sSkip [o0, some (.ref 0), o2, some (.ref 1), o4, o5, some (.lst (rs.map pr)), some (.ref 2), some nd, some (.ref 4), o10, o11, o12, some (.int w), some (.int (i : Int)), o15, none] S1 = .nx [o0, some (.ref 0), o2, some (.ref 1), o4, o5, some (.lst (rs.map pr)), some (.ref 2), some nd, some (.ref 4), o10, o11, o12, some (.int w), some (.int (j : Int)), o15, none] S1 := by
    have hlen : lenG S1 (.ref 4) = some (.int due.length) := by rw [x_lenR E1.g4, List.length_map]
    have hmin : sAsg (eApp [(eVar 14), (eC (.int 1))] (b2 min2G)) (gtName 14) [o0, some (.ref 0), o2, some (.ref 1), o4, o5, some (.lst (rs.map pr)), some (.ref 2), some nd, some (.ref 4), o10, o11, o12, some (.int w), some (.int (i : Int)), o15, none] S1 = .nx [o0, some (.ref 0), o2, some (.ref 1), o4, o5, some (.lst (rs.map pr)), some (.ref 2), some nd, some (.ref 4), o10, o11, o12, some (.int w), some (.int ((min i 1 : Nat) : Int)), o15, none] S1 := by
      have hm : min2G S1 (.int (i : Int)) (.int 1) = some (.int ((min i 1 : Nat) : Int)) := by
        show some (D.int (if (1 : Int) < (i : Int) then 1 else (i : Int))) = _
        by_cases q : (1 : Int) < (i : Int)
        · rw [if_pos q, Nat.min_eq_right (by omega)]; rfl
        · rw [if_neg q, Nat.min_eq_left (by omega)]
      refine (asg_ok (d := .int ((min i 1 : Nat) : Int)) (S1 := S1) ?_).trans rfl
      show b2 min2G [.int (i : Int), .int 1] S1 = _
      show R.of S1 (min2G S1 (.int (i : Int)) (.int 1)) = _
      rw [hm]
      rfl
    have hc : ∃ c : Bool, tOrM (eTst (eBin (eVar 13) (eC (.int 3)) dEq)) (tAndM (eTst (eBin (eVar 13) (eC (.int 2)) dEq)) (eTst (eBin (eApp [(eVar 9)] (b1 lenG)) (eC (.int 3)) dGt))) [o0, some (.ref 0), o2, some (.ref 1), o4, o5, some (.lst (rs.map pr)), some (.ref 2), some nd, some (.ref 4), o10, o11, o12, some (.int w), some (.int (i : Int)), o15, none] S1 = .ok c S1 := by
      refine ⟨decide (w = 3) || (decide (w = 2) && decide (3 < (due.length : Int))), ?_⟩
      by_cases q3 : w = 3
      · simp [q3, hlen]
      · by_cases q2 : w = 2
        · simp [q2, hlen]
        · simp [q3, q2, hlen]
    obtain ⟨c, hc⟩ := hc
    cases c with
    | true => exact ⟨min i 1, by omega, (if_yes hc).trans hmin⟩
    | false => exact ⟨i, by omega, (if_no hc).trans rfl⟩
  obtain ⟨j, hj, hdep⟩ := hdep
  refine sqT hdep ?_
  -- listed
  have hn5 := E1.n
  have hs8' := E1.nd S1 rfl
  have c1 := closed_ok (k := j) hs8' Fd hj
  rw [hn5] at c1
  let S2 := S1.add (.lst (closed due j))
  have k2 : ∀ n, n < 5 → S2.get n = S1.get n := fun n hn => get_add_lt (by rw [hn5]; exact hn)
  have g5 : S2.get 5 = some (.lst (closed due j)) := by have := get_add (S := S1) (c := .lst (closed due j)); rw [hn5] at this; exact this
  have hn6 : S2.new = 6 := by show (S1.add _).new = _; rw [new_add, hn5]
  refine sqT (asg_ok (d := .ref 5) (S1 := S2) ?_) ?_
  · simp only [x_call, x_l1, x_l0, x_var, List.getElem?_cons_succ, List.getElem?_cons_zero, x_bind_ok, List.append_nil, c1]
    rfl
  dsimp only [List.set_cons_succ, List.set_cons_zero]
  have hgt : ∀ x ∈ closed due j, Gt 10 x := fun x hx => (closed_gt due j x hx).le (by omega)
  have l1 := lclosed_ok (S := S2) (fd := .ref 4) (fs := due) (k := j) (.ref ((k2 4 (by decide)).trans E1.g4)) Fd hj
  obtain ⟨q1, q2⟩ := eq_cl hgt (by decide) g5
  refine sqT (if_skip (S1 := S2) ?_) ?_
  · have hty : tyS S2 (.ref 5) = some "list" := by unfold tyS; simp only [g5]
    have hisT : isTy "list" "list" = true := by decide
    simp only [x_or, x_not, x_tru, x_isT, x_var, List.getElem?_cons_succ, List.getElem?_cons_zero, x_bind_ok, hty, hisT, x_truB, x_of_some, Bool.not_true, Bool.false_eq_true, if_false, x_tst, x_bin, x_call, x_l1, x_l0, List.append_nil, l1, q2, x_blD]
  -- changed
  let S3 := S2.set 5 (.lst (closed due j ++ [.tup [.str [97]]]))
  have k3 : ∀ n, n < 5 → S3.get n = S1.get n := fun n hn => (get_set_ne (by omega)).trans (k2 n hn)
  have hn3 : S3.new = 6 := by show (S2.set _ _).new = _; rw [new_set, hn6]
  have hlen : (closed due j).length < sizeLine := by
    obtain ⟨h0, h1, h2⟩ := closed_len Fd
    have hbig := big
    have : j = 0 ∨ j = 1 ∨ j = 2 := by omega
    rcases this with rfl | rfl | rfl <;> omega
  have hold : S2.old.length = 0 := E1.l
  have ea := x_app1 (d := .tup [.str [97]]) g5 hlen (may_new (by rw [hold]; exact Nat.zero_le _))
  refine sqT (expr_ok (d := .non) (S1 := S3) ?_) ?_
  · have hL : lstS S2 (.ref 5) = some (closed due j) := x_lstR g5
    simp only [x_meth, x_var, List.getElem?_cons_succ, List.getElem?_cons_zero, x_bind_ok, hL, x_l1, x_l0, x_app, x_C, x_tup, ea]
    rfl
  -- asked again
  have hs8'' : SigD S3 nd due rs := E1.nd S3 (k3 2 (by decide))
  have c2 := closed_ok (k := j) hs8'' Fd hj
  rw [hn3] at c2
  let S4 := S3.add (.lst (closed due j))
  have k4 : ∀ n, n < 5 → S4.get n = S1.get n := fun n hn => (get_add_lt (by rw [hn3]; omega)).trans (k3 n hn)
  have g6 : S4.get 6 = some (.lst (closed due j)) := by have := get_add (S := S3) (c := .lst (closed due j)); rw [hn3] at this; exact this
  have hn7 : S4.new = 7 := by show (S3.add _).new = _; rw [new_add, hn3]
  have l2 := lclosed_ok (S := S4) (fd := .ref 4) (fs := due) (k := j) (.ref ((k4 4 (by decide)).trans E1.g4)) Fd hj
  obtain ⟨q3, _⟩ := eq_cl hgt (by decide) g6
  obtain ⟨t', g2'⟩ := E1.g2
  have hs7'' : SigD S4 (.ref 2) fl rs := SigD.get ((k4 2 (by decide)).trans g2')
  have c3 := closed_ok (k := 0) hs7'' Ff (by decide)
  rw [hn7] at c3
  let S5 := S4.add (.lst (closed fl 0))
  have k5 : ∀ n, n < 5 → S5.get n = S1.get n := fun n hn => (get_add_lt (by rw [hn7]; omega)).trans (k4 n hn)
  have g7 : S5.get 7 = some (.lst (closed fl 0)) := by have := get_add (S := S4) (c := .lst (closed fl 0)); rw [hn7] at this; exact this
  obtain ⟨q4, _⟩ := eq_cl (fun x hx => (closed_gt fl 0 x hx)) (by decide) g7
  have cl := const_lc (S := S5) (fl := fl) (ρ := [o0, some (.ref 0), o2, some (.ref 1), o4, o5, some (.lst (rs.map pr)), some (.ref 2), some nd, some (.ref 4), o10, o11, o12, some (.int w), some (.int (j : Int)), some (.ref 5), none]) ((k5 1 (by decide)).trans E1.g1) (by omega) rfl rfl
  refine ⟨S5, ret_ok (d := .bl true) (S1 := S5) ?_⟩
  have c2' : F_closed_terms [nd, .int (j : Int)] S3 = .ok (.ref 6) S4 := c2
  have c3' : F_closed_terms [.ref 2, .int 0] S4 = .ok (.ref 7) S5 := c3
  simp only [x_andV, x_bin, x_call, x_l1, x_l0, x_var, x_C, List.getElem?_cons_succ, List.getElem?_cons_zero, x_bind_ok, List.append_nil, c2', l2, q3, x_truB, c3', cl, q4]
end K75

/-! K75r: the law, whole. -/
namespace K75
open PySem PySem.Spec PyProof.Rows L2 Mi
/-- the law from the signature on -/
theorem perm_sym_ex {fl : List Fn} {i q j : Nat} (hi : i < 4) (hq : q < 3) (hj : j < 3) {ps fl0 : List Fn} (p0 : fl0.Perm ((cnames.take i).map fun n => (n, 0))) (p : fl.Perm (ps ++ fl0)) (pp : (ps.map (·.1)).Perm ((onames q).take j)) (pa : ∀ p ∈ ps, 1 ≤ p.2 ∧ p.2 ≤ 3) : Drawn fl i q j :=
  ⟨hi, hq, hj, ps, p.trans (p0.append_left ps), pp, pa⟩
theorem sl_ok {S S1 : Sto} {ρ : Mi.Env} {f g : EM} {l : List D} {i : Nat} (hf : f ρ S = .ok (.lst l) S) (hg : g ρ S = .ok (.int (i : Int)) S1) : eSl false f oNone (oSome g) ρ S = .ok (.lst (l.take i)) S1 := by
  simp only [x_sl, hf, x_bind_ok, x_oN, x_oS, hg, x_intD, Option.map_some, x_of_some, x_slL, x_mkF, cut_to]
theorem take_call {S S1 : Sto} {ρ : Mi.Env} {n : Int} {d : D} (h1 : ρ[1]? = some (some (.ref 0))) (e : F__law_take [.ref 0, .int n] S = .ok d S1) : eCall [(eVar 1), (eC (.int n))] [] F__law_take ρ S = .ok d S1 := by
  simp only [x_call, x_l1, x_l0, x_var, h1, x_C, x_bind_ok, List.append_nil, e]
theorem main : ∀ ns : List Int, ns.length ≤ 63 → ∃ S', F_law [scr ns] .nil = .ok (.bl true) S' := fun ns hns => by
  obtain ⟨c, e0, o0⟩ := start0 (S := Sto.nil.push) hns
  have hz : Sto.nil.push.new = 0 := rfl
  rw [hz] at e0 o0
  suffices h : Tru (B_law [some (scr ns), none, none, none, none, none, none, none, none, none, none, none, none, none, none, none, none] Sto.nil.push) by
    obtain ⟨S', h⟩ := h
    exact ⟨_, runV_lt (S' := S') h rfl⟩
  have hn1 : (Sto.nil.push.add c).new = 1 := by rw [new_add, hz]
  have ho1 : (Sto.nil.push.add c).old.length = 0 := rfl
  revert hn1 ho1
  revert e0 o0
  generalize Sto.nil.push.add c = S0
  intro e0 o0 hn1 ho1
  unfold B_law
  refine sqT (asg_ok (d := .ref 0) (S1 := S0) ?_) ?_
  · simp only [x_call, x_l1, x_l0, x_var, List.getElem?_cons_succ, List.getElem?_cons_zero, x_bind_ok, List.append_nil]
    exact e0
  dsimp only [List.set_cons_succ, List.set_cons_zero]
  -- the constants
  obtain ⟨i, hi, S1, e1, o1, s1⟩ := tkn (many := 4) o0 (by decide) (by decide)
  refine sqT (asg_ok (d := .lst ((cnames.take i).map .str)) (S1 := S1) ?_) ?_
  · rw [List.map_take]
    exact sl_ok (by rfl) (take_call rfl e1)
  dsimp only [List.set_cons_succ, List.set_cons_zero]
  have hn1' : S1.new = 1 := s1.new.trans hn1
  have ho1' : S1.old.length = 0 := s1.lo.trans ho1
  let S2 := S1.add (.lst [])
  have t2 : St S2 [] 1 := ⟨o1.of (get_add_lt (by rw [hn1']; decide)), by have := get_add (S := S1) (c := .lst []); rw [hn1'] at this; exact this, ho1', by show (S1.add _).new = 2; rw [new_add, hn1']⟩
  refine sqT (asg_ok (d := .ref 1) (S1 := S2) ?_) ?_
  · show R.ok (D.ref S1.new) S2 = _
    rw [hn1']
  dsimp only [List.set_cons_succ, List.set_cons_zero]
  have hci : (cnames.take i).length ≤ 3 := by rw [List.length_take]; show min i 3 ≤ 3; omega
  obtain ⟨o4, fl0, S3, e3, t3, p3⟩ := loop1 (S := S2) (cs := cnames.take i) (o0 := some (scr ns)) (o2 := some (.lst ((cnames.take i).map .str))) (o4 := none) (o5 := none) (ot := [none, none, none, none, none, none, none, none, none, none, none, none]) t2 (by decide) (by omega)
  refine sqT (for_ok (im := iVal (eVar 2)) (src := none) (S1 := S2) (xs := (cnames.take i).map .str) rfl e3) ?_
  -- the others
  obtain ⟨q, hq, S4, e4, o4', s4⟩ := tkn (many := 3) t3.o (by show _ < lim; unfold lim; omega) (by decide)
  have t4 := t3.sam o4' s4
  refine sqT (asg_ok (d := .lst ((onames q).map .str)) (S1 := S4) ?_) ?_
  · have e4' : F__law_take [.ref 0, .int 3] S3 = .ok (.int (q : Int)) S4 := e4
    have ec := take_call (ρ := [some (scr ns), some (.ref 0), some (.lst ((cnames.take i).map .str)), some (.ref 1), o4, none, none, none, none, none, none, none, none, none, none, none, none]) rfl e4'
    have ha : atI [D.lst [.str [102], .str [99, 50]], .lst [.str [99, 49], .str [99, 50]], .lst [.str [99, 50], .str [99, 49]]] (q : Int) = some (.lst ((onames q).map .str)) := by
      rw [Mi.atI_nat]
      have : q = 0 ∨ q = 1 ∨ q = 2 := by omega
      rcases this with rfl | rfl | rfl <;> rfl
    simp only [x_bin, x_app, x_l1, x_l0, x_C, x_bind_ok, x_lstF, ec, x_ixL, ha]
  dsimp only [List.set_cons_succ, List.set_cons_zero]
  obtain ⟨j, hj, S5, e5, o5, s5⟩ := tkn (many := 3) t4.o (by show _ < lim; unfold lim; omega) (by decide)
  have t5 := t4.sam o5 s5
  have hfl0 : fl0.length ≤ 3 := by rw [p3.length_eq, List.length_map]; exact hci
  obtain ⟨o4b, fl, ps, S6, e6, t6, p6, pp6, pa6⟩ := loop2 (S := S5) (os := (onames q).take j) (fl0 := fl0) (o0 := some (scr ns)) (o2 := some (.lst ((cnames.take i).map .str))) (o4 := o4) (o5 := none) (ot := [some (.lst ((onames q).map .str)), none, none, none, none, none, none, none, none, none, none, none]) t5 (by show _ < lim; unfold lim; omega) (Nat.le_trans (onames_len q j hj) (by decide)) (by omega)
  refine sqT (for_ok (im := iVal (eSl false (eVar 5) oNone (oSome (eCall [(eVar 1), (eC (.int 3))] [] F__law_take)))) (src := none) (S1 := S5) (xs := ((onames q).take j).map .str) ?_ e6) ?_
  · have e5' : F__law_take [.ref 0, .int 3] S4 = .ok (.int (j : Int)) S5 := e5
    rw [x_iVal]
    refine (congrArg (fun r => R.bind r _) (sl_ok (l := (onames q).map .str) (i := j) (S1 := S5) (by rfl) (take_call rfl e5'))).trans ?_
    rw [← List.map_take]
    rfl
  have dr : Drawn fl i q j := perm_sym_ex hi hq hj p3 p6 pp6 pa6
  -- the relations
  obtain ⟨r, hr, S7, e7, o7, s7⟩ := tkn (many := 3) t6.o (by have := onames_len q j hj; unfold lim; omega) (by decide)
  have t7 := t6.sam o7 s7
  have O := dr.okf hr
  refine sqT (asg_ok (d := .lst ((rnames.take r).map pr)) (S1 := S7) ?_) ?_
  · have e7' : F__law_take [.ref 0, .int 3] S6 = .ok (.int (r : Int)) S7 := e7
    exact (sl_ok (l := rnames.map pr) (i := r) (S1 := S7) (by rfl) (take_call rfl e7')).trans (by rw [List.map_take])
  dsimp only [List.set_cons_succ, List.set_cons_zero]
  generalize hrs : rnames.take r = rs at *
  -- the signature
  have ef := Lis.dlist (b := false) (S := S7) (x := .ref 1) (xs := fl.map pr) (.inr ⟨1, rfl, t7.g⟩)
  obtain ⟨S8, e8, k8, g8, n8, l8⟩ := make_ok (S := S7) (fl := .lst (fl.map pr)) (rl := .lst (rs.map pr)) (f := eApp [(eVar 3)] (dList false)) (g := eApp [(eVar 6)] (dList false)) (ρ := [some (scr ns), some (.ref 0), some (.lst ((cnames.take i).map .str)), some (.ref 1), o4b, some (.lst ((onames q).map .str)), some (.lst (rs.map pr)), none, none, none, none, none, none, none, none, none, none]) O (fun _ => rfl) (fun _ => rfl) t7.l
    (by simp only [x_app, x_l1, x_l0, x_var, List.getElem?_cons_succ, List.getElem?_cons_zero, x_bind_ok, ef, x_mkF]) rfl
  rw [t7.n] at e8 k8 g8 n8
  refine sqT (asg_ok e8) ?_
  dsimp only [List.set_cons_succ, List.set_cons_zero]
  have hs : SigD S8 (.ref 2) fl rs := SigD.get g8
  have hlen := dr.len
  have hrl : rs.length ≤ 2 := by rw [← hrs, List.length_take]; omega
  have g81 : S8.get 1 = some (.lst (fl.map pr)) := (k8 1 (by decide)).trans t7.g
  have o8 : Ok 0 S8 _ := t7.o.of (k8 0 (by decide))
  let S9 := S8.add (.lst (fl.map pr))
  have k9 : ∀ n, n < 4 → S9.get n = S8.get n := fun n hn => get_add_lt (by rw [n8]; omega)
  have g94 : S9.get 4 = some (.lst (fl.map pr)) := by have := get_add (S := S8) (c := .lst (fl.map pr)); rw [n8] at this; exact this
  have hn9 : S9.new = 5 := by show (S8.add _).new = 5; rw [new_add, n8]
  have ho9 : S9.old.length = 0 := l8
  have ed := Lis.dlist (b := true) (S := S8) (x := .ref 1) (xs := fl.map pr) (.inr ⟨1, rfl, g81⟩)
  have hlc : lenG S9 (.lst ((cnames.take i).map .str)) = some (.int ((i : Nat) : Int)) := by
    rw [x_lenL, List.length_map, List.length_take]
    show some (D.int ((min i 3 : Nat) : Int)) = _
    rw [Nat.min_eq_left (by omega)]
  have hb : ∀ k, 1 + 2 * (cnames.take i).length + 1 + 1 + 2 * ((onames q).take j).length + 1 + k < lim ↔ 1 + 2 * (cnames.take i).length + 1 + 1 + 2 * ((onames q).take j).length + 1 + k < lim := fun _ => Iff.rfl
  have hol := onames_len q j hj
  by_cases h0 : i = 0
  · subst h0
    have hc : consts fl = [] := List.eq_nil_of_length_eq_zero dr.co
    have h3 : [99, 51] ∉ (fl ++ rs).map (·.1) := by
      have := good_tab0 q hq j hj r hr
      rw [List.map_append]
      intro z
      refine this ?_
      rw [hrs]
      rcases List.mem_append.mp z with z | z
      · exact List.mem_append_left _ (by have := dr.names.mem_iff.mp z; simpa using this)
      · exact List.mem_append_right _ z
    have h3' : [99, 51] ∉ fl.map (·.1) := fun z => h3 (by rw [List.map_append]; exact List.mem_append_left _ z)
    have hfr : fresh ((fl ++ rs).map (·.1)) = fresh (fl.map (·.1)) := by rw [← hrs]; exact fresh_same hr
    have hx := dr.ext hr (fresh_in _) (fresh_no h3')
    rw [hrs] at hx
    have nn := named_new (S := S8) hs (by omega) hc h3 (by rw [hfr]; exact hx.1)
    rw [hfr] at nn
    refine sqT (asg_ok (d := .obj "Signature" (sg (fl ++ [((fresh (fl.map (·.1)), 0) : Fn)]) rs (.dic (tab (fl ++ [((fresh (fl.map (·.1)), 0) : Fn)] ++ rs))))) (S1 := S8) ?_) ?_
    · simp only [x_call, x_l1, x_l0, x_var, List.getElem?_cons_succ, List.getElem?_cons_zero, x_bind_ok, List.append_nil, nn]
    dsimp only [List.set_cons_succ, List.set_cons_zero]
    refine sqT (asg_ok (d := .ref 4) (S1 := S9) ?_) ?_
    · simp only [x_app, x_l1, x_l0, x_var, List.getElem?_cons_succ, List.getElem?_cons_zero, x_bind_ok, ed, x_mkT, n8]
      rfl
    dsimp only [List.set_cons_succ, List.set_cons_zero]
    obtain ⟨o10, o11, o12, edue⟩ := due_ok (S := S9) (fl := fl) (m := 4) (o0 := some (scr ns)) (o1 := some (.ref 0)) (o2 := some (.lst ((cnames.take 0).map .str))) (o4 := o4b) (o5 := some (.lst ((onames q).map .str))) (o6 := some (.lst (rs.map pr))) (o7 := some (.ref 2)) (o8 := some (.obj "Signature" (sg (fl ++ [((fresh (fl.map (·.1)), 0) : Fn)]) rs (.dic (tab (fl ++ [((fresh (fl.map (·.1)), 0) : Fn)] ++ rs)))))) (o10 := none) (o11 := none) (o12 := none) (o13 := none) (o14 := none) (o15 := none) ((k9 1 (by decide)).trans g81) g94 ho9 (by omega) h3'
    refine sqT (a := sIf (eTst (eBin (eApp [(eVar 2)] (b1 lenG)) (eC (.int 0)) dEq)) bDue sSkip) ((if_yes (S1 := S9) ?_).trans edue) ?_
    · simp only [x_tst, x_bin, x_app, x_l1, x_l0, x_var, x_C, List.getElem?_cons_succ, List.getElem?_cons_zero, x_bind_ok, x_b1, hlc, x_of_some, x_eqInt, x_blD]
      rfl
    have hE : En (S9.set 4 (.lst ((fl ++ [((fresh (fl.map (·.1)), 0) : Fn)]).map pr))) fl (fl ++ [((fresh (fl.map (·.1)), 0) : Fn)]) rs (.obj "Signature" (sg (fl ++ [((fresh (fl.map (·.1)), 0) : Fn)]) rs (.dic (tab (fl ++ [((fresh (fl.map (·.1)), 0) : Fn)] ++ rs))))) _ :=
      ⟨o8.of ((get_set_ne (by decide)).trans (k9 0 (by decide))), (get_set_ne (by decide)).trans ((k9 1 (by decide)).trans g81), ⟨_, (get_set_ne (by decide)).trans ((k9 2 (by decide)).trans g8)⟩, get_set (get_lt g94), fun T _ => ⟨_, rfl⟩, by rw [Sto.set_old]; exact ho9, by rw [new_set]; exact hn9⟩
    exact end_ok hE (by unfold lim; omega) dr.few hx.2 (by simp)
  · have hc : consts fl ≠ [] := fun z => h0 (by have := dr.co; rw [z] at this; exact this.symm)
    have nn := named_same (S := S8) hs (by omega) hc
    refine sqT (asg_ok (d := .ref 2) (S1 := S8) ?_) ?_
    · simp only [x_call, x_l1, x_l0, x_var, List.getElem?_cons_succ, List.getElem?_cons_zero, x_bind_ok, List.append_nil, nn]
    dsimp only [List.set_cons_succ, List.set_cons_zero]
    refine sqT (asg_ok (d := .ref 4) (S1 := S9) ?_) ?_
    · simp only [x_app, x_l1, x_l0, x_var, List.getElem?_cons_succ, List.getElem?_cons_zero, x_bind_ok, ed, x_mkT, n8]
      rfl
    dsimp only [List.set_cons_succ, List.set_cons_zero]
    refine sqT (if_skip (S1 := S9) ?_) ?_
    · have hd : decide (((i : Nat) : Int) = 0) = false := by simp; omega
      simp only [x_tst, x_bin, x_app, x_l1, x_l0, x_var, x_C, List.getElem?_cons_succ, List.getElem?_cons_zero, x_bind_ok, x_b1, hlc, x_of_some, x_eqInt, x_blD, hd]
    have hE : En S9 fl fl rs (.ref 2) _ :=
      ⟨o8.of (k9 0 (by decide)), (k9 1 (by decide)).trans g81, ⟨_, (k9 2 (by decide)).trans g8⟩, g94, fun T e => SigD.get (e.trans ((k9 2 (by decide)).trans g8)), ho9, hn9⟩
    exact end_ok hE (by unfold lim; omega) dr.few dr.few (fun z => hc (by rw [z]; rfl))
end K75

namespace K75
open PySem PySem.Spec PyProof.Rows L2 Mi
def topS (i : Nat) : Stmt := PySem.Challenge.pw_kingsandcourts_k75_closed_terms_by_depth.main.body.getD i (.Pass ⟨0, 0, 0, 0⟩)
def topC (i j : Nat) : Stmt := match topS i with
  | .ClassDef _ _ _ body _ _ _ _ _ _ _ => body.getD j (.Pass ⟨0, 0, 0, 0⟩)
  | s => s
abbrev s_has_name_signs : Stmt := topS 12
theorem sc_has_name_signs : FnScope ["name", "sign"] ["name"] (defScope s_has_name_signs) := ⟨rfl, rfl, rfl, by decide +kernel, rfl, by decide +kernel, by decide +kernel⟩
abbrev s_is_small_name : Stmt := topS 13
theorem sc_is_small_name : FnScope ["name"] ["name"] (defScope s_is_small_name) := ⟨rfl, rfl, rfl, by decide +kernel, rfl, by decide +kernel, by decide +kernel⟩
abbrev s_is_capital_name : Stmt := topS 14
theorem sc_is_capital_name : FnScope ["name"] ["name"] (defScope s_is_capital_name) := ⟨rfl, rfl, rfl, by decide +kernel, rfl, by decide +kernel, by decide +kernel⟩
abbrev s_fresh_name : Stmt := topS 15
theorem sc_fresh_name : FnScope ["stem", "taken", "number"] ["stem", "taken"] (defScope s_fresh_name) := ⟨rfl, rfl, rfl, by decide +kernel, rfl, by decide +kernel, by decide +kernel⟩
abbrev s_Signature_constants : Stmt := topC 22 3
theorem sc_Signature_constants : FnScope ["self", "name", "arity"] ["self"] (defScope s_Signature_constants) := ⟨rfl, rfl, rfl, by decide +kernel, rfl, by decide +kernel, by decide +kernel⟩
abbrev s_Signature___init__ : Stmt := topC 22 0
theorem sc_Signature___init__ : FnScope ["self", "functions", "relations", "name", "arity", "small"] ["self", "functions", "relations"] (defScope s_Signature___init__) := ⟨rfl, rfl, rfl, by decide +kernel, rfl, by decide +kernel, by decide +kernel⟩
abbrev s_Signature_extended : Stmt := topC 22 4
theorem sc_Signature_extended : FnScope ["self", "functions"] ["self", "functions"] (defScope s_Signature_extended) := ⟨rfl, rfl, rfl, by decide +kernel, rfl, by decide +kernel, by decide +kernel⟩
abbrev s_named_signature : Stmt := topS 17
theorem sc_named_signature : FnScope ["signature", "taken", "name", "arity"] ["signature"] (defScope s_named_signature) := ⟨rfl, rfl, rfl, by decide +kernel, rfl, by decide +kernel, by decide +kernel⟩
abbrev s_rows_of : Stmt := topS 18
theorem sc_rows_of : FnScope ["choices", "length", "rows", "_", "row", "choice"] ["choices", "length"] (defScope s_rows_of) := ⟨rfl, rfl, rfl, by decide +kernel, rfl, by decide +kernel, by decide +kernel⟩
abbrev s_closed_terms : Stmt := topS 19
theorem sc_closed_terms : FnScope ["signature", "depth", "name", "terms", "_", "deeper", "arity", "made", "row", "term"] ["signature", "depth"] (defScope s_closed_terms) := ⟨rfl, rfl, rfl, by decide +kernel, rfl, by decide +kernel, by decide +kernel⟩
abbrev s__law_start : Stmt := topS 24
theorem sc__law_start : FnScope ["script", "row", "seed", "k", "cell", "j", "mixed"] ["script"] (defScope s__law_start) := ⟨rfl, rfl, rfl, by decide +kernel, rfl, by decide +kernel, by decide +kernel⟩
abbrev s__law_take : Stmt := topS 25
theorem sc__law_take : FnScope ["state", "many", "at", "mixed"] ["state", "many"] (defScope s__law_take) := ⟨rfl, rfl, rfl, by decide +kernel, rfl, by decide +kernel, by decide +kernel⟩
abbrev s__law_tuples : Stmt := topS 26
theorem sc__law_tuples : FnScope ["choices", "length", "rows", "k", "longer", "row", "choice"] ["choices", "length"] (defScope s__law_tuples) := ⟨rfl, rfl, rfl, by decide +kernel, rfl, by decide +kernel, by decide +kernel⟩
abbrev s__law_closed : Stmt := topS 27
theorem sc__law_closed : FnScope ["functions", "depth", "name", "arity", "terms", "k", "longer", "row"] ["functions", "depth"] (defScope s__law_closed) := ⟨rfl, rfl, rfl, by decide +kernel, rfl, by decide +kernel, by decide +kernel⟩
abbrev s_law : Stmt := topS 28
theorem sc_law : FnScope ["script", "state", "constants", "functions", "name", "others", "relations", "signature", "named", "due", "number", "taken", "k", "wide", "depth", "listed", "arity"] ["script"] (defScope s_law) := ⟨rfl, rfl, rfl, by decide +kernel, rfl, by decide +kernel, by decide +kernel⟩
structure Txt (K : PySem.W.Frag) (mg : Str → Option Value) (w : World) : Prop where
  d_has_name_signs : DefAt K mg "has_name_signs" "has_name_signs" s_has_name_signs ["name"]
  d_is_small_name : DefAt K mg "is_small_name" "is_small_name" s_is_small_name ["name"]
  d_is_capital_name : DefAt K mg "is_capital_name" "is_capital_name" s_is_capital_name ["name"]
  d_fresh_name : DefAt K mg "fresh_name" "fresh_name" s_fresh_name ["stem", "taken"]
  d_Signature_constants : MtAt K mg "Signature" "constants" "Signature.constants" s_Signature_constants ["self"]
  d_Signature___init__ : NwAt K mg "Signature" "Signature.__init__" s_Signature___init__ ["self", "functions", "relations"]
  d_Signature_extended : MtAt K mg "Signature" "extended" "Signature.extended" s_Signature_extended ["self", "functions"]
  d_named_signature : DefAt K mg "named_signature" "named_signature" s_named_signature ["signature"]
  d_rows_of : DefAt K mg "rows_of" "rows_of" s_rows_of ["choices", "length"]
  d_closed_terms : DefAt K mg "closed_terms" "closed_terms" s_closed_terms ["signature", "depth"]
  d__law_start : DefAt K mg "_law_start" "_law_start" s__law_start ["script"]
  d__law_take : DefAt K mg "_law_take" "_law_take" s__law_take ["state", "many"]
  d__law_tuples : DefAt K mg "_law_tuples" "_law_tuples" s__law_tuples ["choices", "length"]
  d__law_closed : DefAt K mg "_law_closed" "_law_closed" s__law_closed ["functions", "depth"]
  d_law : DefAt K mg "law" "law" s_law ["script"]
  z_abs : mg "abs" = none
  z_int : mg "int" = none
  z_isinstance : mg "isinstance" = none
  z_len : mg "len" = none
  z_list : mg "list" = none
  z_max : mg "max" = none
  z_min : mg "min" = none
  z_range : mg "range" = none
  z_str : mg "str" = none
  z_tuple : mg "tuple" = none
  g_CAPITAL : Glob K mg "CAPITAL" c_CAPITAL
  g_DIGITS : Glob K mg "DIGITS" c_DIGITS
  g_LONGEST : Glob K mg "LONGEST" c_LONGEST
  g_MOST_ARGUMENTS : Glob K mg "MOST_ARGUMENTS" c_MOST_ARGUMENTS
  g_RESERVED : Glob K mg "RESERVED" c_RESERVED
  g_SMALL : Glob K mg "SMALL" c_SMALL
  f_functions : FldAt K mg cs_functions "functions"
  f_relations : FldAt K mg cs_relations "relations"
  f_table : FldAt K mg cs_table "table"
theorem body_has_name_signs {P : Program} {w : World} {K : PySem.W.Frag} {mg : Str → Option Value} {base : Heap} {k : Nat} (T : Txt K mg w) (hk : 0 ≤ k) : BodyOk P w K mg base ["name", "sign"] "has_name_signs" s_has_name_signs k (B_has_name_signs) := fun f cdv A outer s H E C =>
  (dss_cons (ds_if (dt_not (dt_chain op_leU le_ok op_leU le_ok de_int (de_len T.z_len (da_cons (de_v 0) da_nil)) (de_g T.g_LONGEST))) (dss_one (ds_ret de_bl)) dss_nil)
  (dss_cons (ds_for C (di_val (de_v 0)) (dg_name sc_has_name_signs.nd) (dss_one (ds_if (PW.pt (dw_and (dt_notIn C (de_v 1) (de_g T.g_SMALL)) (dw_and (dt_notIn C (de_v 1) (de_g T.g_CAPITAL)) (dw_and1 (dt_notIn C (de_v 1) (de_g T.g_DIGITS)))))) (dss_one (ds_ret de_bl)) dss_nil)))
  (dss_one (ds_ret de_bl))))
theorem ok_has_name_signs {P : Program} {w : World} {K : PySem.W.Frag} {mg : Str → Option Value} {base : Heap} (T : Txt K mg w) : CallOk P w K mg base 1 "has_name_signs" 1 [] F_has_name_signs := T.d_has_name_signs.okV sc_has_name_signs (body_has_name_signs (k := 0) T (by omega))
theorem body_is_small_name {P : Program} {w : World} {K : PySem.W.Frag} {mg : Str → Option Value} {base : Heap} {k : Nat} (T : Txt K mg w) (hk : 1 ≤ k) : BodyOk P w K mg base ["name"] "is_small_name" s_is_small_name k (B_is_small_name) := fun f cdv A outer s H E C =>
  (dss_one (ds_ret (de_and (de_call C (ok_has_name_signs T) (by omega) (da_cons (de_v 0) da_nil)) (de_and (de_in C (de_ix C (de_v 0) de_int) (de_g T.g_SMALL)) (de_one (de_notIn C (de_v 0) (de_g T.g_RESERVED)))))))
theorem ok_is_small_name {P : Program} {w : World} {K : PySem.W.Frag} {mg : Str → Option Value} {base : Heap} (T : Txt K mg w) : CallOk P w K mg base 2 "is_small_name" 1 [] F_is_small_name := T.d_is_small_name.okV sc_is_small_name (body_is_small_name (k := 1) T (by omega))
theorem body_is_capital_name {P : Program} {w : World} {K : PySem.W.Frag} {mg : Str → Option Value} {base : Heap} {k : Nat} (T : Txt K mg w) (hk : 1 ≤ k) : BodyOk P w K mg base ["name"] "is_capital_name" s_is_capital_name k (B_is_capital_name) := fun f cdv A outer s H E C =>
  (dss_one (ds_ret (de_and (de_call C (ok_has_name_signs T) (by omega) (da_cons (de_v 0) da_nil)) (de_one (de_in C (de_ix C (de_v 0) de_int) (de_g T.g_CAPITAL))))))
theorem ok_is_capital_name {P : Program} {w : World} {K : PySem.W.Frag} {mg : Str → Option Value} {base : Heap} (T : Txt K mg w) : CallOk P w K mg base 2 "is_capital_name" 1 [] F_is_capital_name := T.d_is_capital_name.okV sc_is_capital_name (body_is_capital_name (k := 1) T (by omega))
theorem body_fresh_name {P : Program} {w : World} {K : PySem.W.Frag} {mg : Str → Option Value} {base : Heap} {k : Nat} (T : Txt K mg w) (hk : 0 ≤ k) : BodyOk P w K mg base ["stem", "taken", "number"] "fresh_name" s_fresh_name k (B_fresh_name) := fun f cdv A outer s H E C =>
  (dss_cons (ds_set sc_fresh_name.nd de_int)
  (dss_cons (ds_while C (dt_in C (de_add (c := false) (de_v 0) (de_strc T.z_str (da_cons (de_v 2) da_nil))) (de_v 1)) (dss_one (ds_augAdd sc_fresh_name.nd de_int)))
  (dss_one (ds_ret (de_add (c := false) (de_v 0) (de_strc T.z_str (da_cons (de_v 2) da_nil)))))))
theorem ok_fresh_name {P : Program} {w : World} {K : PySem.W.Frag} {mg : Str → Option Value} {base : Heap} (T : Txt K mg w) : CallOk P w K mg base 1 "fresh_name" 2 [] F_fresh_name := T.d_fresh_name.okV sc_fresh_name (body_fresh_name (k := 0) T (by omega))
theorem body_Signature_constants {P : Program} {w : World} {K : PySem.W.Frag} {mg : Str → Option Value} {base : Heap} {k : Nat} (T : Txt K mg w) (hk : 0 ≤ k) : BodyOk P w K mg base ["self", "name", "arity"] "Signature.constants" s_Signature_constants k (B_Signature_constants) := fun f cdv A outer s H E C =>
  (dss_one (ds_ret (de_lc (own := [("name", 1), ("arity", 2)]) false C sc_Signature_constants.nd (di_val (de_fld T.f_functions (de_v 0))) (blkOk_by (own := [("name", 1), ("arity", 2)]) (by show blkC ["self", "name", "arity"] (defScope s_Signature_constants) _ _ = true; decide +kernel)) (fun _ _ _ _ _ => (dgw_tup (Cz.blk C).calm (dgws_cons (dgw_name sc_Signature_constants.nd) (dgws_cons (dgw_name sc_Signature_constants.nd) dgws_nil)))) (fun _ _ _ _ _ => (dts_one (dt_eq (Cz.blk C) (de_v 2) de_int))) (fun _ _ _ _ _ => (de_v 1)))))
theorem ok_Signature_constants {P : Program} {w : World} {K : PySem.W.Frag} {mg : Str → Option Value} {base : Heap} (T : Txt K mg w) : MtOk P w K mg base 1 "Signature" "constants" 0 [] F_Signature_constants := T.d_Signature_constants.okV sc_Signature_constants (body_Signature_constants (k := 0) T (by omega))
theorem body_Signature___init__ {P : Program} {w : World} {K : PySem.W.Frag} {mg : Str → Option Value} {base : Heap} {k : Nat} (T : Txt K mg w) (hk : 2 ≤ k) : BodyOk P w K mg base ["self", "functions", "relations", "name", "arity", "small"] "Signature.__init__" s_Signature___init__ k (B_Signature___init__) := fun f cdv A outer s H E C =>
  (dss_cons (ds_setA T.f_functions (de_v 0) (de_tuple T.z_tuple (da_cons (de_lc (own := [("name", 3), ("arity", 4)]) false C sc_Signature___init__.nd (di_val (de_v 1)) (blkOk_by (own := [("name", 3), ("arity", 4)]) (by show blkC ["self", "functions", "relations", "name", "arity", "small"] (defScope s_Signature___init__) _ _ = true; decide +kernel)) (fun _ _ _ _ _ => (dgw_tup (Cz.blk C).calm (dgws_cons (dgw_name sc_Signature___init__.nd) (dgws_cons (dgw_name sc_Signature___init__.nd) dgws_nil)))) (fun _ _ _ _ _ => dts_nil) (fun _ _ _ _ _ => (de_tup (da_cons (de_v 3) (da_cons (de_v 4) da_nil))))) da_nil)))
  (dss_cons (ds_setA T.f_relations (de_v 0) (de_tuple T.z_tuple (da_cons (de_lc (own := [("name", 3), ("arity", 4)]) false C sc_Signature___init__.nd (di_val (de_v 2)) (blkOk_by (own := [("name", 3), ("arity", 4)]) (by show blkC ["self", "functions", "relations", "name", "arity", "small"] (defScope s_Signature___init__) _ _ = true; decide +kernel)) (fun _ _ _ _ _ => (dgw_tup (Cz.blk C).calm (dgws_cons (dgw_name sc_Signature___init__.nd) (dgws_cons (dgw_name sc_Signature___init__.nd) dgws_nil)))) (fun _ _ _ _ _ => dts_nil) (fun _ _ _ _ _ => (de_tup (da_cons (de_v 3) (da_cons (de_v 4) da_nil))))) da_nil)))
  (dss_cons (ds_setA T.f_table (de_v 0) (de_dnew true))
  (dss_one (ds_for C (di_val (de_add (c := false) (de_fld T.f_functions (de_v 0)) (de_fld T.f_relations (de_v 0)))) (dg_tup C (dgs_cons (dg_name sc_Signature___init__.nd) (dgs_cons (dg_name sc_Signature___init__.nd) dgs_nil))) (dss_cons (ds_set sc_Signature___init__.nd (de_lt C (de_len T.z_len (da_cons (de_fld T.f_table (de_v 0)) da_nil)) (de_len T.z_len (da_cons (de_fld T.f_functions (de_v 0)) da_nil))))
  (dss_cons (ds_if (PW.pt (dw_or (dt_in C (de_v 3) (de_fld T.f_table (de_v 0))) (dw_or1 (dt_not (dt_ifx (dt_val (de_v 5)) (dt_val (de_call C (ok_is_small_name T) (by omega) (da_cons (de_v 3) da_nil))) (dt_val (de_call C (ok_is_capital_name T) (by omega) (da_cons (de_v 3) da_nil)))))))) (dss_one ds_never) dss_nil)
  (dss_cons (ds_if (dt_not (dt_chain op_leU le_ok op_leU le_ok de_int (de_v 4) (de_g T.g_MOST_ARGUMENTS))) (dss_one ds_never) dss_nil)
  (dss_one (ds_setIx C (de_fld T.f_table (de_v 0)) (de_v 3) (de_v 4)))))))))))
theorem ok_Signature___init__ {P : Program} {w : World} {K : PySem.W.Frag} {mg : Str → Option Value} {base : Heap} (T : Txt K mg w) : NewOk P w K mg base 3 "Signature" 2 [] F_Signature___init__ := T.d_Signature___init__.okL sc_Signature___init__ (body_Signature___init__ (k := 2) T (by omega))
theorem body_Signature_extended {P : Program} {w : World} {K : PySem.W.Frag} {mg : Str → Option Value} {base : Heap} {k : Nat} (T : Txt K mg w) (hk : 4 ≤ k) : BodyOk P w K mg base ["self", "functions"] "Signature.extended" s_Signature_extended k (B_Signature_extended) := fun f cdv A outer s H E C =>
  (dss_one (ds_ret (de_new C (ok_Signature___init__ T) (by omega) (da_cons (de_add (c := false) (de_fld T.f_functions (de_v 0)) (de_tuple T.z_tuple (da_cons (de_v 1) da_nil))) (da_cons (de_fld T.f_relations (de_v 0)) da_nil)))))
theorem ok_Signature_extended {P : Program} {w : World} {K : PySem.W.Frag} {mg : Str → Option Value} {base : Heap} (T : Txt K mg w) : MtOk P w K mg base 5 "Signature" "extended" 1 [] F_Signature_extended := T.d_Signature_extended.okV sc_Signature_extended (body_Signature_extended (k := 4) T (by omega))
theorem body_named_signature {P : Program} {w : World} {K : PySem.W.Frag} {mg : Str → Option Value} {base : Heap} {k : Nat} (T : Txt K mg w) (hk : 5 ≤ k) : BodyOk P w K mg base ["signature", "taken", "name", "arity"] "named_signature" s_named_signature k (B_named_signature) := fun f cdv A outer s H E C =>
  (dss_cons (ds_if (dt_val (de_mt0 C (ok_Signature_constants T) (by omega) (de_v 0))) (dss_one (ds_ret (de_v 0))) dss_nil)
  (dss_cons (ds_setLc (own := [("name", 2), ("arity", 3)]) false C sc_named_signature.nd (sw_true rfl rfl rfl (by decide +kernel)) (di_val (de_add (c := false) (de_fld T.f_functions (de_v 0)) (de_fld T.f_relations (de_v 0)))) (blkOk_by (own := [("name", 2), ("arity", 3)]) (by show blkC ["signature", "taken", "name", "arity"] (defScope s_named_signature) _ _ = true; decide +kernel)) (fun _ _ _ _ _ => (dgw_tup (Cz.blk C).calm (dgws_cons (dgw_name sc_named_signature.nd) (dgws_cons (dgw_name sc_named_signature.nd) dgws_nil)))) (fun _ _ _ _ _ => dts_nil) (fun _ _ _ _ _ => (de_v 2)))
  (dss_one (ds_ret (de_mt C (ok_Signature_extended T) (by omega) (de_v 0) (da_cons (de_lst (c := false) (da_cons (de_tup (da_cons (de_call C (ok_fresh_name T) (by omega) (da_cons (de_strL (l := [99])) (da_cons (de_v 1) da_nil))) (da_cons de_int da_nil))) da_nil)) da_nil))))))
theorem ok_named_signature {P : Program} {w : World} {K : PySem.W.Frag} {mg : Str → Option Value} {base : Heap} (T : Txt K mg w) : CallOk P w K mg base 6 "named_signature" 1 [] F_named_signature := T.d_named_signature.okV sc_named_signature (body_named_signature (k := 5) T (by omega))
theorem body_rows_of {P : Program} {w : World} {K : PySem.W.Frag} {mg : Str → Option Value} {base : Heap} {k : Nat} (T : Txt K mg w) (hk : 0 ≤ k) : BodyOk P w K mg base ["choices", "length", "rows", "_", "row", "choice"] "rows_of" s_rows_of k (B_rows_of) := fun f cdv A outer s H E C =>
  (dss_cons (ds_set sc_rows_of.nd (de_lst (c := false) (da_cons (de_tup da_nil) da_nil)))
  (dss_cons (ds_for C (di_range1 T.z_range (da_cons (de_v 1) da_nil)) (dg_name sc_rows_of.nd) (dss_one (ds_setLc2 (own := [("row", 4), ("choice", 5)]) false [5] C sc_rows_of.nd (sw_true rfl rfl rfl (by decide +kernel)) (di_val (de_v 2)) (blkOk_by (own := [("row", 4), ("choice", 5)]) (by show blkC ["choices", "length", "rows", "_", "row", "choice"] (defScope s_rows_of) _ _ = true; decide +kernel)) (by decide) (fun _ _ _ _ _ => (dgw_name sc_rows_of.nd)) (fun _ _ _ _ _ => dts_nil) (fun _ _ _ _ _ => (di_val (de_v 0))) (fun _ _ _ _ _ => (dgw_name sc_rows_of.nd)) (fun _ _ _ _ _ => dts_nil) (fun _ _ _ _ _ => (de_add (c := false) (de_v 4) (de_tup (da_cons (de_v 5) da_nil)))))))
  (dss_one (ds_ret (de_v 2)))))
theorem ok_rows_of {P : Program} {w : World} {K : PySem.W.Frag} {mg : Str → Option Value} {base : Heap} (T : Txt K mg w) : CallOk P w K mg base 1 "rows_of" 2 [] F_rows_of := T.d_rows_of.okV sc_rows_of (body_rows_of (k := 0) T (by omega))
theorem body_closed_terms {P : Program} {w : World} {K : PySem.W.Frag} {mg : Str → Option Value} {base : Heap} {k : Nat} (T : Txt K mg w) (hk : 1 ≤ k) : BodyOk P w K mg base ["signature", "depth", "name", "terms", "_", "deeper", "arity", "made", "row", "term"] "closed_terms" s_closed_terms k (B_closed_terms) := fun f cdv A outer s H E C =>
  (dss_cons (ds_set sc_closed_terms.nd (de_lc (own := [("name", 2)]) true C sc_closed_terms.nd (di_val (de_mt0 C (ok_Signature_constants T) (by omega) (de_v 0))) (blkOk_by (own := [("name", 2)]) (by show blkC ["signature", "depth", "name", "terms", "_", "deeper", "arity", "made", "row", "term"] (defScope s_closed_terms) _ _ = true; decide +kernel)) (fun _ _ _ _ _ => (dgw_name sc_closed_terms.nd)) (fun _ _ _ _ _ => dts_nil) (fun _ _ _ _ _ => (de_tup (da_cons (de_v 2) da_nil)))))
  (dss_cons (ds_for C (di_range1 T.z_range (da_cons (de_v 1) da_nil)) (dg_name sc_closed_terms.nd) (dss_cons (ds_set sc_closed_terms.nd (de_list (c := true) T.z_list (da_cons (de_v 3) da_nil)))
  (dss_cons (ds_for C (di_val (de_fld T.f_functions (de_v 0))) (dg_tup C (dgs_cons (dg_name sc_closed_terms.nd) (dgs_cons (dg_name sc_closed_terms.nd) dgs_nil))) (dss_one (ds_if (dt_gt C (de_v 6) de_int) (dss_cons (ds_setLc (own := [("row", 8)]) false C sc_closed_terms.nd (sw_true rfl rfl rfl (by decide +kernel)) (di_val (de_call C (ok_rows_of T) (by omega) (da_cons (de_v 3) (da_cons (de_v 6) da_nil)))) (blkOk_by (own := [("row", 8)]) (by show blkC ["signature", "depth", "name", "terms", "_", "deeper", "arity", "made", "row", "term"] (defScope s_closed_terms) _ _ = true; decide +kernel)) (fun _ _ _ _ _ => (dgw_name sc_closed_terms.nd)) (fun _ _ _ _ _ => dts_nil) (fun _ _ _ _ _ => (de_add (c := false) (de_tup (da_cons (de_v 2) da_nil)) (de_v 8))))
  (dss_one (ds_expr (de_extend (de_v 5) (da_cons (de_lc (own := [("term", 9)]) false C sc_closed_terms.nd (di_val (de_v 7)) (blkOk_by (own := [("term", 9)]) (by show blkC ["signature", "depth", "name", "terms", "_", "deeper", "arity", "made", "row", "term"] (defScope s_closed_terms) _ _ = true; decide +kernel)) (fun _ _ _ _ _ => (dgw_name sc_closed_terms.nd)) (fun _ _ _ _ _ => (dts_one (dt_notIn (Cz.blk C) (de_v 9) (de_v 3)))) (fun _ _ _ _ _ => (de_v 9))) da_nil))))) dss_nil)))
  (dss_one (ds_set sc_closed_terms.nd (de_v 5))))))
  (dss_one (ds_ret (de_v 3)))))
theorem ok_closed_terms {P : Program} {w : World} {K : PySem.W.Frag} {mg : Str → Option Value} {base : Heap} (T : Txt K mg w) : CallOk P w K mg base 2 "closed_terms" 2 [] F_closed_terms := T.d_closed_terms.okF sc_closed_terms (body_closed_terms (k := 1) T (by omega))
theorem body__law_start {P : Program} {w : World} {K : PySem.W.Frag} {mg : Str → Option Value} {base : Heap} {k : Nat} (T : Txt K mg w) (hk : 0 ≤ k) : BodyOk P w K mg base ["script", "row", "seed", "k", "cell", "j", "mixed"] "_law_start" s__law_start k (B__law_start) := fun f cdv A outer s H E C =>
  (dss_cons (ds_set sc__law_start.nd (de_lst (c := true) da_nil))
  (dss_cons (ds_set sc__law_start.nd de_int)
  (dss_cons (ds_for C (di_range1 T.z_range (da_cons (de_len T.z_len (da_cons (de_v 0) da_nil)) da_nil)) (dg_name sc__law_start.nd) (dss_cons (ds_set sc__law_start.nd (de_abs T.z_abs (da_cons (de_ix C (de_v 0) (de_v 3)) da_nil)))
  (dss_cons (ds_set sc__law_start.nd (de_mod (de_intc T.z_int (da_cons (de_add (c := false) (de_add (c := false) (de_mul (de_v 2) de_int) (de_v 4)) (de_v 3)) da_nil)) de_int))
  (dss_one (ds_if (dt_ge C (de_v 4) (de_pow de_int de_int)) (dss_cons (ds_set sc__law_start.nd (de_sub (de_v 4) (de_pow de_int de_int)))
  (dss_one (ds_for C (di_range1 T.z_range (da_cons de_int da_nil)) (dg_name sc__law_start.nd) (dss_one (ds_if (dt_gt C (de_v 4) de_int) (dss_cons (ds_expr (de_append (de_v 1) (da_cons (de_mod (de_intc T.z_int (da_cons (de_v 4) da_nil)) de_int) da_nil)))
  (dss_one (ds_set sc__law_start.nd (de_fdiv (de_v 4) de_int)))) dss_nil))))) (dss_cons (ds_set sc__law_start.nd (de_mod (de_intc T.z_int (da_cons (de_add (c := false) (de_mul (de_add (c := false) (de_v 4) de_int) de_int) (de_mul (de_v 3) de_int)) da_nil)) de_int))
  (dss_cons (ds_set sc__law_start.nd (de_mod (de_intc T.z_int (da_cons (de_add (c := false) (de_mul (de_v 6) de_int) de_int) da_nil)) de_int))
  (dss_one (ds_expr (de_append (de_v 1) (da_cons (de_mod (de_fdiv (de_v 6) de_int) de_int) da_nil)))))))))))
  (dss_one (ds_ret (de_lst (c := true) (da_cons (de_v 1) (da_cons de_int (da_cons (de_v 2) da_nil)))))))))
theorem ok__law_start {P : Program} {w : World} {K : PySem.W.Frag} {mg : Str → Option Value} {base : Heap} (T : Txt K mg w) : CallOk P w K mg base 1 "_law_start" 1 [] F__law_start := T.d__law_start.okF sc__law_start (body__law_start (k := 0) T (by omega))
theorem body__law_take {P : Program} {w : World} {K : PySem.W.Frag} {mg : Str → Option Value} {base : Heap} {k : Nat} (T : Txt K mg w) (hk : 0 ≤ k) : BodyOk P w K mg base ["state", "many", "at", "mixed"] "_law_take" s__law_take k (B__law_take) := fun f cdv A outer s H E C =>
  (dss_cons (ds_set sc__law_take.nd (de_ix C (de_v 0) de_int))
  (dss_cons (ds_setIx C (de_v 0) de_int (de_add (c := false) (de_v 2) de_int))
  (dss_cons (ds_if (dt_lt C (de_v 2) (de_len T.z_len (da_cons (de_ix C (de_v 0) de_int) da_nil))) (dss_one (ds_ret (de_mod (de_intc T.z_int (da_cons (de_ix C (de_ix C (de_v 0) de_int) (de_v 2)) da_nil)) (de_v 1)))) dss_nil)
  (dss_cons (ds_set sc__law_take.nd (de_mod (de_intc T.z_int (da_cons (de_mul (de_add (c := false) (de_ix C (de_v 0) de_int) (de_mul (de_v 2) de_int)) de_int) da_nil)) de_int))
  (dss_cons (ds_set sc__law_take.nd (de_mod (de_intc T.z_int (da_cons (de_add (c := false) (de_mul (de_v 3) de_int) (de_mul (de_v 2) (de_v 2))) da_nil)) de_int))
  (dss_one (ds_ret (de_mod (de_fdiv (de_v 3) de_int) (de_v 1)))))))))
theorem ok__law_take {P : Program} {w : World} {K : PySem.W.Frag} {mg : Str → Option Value} {base : Heap} (T : Txt K mg w) : CallOk P w K mg base 1 "_law_take" 2 [] F__law_take := T.d__law_take.okV sc__law_take (body__law_take (k := 0) T (by omega))
theorem body__law_tuples {P : Program} {w : World} {K : PySem.W.Frag} {mg : Str → Option Value} {base : Heap} {k : Nat} (T : Txt K mg w) (hk : 0 ≤ k) : BodyOk P w K mg base ["choices", "length", "rows", "k", "longer", "row", "choice"] "_law_tuples" s__law_tuples k (B__law_tuples) := fun f cdv A outer s H E C =>
  (dss_cons (ds_set sc__law_tuples.nd (de_lst (c := false) (da_cons (de_tup da_nil) da_nil)))
  (dss_cons (ds_for C (di_range1 T.z_range (da_cons (de_v 1) da_nil)) (dg_name sc__law_tuples.nd) (dss_cons (ds_set sc__law_tuples.nd (de_lst (c := false) da_nil))
  (dss_cons (ds_for C (di_val (de_v 2)) (dg_name sc__law_tuples.nd) (dss_one (ds_set sc__law_tuples.nd (de_add (c := false) (de_v 4) (de_lc (own := [("choice", 6)]) false C sc__law_tuples.nd (di_val (de_v 0)) (blkOk_by (own := [("choice", 6)]) (by show blkC ["choices", "length", "rows", "k", "longer", "row", "choice"] (defScope s__law_tuples) _ _ = true; decide +kernel)) (fun _ _ _ _ _ => (dgw_name sc__law_tuples.nd)) (fun _ _ _ _ _ => dts_nil) (fun _ _ _ _ _ => (de_add (c := false) (de_v 5) (de_tup (da_cons (de_v 6) da_nil)))))))))
  (dss_one (ds_set sc__law_tuples.nd (de_v 4))))))
  (dss_one (ds_ret (de_v 2)))))
theorem ok__law_tuples {P : Program} {w : World} {K : PySem.W.Frag} {mg : Str → Option Value} {base : Heap} (T : Txt K mg w) : CallOk P w K mg base 1 "_law_tuples" 2 [] F__law_tuples := T.d__law_tuples.okV sc__law_tuples (body__law_tuples (k := 0) T (by omega))
theorem body__law_closed {P : Program} {w : World} {K : PySem.W.Frag} {mg : Str → Option Value} {base : Heap} {k : Nat} (T : Txt K mg w) (hk : 1 ≤ k) : BodyOk P w K mg base ["functions", "depth", "name", "arity", "terms", "k", "longer", "row"] "_law_closed" s__law_closed k (B__law_closed) := fun f cdv A outer s H E C =>
  (dss_cons (ds_setLc (own := [("name", 2), ("arity", 3)]) false C sc__law_closed.nd (sw_true rfl rfl rfl (by decide +kernel)) (di_val (de_v 0)) (blkOk_by (own := [("name", 2), ("arity", 3)]) (by show blkC ["functions", "depth", "name", "arity", "terms", "k", "longer", "row"] (defScope s__law_closed) _ _ = true; decide +kernel)) (fun _ _ _ _ _ => (dgw_tup (Cz.blk C).calm (dgws_cons (dgw_name sc__law_closed.nd) (dgws_cons (dgw_name sc__law_closed.nd) dgws_nil)))) (fun _ _ _ _ _ => (dts_one (dt_eq (Cz.blk C) (de_v 3) de_int))) (fun _ _ _ _ _ => (de_tup (da_cons (de_v 2) da_nil))))
  (dss_cons (ds_for C (di_range1 T.z_range (da_cons (de_v 1) da_nil)) (dg_name sc__law_closed.nd) (dss_cons (ds_set sc__law_closed.nd (de_list (c := true) T.z_list (da_cons (de_v 4) da_nil)))
  (dss_cons (ds_for C (di_val (de_v 0)) (dg_tup C (dgs_cons (dg_name sc__law_closed.nd) (dgs_cons (dg_name sc__law_closed.nd) dgs_nil))) (dss_one (ds_if (dt_gt C (de_v 3) de_int) (dss_one (ds_for C (di_val (de_call C (ok__law_tuples T) (by omega) (da_cons (de_v 4) (da_cons (de_v 3) da_nil)))) (dg_name sc__law_closed.nd) (dss_one (ds_if (dt_notIn C (de_add (c := false) (de_tup (da_cons (de_v 2) da_nil)) (de_v 7)) (de_v 4)) (dss_one (ds_expr (de_append (de_v 6) (da_cons (de_add (c := false) (de_tup (da_cons (de_v 2) da_nil)) (de_v 7)) da_nil)))) dss_nil)))) dss_nil)))
  (dss_one (ds_set sc__law_closed.nd (de_v 6))))))
  (dss_one (ds_ret (de_v 4)))))
theorem ok__law_closed {P : Program} {w : World} {K : PySem.W.Frag} {mg : Str → Option Value} {base : Heap} (T : Txt K mg w) : CallOk P w K mg base 2 "_law_closed" 2 [] F__law_closed := T.d__law_closed.okV sc__law_closed (body__law_closed (k := 1) T (by omega))
theorem body_law {P : Program} {w : World} {K : PySem.W.Frag} {mg : Str → Option Value} {base : Heap} {k : Nat} (T : Txt K mg w) (hk : 6 ≤ k) : BodyOk P w K mg base ["script", "state", "constants", "functions", "name", "others", "relations", "signature", "named", "due", "number", "taken", "k", "wide", "depth", "listed", "arity"] "law" s_law k (B_law) := fun f cdv A outer s H E C =>
  (dss_cons (ds_set sc_law.nd (de_call C (ok__law_start T) (by omega) (da_cons (de_v 0) da_nil)))
  (dss_cons (ds_set sc_law.nd (de_sl (c := false) (de_lst (c := false) (da_cons (de_strL (l := [97])) (da_cons (de_strL (l := [99, 51])) (da_cons (de_strL (l := [122, 101, 114, 111])) da_nil)))) do_none (do_some (de_call C (ok__law_take T) (by omega) (da_cons (de_v 1) (da_cons de_int da_nil))))))
  (dss_cons (ds_set sc_law.nd (de_lst (c := true) da_nil))
  (dss_cons (ds_for C (di_val (de_v 2)) (dg_name sc_law.nd) (dss_one (ds_expr (de_insert (de_v 3) (da_cons (de_call C (ok__law_take T) (by omega) (da_cons (de_v 1) (da_cons (de_add (c := false) (de_len T.z_len (da_cons (de_v 3) da_nil)) de_int) da_nil))) (da_cons (de_tup (da_cons (de_v 4) (da_cons de_int da_nil))) da_nil))))))
  (dss_cons (ds_set sc_law.nd (de_ix C (de_lst (c := false) (da_cons (de_lst (c := false) (da_cons (de_strL (l := [102])) (da_cons (de_strL (l := [99, 50])) da_nil))) (da_cons (de_lst (c := false) (da_cons (de_strL (l := [99, 49])) (da_cons (de_strL (l := [99, 50])) da_nil))) (da_cons (de_lst (c := false) (da_cons (de_strL (l := [99, 50])) (da_cons (de_strL (l := [99, 49])) da_nil))) da_nil)))) (de_call C (ok__law_take T) (by omega) (da_cons (de_v 1) (da_cons de_int da_nil)))))
  (dss_cons (ds_for C (di_val (de_sl (c := false) (de_v 5) do_none (do_some (de_call C (ok__law_take T) (by omega) (da_cons (de_v 1) (da_cons de_int da_nil)))))) (dg_name sc_law.nd) (dss_one (ds_expr (de_insert (de_v 3) (da_cons (de_call C (ok__law_take T) (by omega) (da_cons (de_v 1) (da_cons (de_add (c := false) (de_len T.z_len (da_cons (de_v 3) da_nil)) de_int) da_nil))) (da_cons (de_tup (da_cons (de_v 4) (da_cons (de_add (c := false) de_int (de_call C (ok__law_take T) (by omega) (da_cons (de_v 1) (da_cons de_int da_nil)))) da_nil))) da_nil))))))
  (dss_cons (ds_set sc_law.nd (de_sl (c := false) (de_lst (c := false) (da_cons (de_tup (da_cons (de_strL (l := [80])) (da_cons de_int da_nil))) (da_cons (de_tup (da_cons (de_strL (l := [67, 49])) (da_cons de_int da_nil))) da_nil))) do_none (do_some (de_call C (ok__law_take T) (by omega) (da_cons (de_v 1) (da_cons de_int da_nil))))))
  (dss_cons (ds_set sc_law.nd (de_new C (ok_Signature___init__ T) (by omega) (da_cons (de_list (c := false) T.z_list (da_cons (de_v 3) da_nil)) (da_cons (de_list (c := false) T.z_list (da_cons (de_v 6) da_nil)) da_nil))))
  (dss_cons (ds_set sc_law.nd (de_call C (ok_named_signature T) (by omega) (da_cons (de_v 7) da_nil)))
  (dss_cons (ds_set sc_law.nd (de_list (c := true) T.z_list (da_cons (de_v 3) da_nil)))
  (dss_cons (ds_if (dt_eq C (de_len T.z_len (da_cons (de_v 2) da_nil)) de_int) (dss_cons (ds_set sc_law.nd de_int)
  (dss_cons (ds_setLc (own := [("name", 4), ("arity", 16)]) false C sc_law.nd (sw_true rfl rfl rfl (by decide +kernel)) (di_val (de_v 3)) (blkOk_by (own := [("name", 4), ("arity", 16)]) (by show blkC ["script", "state", "constants", "functions", "name", "others", "relations", "signature", "named", "due", "number", "taken", "k", "wide", "depth", "listed", "arity"] (defScope s_law) _ _ = true; decide +kernel)) (fun _ _ _ _ _ => (dgw_tup (Cz.blk C).calm (dgws_cons (dgw_name sc_law.nd) (dgws_cons (dgw_name sc_law.nd) dgws_nil)))) (fun _ _ _ _ _ => dts_nil) (fun _ _ _ _ _ => (de_v 4)))
  (dss_cons (ds_for C (di_range1 T.z_range (da_cons de_int da_nil)) (dg_name sc_law.nd) (dss_one (ds_if (dt_in C (de_add (c := false) (de_strL (l := [99])) (de_strc T.z_str (da_cons (de_v 10) da_nil))) (de_v 11)) (dss_one (ds_set sc_law.nd (de_add (c := false) (de_v 10) de_int))) dss_nil)))
  (dss_one (ds_expr (de_append (de_v 9) (da_cons (de_tup (da_cons (de_add (c := false) (de_strL (l := [99])) (de_strc T.z_str (da_cons (de_v 10) da_nil))) (da_cons de_int da_nil))) da_nil))))))) dss_nil)
  (dss_cons (ds_if (PW.pt (dw_or (dt_ne C (de_fld T.f_functions (de_v 8)) (de_tuple T.z_tuple (da_cons (de_v 9) da_nil))) (dw_or1 (dt_ne C (de_fld T.f_relations (de_v 8)) (de_tuple T.z_tuple (da_cons (de_v 6) da_nil)))))) (dss_one (ds_ret de_bl)) dss_nil)
  (dss_cons (ds_if (dt_ne C (de_fld T.f_functions (de_v 7)) (de_tuple T.z_tuple (da_cons (de_v 3) da_nil))) (dss_one (ds_ret de_bl)) dss_nil)
  (dss_cons (ds_set sc_law.nd (de_max C T.z_max (da_cons (de_lc (own := [("name", 4), ("arity", 16)]) false C sc_law.nd (di_val (de_v 9)) (blkOk_by (own := [("name", 4), ("arity", 16)]) (by show blkC ["script", "state", "constants", "functions", "name", "others", "relations", "signature", "named", "due", "number", "taken", "k", "wide", "depth", "listed", "arity"] (defScope s_law) _ _ = true; decide +kernel)) (fun _ _ _ _ _ => (dgw_tup (Cz.blk C).calm (dgws_cons (dgw_name sc_law.nd) (dgws_cons (dgw_name sc_law.nd) dgws_nil)))) (fun _ _ _ _ _ => dts_nil) (fun _ _ _ _ _ => (de_v 16))) da_nil)))
  (dss_cons (ds_set sc_law.nd (de_call C (ok__law_take T) (by omega) (da_cons (de_v 1) (da_cons de_int da_nil))))
  (dss_cons (ds_if (PW.pt (dw_or (dt_eq C (de_v 13) de_int) (dw_or1 (PW.pt (dw_and (dt_eq C (de_v 13) de_int) (dw_and1 (dt_gt C (de_len T.z_len (da_cons (de_v 9) da_nil)) de_int))))))) (dss_one (ds_set sc_law.nd (de_min2 C T.z_min (da_cons (de_v 14) (da_cons de_int da_nil))))) dss_nil)
  (dss_cons (ds_set sc_law.nd (de_call C (ok_closed_terms T) (by omega) (da_cons (de_v 8) (da_cons (de_v 14) da_nil))))
  (dss_cons (ds_if (PW.pt (dw_or (dt_not (dt_val (de_isT (Ts := "list") rfl (by decide) T.z_isinstance T.z_list (by decide +kernel) (de_v 15)))) (dw_or1 (dt_ne C (de_v 15) (de_call C (ok__law_closed T) (by omega) (da_cons (de_v 9) (da_cons (de_v 14) da_nil))))))) (dss_one (ds_ret de_bl)) dss_nil)
  (dss_cons (ds_expr (de_append (de_v 15) (da_cons (de_tup (da_cons (de_strL (l := [97])) da_nil)) da_nil)))
  (dss_one (ds_ret (de_and (de_eq C (de_call C (ok_closed_terms T) (by omega) (da_cons (de_v 8) (da_cons (de_v 14) da_nil))) (de_call C (ok__law_closed T) (by omega) (da_cons (de_v 9) (da_cons (de_v 14) da_nil)))) (de_one (de_eq C (de_call C (ok_closed_terms T) (by omega) (da_cons (de_v 7) (da_cons de_int da_nil))) (de_lc (own := [("name", 4), ("arity", 16)]) false C sc_law.nd (di_val (de_v 3)) (blkOk_by (own := [("name", 4), ("arity", 16)]) (by show blkC ["script", "state", "constants", "functions", "name", "others", "relations", "signature", "named", "due", "number", "taken", "k", "wide", "depth", "listed", "arity"] (defScope s_law) _ _ = true; decide +kernel)) (fun _ _ _ _ _ => (dgw_tup (Cz.blk C).calm (dgws_cons (dgw_name sc_law.nd) (dgws_cons (dgw_name sc_law.nd) dgws_nil)))) (fun _ _ _ _ _ => (dts_one (dt_eq (Cz.blk C) (de_v 16) de_int))) (fun _ _ _ _ _ => (de_tup (da_cons (de_v 4) da_nil))))))))))))))))))))))))))))
theorem ok_law {P : Program} {w : World} {K : PySem.W.Frag} {mg : Str → Option Value} {base : Heap} (T : Txt K mg w) : CallOk P w K mg base 7 "law" 1 [] F_law := T.d_law.okV sc_law (body_law (k := 6) T (by omega))
theorem law_base {l : PySem.W.OpenLaw} {w : World} {K : PySem.W.Frag} {h : Heap} {mg : Str → Option Value} {fa : Addr} {f_has_name_signs f_is_small_name f_is_capital_name f_fresh_name f_Signature_constants f_Signature___init__ f_Signature_extended f_named_signature f_rows_of f_closed_terms f__law_start f__law_take f__law_tuples f__law_closed f_law : Addr} {od_has_name_signs an_has_name_signs od_is_small_name an_is_small_name od_is_capital_name an_is_capital_name od_fresh_name an_fresh_name od_Signature_constants an_Signature_constants od_Signature___init__ an_Signature___init__ od_Signature_extended an_Signature_extended od_named_signature an_named_signature od_rows_of an_rows_of od_closed_terms an_closed_terms od__law_start an__law_start od__law_take an__law_take od__law_tuples an__law_tuples od__law_closed an__law_closed od_law an_law : Option Addr} {sl_has_name_signs sl_is_small_name sl_is_capital_name sl_fresh_name sl_Signature_constants sl_Signature___init__ sl_Signature_extended sl_named_signature sl_rows_of sl_closed_terms sl__law_start sl__law_take sl__law_tuples sl__law_closed sl_law : Array (Option Value)} {oc_has_name_signs kV_has_name_signs dc_has_name_signs pm_has_name_signs cd_has_name_signs ct_has_name_signs oc_is_small_name kV_is_small_name dc_is_small_name pm_is_small_name cd_is_small_name ct_is_small_name oc_is_capital_name kV_is_capital_name dc_is_capital_name pm_is_capital_name cd_is_capital_name ct_is_capital_name oc_fresh_name kV_fresh_name dc_fresh_name pm_fresh_name cd_fresh_name ct_fresh_name oc_Signature_constants kV_Signature_constants dc_Signature_constants pm_Signature_constants cd_Signature_constants ct_Signature_constants oc_Signature___init__ kV_Signature___init__ dc_Signature___init__ pm_Signature___init__ cd_Signature___init__ ct_Signature___init__ oc_Signature_extended kV_Signature_extended dc_Signature_extended pm_Signature_extended cd_Signature_extended ct_Signature_extended oc_named_signature kV_named_signature dc_named_signature pm_named_signature cd_named_signature ct_named_signature oc_rows_of kV_rows_of dc_rows_of pm_rows_of cd_rows_of ct_rows_of oc_closed_terms kV_closed_terms dc_closed_terms pm_closed_terms cd_closed_terms ct_closed_terms oc__law_start kV__law_start dc__law_start pm__law_start cd__law_start ct__law_start oc__law_take kV__law_take dc__law_take pm__law_take cd__law_take ct__law_take oc__law_tuples kV__law_tuples dc__law_tuples pm__law_tuples cd__law_tuples ct__law_tuples oc__law_closed kV__law_closed dc__law_closed pm__law_closed cd__law_closed ct__law_closed oc_law kV_law dc_law pm_law cd_law ct_law : Value} {C_Signature : Addr} {t_CAPITAL : Tok} {t_DIGITS : Tok} {t_LONGEST : Tok} {t_MOST_ARGUMENTS : Tok} {q_RESERVED : Addr} {od_RESERVED : Option Addr} {n_RESERVED : Nat} {sl_RESERVED : Array (Option Value)} {t0_RESERVED t1_RESERVED t2_RESERVED t3_RESERVED t4_RESERVED t5_RESERVED t6_RESERVED t7_RESERVED t8_RESERVED : Tok} {t_SMALL : Tok} (X : K.In h) (G : h.Ns mainGlobals mg) (hfa : mg "law" = some (.ref fa))
    (a_Signature : PySem.W.nsIn K mainGlobals "Signature" = some (some (.ref C_Signature)))
    (pg_Signature : PySem.W.plainGet K C_Signature Str.empty = true) (hd_Signature : PySem.W.hasDictIn K C_Signature = true) (po_Signature : PySem.W.plainOver K C_Signature = true) (sa_Signature : PySem.W.findIn K (.ref C_Signature) "__setattr__" = some (some (.builtin "object.__setattr__")))
    (mk_Signature : PySem.W.makesIn K C_Signature = true) (kc_Signature : PySem.W.keepIn K (.ref C_Signature) = true)
    (a_has_name_signs : PySem.W.nsIn K mainGlobals "has_name_signs" = some (some (.ref f_has_name_signs)))
    (l_has_name_signs : K.lookup f_has_name_signs = some ⟨oc_has_name_signs, od_has_name_signs, .func (PySem.W.fnOf "has_name_signs" "has_name_signs" (defArgs s_has_name_signs) (defBody s_has_name_signs) (defScope s_has_name_signs) .none kV_has_name_signs dc_has_name_signs pm_has_name_signs an_has_name_signs cd_has_name_signs ct_has_name_signs), sl_has_name_signs⟩) (e_has_name_signs : PySem.W.codeIn K cd_has_name_signs "has_name_signs" = true) (k_has_name_signs : PySem.W.keepIn K (.ref f_has_name_signs) = true)
    (a_is_small_name : PySem.W.nsIn K mainGlobals "is_small_name" = some (some (.ref f_is_small_name)))
    (l_is_small_name : K.lookup f_is_small_name = some ⟨oc_is_small_name, od_is_small_name, .func (PySem.W.fnOf "is_small_name" "is_small_name" (defArgs s_is_small_name) (defBody s_is_small_name) (defScope s_is_small_name) .none kV_is_small_name dc_is_small_name pm_is_small_name an_is_small_name cd_is_small_name ct_is_small_name), sl_is_small_name⟩) (e_is_small_name : PySem.W.codeIn K cd_is_small_name "is_small_name" = true) (k_is_small_name : PySem.W.keepIn K (.ref f_is_small_name) = true)
    (a_is_capital_name : PySem.W.nsIn K mainGlobals "is_capital_name" = some (some (.ref f_is_capital_name)))
    (l_is_capital_name : K.lookup f_is_capital_name = some ⟨oc_is_capital_name, od_is_capital_name, .func (PySem.W.fnOf "is_capital_name" "is_capital_name" (defArgs s_is_capital_name) (defBody s_is_capital_name) (defScope s_is_capital_name) .none kV_is_capital_name dc_is_capital_name pm_is_capital_name an_is_capital_name cd_is_capital_name ct_is_capital_name), sl_is_capital_name⟩) (e_is_capital_name : PySem.W.codeIn K cd_is_capital_name "is_capital_name" = true) (k_is_capital_name : PySem.W.keepIn K (.ref f_is_capital_name) = true)
    (a_fresh_name : PySem.W.nsIn K mainGlobals "fresh_name" = some (some (.ref f_fresh_name)))
    (l_fresh_name : K.lookup f_fresh_name = some ⟨oc_fresh_name, od_fresh_name, .func (PySem.W.fnOf "fresh_name" "fresh_name" (defArgs s_fresh_name) (defBody s_fresh_name) (defScope s_fresh_name) .none kV_fresh_name dc_fresh_name pm_fresh_name an_fresh_name cd_fresh_name ct_fresh_name), sl_fresh_name⟩) (e_fresh_name : PySem.W.codeIn K cd_fresh_name "fresh_name" = true) (k_fresh_name : PySem.W.keepIn K (.ref f_fresh_name) = true)
    (i_Signature_constants : PySem.W.findIn K (.ref C_Signature) "constants" = some (some (.ref f_Signature_constants))) (n_Signature_constants : PySem.W.isFn K (.ref f_Signature_constants) = true)
    (l_Signature_constants : K.lookup f_Signature_constants = some ⟨oc_Signature_constants, od_Signature_constants, .func (PySem.W.fnOf "constants" "Signature.constants" (defArgs s_Signature_constants) (defBody s_Signature_constants) (defScope s_Signature_constants) .none kV_Signature_constants dc_Signature_constants pm_Signature_constants an_Signature_constants cd_Signature_constants ct_Signature_constants), sl_Signature_constants⟩) (e_Signature_constants : PySem.W.codeIn K cd_Signature_constants "Signature.constants" = true) (k_Signature_constants : PySem.W.keepIn K (.ref f_Signature_constants) = true)
    (i_Signature___init__ : PySem.W.findIn K (.ref C_Signature) "__init__" = some (some (.ref f_Signature___init__))) (n_Signature___init__ : PySem.W.isFn K (.ref f_Signature___init__) = true)
    (l_Signature___init__ : K.lookup f_Signature___init__ = some ⟨oc_Signature___init__, od_Signature___init__, .func (PySem.W.fnOf "__init__" "Signature.__init__" (defArgs s_Signature___init__) (defBody s_Signature___init__) (defScope s_Signature___init__) .none kV_Signature___init__ dc_Signature___init__ pm_Signature___init__ an_Signature___init__ cd_Signature___init__ ct_Signature___init__), sl_Signature___init__⟩) (e_Signature___init__ : PySem.W.codeIn K cd_Signature___init__ "Signature.__init__" = true) (k_Signature___init__ : PySem.W.keepIn K (.ref f_Signature___init__) = true)
    (i_Signature_extended : PySem.W.findIn K (.ref C_Signature) "extended" = some (some (.ref f_Signature_extended))) (n_Signature_extended : PySem.W.isFn K (.ref f_Signature_extended) = true)
    (l_Signature_extended : K.lookup f_Signature_extended = some ⟨oc_Signature_extended, od_Signature_extended, .func (PySem.W.fnOf "extended" "Signature.extended" (defArgs s_Signature_extended) (defBody s_Signature_extended) (defScope s_Signature_extended) .none kV_Signature_extended dc_Signature_extended pm_Signature_extended an_Signature_extended cd_Signature_extended ct_Signature_extended), sl_Signature_extended⟩) (e_Signature_extended : PySem.W.codeIn K cd_Signature_extended "Signature.extended" = true) (k_Signature_extended : PySem.W.keepIn K (.ref f_Signature_extended) = true)
    (a_named_signature : PySem.W.nsIn K mainGlobals "named_signature" = some (some (.ref f_named_signature)))
    (l_named_signature : K.lookup f_named_signature = some ⟨oc_named_signature, od_named_signature, .func (PySem.W.fnOf "named_signature" "named_signature" (defArgs s_named_signature) (defBody s_named_signature) (defScope s_named_signature) .none kV_named_signature dc_named_signature pm_named_signature an_named_signature cd_named_signature ct_named_signature), sl_named_signature⟩) (e_named_signature : PySem.W.codeIn K cd_named_signature "named_signature" = true) (k_named_signature : PySem.W.keepIn K (.ref f_named_signature) = true)
    (a_rows_of : PySem.W.nsIn K mainGlobals "rows_of" = some (some (.ref f_rows_of)))
    (l_rows_of : K.lookup f_rows_of = some ⟨oc_rows_of, od_rows_of, .func (PySem.W.fnOf "rows_of" "rows_of" (defArgs s_rows_of) (defBody s_rows_of) (defScope s_rows_of) .none kV_rows_of dc_rows_of pm_rows_of an_rows_of cd_rows_of ct_rows_of), sl_rows_of⟩) (e_rows_of : PySem.W.codeIn K cd_rows_of "rows_of" = true) (k_rows_of : PySem.W.keepIn K (.ref f_rows_of) = true)
    (a_closed_terms : PySem.W.nsIn K mainGlobals "closed_terms" = some (some (.ref f_closed_terms)))
    (l_closed_terms : K.lookup f_closed_terms = some ⟨oc_closed_terms, od_closed_terms, .func (PySem.W.fnOf "closed_terms" "closed_terms" (defArgs s_closed_terms) (defBody s_closed_terms) (defScope s_closed_terms) .none kV_closed_terms dc_closed_terms pm_closed_terms an_closed_terms cd_closed_terms ct_closed_terms), sl_closed_terms⟩) (e_closed_terms : PySem.W.codeIn K cd_closed_terms "closed_terms" = true) (k_closed_terms : PySem.W.keepIn K (.ref f_closed_terms) = true)
    (a__law_start : PySem.W.nsIn K mainGlobals "_law_start" = some (some (.ref f__law_start)))
    (l__law_start : K.lookup f__law_start = some ⟨oc__law_start, od__law_start, .func (PySem.W.fnOf "_law_start" "_law_start" (defArgs s__law_start) (defBody s__law_start) (defScope s__law_start) .none kV__law_start dc__law_start pm__law_start an__law_start cd__law_start ct__law_start), sl__law_start⟩) (e__law_start : PySem.W.codeIn K cd__law_start "_law_start" = true) (k__law_start : PySem.W.keepIn K (.ref f__law_start) = true)
    (a__law_take : PySem.W.nsIn K mainGlobals "_law_take" = some (some (.ref f__law_take)))
    (l__law_take : K.lookup f__law_take = some ⟨oc__law_take, od__law_take, .func (PySem.W.fnOf "_law_take" "_law_take" (defArgs s__law_take) (defBody s__law_take) (defScope s__law_take) .none kV__law_take dc__law_take pm__law_take an__law_take cd__law_take ct__law_take), sl__law_take⟩) (e__law_take : PySem.W.codeIn K cd__law_take "_law_take" = true) (k__law_take : PySem.W.keepIn K (.ref f__law_take) = true)
    (a__law_tuples : PySem.W.nsIn K mainGlobals "_law_tuples" = some (some (.ref f__law_tuples)))
    (l__law_tuples : K.lookup f__law_tuples = some ⟨oc__law_tuples, od__law_tuples, .func (PySem.W.fnOf "_law_tuples" "_law_tuples" (defArgs s__law_tuples) (defBody s__law_tuples) (defScope s__law_tuples) .none kV__law_tuples dc__law_tuples pm__law_tuples an__law_tuples cd__law_tuples ct__law_tuples), sl__law_tuples⟩) (e__law_tuples : PySem.W.codeIn K cd__law_tuples "_law_tuples" = true) (k__law_tuples : PySem.W.keepIn K (.ref f__law_tuples) = true)
    (a__law_closed : PySem.W.nsIn K mainGlobals "_law_closed" = some (some (.ref f__law_closed)))
    (l__law_closed : K.lookup f__law_closed = some ⟨oc__law_closed, od__law_closed, .func (PySem.W.fnOf "_law_closed" "_law_closed" (defArgs s__law_closed) (defBody s__law_closed) (defScope s__law_closed) .none kV__law_closed dc__law_closed pm__law_closed an__law_closed cd__law_closed ct__law_closed), sl__law_closed⟩) (e__law_closed : PySem.W.codeIn K cd__law_closed "_law_closed" = true) (k__law_closed : PySem.W.keepIn K (.ref f__law_closed) = true)
    (a_law : PySem.W.nsIn K mainGlobals "law" = some (some (.ref f_law)))
    (l_law : K.lookup f_law = some ⟨oc_law, od_law, .func (PySem.W.fnOf "law" "law" (defArgs s_law) (defBody s_law) (defScope s_law) .none kV_law dc_law pm_law an_law cd_law ct_law), sl_law⟩) (e_law : PySem.W.codeIn K cd_law "law" = true) (k_law : PySem.W.keepIn K (.ref f_law) = true)
    (z_abs : PySem.W.nsIn K mainGlobals "abs" = some none)
    (z_int : PySem.W.nsIn K mainGlobals "int" = some none)
    (z_isinstance : PySem.W.nsIn K mainGlobals "isinstance" = some none)
    (z_len : PySem.W.nsIn K mainGlobals "len" = some none)
    (z_list : PySem.W.nsIn K mainGlobals "list" = some none)
    (z_max : PySem.W.nsIn K mainGlobals "max" = some none)
    (z_min : PySem.W.nsIn K mainGlobals "min" = some none)
    (z_range : PySem.W.nsIn K mainGlobals "range" = some none)
    (z_str : PySem.W.nsIn K mainGlobals "str" = some none)
    (z_tuple : PySem.W.nsIn K mainGlobals "tuple" = some none)
    (na_functions_Signature : PySem.W.findIn K (.ref C_Signature) "functions" = some none)
    (na_relations_Signature : PySem.W.findIn K (.ref C_Signature) "relations" = some none)
    (na_table_Signature : PySem.W.findIn K (.ref C_Signature) "table" = some none)
    (a_CAPITAL : PySem.W.nsIn K mainGlobals "CAPITAL" = some (some (.str (Str.ofString "ABCDEFGHIJKLMNOPQRSTUVWXYZ") t_CAPITAL)))
    (a_DIGITS : PySem.W.nsIn K mainGlobals "DIGITS" = some (some (.str (Str.ofString "0123456789") t_DIGITS)))
    (a_LONGEST : PySem.W.nsIn K mainGlobals "LONGEST" = some (some (.int 12 t_LONGEST)))
    (a_MOST_ARGUMENTS : PySem.W.nsIn K mainGlobals "MOST_ARGUMENTS" = some (some (.int 3 t_MOST_ARGUMENTS)))
    (a_RESERVED : PySem.W.nsIn K mainGlobals "RESERVED" = some (some (.ref q_RESERVED))) (l_RESERVED : K.lookup q_RESERVED = some ⟨.type "tuple", od_RESERVED, .seq #[.str (Str.ofString "all") t0_RESERVED, .str (Str.ofString "some") t1_RESERVED, .str (Str.ofString "not") t2_RESERVED, .str (Str.ofString "and") t3_RESERVED, .str (Str.ofString "or") t4_RESERVED, .str (Str.ofString "implies") t5_RESERVED, .str (Str.ofString "iff") t6_RESERVED, .str (Str.ofString "true") t7_RESERVED, .str (Str.ofString "false") t8_RESERVED] n_RESERVED, sl_RESERVED⟩)
    (a_SMALL : PySem.W.nsIn K mainGlobals "SMALL" = some (some (.str (Str.ofString "abcdefghijklmnopqrstuvwxyz") t_SMALL)))
    (main : ∀ ns : List Int, ns.length ≤ 63 → ∃ S', F_law [scr ns] .nil = .ok (.bl true) S') :
    ∃ fd : FuncData, (∀ (s : Shared) (v : Value), BindsTo s fd ⟨[v], []⟩ [("script", v)]) ∧ ∀ base : Heap, K.In base → base.Ns mainGlobals mg → FnOk l.prog w K mg base (L2.CX l.prog w) 7 fa fd ["script"] (spLaw K) := by
  have e := hfa.symm.trans (PySem.W.mg_of X G a_law)
  cases e
  have T : Txt K mg w := {
    d_has_name_signs := defAt_mk X G a_has_name_signs l_has_name_signs e_has_name_signs k_has_name_signs fun _ _ _ _ _ _ us hl => match us, hl with | [_], _ => rfl,
    d_is_small_name := defAt_mk X G a_is_small_name l_is_small_name e_is_small_name k_is_small_name fun _ _ _ _ _ _ us hl => match us, hl with | [_], _ => rfl,
    d_is_capital_name := defAt_mk X G a_is_capital_name l_is_capital_name e_is_capital_name k_is_capital_name fun _ _ _ _ _ _ us hl => match us, hl with | [_], _ => rfl,
    d_fresh_name := defAt_mk X G a_fresh_name l_fresh_name e_fresh_name k_fresh_name fun _ _ _ _ _ _ us hl => match us, hl with | [_, _], _ => rfl,
    d_Signature_constants := mtAt_mk X G a_Signature pg_Signature hd_Signature po_Signature sa_Signature i_Signature_constants n_Signature_constants l_Signature_constants e_Signature_constants k_Signature_constants (fun _ _ _ _ _ _ us hl => match us, hl with | [_], _ => rfl),
    d_Signature___init__ := nwAt_mk X G a_Signature mk_Signature kc_Signature i_Signature___init__ n_Signature___init__ l_Signature___init__ e_Signature___init__ k_Signature___init__ (fun _ _ _ _ _ _ us hl => match us, hl with | [_, _, _], _ => rfl),
    d_Signature_extended := mtAt_mk X G a_Signature pg_Signature hd_Signature po_Signature sa_Signature i_Signature_extended n_Signature_extended l_Signature_extended e_Signature_extended k_Signature_extended (fun _ _ _ _ _ _ us hl => match us, hl with | [_, _], _ => rfl),
    d_named_signature := defAt_mk X G a_named_signature l_named_signature e_named_signature k_named_signature fun _ _ _ _ _ _ us hl => match us, hl with | [_], _ => rfl,
    d_rows_of := defAt_mk X G a_rows_of l_rows_of e_rows_of k_rows_of fun _ _ _ _ _ _ us hl => match us, hl with | [_, _], _ => rfl,
    d_closed_terms := defAt_mk X G a_closed_terms l_closed_terms e_closed_terms k_closed_terms fun _ _ _ _ _ _ us hl => match us, hl with | [_, _], _ => rfl,
    d__law_start := defAt_mk X G a__law_start l__law_start e__law_start k__law_start fun _ _ _ _ _ _ us hl => match us, hl with | [_], _ => rfl,
    d__law_take := defAt_mk X G a__law_take l__law_take e__law_take k__law_take fun _ _ _ _ _ _ us hl => match us, hl with | [_, _], _ => rfl,
    d__law_tuples := defAt_mk X G a__law_tuples l__law_tuples e__law_tuples k__law_tuples fun _ _ _ _ _ _ us hl => match us, hl with | [_, _], _ => rfl,
    d__law_closed := defAt_mk X G a__law_closed l__law_closed e__law_closed k__law_closed fun _ _ _ _ _ _ us hl => match us, hl with | [_, _], _ => rfl,
    d_law := defAt_mk X G a_law l_law e_law k_law fun _ _ _ _ _ _ us hl => match us, hl with | [_], _ => rfl,
    z_abs := PySem.W.mg_none_of X G z_abs,
    z_int := PySem.W.mg_none_of X G z_int,
    z_isinstance := PySem.W.mg_none_of X G z_isinstance,
    z_len := PySem.W.mg_none_of X G z_len,
    z_list := PySem.W.mg_none_of X G z_list,
    z_max := PySem.W.mg_none_of X G z_max,
    z_min := PySem.W.mg_none_of X G z_min,
    z_range := PySem.W.mg_none_of X G z_range,
    z_str := PySem.W.mg_none_of X G z_str,
    z_tuple := PySem.W.mg_none_of X G z_tuple,
    f_functions := ⟨fun c hc => by
      simp only [cs_functions, List.mem_cons, List.not_mem_nil, or_false] at hc
      rcases hc with rfl
      · exact ⟨C_Signature, PySem.W.mg_of X G a_Signature, ⟨pg_Signature, hd_Signature, po_Signature, sa_Signature⟩, na_functions_Signature⟩⟩,
    f_relations := ⟨fun c hc => by
      simp only [cs_relations, List.mem_cons, List.not_mem_nil, or_false] at hc
      rcases hc with rfl
      · exact ⟨C_Signature, PySem.W.mg_of X G a_Signature, ⟨pg_Signature, hd_Signature, po_Signature, sa_Signature⟩, na_relations_Signature⟩⟩,
    f_table := ⟨fun c hc => by
      simp only [cs_table, List.mem_cons, List.not_mem_nil, or_false] at hc
      rcases hc with rfl
      · exact ⟨C_Signature, PySem.W.mg_of X G a_Signature, ⟨pg_Signature, hd_Signature, po_Signature, sa_Signature⟩, na_table_Signature⟩⟩,
    g_CAPITAL := glob_str X G a_CAPITAL (by decide +kernel) (by decide +kernel),
    g_DIGITS := glob_str X G a_DIGITS (by decide +kernel) (by decide +kernel),
    g_LONGEST := glob_int X G a_LONGEST,
    g_MOST_ARGUMENTS := glob_int X G a_MOST_ARGUMENTS,
    g_RESERVED := glob_tup X G a_RESERVED l_RESERVED (Nat.le_of_ble_eq_true rfl) (wr_str (by decide +kernel) (by decide +kernel) (wr_str (by decide +kernel) (by decide +kernel) (wr_str (by decide +kernel) (by decide +kernel) (wr_str (by decide +kernel) (by decide +kernel) (wr_str (by decide +kernel) (by decide +kernel) (wr_str (by decide +kernel) (by decide +kernel) (wr_str (by decide +kernel) (by decide +kernel) (wr_str (by decide +kernel) (by decide +kernel) (wr_str (by decide +kernel) (by decide +kernel) .nil))))))))),
    g_SMALL := glob_str X G a_SMALL (by decide +kernel) (by decide +kernel) }
  have F := fun_mk (st := s_law) l_law e_law k_law
  exact ⟨PySem.W.fnOf "law" "law" (defArgs s_law) (defBody s_law) (defScope s_law) .none kV_law dc_law pm_law an_law cd_law ct_law, fun s v => .of_eq rfl, fun base _ _ => DefAt.law F sc_law (body_law (k := 6) T (by omega)) main⟩
end K75

open PySem PySem.W PyProof.Rows
set_option maxHeartbeats 0 in
theorem PySem.Challenge.cw_kingsandcourts_k75_closed_terms_by_depth_holds : PySem.Challenge.rw_kingsandcourts_k75_closed_terms_by_depth.Holds := by
  w_on; o_law; k_head; (case hw => w_witness2)
  k_fill
  refine L2.walk_of (l := PySem.Challenge.rw_kingsandcourts_k75_closed_terms_by_depth) (n := 63) (k := 7) (x := "script") (CX := fun w => L2.CX PySem.Challenge.pw_kingsandcourts_k75_closed_terms_by_depth w) (sp := fun w => Mi.spLaw _) rfl (by decide) rfl ⟨rfl, by decide, by decide⟩ (fun w h Y => PySem.W.kIn_of Y) ?F (fun _ _ a ns hl hO hS => ⟨a, ns, rfl, hS, hl, hO, fun _ => rfl⟩) (fun w H s e s' h => by obtain ⟨_, _, _, _, _, _, _, _, _, _, _, _, z⟩ := h; exact z)
  case F =>
    intro w mg fa h KX G hmg
    refine' K75.law_base KX G hmg ?a_Signature ?pg_Signature ?hd_Signature ?po_Signature ?sa_Signature ?mk_Signature ?kc_Signature ?a_has_name_signs ?l_has_name_signs ?e_has_name_signs ?k_has_name_signs ?a_is_small_name ?l_is_small_name ?e_is_small_name ?k_is_small_name ?a_is_capital_name ?l_is_capital_name ?e_is_capital_name ?k_is_capital_name ?a_fresh_name ?l_fresh_name ?e_fresh_name ?k_fresh_name ?i_Signature_constants ?n_Signature_constants ?l_Signature_constants ?e_Signature_constants ?k_Signature_constants ?i_Signature___init__ ?n_Signature___init__ ?l_Signature___init__ ?e_Signature___init__ ?k_Signature___init__ ?i_Signature_extended ?n_Signature_extended ?l_Signature_extended ?e_Signature_extended ?k_Signature_extended ?a_named_signature ?l_named_signature ?e_named_signature ?k_named_signature ?a_rows_of ?l_rows_of ?e_rows_of ?k_rows_of ?a_closed_terms ?l_closed_terms ?e_closed_terms ?k_closed_terms ?a__law_start ?l__law_start ?e__law_start ?k__law_start ?a__law_take ?l__law_take ?e__law_take ?k__law_take ?a__law_tuples ?l__law_tuples ?e__law_tuples ?k__law_tuples ?a__law_closed ?l__law_closed ?e__law_closed ?k__law_closed ?a_law ?l_law ?e_law ?k_law ?z_abs ?z_int ?z_isinstance ?z_len ?z_list ?z_max ?z_min ?z_range ?z_str ?z_tuple ?na_functions_Signature ?na_relations_Signature ?na_table_Signature ?a_CAPITAL ?a_DIGITS ?a_LONGEST ?a_MOST_ARGUMENTS ?a_RESERVED ?l_RESERVED ?a_SMALL K75.main
    (case a_Signature => k_is); (case pg_Signature => k_is); (case hd_Signature => k_is); (case po_Signature => k_is); (case sa_Signature => k_is); (case mk_Signature => k_is)
    (case kc_Signature => k_is); (case a_has_name_signs => k_is); (case l_has_name_signs => k_is); (case e_has_name_signs => k_is); (case k_has_name_signs => k_is); (case a_is_small_name => k_is)
    (case l_is_small_name => k_is); (case e_is_small_name => k_is); (case k_is_small_name => k_is); (case a_is_capital_name => k_is); (case l_is_capital_name => k_is); (case e_is_capital_name => k_is)
    (case k_is_capital_name => k_is); (case a_fresh_name => k_is); (case l_fresh_name => k_is); (case e_fresh_name => k_is); (case k_fresh_name => k_is); (case i_Signature_constants => k_is)
    (case n_Signature_constants => k_is); (case l_Signature_constants => k_is); (case e_Signature_constants => k_is); (case k_Signature_constants => k_is); (case i_Signature___init__ => k_is); (case n_Signature___init__ => k_is)
    (case l_Signature___init__ => k_is); (case e_Signature___init__ => k_is); (case k_Signature___init__ => k_is); (case i_Signature_extended => k_is); (case n_Signature_extended => k_is); (case l_Signature_extended => k_is)
    (case e_Signature_extended => k_is); (case k_Signature_extended => k_is); (case a_named_signature => k_is); (case l_named_signature => k_is); (case e_named_signature => k_is); (case k_named_signature => k_is)
    (case a_rows_of => k_is); (case l_rows_of => k_is); (case e_rows_of => k_is); (case k_rows_of => k_is); (case a_closed_terms => k_is); (case l_closed_terms => k_is)
    (case e_closed_terms => k_is); (case k_closed_terms => k_is); (case a__law_start => k_is); (case l__law_start => k_is); (case e__law_start => k_is); (case k__law_start => k_is)
    (case a__law_take => k_is); (case l__law_take => k_is); (case e__law_take => k_is); (case k__law_take => k_is); (case a__law_tuples => k_is); (case l__law_tuples => k_is)
    (case e__law_tuples => k_is); (case k__law_tuples => k_is); (case a__law_closed => k_is); (case l__law_closed => k_is); (case e__law_closed => k_is); (case k__law_closed => k_is)
    (case a_law => k_is); (case l_law => k_is); (case e_law => k_is); (case k_law => k_is); (case z_abs => k_is); (case z_int => k_is)
    (case z_isinstance => k_is); (case z_len => k_is); (case z_list => k_is); (case z_max => k_is); (case z_min => k_is); (case z_range => k_is)
    (case z_str => k_is); (case z_tuple => k_is); (case na_functions_Signature => k_is); (case na_relations_Signature => k_is); (case na_table_Signature => k_is); (case a_CAPITAL => k_is)
    (case a_DIGITS => k_is); (case a_LONGEST => k_is); (case a_MOST_ARGUMENTS => k_is); (case a_RESERVED => k_is); (case l_RESERVED => k_is); (case a_SMALL => k_is)
