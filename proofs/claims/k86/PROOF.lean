import PyProof.Rows.All
import Wide.All
import OpenK.AllK
import Wide.FinOn
import HandS.ForMost
import HandS.ForExc
import HandS.ForSpec
import HandS.TupAny
import HandS.Deep
import HandS.IsInst
import HandS.Flow
import HandS.More
import HandS.WordsDict
import HandS.CallSlots
import HandS.ExcIs
import PySem.Challenge.RW_kingsandcourts_k86_parts_and_places
set_option Elab.async false
set_option linter.all false
set_option maxRecDepth 100000
/-! Mi: a plain store-passing meaning for the text's defs, and its truth over the layer. -/
namespace Mi
open PySem PySem.Spec PyProof.Rows L2

inductive D where
  | non | bl (b : Bool) | int (i : Int) | str (s : List Nat)
  | tup (xs : List D) | lst (xs : List D)
  | dic (kvs : List (Key × D))
  | obj (c : Str) (fs : List (Str × D))
  | ref (n : Nat)
  /-- a list that stays as it is for good (the script) -/
  | frl (xs : List D)
  /-- the exception that an except suite holds -/
  | exn (e : D)

mutual
def D.lt (b : Nat) : D → Bool
  | .non => true | .bl _ => true | .int _ => true | .str _ => true
  | .tup xs => D.ltL b xs
  | .lst xs => D.ltL b xs
  | .dic kvs => D.ltK b kvs
  | .obj _ fs => D.ltF b fs
  | .ref n => decide (n < b)
  | .frl xs => D.ltL b xs
  | .exn _ => true
def D.ltL (b : Nat) : List D → Bool
  | [] => true
  | x :: xs => D.lt b x && D.ltL b xs
def D.ltK (b : Nat) : List (Key × D) → Bool
  | [] => true
  | (_, x) :: xs => D.lt b x && D.ltK b xs
def D.ltF (b : Nat) : List (Str × D) → Bool
  | [] => true
  | (_, x) :: xs => D.lt b x && D.ltF b xs
end

inductive Cell where
  | lst (xs : List D)
  | dic (kvs : List (Key × D))
  | ins (c : Str) (fs : List (Str × D))
def Cell.lt (b : Nat) : Cell → Bool
  | .lst xs => D.ltL b xs
  | .dic kvs => D.ltK b kvs
  | .ins _ fs => D.ltF b fs

/-- the cells' addresses; others that nothing reaches -/
structure Ph where
  c : List Addr
  h : List Addr
def Ph.has (φ : Ph) (a : Addr) : Prop := a ∈ φ.c ∨ a ∈ φ.h
def Ph.add (φ : Ph) (a : Addr) : Ph := ⟨φ.c ++ [a], φ.h⟩
def Ph.hide (φ : Ph) (a : Addr) : Ph := ⟨φ.c, a :: φ.h⟩
structure Sto where
  old : List Cell
  top : List Cell
def Sto.all (S : Sto) : List Cell := S.old ++ S.top
def Sto.get (S : Sto) (n : Nat) : Option Cell := if n < S.old.length then S.old[n]? else S.top[n - S.old.length]?
def Sto.set (S : Sto) (n : Nat) (c : Cell) : Sto := if n < S.old.length then ⟨S.old.set n c, S.top⟩ else ⟨S.old, S.top.set (n - S.old.length) c⟩
def Sto.add (S : Sto) (c : Cell) : Sto := ⟨S.old, S.top ++ [c]⟩
def Sto.new (S : Sto) : Nat := S.old.length + S.top.length
def Sto.push (S : Sto) : Sto := ⟨S.old ++ S.top, []⟩
/-- back to the frames of S -/
def Sto.pop (S S' : Sto) : Sto := ⟨S'.old.take S.old.length, S'.old.drop S.old.length⟩
/-- may the cell be written so -/
def Sto.may (S : Sto) (n : Nat) (c : Cell) : Bool := decide (S.old.length ≤ n) || c.lt 0

inductive R (α : Type) where
  | ok (a : α) (S : Sto) | ex (e : D) (S : Sto) | bad
def R.bind {α β : Type} (r : R α) (k : α → Sto → R β) : R β := match r with
  | .ok a S => k a S
  | .ex e S => .ex e S
  | .bad => .bad
abbrev Env := List (Option D)
inductive SR where
  | nx (ρ : Env) (S : Sto) | rt (d : D) (S : Sto) | bk (ρ : Env) (S : Sto) | ct (ρ : Env) (S : Sto) | ex (e : D) (ρ : Env) (S : Sto) | bad
abbrev EM := Env → Sto → R D
abbrev AM := Env → Sto → R (List D)
abbrev TM := Env → Sto → R Bool
abbrev SM := Env → Sto → SR

/-- code points -/
def goodS (s : List Nat) : Bool := s.all fun c => decide (c < 1114112)
section
variable (K : PySem.W.Frag) (mg : Str → Option Value)
def FzL (H : Hp) (a : Addr) (vs : List V) : Prop :=
  (∃ o, H a = some (.frz o (.lst vs))) ∨
    ∃ (o : Obj) (its : Array Value) (n : Nat), K.lookup a = some o ∧ o.cls = .type "list" ∧ o.dict = none ∧ o.data = .seq its n ∧ its.size ≤ sizeLine ∧ Vals vs its.toList
mutual
inductive Rep (H : Hp) (φ : Ph) : D → V → Prop
  | non : Rep H φ .non .non
  | bl (b : Bool) : Rep H φ (.bl b) (.bl b)
  | int (i : Int) : Rep H φ (.int i) (.int i)
  | str (s : List Nat) (g : goodS s = true) : Rep H φ (.str s) (.str ⟨s.toArray⟩)
  | tup {a : Addr} {ds : List D} {vs : List V} : SqT K H a vs → RepL H φ ds vs → Rep H φ (.tup ds) (.ref a)
  | lst {a : Addr} {ds : List D} {vs : List V} : H a = some (.lst vs) → ¬ φ.has a → RepL H φ ds vs → Rep H φ (.lst ds) (.ref a)
  | frl {a : Addr} {ds : List D} {vs : List V} : FzL K H a vs → RepL H φ ds vs → Rep H φ (.frl ds) (.ref a)
  | dic {a : Addr} {ds : List (Key × D)} {vs : List (Key × V)} : Rd H a (.dK vs) → ¬ φ.has a → RepK H φ ds vs → Rep H φ (.dic ds) (.ref a)
  | obj {a C dx : Addr} {c : Str} {fs : List (Str × D)} {vs : List (Str × V)} : mg c = some (.ref C) → H a = some (.ins C dx vs) → ¬ φ.has a → RepF H φ fs vs → Rep H φ (.obj c fs) (.ref a)
  | exn (e : D) (a : Addr) : Rep H φ (.exn e) (.ref a)
  | ref {n : Nat} {a : Addr} : φ.c[n]? = some a → Rep H φ (.ref n) (.ref a)
inductive RepL (H : Hp) (φ : Ph) : List D → List V → Prop
  | nil : RepL H φ [] []
  | cons {d : D} {ds : List D} {v : V} {vs : List V} : Rep H φ d v → RepL H φ ds vs → RepL H φ (d :: ds) (v :: vs)
inductive RepK (H : Hp) (φ : Ph) : List (Key × D) → List (Key × V) → Prop
  | nil : RepK H φ [] []
  | cons {k : Key} {d : D} {ds : List (Key × D)} {v : V} {vs : List (Key × V)} : Rep H φ d v → RepK H φ ds vs → RepK H φ ((k, d) :: ds) ((k, v) :: vs)
inductive RepF (H : Hp) (φ : Ph) : List (Str × D) → List (Str × V) → Prop
  | nil : RepF H φ [] []
  | cons {k : Str} {d : D} {ds : List (Str × D)} {v : V} {vs : List (Str × V)} : Rep H φ d v → RepF H φ ds vs → RepF H φ ((k, d) :: ds) ((k, v) :: vs)
end
def CellOk (H : Hp) (φ : Ph) (a : Addr) : Cell → Prop
  | .lst ds => ∃ vs, H a = some (.lst vs) ∧ RepL K mg H φ ds vs
  | .dic ds => ∃ vs, H a = some (.dK vs) ∧ RepK K mg H φ ds vs
  | .ins c fs => ∃ C dx vs, mg c = some (.ref C) ∧ H a = some (.ins C dx vs) ∧ RepF K mg H φ fs vs
/-- what a hidden thing is -/
def Hdn (o : Option HO) : Prop := (∃ xs, o = some (.lst xs)) ∨ ∃ kvs, o = some (.dK kvs)
theorem Hdn.some {o : Option HO} (h : Hdn o) : ∃ u, o = some u := by
  rcases h with ⟨_, e⟩ | ⟨_, e⟩ <;> exact ⟨_, e⟩
structure Sim (H : Hp) (φ : Ph) (bs : List Nat) (S : Sto) : Prop where
  len : φ.c.length = S.all.length
  nd : φ.c.Nodup
  dis : ∀ a ∈ φ.c, a ∉ φ.h
  hid : ∀ a ∈ φ.h, Hdn (H a)
  cell : ∀ (n : Nat) (a : Addr) (c : Cell), φ.c[n]? = some a → S.all[n]? = some c → CellOk K mg H φ a c
  hd : bs.head? = some S.old.length
  cl : ∀ b ∈ bs, b ≤ S.old.length ∧ ∀ (n : Nat) (c : Cell), n < b → S.all[n]? = some c → c.lt b = true
end
/-- what may have become of heap and cells -/
structure Ext (H : Hp) (φ : Ph) (H' : Hp) (φ' : Ph) : Prop where
  pre : ∃ ψ, φ'.c = φ.c ++ ψ ∧ ∀ b ∈ ψ, H b = none
  hsame : φ'.h = φ.h
  hk : ∀ b ∈ φ.h, H' b = H b
  keep : ∀ b o, H b = some o → ¬ φ.has b → H' b = some o
  there : ∀ b o, H b = some o → ∃ o', H' b = some o'
theorem Ext.refl (H : Hp) (φ : Ph) : Ext H φ H φ := ⟨⟨[], by simp, fun _ h => by simp at h⟩, rfl, fun _ _ => rfl, fun _ _ h _ => h, fun _ o h => ⟨o, h⟩⟩
theorem Ext.nin {H H' : Hp} {φ φ' : Ph} (x : Ext H φ H' φ') {a : Addr} {o : HO} (h : H a = some o) (hn : ¬ φ.has a) : ¬ φ'.has a := fun hm => by
  obtain ⟨ψ, e, f⟩ := x.pre
  rcases hm with z | z
  · rw [e] at z
    rcases List.mem_append.mp z with z | z
    · exact hn (.inl z)
    · rw [f a z] at h; cases h
  · rw [x.hsame] at z; exact hn (.inr z)
theorem Ext.trans {H H1 H2 : Hp} {φ φ1 φ2 : Ph} (x : Ext H φ H1 φ1) (y : Ext H1 φ1 H2 φ2) : Ext H φ H2 φ2 := by
  obtain ⟨ψ, e1, f1⟩ := x.pre
  obtain ⟨ψ2, e2, f2⟩ := y.pre
  refine ⟨⟨ψ ++ ψ2, by rw [e2, e1, List.append_assoc], fun b hb => ?_⟩, y.hsame.trans x.hsame, fun b hb => (y.hk b (by rw [x.hsame]; exact hb)).trans (x.hk b hb), fun b o h hn => ?_, fun b o h => ?_⟩
  · rcases List.mem_append.mp hb with h | h
    · exact f1 b h
    · cases q : H b with
      | none => rfl
      | some o =>
        obtain ⟨o', e⟩ := x.there b o q
        rw [f2 b h] at e; cases e
  · exact y.keep b o (x.keep b o h hn) (x.nin h hn)
  · obtain ⟨o', e⟩ := x.there b o h
    exact y.there b o' e
/-- no cell holds a tuple or a locked thing -/
def Cells (H : Hp) (φ : Ph) : Prop := ∀ a, φ.has a → (∃ xs, H a = some (.lst xs)) ∨ (∃ kvs, H a = some (.dK kvs)) ∨ ∃ C dx fs, H a = some (.ins C dx fs)
section
variable {K : PySem.W.Frag} {mg : Str → Option Value} {H H' : Hp} {φ φ' : Ph} {bs : List Nat} {S : Sto}
theorem Sim.cells (s : Sim K mg H φ bs S) : Cells H φ := fun a ha => by
  rcases ha with ha | ha
  · obtain ⟨n, hn, e⟩ := List.getElem_of_mem ha
    have h1 : φ.c[n]? = some a := by rw [List.getElem?_eq_getElem hn, e]
    have h2 : n < S.all.length := by rw [← s.len]; exact hn
    have h3 := s.cell n a S.all[n] h1 (List.getElem?_eq_getElem h2)
    revert h3
    cases S.all[n] with
    | lst ds => rintro ⟨vs, e, _⟩; exact .inl ⟨_, e⟩
    | dic ds => rintro ⟨vs, e, _⟩; exact .inr (.inl ⟨_, e⟩)
    | ins c fs => rintro ⟨C, dx, vs, _, e, _⟩; exact .inr (.inr ⟨_, _, _, e⟩)
  · rcases s.hid a ha with z | z
    · exact .inl z
    · exact .inr (.inl z)
theorem Cells.tup (c : Cells H φ) {a : Addr} {xs : List V} (h : H a = some (.tup xs)) : ¬ φ.has a := fun ha => by
  rcases c _ ha with ⟨_, e⟩ | ⟨_, e⟩ | ⟨_, _, _, e⟩ <;> (rw [h] at e; cases e)
theorem Cells.frz (c : Cells H φ) {a : Addr} {o : Obj} {u : HO} (h : H a = some (.frz o u)) : ¬ φ.has a := fun ha => by
  rcases c _ ha with ⟨_, e⟩ | ⟨_, e⟩ | ⟨_, _, _, e⟩ <;> (rw [h] at e; cases e)
/-- what a value's meaning leans on stays -/
structure Keeps (H : Hp) (φ : Ph) (H' : Hp) (φ' : Ph) : Prop where
  at' : ∀ a o, H a = some o → ¬ φ.has a → H' a = some o ∧ ¬ φ'.has a
  cell : ∀ (n : Nat) (a : Addr), φ.c[n]? = some a → φ'.c[n]? = some a
theorem Ext.get (x : Ext H φ H' φ') {n : Nat} {a : Addr} (h : φ.c[n]? = some a) : φ'.c[n]? = some a := by
  obtain ⟨ψ, e, f⟩ := x.pre
  rw [e, List.getElem?_append_left (List.getElem?_eq_some_iff.mp h).1]
  exact h
theorem Ext.keeps (x : Ext H φ H' φ') : Keeps H φ H' φ' := ⟨fun a o h n => ⟨x.keep a o h n, x.nin h n⟩, fun _ _ h => x.get h⟩
theorem Keeps.trans {H2 : Hp} {φ2 : Ph} (x : Keeps H φ H' φ') (y : Keeps H' φ' H2 φ2) : Keeps H φ H2 φ2 := ⟨fun a o e n => y.at' a o (x.at' a o e n).1 (x.at' a o e n).2, fun n a e => y.cell n a (x.cell n a e)⟩
theorem Keeps.rd (x : Keeps H φ H' φ') {a : Addr} {u : HO} (h : Rd H a u) (hn : ¬ φ.has a) : Rd H' a u ∧ ¬ φ'.has a := by
  rcases h with h | ⟨o, h⟩
  · exact ⟨.inl (x.at' _ _ h hn).1, (x.at' _ _ h hn).2⟩
  · exact ⟨.inr ⟨o, (x.at' _ _ h hn).1⟩, (x.at' _ _ h hn).2⟩
theorem Keeps.sqt (x : Keeps H φ H' φ') (c : Cells H φ) {a : Addr} {vs : List V} (h : SqT K H a vs) : SqT K H' a vs := by
  rcases h with (h | ⟨o, h⟩) | h
  · exact .inl (.inl (x.at' _ _ h (c.tup h)).1)
  · exact .inl (.inr ⟨o, (x.at' _ _ h (c.frz h)).1⟩)
  · exact .inr h
theorem Ext.sqt (x : Ext H φ H' φ') (c : Cells H φ) {a : Addr} {vs : List V} (h : SqT K H a vs) : SqT K H' a vs := x.keeps.sqt c h
mutual
theorem Rep.kp (x : Keeps H φ H' φ') (c : Cells H φ) : ∀ {d : D} {v : V}, Rep K mg H φ d v → Rep K mg H' φ' d v
  | _, _, .non => .non
  | _, _, .bl b => .bl b
  | _, _, .int i => .int i
  | _, _, .str s g => .str s g
  | _, _, .tup h hl => .tup (x.sqt c h) (RepL.kp x c hl)
  | _, _, .lst h n hl => .lst (x.at' _ _ h n).1 (x.at' _ _ h n).2 (RepL.kp x c hl)
  | _, _, .frl h hl => .frl (by
      rcases h with ⟨o, h⟩ | h
      · exact .inl ⟨o, (x.at' _ _ h (c.frz h)).1⟩
      · exact .inr h) (RepL.kp x c hl)
  | _, _, .dic h n hl => .dic (x.rd h n).1 (x.rd h n).2 (RepK.kp x c hl)
  | _, _, .obj hm h n hl => .obj hm (x.at' _ _ h n).1 (x.at' _ _ h n).2 (RepF.kp x c hl)
  | _, _, .ref h => .ref (x.cell _ _ h)
  | _, _, .exn e a => .exn e a
theorem RepL.kp (x : Keeps H φ H' φ') (c : Cells H φ) : ∀ {d : List D} {v : List V}, RepL K mg H φ d v → RepL K mg H' φ' d v
  | _, _, .nil => .nil
  | _, _, .cons h t => .cons (Rep.kp x c h) (RepL.kp x c t)
theorem RepK.kp (x : Keeps H φ H' φ') (c : Cells H φ) : ∀ {d : List (Key × D)} {v : List (Key × V)}, RepK K mg H φ d v → RepK K mg H' φ' d v
  | _, _, .nil => .nil
  | _, _, .cons h t => .cons (Rep.kp x c h) (RepK.kp x c t)
theorem RepF.kp (x : Keeps H φ H' φ') (c : Cells H φ) : ∀ {d : List (Str × D)} {v : List (Str × V)}, RepF K mg H φ d v → RepF K mg H' φ' d v
  | _, _, .nil => .nil
  | _, _, .cons h t => .cons (Rep.kp x c h) (RepF.kp x c t)
end
theorem Rep.ext (x : Ext H φ H' φ') (c : Cells H φ) {d : D} {v : V} (h : Rep K mg H φ d v) : Rep K mg H' φ' d v := h.kp x.keeps c
theorem RepL.ext (x : Ext H φ H' φ') (c : Cells H φ) {d : List D} {v : List V} (h : RepL K mg H φ d v) : RepL K mg H' φ' d v := h.kp x.keeps c
theorem RepK.ext (x : Ext H φ H' φ') (c : Cells H φ) {d : List (Key × D)} {v : List (Key × V)} (h : RepK K mg H φ d v) : RepK K mg H' φ' d v := h.kp x.keeps c
theorem RepF.ext (x : Ext H φ H' φ') (c : Cells H φ) {d : List (Str × D)} {v : List (Str × V)} (h : RepF K mg H φ d v) : RepF K mg H' φ' d v := h.kp x.keeps c
theorem RepL.length : ∀ {ds : List D} {vs : List V}, RepL K mg H φ ds vs → ds.length = vs.length
  | _, _, .nil => rfl
  | _, _, .cons _ t => by simp [RepL.length t]
theorem RepL.get : ∀ {ds : List D} {vs : List V} {i : Nat} {d : D}, RepL K mg H φ ds vs → ds[i]? = some d → ∃ v, vs[i]? = some v ∧ Rep K mg H φ d v
  | _, _, i, d, .nil, e => by simp at e
  | _, _, 0, d, .cons h t, e => by simp at e; subst e; exact ⟨_, rfl, h⟩
  | _, _, i + 1, d, .cons h t, e => by
    obtain ⟨u, h1, h2⟩ := RepL.get (i := i) (d := d) t (by simpa using e)
    exact ⟨u, by simpa using h1, h2⟩
theorem RepL.get' : ∀ {ds : List D} {vs : List V} {i : Nat} {v : V}, RepL K mg H φ ds vs → vs[i]? = some v → ∃ d, ds[i]? = some d ∧ Rep K mg H φ d v
  | _, _, i, d, .nil, e => by simp at e
  | _, _, 0, d, .cons h t, e => by simp at e; subst e; exact ⟨_, rfl, h⟩
  | _, _, i + 1, d, .cons h t, e => by
    obtain ⟨u, h1, h2⟩ := RepL.get' (i := i) (v := d) t (by simpa using e)
    exact ⟨u, by simpa using h1, h2⟩
theorem RepL.append : ∀ {ds es : List D} {vs ws : List V}, RepL K mg H φ ds vs → RepL K mg H φ es ws → RepL K mg H φ (ds ++ es) (vs ++ ws)
  | _, _, _, _, .nil, s => s
  | _, _, _, _, .cons h t, s => .cons h (RepL.append t s)
theorem RepL.take : ∀ {ds : List D} {vs : List V} (n : Nat), RepL K mg H φ ds vs → RepL K mg H φ (ds.take n) (vs.take n)
  | _, _, 0, _ => .nil
  | _, _, _ + 1, .nil => .nil
  | _, _, n + 1, .cons r t => .cons r (RepL.take n t)
theorem RepL.drop : ∀ {ds : List D} {vs : List V} (n : Nat), RepL K mg H φ ds vs → RepL K mg H φ (ds.drop n) (vs.drop n)
  | _, _, 0, r => r
  | _, _, _ + 1, .nil => .nil
  | _, _, n + 1, .cons _ t => RepL.drop n t
theorem RepL.set {d : D} {v : V} (r : Rep K mg H φ d v) : ∀ {ds : List D} {vs : List V} (i : Nat), RepL K mg H φ ds vs → RepL K mg H φ (ds.set i d) (vs.set i v)
  | _, _, _, .nil => .nil
  | _, _, 0, .cons _ t => .cons r t
  | _, _, i + 1, .cons q t => .cons q (RepL.set r i t)
theorem RepL.reverse : ∀ {ds : List D} {vs : List V}, RepL K mg H φ ds vs → RepL K mg H φ ds.reverse vs.reverse
  | _, _, .nil => .nil
  | _, _, .cons r t => by
    rw [List.reverse_cons, List.reverse_cons]
    exact (RepL.reverse t).append (.cons r .nil)

/-- the slots -/
def ExR (K : PySem.W.Frag) (mg : Str → Option Value) (H : Hp) (φ : Ph) (e : D) (cls : Value) (d : Option Addr) : Prop :=
  ∃ (c : Str) (fs : List (Str × D)) (C : Addr), e = .obj c fs ∧ mg c = some (.ref C) ∧ cls = .ref C ∧
    (fs ≠ [] → ∃ (a : Addr) (vs : List (Str × V)), d = some a ∧ H a = some (.xd vs) ∧ RepF K mg H φ fs vs) ∧ (fs = [] → d = none)
/-- what is known of the exception that is held -/
def XR (a : Addr) (oe : Obj) (K : PySem.W.Frag) (mg : Str → Option Value) (H : Hp) (φ : Ph) (e : D) (v : V) : Prop :=
  ∃ (cls : Value) (dx : Option Addr), v = .ref a ∧ Zc cls dx oe ∧ (∃ vs, oe.data = .fields vs) ∧ ExR K mg H φ e cls dx
/-- the exception held in X: it stands in the slot of the name «error» -/
def xp (X : Cx) : List (Nat × Addr × Obj) := if X.calm = true then [] else (X.pn.take 1).map fun q => (X.N.idxOf ("error" : Str), q)
theorem xp_no {X : Cx} {i : Nat} {x : Str} (h : (x == ("error" : Str)) = false ∨ X.calm = true) (hi : X.N[i]? = some x) : ∀ p ∈ xp X, p.1 ≠ i := by
  intro p hp e
  unfold xp at hp
  rcases h with h | h
  · split at hp
    · cases hp
    · obtain ⟨q, _, rfl⟩ := List.mem_map.mp hp
      dsimp only at e
      have hlt : X.N.idxOf ("error" : Str) < X.N.length := by rw [e]; exact (List.getElem?_eq_some_iff.mp hi).1
      have h2 := List.getElem_idxOf hlt
      have h3 : X.N[X.N.idxOf ("error" : Str)]? = some ("error" : Str) := by rw [List.getElem?_eq_getElem hlt, h2]
      rw [e, hi] at h3
      cases h3
      simp at h
  · rw [if_pos h] at hp; cases hp
theorem ExR.kp0 {e : D} {cls : Value} {d : Option Addr} (x : Keeps H φ H' φ') (c : Cells H φ) (r : ExR K mg H φ e cls d) : ExR K mg H' φ' e cls d := by
  obtain ⟨n, fs, C, rfl, h1, h2, h3, h0⟩ := r
  refine ⟨n, fs, C, rfl, h1, h2, fun hn => ?_, h0⟩
  obtain ⟨a, vs, h4, h5, h6⟩ := h3 hn
  refine ⟨a, vs, h4, (x.at' a _ h5 fun z => ?_).1, h6.kp x c⟩
  rcases c a z with ⟨_, q⟩ | ⟨_, q⟩ | ⟨_, _, _, q⟩ <;> (rw [q] at h5; cases h5)
theorem XR.kp {a : Addr} {oe : Obj} {e : D} {v : V} (x : Keeps H φ H' φ') (c : Cells H φ) (r : XR a oe K mg H φ e v) : XR a oe K mg H' φ' e v := by
  obtain ⟨cls, dx, h3, h4, h5, h6⟩ := r
  exact ⟨cls, dx, h3, h4, h5, h6.kp0 x c⟩
structure EnvR (K : PySem.W.Frag) (mg : Str → Option Value) (P : List (Nat × Addr × Obj)) (H : Hp) (φ : Ph) (ρ : Env) (σ : L2.St) : Prop where
  len : ρ.length = σ.length
  rep : ∀ {i : Nat} {d : D}, ρ[i]? = some (some d) → ∃ v, σ[i]? = some (some v) ∧ Rep K mg H φ d v
  exn : ∀ p ∈ P, ∀ e v, ρ[p.1]? = some (some (.exn e)) → σ[p.1]? = some (some v) → XR p.2.1 p.2.2 K mg H φ e v
theorem EnvR.kp {P : List (Nat × Addr × Obj)} {ρ : Env} {σ : L2.St} (x : Keeps H φ H' φ') (c : Cells H φ) (e : EnvR K mg P H φ ρ σ) : EnvR K mg P H' φ' ρ σ :=
  ⟨e.len, fun h => let ⟨v, h1, h2⟩ := e.rep h; ⟨v, h1, h2.kp x c⟩, fun p hp d v h1 h2 => (e.exn p hp d v h1 h2).kp x c⟩
theorem EnvR.ext {P : List (Nat × Addr × Obj)} {ρ : Env} {σ : L2.St} (x : Ext H φ H' φ') (c : Cells H φ) (e : EnvR K mg P H φ ρ σ) : EnvR K mg P H' φ' ρ σ := e.kp x.keeps c
theorem EnvR.set {P : List (Nat × Addr × Obj)} {ρ : Env} {σ : L2.St} {d : D} {v : V} (e : EnvR K mg P H φ ρ σ) (r : Rep K mg H φ d v) (i : Nat) (hP : ∀ p ∈ P, p.1 ≠ i) : EnvR K mg P H φ (ρ.set i (some d)) (σ.set i (some v)) := by
  refine ⟨by simp [e.len], fun {j u} h => ?_, fun p hp d v h1 h2 => ?_⟩
  · by_cases hj : i = j
    · subst hj
      have hl : i < ρ.length := by
        have := (List.getElem?_eq_some_iff.mp h).1
        simpa using this
      rw [List.getElem?_set_self hl] at h
      have hl2 : i < σ.length := by rw [← e.len]; exact hl
      rw [List.getElem?_set_self hl2]
      cases h
      exact ⟨v, rfl, r⟩
    · rw [List.getElem?_set_ne hj] at h ⊢
      exact e.rep h
  · have hj : i ≠ p.1 := fun z => hP p hp z.symm
    rw [List.getElem?_set_ne hj] at h1 h2
    exact e.exn p hp d v h1 h2
theorem EnvR.unset {P : List (Nat × Addr × Obj)} {ρ : Env} {σ : L2.St} (e : EnvR K mg P H φ ρ σ) (i : Nat) (o : Option V) : EnvR K mg P H φ (ρ.set i none) (σ.set i o) := by
  have key : ∀ {j : Nat} {u : D}, (ρ.set i none)[j]? = some (some u) → i ≠ j := fun {j u} h hj => by
    subst hj
    have hl : i < ρ.length := by
      have := (List.getElem?_eq_some_iff.mp h).1
      simpa using this
    rw [List.getElem?_set_self hl] at h
    cases h
  refine ⟨by simp [e.len], fun {j u} h => ?_, fun p hp d v h1 h2 => ?_⟩
  · have hj := key h
    rw [List.getElem?_set_ne hj] at h ⊢
    exact e.rep h
  · have hj := key h1
    rw [List.getElem?_set_ne hj] at h1 h2
    exact e.exn p hp d v h1 h2
end
/-- what a value's meaning may stand for -/
abbrev Rel (β γ : Type) := PySem.W.Frag → (Str → Option Value) → Hp → Ph → β → γ → Prop
def RelB : Rel Bool Bool := fun _ _ _ _ b c => c = b
section
variable (K : PySem.W.Frag) (mg : Str → Option Value) (W : WX)
def PostG {β γ : Type} (rel : Rel β γ) (bs : List Nat) (σ : L2.St) (H : Hp) (φ : Ph) (r : R β) (Q : γ → Hp → Prop) : Prop := match r with
  | .ok d S' => ∀ v H' φ', Ext H φ H' φ' → Sim K mg H' φ' bs S' → rel K mg H' φ' d v → Q v H'
  | .ex e S' => ∀ cls dx H' φ', Ext H φ H' φ' → Sim K mg H' φ' bs S' → ExR K mg H' φ' e cls dx → W cls dx σ H'
  | .bad => False
def PostS (P : List (Nat × Addr × Obj)) (bs : List Nat) (H : Hp) (φ : Ph) (r : SR) (E : Ends) : Prop := match r with
  | .nx ρ S' => ∀ σ H' φ', Ext H φ H' φ' → Sim K mg H' φ' bs S' → EnvR K mg P H' φ' ρ σ → E.nx σ H'
  | .bk ρ S' => ∀ σ H' φ', Ext H φ H' φ' → Sim K mg H' φ' bs S' → EnvR K mg P H' φ' ρ σ → E.bk σ H'
  | .ct ρ S' => ∀ σ H' φ', Ext H φ H' φ' → Sim K mg H' φ' bs S' → EnvR K mg P H' φ' ρ σ → E.ct σ H'
  | .rt d S' => ∀ v H' φ', Ext H φ H' φ' → Sim K mg H' φ' bs S' → Rep K mg H' φ' d v → E.rt v H'
  | .ex e ρ S' => ∀ cls dx σ H' φ', Ext H φ H' φ' → Sim K mg H' φ' bs S' → EnvR K mg P H' φ' ρ σ → ExR K mg H' φ' e cls dx → W cls dx σ H'
  | .bad => False
end
section
variable (X : Cx) (W : WX)
abbrev Post := PostG X.K X.mg W Rep
abbrev PostL := PostG X.K X.mg W RepL
abbrev PostB := PostG X.K X.mg W RelB
def tG {β γ : Type} (rel : Rel β γ) (f : Env → Sto → R β) : L2.St → Hp → (γ → Hp → Prop) → Prop := fun σ H Q => ∃ φ bs ρ S, Sim X.K X.mg H φ bs S ∧ EnvR X.K X.mg (xp X) H φ ρ σ ∧ PostG X.K X.mg W rel bs σ H φ (f ρ S) Q
abbrev tE (f : EM) : TE := tG X W Rep f
abbrev tA (f : AM) : TA := tG X W RepL f
abbrev tT (f : TM) : TT := tG X W RelB f
def tS (f : SM) : TS := fun E σ H => ∃ φ bs ρ S, Sim X.K X.mg H φ bs S ∧ EnvR X.K X.mg (xp X) H φ ρ σ ∧ PostS X.K X.mg W (xp X) bs H φ (f ρ S) E
abbrev DE (e : Expr) (f : EM) : Prop := PE X e (tE X W f)
abbrev DT (e : Expr) (f : TM) : Prop := PT X e (tT X W f)
abbrev DW (e : Expr) (f : TM) : Prop := PW X e (tT X W f)
abbrev DA (es : List Expr) (f : AM) : Prop := PA X es (tA X W f)
abbrev DS (st : Stmt) (f : SM) : Prop := PS X st (tS X W f)
abbrev DSs (st : List Stmt) (f : SM) : Prop := PSs X st (tS X W f)
end
theorem _root_.L2.PE.wk {X : Cx} {e : Expr} {t t' : TE} (h : PE X e t) (w : ∀ σ H Q, t' σ H Q → t σ H Q) : PE X e t' := ⟨fun pins s σ H Q I q => h.run pins s σ H Q I (w _ _ _ q)⟩
theorem _root_.L2.PT.wk {X : Cx} {e : Expr} {t t' : TT} (h : PT X e t) (w : ∀ σ H Q, t' σ H Q → t σ H Q) : PT X e t' := ⟨fun pins s σ H Q I q => h.run pins s σ H Q I (w _ _ _ q)⟩
theorem _root_.L2.PW.wk {X : Cx} {e : Expr} {t t' : TT} (h : PW X e t) (w : ∀ σ H Q, t' σ H Q → t σ H Q) : PW X e t' := ⟨fun wh pins s σ H Q I q => h.run wh pins s σ H Q I (w _ _ _ q)⟩
theorem _root_.L2.PA.wk {X : Cx} {e : List Expr} {t t' : TA} (h : PA X e t) (w : ∀ σ H Q, t' σ H Q → t σ H Q) : PA X e t' := ⟨fun pos pins s σ H Q I q => h.run pos pins s σ H Q I (w _ _ _ q)⟩
theorem _root_.L2.PS.wk {X : Cx} {e : Stmt} {t t' : TS} (h : PS X e t) (w : ∀ D σ H, t' D σ H → t D σ H) : PS X e t' := ⟨fun pins s σ H D I q => h.run pins s σ H D I (w _ _ _ q)⟩
theorem _root_.L2.PSs.wk {X : Cx} {e : List Stmt} {t t' : TS} (h : PSs X e t) (w : ∀ D σ H, t' D σ H → t D σ H) : PSs X e t' := ⟨fun pins s σ H D I q => h.run pins s σ H D I (w _ _ _ q)⟩
theorem _root_.L2.PE.or {X : Cx} {e : Expr} {t t' : TE} (h : PE X e t) (h' : PE X e t') : PE X e (fun σ H Q => t σ H Q ∨ t' σ H Q) :=
  ⟨fun pins s σ H Q I q => q.elim (h.run pins s σ H Q I) (h'.run pins s σ H Q I)⟩
theorem _root_.L2.PI.or {X : Cx} {tg e : Expr} {t t' : TI} (h : PI X tg e t) (h' : PI X tg e t') : PI X tg e (fun σ H Q => t σ H Q ∨ t' σ H Q) :=
  ⟨fun pins s σ H Q I q => q.elim (h.run pins s σ H Q I) (h'.run pins s σ H Q I)⟩
section
variable {X : Cx} {K : PySem.W.Frag} {mg : Str → Option Value} {W : WX} {bs : List Nat} {σ : L2.St} {H H1 : Hp} {φ φ1 : Ph} {ρ : Env} {S : Sto}
theorem PostG.shift {β γ : Type} {rel : Rel β γ} {r : R β} {Q : γ → Hp → Prop} (x : Ext H φ H1 φ1) (h : PostG K mg W rel bs σ H φ r Q) : PostG K mg W rel bs σ H1 φ1 r Q := by
  cases r with
  | ok d S' => exact fun v H' φ' y => h v H' φ' (x.trans y)
  | ex e S' => exact fun c d H' φ' y => h c d H' φ' (x.trans y)
  | bad => exact h
theorem PostS.shift {P : List (Nat × Addr × Obj)} {r : SR} {E : Ends} (x : Ext H φ H1 φ1) (h : PostS K mg W P bs H φ r E) : PostS K mg W P bs H1 φ1 r E := by
  cases r with
  | nx d S' => exact fun v H' φ' y => h v H' φ' (x.trans y)
  | rt d S' => exact fun v H' φ' y => h v H' φ' (x.trans y)
  | bk d S' => exact fun v H' φ' y => h v H' φ' (x.trans y)
  | ct d S' => exact fun v H' φ' y => h v H' φ' (x.trans y)
  | ex e ρ S' => exact fun c d σ H' φ' y => h c d σ H' φ' (x.trans y)
  | bad => exact h
theorem PostG.done {β γ : Type} {rel : Rel β γ} {d : β} {v : γ} {Q : γ → Hp → Prop} (s : Sim K mg H φ bs S) (r : rel K mg H φ d v) (h : PostG K mg W rel bs σ H φ (.ok d S) Q) : Q v H := h v H φ (.refl _ _) s r
/-- first f, then what k makes of its value -/
theorem tG_then {β γ β' γ' : Type} {rel : Rel β γ} {rel' : Rel β' γ'} {f : Env → Sto → R β} {k : β → Sto → R β'} {Q : γ' → Hp → Prop} {Q1 : γ → Hp → Prop} (s : Sim X.K X.mg H φ bs S) (e : EnvR X.K X.mg (xp X) H φ ρ σ)
    (h : PostG X.K X.mg W rel' bs σ H φ ((f ρ S).bind k) Q)
    (g : ∀ d S1 v H1 φ1, Ext H φ H1 φ1 → Sim X.K X.mg H1 φ1 bs S1 → EnvR X.K X.mg (xp X) H1 φ1 ρ σ → rel X.K X.mg H1 φ1 d v → PostG X.K X.mg W rel' bs σ H1 φ1 (k d S1) Q → Q1 v H1) : tG X W rel f σ H Q1 := by
  refine ⟨φ, bs, ρ, S, s, e, ?_⟩
  revert h
  cases f ρ S with
  | ok d S1 => exact fun h v H1 φ1 x s1 r => g d S1 v H1 φ1 x s1 (e.ext x s.cells) r (PostG.shift x h)
  | ex d S1 => exact fun h => h
  | bad => exact fun h => h
/-- .. in a statement -/
def R.bindS {α : Type} (ρ : Env) (r : R α) (k : α → Sto → SR) : SR := match r with
  | .ok a S => k a S
  | .ex e S => .ex e ρ S
  | .bad => .bad
theorem tG_thenS {β γ : Type} {rel : Rel β γ} {f : Env → Sto → R β} {k : β → Sto → SR} {E : Ends} {Q1 : γ → Hp → Prop} (s : Sim X.K X.mg H φ bs S) (e : EnvR X.K X.mg (xp X) H φ ρ σ)
    (h : PostS X.K X.mg W (xp X) bs H φ (R.bindS ρ (f ρ S) k) E)
    (g : ∀ d S1 v H1 φ1, Ext H φ H1 φ1 → Sim X.K X.mg H1 φ1 bs S1 → EnvR X.K X.mg (xp X) H1 φ1 ρ σ → rel X.K X.mg H1 φ1 d v → PostS X.K X.mg W (xp X) bs H1 φ1 (k d S1) E → Q1 v H1) : tG X W rel f σ H Q1 := by
  refine ⟨φ, bs, ρ, S, s, e, ?_⟩
  revert h
  cases f ρ S with
  | ok d S1 => exact fun h v H1 φ1 x s1 r => g d S1 v H1 φ1 x s1 (e.ext x s.cells) r (PostS.shift x h)
  | ex d S1 => exact fun h c dx H' φ' x s1 r => h c dx σ H' φ' x s1 (e.ext x s.cells) r
  | bad => exact fun h => h
end
end Mi

namespace Mi
open PySem PySem.Spec PyProof.Rows L2

/-! ### cells and heaps -/
theorem Sto.get_all (S : Sto) (n : Nat) : S.get n = S.all[n]? := by
  unfold Sto.get Sto.all
  by_cases h : n < S.old.length
  · rw [if_pos h, List.getElem?_append_left h]
  · rw [if_neg h, List.getElem?_append_right (by omega)]
theorem Sto.set_all (S : Sto) (n : Nat) (c : Cell) : (S.set n c).all = S.all.set n c := by
  unfold Sto.set Sto.all
  by_cases h : n < S.old.length
  · rw [if_pos h, List.set_append_left _ _ h]
  · rw [if_neg h, List.set_append_right _ _ (by omega)]
theorem Sto.set_old (S : Sto) (n : Nat) (c : Cell) : (S.set n c).old.length = S.old.length := by
  unfold Sto.set
  split
  · exact List.length_set
  · rfl
theorem Sto.add_all (S : Sto) (c : Cell) : (S.add c).all = S.all ++ [c] := by
  unfold Sto.add Sto.all
  rw [List.append_assoc]
theorem Sto.new_all (S : Sto) : S.new = S.all.length := by
  unfold Sto.new Sto.all
  rw [List.length_append]
section
variable {K : PySem.W.Frag} {mg : Str → Option Value} {H H' : Hp} {φ φ' : Ph} {bs : List Nat} {S : Sto} {p : Addr} {o : HO}
theorem CellOk.kp {a : Addr} {c : Cell} (x : Keeps H φ H' φ') (cs : Cells H φ) (e : H' a = H a) (h : CellOk K mg H φ a c) : CellOk K mg H' φ' a c := by
  cases c with
  | lst ds => obtain ⟨vs, h1, h2⟩ := h; exact ⟨vs, e.trans h1, h2.kp x cs⟩
  | dic ds => obtain ⟨vs, h1, h2⟩ := h; exact ⟨vs, e.trans h1, h2.kp x cs⟩
  | ins c fs => obtain ⟨C, dx, vs, h0, h1, h2⟩ := h; exact ⟨C, dx, vs, h0, e.trans h1, h2.kp x cs⟩
theorem CellOk.ext {a : Addr} {c : Cell} (x : Ext H φ H' φ') (cs : Cells H φ) (e : H' a = H a) (h : CellOk K mg H φ a c) : CellOk K mg H' φ' a c := h.kp x.keeps cs e
theorem Sim.fresh (s : Sim K mg H φ bs S) (hp : H p = none) : ¬ φ.has p := fun hm => by
  rcases s.cells p hm with ⟨_, e⟩ | ⟨_, e⟩ | ⟨_, _, _, e⟩ <;> (rw [hp] at e; cases e)
theorem Ext.new (s : Sim K mg H φ bs S) (hp : H p = none) : Ext H φ (upd H p o) φ := by
  refine ⟨⟨[], by simp, fun _ h => by simp at h⟩, rfl, fun b hb => upd_ne fun e => s.fresh hp (.inr (e ▸ hb)), fun b u h _ => ?_, fun b u h => ⟨u, ?_⟩⟩
  · rw [upd_ne (ne_of_none h hp)]; exact h
  · rw [upd_ne (ne_of_none h hp)]; exact h
theorem Sim.new (s : Sim K mg H φ bs S) (hp : H p = none) : Sim K mg (upd H p o) φ bs S := by
  refine ⟨s.len, s.nd, s.dis, fun a ha => ?_, fun n a c h1 h2 => ?_, s.hd, s.cl⟩
  · obtain ⟨u, e⟩ := (s.hid a ha).some
    rw [upd_ne (ne_of_none e hp)]; exact s.hid a ha
  · have ha : φ.has a := .inl (List.mem_of_getElem? h1)
    exact (s.cell n a c h1 h2).ext (Ext.new s hp) s.cells (upd_ne fun e => s.fresh hp (e ▸ ha))
theorem Ext.newCell (s : Sim K mg H φ bs S) (hp : H p = none) : Ext H φ (upd H p o) (φ.add p) := by
  have x := Ext.new (o := o) s hp
  refine ⟨⟨[p], rfl, fun b hb => ?_⟩, rfl, x.hk, x.keep, x.there⟩
  have e : b = p := by simpa using hb
  rw [e]; exact hp
/-- a new cell, its address laid already -/
theorem Sim.adopt {c : Cell} {H0 : Hp} (s : Sim K mg H0 φ bs S) (hc : φ'.c = φ.c ++ [p]) (hp : p ∉ φ.c) (hd : ∀ a ∈ φ'.c, a ∉ φ'.h) (hh : ∀ a ∈ φ'.h, Hdn (H a)) (x : Keeps H0 φ H φ') (hs : ∀ a ∈ φ.c, H a = H0 a) (h : CellOk K mg H φ' p c) : Sim K mg H φ' bs (S.add c) := by
  have hnd : (φ.c ++ [p]).Nodup := by
    rw [List.nodup_append]
    refine ⟨s.nd, by simp, fun a ha b hb => ?_⟩
    have e : b = p := by simpa using hb
    subst e
    intro e2; subst e2; exact hp ha
  refine ⟨by rw [Sto.add_all, hc, List.length_append, List.length_append, s.len]; rfl, by rw [hc]; exact hnd, hd, hh, fun n a d h1 h2 => ?_, s.hd, fun b hb => ?_⟩
  · rw [hc] at h1
    rw [Sto.add_all] at h2
    by_cases hn : n < φ.c.length
    · rw [List.getElem?_append_left hn] at h1
      rw [List.getElem?_append_left (by rw [← s.len]; exact hn)] at h2
      exact (s.cell n a d h1 h2).kp x s.cells (hs a (List.mem_of_getElem? h1))
    · have h1' := h1
      have h2' := h2
      rw [List.getElem?_append_right (by omega)] at h1'
      rw [List.getElem?_append_right (by rw [← s.len]; omega), ← s.len] at h2'
      have hz : n - φ.c.length = 0 := by
        have := (List.getElem?_eq_some_iff.mp h1').1
        simp at this; omega
      rw [hz] at h1' h2'
      simp at h1' h2'
      subst h1' h2'
      exact h
  · obtain ⟨h1, h2⟩ := s.cl b hb
    refine ⟨h1, fun n d hn e => ?_⟩
    rw [Sto.add_all] at e
    have : n < S.all.length := by
      unfold Sto.all; rw [List.length_append]; omega
    rw [List.getElem?_append_left this] at e
    exact h2 n d hn e
theorem Sim.newCell {c : Cell} (s : Sim K mg H φ bs S) (hp : H p = none) (h : CellOk K mg (upd H p o) (φ.add p) p c) : Sim K mg (upd H p o) (φ.add p) bs (S.add c) := by
  refine s.adopt rfl (fun q => s.fresh hp (.inl q)) (fun a ha => ?_) (fun a ha => ?_) (Ext.newCell s hp).keeps (fun a ha => upd_ne fun e => s.fresh hp (.inl (e ▸ ha))) h
  · have ha' : a ∈ φ.c ++ [p] := ha
    show a ∉ φ.h
    rcases List.mem_append.mp ha' with z | z
    · exact s.dis a z
    · have e : a = p := by simpa using z
      rw [e]; exact fun q => s.fresh hp (.inr q)
  · obtain ⟨u, e⟩ := (s.hid a ha).some
    rw [upd_ne (ne_of_none e hp)]; exact s.hid a ha
theorem Ext.wr {n : Nat} {a : Addr} (s : Sim K mg H φ bs S) (ha : φ.c[n]? = some a) : Ext H φ (upd H a o) φ := by
  have hm : φ.has a := .inl (List.mem_of_getElem? ha)
  refine ⟨⟨[], by simp, fun _ h => by simp at h⟩, rfl, fun b hb => upd_ne fun e => s.dis a (List.mem_of_getElem? ha) (e ▸ hb), fun b u h hn => ?_, fun b u h => ?_⟩
  · rw [upd_ne (show b ≠ a from fun e => hn (e ▸ hm))]; exact h
  · by_cases e : b = a
    · exact ⟨o, by rw [e, upd_same]⟩
    · exact ⟨u, by rw [upd_ne e]; exact h⟩
mutual
theorem D.lt_mono {a b : Nat} (h : a ≤ b) : ∀ d : D, d.lt a = true → d.lt b = true
  | .non, _ => rfl
  | .bl _, _ => rfl
  | .int _, _ => rfl
  | .str _, _ => rfl
  | .exn _, _ => rfl
  | .tup xs, q => D.ltL_mono h xs q
  | .lst xs, q => D.ltL_mono h xs q
  | .frl xs, q => D.ltL_mono h xs q
  | .dic kvs, q => D.ltK_mono h kvs q
  | .obj _ fs, q => D.ltF_mono h fs q
  | .ref n, q => by
    have q' : decide (n < a) = true := q
    show decide (n < b) = true
    simp only [decide_eq_true_eq] at q' ⊢
    omega
theorem D.ltL_mono {a b : Nat} (h : a ≤ b) : ∀ d : List D, D.ltL a d = true → D.ltL b d = true
  | [], _ => rfl
  | x :: xs, q => by
    have q' : (D.lt a x && D.ltL a xs) = true := q
    show (D.lt b x && D.ltL b xs) = true
    rw [Bool.and_eq_true] at q' ⊢
    exact ⟨D.lt_mono h x q'.1, D.ltL_mono h xs q'.2⟩
theorem D.ltK_mono {a b : Nat} (h : a ≤ b) : ∀ d : List (Key × D), D.ltK a d = true → D.ltK b d = true
  | [], _ => rfl
  | (_, x) :: xs, q => by
    have q' : (D.lt a x && D.ltK a xs) = true := q
    show (D.lt b x && D.ltK b xs) = true
    rw [Bool.and_eq_true] at q' ⊢
    exact ⟨D.lt_mono h x q'.1, D.ltK_mono h xs q'.2⟩
theorem D.ltF_mono {a b : Nat} (h : a ≤ b) : ∀ d : List (Str × D), D.ltF a d = true → D.ltF b d = true
  | [], _ => rfl
  | (_, x) :: xs, q => by
    have q' : (D.lt a x && D.ltF a xs) = true := q
    show (D.lt b x && D.ltF b xs) = true
    rw [Bool.and_eq_true] at q' ⊢
    exact ⟨D.lt_mono h x q'.1, D.ltF_mono h xs q'.2⟩
end
theorem Cell.lt_mono {a b : Nat} (h : a ≤ b) : ∀ c : Cell, c.lt a = true → c.lt b = true
  | .lst xs, q => D.ltL_mono h xs q
  | .dic xs, q => D.ltK_mono h xs q
  | .ins _ xs, q => D.ltF_mono h xs q
/-- a cell is written -/
theorem Sim.wr {n : Nat} {a : Addr} {c : Cell} (s : Sim K mg H φ bs S) (ha : φ.c[n]? = some a) (may : S.may n c = true) (h : CellOk K mg (upd H a o) φ a c) : Sim K mg (upd H a o) φ bs (S.set n c) := by
  refine ⟨by rw [Sto.set_all, List.length_set]; exact s.len, s.nd, s.dis, fun b hb => ?_, fun m b d h1 h2 => ?_, by rw [Sto.set_old]; exact s.hd, fun b hb => ?_⟩
  · rw [upd_ne (show b ≠ a from fun z => s.dis a (List.mem_of_getElem? ha) (by rw [← z]; exact hb))]; exact s.hid b hb
  · rw [Sto.set_all] at h2
    by_cases hm : n = m
    · subst hm
      rw [ha] at h1; cases h1
      have hl : n < S.all.length := by
        have := (List.getElem?_eq_some_iff.mp h2).1
        simpa using this
      rw [List.getElem?_set_self hl] at h2
      cases h2
      exact h
    · rw [List.getElem?_set_ne hm] at h2
      refine (s.cell m b d h1 h2).ext (Ext.wr s ha) s.cells (upd_ne fun e => ?_)
      subst e
      obtain ⟨l1, e1⟩ := List.getElem?_eq_some_iff.mp ha
      obtain ⟨l2, e2⟩ := List.getElem?_eq_some_iff.mp h1
      exact hm ((List.getElem_inj s.nd).mp (e1.trans e2.symm))
  · obtain ⟨h1, h2⟩ := s.cl b hb
    refine ⟨by rw [Sto.set_old]; exact h1, fun m d hm e => ?_⟩
    rw [Sto.set_all] at e
    by_cases hn : n = m
    · subst hn
      have hl : n < S.all.length := by
        have := (List.getElem?_eq_some_iff.mp e).1
        simpa using this
      rw [List.getElem?_set_self hl] at e
      cases e
      unfold Sto.may at may
      rw [Bool.or_eq_true] at may
      rcases may with q | q
      · have q' := of_decide_eq_true q
        omega
      · exact Cell.lt_mono (Nat.zero_le _) _ q
    · rw [List.getElem?_set_ne hn] at e
      exact h2 m d hm e
/-- the cell that a reference means -/
theorem Sim.at {n : Nat} {c : Cell} {v : V} (s : Sim K mg H φ bs S) (r : Rep K mg H φ (.ref n) v) (e : S.get n = some c) : ∃ a, v = .ref a ∧ φ.c[n]? = some a ∧ CellOk K mg H φ a c := by
  cases r with
  | ref h => exact ⟨_, rfl, h, s.cell n _ c h (by rw [← Sto.get_all]; exact e)⟩
end

/-! ### what a new list is taken for: a value that stays (false), a cell (true) -/
def mkL (c : Bool) (xs : List D) (S : Sto) : R D := if c then .ok (.ref S.new) (S.add (.lst xs)) else .ok (.lst xs) S
def mkD (c : Bool) (xs : List (Key × D)) (S : Sto) : R D := if c then .ok (.ref S.new) (S.add (.dic xs)) else .ok (.dic xs) S
section
variable {X : Cx} {W : WX} {bs : List Nat} {σ : L2.St} {H : Hp} {φ : Ph} {S : Sto} {Q : VK} {p : Addr}
theorem mkL_ok {c : Bool} {ds : List D} {vs : List V} (s : Sim X.K X.mg H φ bs S) (r : RepL X.K X.mg H φ ds vs) (hp : H p = none) (h : Post X W bs σ H φ (mkL c ds S) Q) : Q (.ref p) (upd H p (.lst vs)) := by
  cases c with
  | false =>
    have x : Ext H φ (upd H p (.lst vs)) φ := Ext.new s hp
    exact h _ _ _ x (s.new hp) (.lst upd_same (s.fresh hp) (r.ext x s.cells))
  | true =>
    have x : Ext H φ (upd H p (.lst vs)) (φ.add p) := Ext.newCell s hp
    refine h _ _ _ x (s.newCell hp ⟨vs, upd_same, r.ext x s.cells⟩) (.ref ?_)
    show (φ.c ++ [p])[S.new]? = some p
    rw [Sto.new_all, ← s.len, List.getElem?_append_right (Nat.le_refl _)]
    simp
theorem mkD_ok {c : Bool} {ds : List (Key × D)} {vs : List (Key × V)} (s : Sim X.K X.mg H φ bs S) (r : RepK X.K X.mg H φ ds vs) (hp : H p = none) (h : Post X W bs σ H φ (mkD c ds S) Q) : Q (.ref p) (upd H p (.dK vs)) := by
  cases c with
  | false =>
    have x : Ext H φ (upd H p (.dK vs)) φ := Ext.new s hp
    exact h _ _ _ x (s.new hp) (.dic (.inl upd_same) (s.fresh hp) (r.ext x s.cells))
  | true =>
    have x : Ext H φ (upd H p (.dK vs)) (φ.add p) := Ext.newCell s hp
    refine h _ _ _ x (s.newCell hp ⟨vs, upd_same, r.ext x s.cells⟩) (.ref ?_)
    show (φ.c ++ [p])[S.new]? = some p
    rw [Sto.new_all, ← s.len, List.getElem?_append_right (Nat.le_refl _)]
    simp
theorem tup_ok {ds : List D} {vs : List V} (s : Sim X.K X.mg H φ bs S) (r : RepL X.K X.mg H φ ds vs) (hp : H p = none) (h : Post X W bs σ H φ (.ok (.tup ds) S) Q) : Q (.ref p) (upd H p (.tup vs)) := by
  have x : Ext H φ (upd H p (.tup vs)) φ := Ext.new s hp
  exact h _ _ _ x (s.new hp) (.tup (.of upd_same) (r.ext x s.cells))
end

/-! ### names and constants -/
def eVar (i : Nat) : EM := fun ρ S => match ρ[i]? with
  | some (some d) => .ok d S
  | _ => .bad
def eC (d : D) : EM := fun _ S => .ok d S
section
variable {X : Cx} {W : WX}
theorem tVar_wk {i : Nat} (σ : L2.St) (H : Hp) (Q : VK) (h : tE X W (eVar i) σ H Q) : tVar i σ H Q := by
  obtain ⟨φ, bs, ρ, S, s, e, h⟩ := h
  unfold eVar at h
  split at h
  · rename_i d hd
    obtain ⟨v, h1, h2⟩ := e.rep hd
    exact ⟨v, h1, PostG.done s h2 h⟩
  · exact h.elim
theorem de_v (i : Nat) {x : Str} {pos : Pos} (hN : X.N[i]? = some x := by rfl) (hv : Vis X.env.scope x := by first | exact Or.inl rfl | exact Or.inr (Or.inl rfl) | exact Or.inr (Or.inr rfl)) (hd : (x == ("__debug__" : Str)) = false := by decide)
    (hcd : (x == ("__classdict__" : Str)) = false := by decide) : DE X W (.Name x pos) (eVar i) := (pv i hN hv hd hcd).wk tVar_wk
theorem tC_wk {d : D} {v : V} (r : ∀ H φ, Rep X.K X.mg H φ d v) (σ : L2.St) (H : Hp) (Q : VK) (h : tE X W (eC d) σ H Q) : tC v σ H Q := by
  obtain ⟨φ, bs, ρ, S, s, e, h⟩ := h
  exact PostG.done s (r H φ) h
theorem de_int {i j pos} : DE X W (.Constant (.int i) j pos) (eC (.int i)) := pe_int.wk (tC_wk fun _ _ => .int i)
theorem de_bl {i j pos} : DE X W (.Constant (.bool i) j pos) (eC (.bl i)) := pe_bl.wk (tC_wk fun _ _ => .bl i)
theorem de_non {j pos} : DE X W (.Constant .none j pos) (eC .non) := pe_non.wk (tC_wk fun _ _ => .non)
theorem Rep.strOf {K : PySem.W.Frag} {mg : Str → Option Value} {H : Hp} {φ : Ph} (x : Str) (g : goodS x.cps.toList = true) : Rep K mg H φ (.str x.cps.toList) (.str x) := by
  have h := Rep.str (K := K) (mg := mg) (H := H) (φ := φ) x.cps.toList g
  rwa [Array.toArray_toList] at h
theorem de_str {x j pos} (g : goodS x.cps.toList = true := by decide +kernel) : DE X W (.Constant (.str x) j pos) (eC (.str x.cps.toList)) := pe_str.wk (tC_wk fun _ _ => .strOf x g)
theorem good_append {a b : List Nat} (h : goodS a = true) (h' : goodS b = true) : goodS (a ++ b) = true := by
  unfold goodS at *
  rw [List.all_append, h, h'] <;> rfl
theorem good_mem {a : List Nat} : goodS a = true ↔ ∀ c ∈ a, c < 1114112 := by
  unfold goodS
  rw [List.all_eq_true]
  constructor
  · exact fun h c hc => of_decide_eq_true (h c hc)
  · exact fun h c hc => decide_eq_true (h c hc)
/-- a name of the module: its value -/
def Glob (K : PySem.W.Frag) (mg : Str → Option Value) (x : Str) (d : D) : Prop := ∃ (v : V) (u : Value), mg x = some u ∧ RelV v u ∧ ∀ H φ, Rep K mg H φ d v
theorem de_g {x : Str} {d : D} {pos : Pos} (h : Glob X.K X.mg x d) (hg : Gl X x := by rfl) (hd : (x == ("__debug__" : Str)) = false := by decide) : DE X W (.Name x pos) (eC d) := by
  obtain ⟨v, u, hm, r, q⟩ := h
  exact (pe_glob hg hm r hd).wk (tC_wk q)

/-! ### operators -/
def eBin (f g : EM) (k : D → D → Sto → R D) : EM := fun ρ S => (f ρ S).bind fun x S1 => (g ρ S1).bind fun y S2 => k x y S2
def eUn (f : EM) (k : D → Sto → R D) : EM := fun ρ S => (f ρ S).bind k
/-- what an operation does, by values -/
def OpD (X : Cx) (W : WX) (r : R2) (k : D → D → Sto → R D) : Prop := ∀ bs σ H φ S dx dy x y Q, Sim X.K X.mg H φ bs S → Rep X.K X.mg H φ dx x → Rep X.K X.mg H φ dy y → Post X W bs σ H φ (k dx dy S) Q → r x y H Q
theorem tOp_wk {f g : EM} {k : D → D → Sto → R D} {r : R2} (hk : OpD X W r k) (σ : L2.St) (H : Hp) (Q : VK) (h : tE X W (eBin f g k) σ H Q) : tOp r (tE X W f) (tE X W g) σ H Q := by
  obtain ⟨φ, bs, ρ, S, s, e, h⟩ := h
  refine tG_then s e h fun dx S1 x H1 φ1 x1 s1 e1 r1 h1 => ?_
  refine tG_then s1 e1 h1 fun dy S2 y H2 φ2 x2 s2 e2 r2 h2 => ?_
  exact hk _ _ _ _ _ _ _ _ _ _ s2 (r1.ext x2 s1.cells) r2 h2
variable {a b : Expr} {f g : EM} {pos : Pos}
theorem de_bin {op : Operator} {r : R2} {k : D → D → Sto → R D} (ho : OpR X (binaryOp op) r) (hk : OpD X W r k) (ha : DE X W a f) (hb : DE X W b g) : DE X W (.BinOp a op b pos) (eBin f g k) := (pe_op ho ha hb).wk (tOp_wk hk)

def dAdd (c : Bool) : D → D → Sto → R D
  | .int i, .int j, S => .ok (.int (i + j)) S
  | .str x, .str y, S => if x.length + y.length ≤ sizeLine then .ok (.str (x ++ y)) S else .bad
  | .tup xs, .tup ys, S => if xs.length + ys.length ≤ sizeLine then .ok (.tup (xs ++ ys)) S else .bad
  | .lst xs, .lst ys, S => if xs.length + ys.length ≤ sizeLine then mkL c (xs ++ ys) S else .bad
  | .ref n, .lst ys, S => match S.get n with
    | some (.lst xs) => if xs.length + ys.length ≤ sizeLine then mkL c (xs ++ ys) S else .bad
    | _ => .bad
  | .lst xs, .ref n, S => match S.get n with
    | some (.lst ys) => if xs.length + ys.length ≤ sizeLine then mkL c (xs ++ ys) S else .bad
    | _ => .bad
  | .ref m, .ref n, S => match S.get m, S.get n with
    | some (.lst xs), some (.lst ys) => if xs.length + ys.length ≤ sizeLine then mkL c (xs ++ ys) S else .bad
    | _, _ => .bad
  | _, _, _ => .bad
def rAddU (K : PySem.W.Frag) : R2 := fun x y H Q => (rI0 (fun i j => .int (i + j)) x y H Q ∨ (∃ i j : Str, x = .str i ∧ y = .str j ∧ i.length + j.length ≤ sizeLine ∧ Q (.str (i ++ j)) H)) ∨ (rCatA K x y H Q ∨ rCat x y H Q)
theorem str_app (x y : List Nat) : (⟨x.toArray⟩ : Str) ++ (⟨y.toArray⟩ : Str) = ⟨(x ++ y).toArray⟩ := by
  show (⟨x.toArray ++ y.toArray⟩ : Str) = _
  simp
theorem op_addU : OpR X (binaryOp .Add) (rAddU X.K) := OpR.or (OpR.or op_add op_add_str) (OpR.or op_catA op_cat)
theorem if_bad {α : Type} {c : Prop} [Decidable c] {r : R α} {P : R α → Prop} (h : P (if c then r else .bad)) (hb : P .bad → False) : c ∧ P r := by
  by_cases q : c
  · rw [if_pos q] at h; exact ⟨q, h⟩
  · rw [if_neg q] at h; exact (hb h).elim
theorem add_ok {c : Bool} : OpD X W (rAddU X.K) (dAdd c) := by
  intro bs σ H φ S dx dy x y Q s rx ry h
  have lists : ∀ {xs ys : List D} {vs ws : List V} {p q : Addr}, H p = some (.lst vs) → H q = some (.lst ws) → RepL X.K X.mg H φ xs vs → RepL X.K X.mg H φ ys ws →
      Post X W bs σ H φ (if xs.length + ys.length ≤ sizeLine then mkL c (xs ++ ys) S else .bad) Q → rAddU X.K (.ref p) (.ref q) H Q := fun {xs ys vs ws p q} h1 h2 r1 r2 h => by
    obtain ⟨hl, h⟩ := if_bad (P := fun r => Post X W bs σ H φ r Q) h fun z => z
    exact .inr (.inr ⟨_, _, _, _, rfl, rfl, h1, h2, by rw [← r1.length, ← r2.length]; exact hl, fun p hp => mkL_ok s (r1.append r2) hp h⟩)
  cases rx with
  | int i =>
    cases ry with
    | int j => exact .inl (.inl ⟨i, j, rfl, rfl, PostG.done s (.int (i + j)) h⟩)
    | _ => exact h.elim
  | str i gi =>
    cases ry with
    | str j gj =>
      obtain ⟨hl, h⟩ := if_bad (P := fun r => Post X W bs σ H φ r Q) h fun z => z
      exact .inl (.inr ⟨_, _, rfl, rfl, by simpa [Str.length] using hl, by rw [str_app]; exact PostG.done s (.str (i ++ j) (good_append gi gj)) h⟩)
    | _ => exact h.elim
  | tup hx lx =>
    cases ry with
    | tup hy ly =>
      obtain ⟨hl, h⟩ := if_bad (P := fun r => Post X W bs σ H φ r Q) h fun z => z
      refine .inr (.inl ⟨_, _, _, _, rfl, rfl, hx, hy, by rw [← lx.length, ← ly.length]; exact hl, fun e => ?_, fun e1 e2 => ?_, fun e1 e2 p hp => ?_⟩)
      · subst e; cases lx; exact PostG.done s (.tup hy ly) h
      · subst e2
        cases ly
        rw [List.append_nil] at h
        exact PostG.done s (.tup hx lx) h
      · exact tup_ok s (lx.append ly) hp h
    | _ => exact h.elim
  | lst hx _ lx =>
    cases ry with
    | lst hy _ ly => exact lists hx hy lx ly h
    | @ref n b hb =>
      simp only [dAdd] at h
      split at h
      · rename_i ys e
        obtain ⟨_, ev, _, vs, hv, lv⟩ := s.at (.ref hb) e
        cases ev
        exact lists hx hv lx lv h
      · exact h.elim
    | _ => exact h.elim
  | @ref m a ha =>
    cases ry with
    | lst hy _ ly =>
      simp only [dAdd] at h
      split at h
      · rename_i ys e
        obtain ⟨_, ev, _, vs, hv, lv⟩ := s.at (.ref ha) e
        cases ev
        exact lists hv hy lv ly h
      · exact h.elim
    | @ref n b hb =>
      simp only [dAdd] at h
      split at h
      · rename_i xs ys e e'
        obtain ⟨_, ev, _, vs, hv, lv⟩ := s.at (.ref ha) e
        cases ev
        obtain ⟨_, ev, _, ws, hw, lw⟩ := s.at (.ref hb) e'
        cases ev
        exact lists hv hw lv lw h
      · exact h.elim
    | _ => exact h.elim
  | _ => exact h.elim
theorem de_add {c : Bool} (ha : DE X W a f) (hb : DE X W b g) : DE X W (.BinOp a .Add b pos) (eBin f g (dAdd c)) := de_bin op_addU add_ok ha hb
/-- two ints under C -/
def dI (C : Int → Int → Prop) [∀ i j, Decidable (C i j)] (k : Int → Int → Int) : D → D → Sto → R D
  | .int i, .int j, S => if C i j then .ok (.int (k i j)) S else .bad
  | _, _, _ => .bad
theorem dI_ok {C : Int → Int → Prop} [∀ i j, Decidable (C i j)] {k : Int → Int → Int} : OpD X W (rI C fun i j => .int (k i j)) (dI C k) := by
  intro bs σ H φ S dx dy x y Q s rx ry h
  cases rx with
  | int i =>
    cases ry with
    | int j =>
      obtain ⟨hl, h⟩ := if_bad (P := fun r => Post X W bs σ H φ r Q) h fun z => z
      exact ⟨i, j, rfl, rfl, hl, PostG.done s (.int _) h⟩
    | _ => exact h.elim
  | _ => exact h.elim
def dSub : D → D → Sto → R D
  | .int i, .int j, S => .ok (.int (i - j)) S
  | _, _, _ => .bad
theorem de_sub (ha : DE X W a f) (hb : DE X W b g) : DE X W (.BinOp a .Sub b pos) (eBin f g dSub) := de_bin op_sub (fun bs σ H φ S dx dy x y Q s rx ry h => by
  cases rx with
  | int i =>
    cases ry with
    | int j => exact ⟨i, j, rfl, rfl, PostG.done s (.int _) h⟩
    | _ => exact h.elim
  | _ => exact h.elim) ha hb
instance (i j : Int) : Decidable (CDivN i j) := by unfold CDivN; infer_instance
instance (i j : Int) : Decidable (CDiv i j) := by unfold CDiv; infer_instance
instance (i j : Int) : Decidable (CMul i j) := by unfold CMul; infer_instance
instance (i j : Int) : Decidable (CPow i j) := by unfold CPow; infer_instance
abbrev dMod := dI (fun _ j => 0 < j) fun i j => i % j
abbrev dDiv := dI CDiv fun i j => i / j
abbrev dPow := dI CPow fun i j => i ^ j.toNat
theorem de_mod (ha : DE X W a f) (hb : DE X W b g) : DE X W (.BinOp a .Mod b pos) (eBin f g dMod) := de_bin op_mod dI_ok ha hb
theorem de_fdiv (ha : DE X W a f) (hb : DE X W b g) : DE X W (.BinOp a .FloorDiv b pos) (eBin f g dDiv) := de_bin op_fdiv dI_ok ha hb
theorem de_pow (ha : DE X W a f) (hb : DE X W b g) : DE X W (.BinOp a .Pow b pos) (eBin f g dPow) := de_bin op_pow dI_ok ha hb
end
end Mi

namespace Mi
open PySem PySem.Spec PyProof.Rows L2

/-! ### data -/
mutual
def pyD : D → Option PyData
  | .non => some .none
  | .bl b => some (.bool b)
  | .int i => some (.int i)
  | .str s => some (.str ⟨s.toArray⟩)
  | .tup xs => (pyL xs).map .tuple
  | .lst xs => (pyL xs).map .list
  | .frl xs => (pyL xs).map .list
  | .dic _ => none
  | .obj _ _ => none
  | .ref _ => none
  | .exn _ => none
def pyL : List D → Option (List PyData)
  | [] => some []
  | x :: xs => match pyD x, pyL xs with
    | some a, some as => some (a :: as)
    | _, _ => none
end
def pyS (S : Sto) : D → Option PyData
  | .ref n => match S.get n with
    | some (.lst xs) => (pyL xs).map .list
    | _ => none
  | d => pyD d
/-- the items of a list -/
def lstS (S : Sto) : D → Option (List D)
  | .lst xs => some xs
  | .frl xs => some xs
  | .ref n => match S.get n with
    | some (.lst xs) => some xs
    | _ => none
  | _ => none
/-- the items of a list or a tuple -/
def seqS (S : Sto) : D → Option (List D)
  | .tup xs => some xs
  | d => lstS S d
def dicS (S : Sto) : D → Option (List (Key × D))
  | .dic xs => some xs
  | .ref n => match S.get n with
    | some (.dic xs) => some xs
    | _ => none
  | _ => none
def keyD : D → Option Key
  | .int i => some (.inl i)
  | .str s => some (.inr ⟨s.toArray⟩)
  | _ => none
section
variable {K : PySem.W.Frag} {mg : Str → Option Value} {H : Hp} {φ : Ph} {bs : List Nat} {S : Sto}
theorem FzL.sq {a : Addr} {vs : List V} (h : FzL K H a vs) : SqL K H a vs := by
  rcases h with ⟨o, h⟩ | h
  · exact .inl (.inr ⟨o, h⟩)
  · exact .inr h
theorem good_ok {s : List Nat} (h : goodS s = true) : PyData.canLay0 (.str ⟨s.toArray⟩) = true := by
  show PyData.strOk ⟨s.toArray⟩ = true
  unfold PyData.strOk
  show s.toArray.all _ = true
  rw [← Array.all_toList]
  exact h
mutual
theorem Rep.dp : ∀ {d : D} {v : V} {p : PyData}, Rep K mg H φ d v → pyD d = some p → Dp K H v p ∧ p.canLay0 = true
  | _, _, _, .non, e => by cases e; exact ⟨.non, rfl⟩
  | _, _, _, .bl b, e => by cases e; exact ⟨.bl b, rfl⟩
  | _, _, _, .int i, e => by cases e; exact ⟨.int i, rfl⟩
  | _, _, _, .str s g, e => by cases e; exact ⟨.str _, good_ok g⟩
  | _, _, p, .tup (ds := ds) h hl, e => by
    have e' : (pyL ds).map PyData.tuple = some p := e
    cases q : pyL ds with
    | none => rw [q] at e'; cases e'
    | some ps =>
      rw [q] at e'; cases e'
      obtain ⟨h1, h2⟩ := RepL.dp hl q
      exact ⟨.tup h h1, h2⟩
  | _, _, p, .lst (ds := ds) h _ hl, e => by
    have e' : (pyL ds).map PyData.list = some p := e
    cases q : pyL ds with
    | none => rw [q] at e'; cases e'
    | some ps =>
      rw [q] at e'; cases e'
      obtain ⟨h1, h2⟩ := RepL.dp hl q
      exact ⟨.lst (.of h) h1, h2⟩
  | _, _, p, .frl (ds := ds) h hl, e => by
    have e' : (pyL ds).map PyData.list = some p := e
    cases q : pyL ds with
    | none => rw [q] at e'; cases e'
    | some ps =>
      rw [q] at e'; cases e'
      obtain ⟨h1, h2⟩ := RepL.dp hl q
      exact ⟨.lst h.sq h1, h2⟩
  | _, _, _, .dic _ _ _, e => by cases e
  | _, _, _, .obj _ _ _ _, e => by cases e
  | _, _, _, .ref _, e => by cases e
theorem RepL.dp : ∀ {ds : List D} {vs : List V} {ps : List PyData}, RepL K mg H φ ds vs → pyL ds = some ps → DpAll K H vs ps ∧ PyData.canLayAll0 ps = true
  | _, _, _, .nil, e => by cases e; exact ⟨.nil, rfl⟩
  | _, _, ps, .cons (d := d) (ds := ds) h hl, e => by
    cases q1 : pyD d with
    | none => simp [pyL, q1] at e
    | some a =>
      cases q2 : pyL ds with
      | none => simp [pyL, q1, q2] at e
      | some as =>
        have e' : some (a :: as) = some ps := by
          simpa [pyL, q1, q2] using e
        cases e'
        obtain ⟨h1, h2⟩ := Rep.dp h q1
        obtain ⟨h3, h4⟩ := RepL.dp hl q2
        refine ⟨.cons h1 h3, ?_⟩
        show (a.canLay0 && PyData.canLayAll0 as) = true
        rw [h2, h4] <;> rfl
end
theorem Sim.dp (s : Sim K mg H φ bs S) {d : D} {v : V} {p : PyData} (r : Rep K mg H φ d v) (e : pyS S d = some p) : Dp K H v p ∧ p.canLay0 = true := by
  cases d with
  | ref n =>
    simp only [pyS] at e
    split at e
    · rename_i xs q
      obtain ⟨a, rfl, _, vs, hv, lv⟩ := s.at r q
      cases q2 : pyL xs with
      | none => rw [q2] at e; cases e
      | some ps =>
        rw [q2] at e; cases e
        obtain ⟨h1, h2⟩ := RepL.dp lv q2
        exact ⟨.lst (.of hv) h1, h2⟩
    · cases e
  | _ => exact r.dp e
theorem Sim.lst (s : Sim K mg H φ bs S) {d : D} {v : V} {xs : List D} (r : Rep K mg H φ d v) (e : lstS S d = some xs) : ∃ a vs, v = .ref a ∧ SqL K H a vs ∧ RepL K mg H φ xs vs := by
  cases r with
  | lst h _ hl => cases e; exact ⟨_, _, rfl, .of h, hl⟩
  | frl h hl => cases e; exact ⟨_, _, rfl, h.sq, hl⟩
  | @ref n a h =>
    simp only [lstS] at e
    split at e
    · rename_i ys q
      cases e
      obtain ⟨a', e', _, vs, hv, lv⟩ := s.at (.ref h) q
      cases e'
      exact ⟨_, _, rfl, .of hv, lv⟩
    · cases e
  | _ => cases e
theorem Sim.seq (s : Sim K mg H φ bs S) {d : D} {v : V} {xs : List D} (r : Rep K mg H φ d v) (e : seqS S d = some xs) : ∃ a vs, v = .ref a ∧ (SqL K H a vs ∨ SqT K H a vs) ∧ RepL K mg H φ xs vs := by
  by_cases ht : ∃ ys, d = .tup ys
  · obtain ⟨ys, rfl⟩ := ht
    cases e
    cases r with
    | tup h hl => exact ⟨_, _, rfl, .inr h, hl⟩
  · have e' : lstS S d = some xs := by
      cases d with
      | tup ys => exact absurd ⟨_, rfl⟩ ht
      | _ => exact e
    obtain ⟨a, vs, h1, h2, h3⟩ := s.lst r e'
    exact ⟨a, vs, h1, .inl h2, h3⟩
theorem Sim.dic (s : Sim K mg H φ bs S) {d : D} {v : V} {xs : List (Key × D)} (r : Rep K mg H φ d v) (e : dicS S d = some xs) : ∃ a vs, v = .ref a ∧ Rd H a (.dK vs) ∧ RepK K mg H φ xs vs := by
  cases r with
  | dic h _ hl => cases e; exact ⟨_, _, rfl, h, hl⟩
  | @ref n a h =>
    simp only [dicS] at e
    split at e
    · rename_i ys q
      cases e
      obtain ⟨a', e', _, vs, hv, lv⟩ := s.at (.ref h) q
      cases e'
      exact ⟨_, _, rfl, .inl hv, lv⟩
    · cases e
  | _ => cases e
theorem Rep.key {d : D} {v : V} {k : Key} (r : Rep K mg H φ d v) (e : keyD d = some k) : v = kV k := by
  cases r <;> cases e <;> rfl
def valD (kvs : List (Key × D)) (k : Key) : Option D := (kvs.find? fun kv => decide (kv.1 = k)).map (·.2)
theorem RepK.val {k : Key} : ∀ {ds : List (Key × D)} {vs : List (Key × V)}, RepK K mg H φ ds vs → (valD ds k = none ∧ valV vs k = none) ∨ ∃ d v, valD ds k = some d ∧ valV vs k = some v ∧ Rep K mg H φ d v
  | _, _, .nil => .inl ⟨rfl, rfl⟩
  | _, _, .cons (k := k') (d := d) (ds := ds) (v := v) (vs := vs) h t => by
    unfold valD valV
    rw [List.find?_cons, List.find?_cons]
    by_cases q : k' = k
    · subst q
      simp only [decide_true]
      exact .inr ⟨d, v, rfl, rfl, h⟩
    · simp only [decide_eq_false q]
      exact RepK.val t
end

/-! ### tests -/
/-- a value's truth -/
def truS (S : Sto) : D → Option Bool
  | .non => some false
  | .bl b => some b
  | .int i => some (i != 0)
  | .str s => if s.length ≤ sizeLine then some ((s.length : Int) != 0) else none
  | .tup xs => some (!xs.isEmpty)
  | .lst xs => some (!xs.isEmpty)
  | .frl xs => some (!xs.isEmpty)
  | .ref n => match S.get n with
    | some (.lst xs) => some (!xs.isEmpty)
    | some (.dic xs) => some (!xs.isEmpty)
    | _ => none
  | _ => none
/-- an answer that may lack -/
def R.of {α : Type} (S : Sto) : Option α → R α
  | some a => .ok a S
  | none => .bad
def eTru (f : EM) : TM := fun ρ S => (f ρ S).bind fun d S1 => .of S1 (truS S1 d)
/-- a bool's truth -/
def blD : D → Option Bool
  | .bl b => some b
  | _ => none
def eTst (f : EM) : TM := fun ρ S => (f ρ S).bind fun d S1 => .of S1 (blD d)
section
variable {X : Cx} {W : WX} {bs : List Nat} {σ : L2.St} {H : Hp} {φ : Ph} {S : Sto} {Q : Bool → Hp → Prop}
theorem isEmpty_repL {K : PySem.W.Frag} {mg : Str → Option Value} {ds : List D} {vs : List V} (r : RepL K mg H φ ds vs) : (!ds.isEmpty) = !vs.isEmpty := by
  cases r <;> rfl
theorem isEmpty_repK {K : PySem.W.Frag} {mg : Str → Option Value} {ds : List (Key × D)} {vs : List (Key × V)} (r : RepK K mg H φ ds vs) : (!ds.isEmpty) = !vs.isEmpty := by
  cases r <;> rfl
theorem of_post {α γ : Type} {K : PySem.W.Frag} {mg : Str → Option Value} {rel : Rel α γ} {o : Option α} {Q : γ → Hp → Prop} (h : PostG K mg W rel bs σ H φ (.of S o) Q) : ∃ a, o = some a ∧ PostG K mg W rel bs σ H φ (.ok a S) Q := by
  cases o with
  | some a => exact ⟨a, rfl, h⟩
  | none => exact h.elim
theorem Sim.tru {K : PySem.W.Frag} {mg : Str → Option Value} {d : D} {v : V} {b : Bool} (s : Sim K mg H φ bs S) (r : Rep K mg H φ d v) (h : truS S d = some b) : TruV K v H b := by
  cases r with
  | non => cases h; exact rfl
  | bl b => cases h; exact rfl
  | int i => cases h; exact rfl
  | str z g =>
    have h' : (if z.length ≤ sizeLine then some ((z.length : Int) != 0) else none) = some b := h
    by_cases q : z.length ≤ sizeLine
    · rw [if_pos q] at h'
      cases h'
      exact ⟨by simpa [Str.length] using q, by simp [Str.length]⟩
    · rw [if_neg q] at h'; cases h'
  | tup h1 h2 => cases h; exact .inr (.inl ⟨_, h1, isEmpty_repL h2⟩)
  | lst h1 _ h2 => cases h; exact .inl ⟨_, .of h1, isEmpty_repL h2⟩
  | frl h1 h2 => cases h; exact .inl ⟨_, h1.sq, isEmpty_repL h2⟩
  | dic _ _ _ => cases h
  | obj _ _ _ _ => cases h
  | exn _ _ => cases h
  | @ref n a h1 =>
    simp only [truS] at h
    split at h
    · rename_i xs e
      cases h
      obtain ⟨a', ev, _, vs, hv, lv⟩ := s.at (.ref h1) e
      cases ev
      exact .inl ⟨_, .of hv, isEmpty_repL lv⟩
    · rename_i xs e
      cases h
      obtain ⟨a', ev, _, vs, hv, lv⟩ := s.at (.ref h1) e
      cases ev
      exact .inr (.inr ⟨_, hv, isEmpty_repK lv⟩)
    · cases h
theorem Rep.bl' {K : PySem.W.Frag} {mg : Str → Option Value} {d : D} {v : V} {b : Bool} (r : Rep K mg H φ d v) (h : blD d = some b) : v = .bl b := by
  cases r <;> cases h <;> rfl
variable {a b c : Expr} {f g : EM} {t u : TM} {pos : Pos} {rest : List Expr}
theorem dt_val (ha : DE X W a f) (he : ∀ whole, isTrue a X.env whole = (do let v ← whole; standAt a.pos; holding [v] (truthy v)) := by intro _; rfl) : DT X W a (eTru f) := by
  refine (pt_truth ha he).wk fun σ H Q h => ?_
  obtain ⟨φ, bs, ρ, S, s, e, h⟩ := h
  refine tG_then s e h fun d S1 v H1 φ1 x1 s1 e1 r1 h1 => ?_
  obtain ⟨b, e2, h2⟩ := of_post h1
  exact ⟨b, s1.tru r1 e2, PostG.done (rel := RelB) s1 rfl h2⟩
theorem dt_cmp {op : CmpOp} {r : R2} {k : D → D → Sto → R D} (ho : OpR X (compareOp op) r) (hk : OpD X W r k) (ha : DE X W a f) (hb : DE X W b g) (hm : behindInMarks op b = false) : DT X W (.Compare a [op] [b] pos) (eTst (eBin f g k)) := by
  refine (pt_cmpR ho ha hb hm).wk fun σ H Q h => ?_
  obtain ⟨φ, bs, ρ, S, s, e, h⟩ := h
  refine tOp_wk (W := W) hk σ H _ ?_
  refine tG_then s e h fun d S1 v H1 φ1 x1 s1 e1 r1 h1 => ?_
  obtain ⟨b, e2, h2⟩ := of_post h1
  exact ⟨b, r1.bl' e2, PostG.done (rel := RelB) s1 rfl h2⟩
theorem de_cmp {op : CmpOp} {r : R2} {k : D → D → Sto → R D} (ho : OpR X (compareOp op) r) (hk : OpD X W r k) (ha : DE X W a f) (hb : DE X W b g) (hm : behindInMarks op b = false) : DE X W (.Compare a [op] [b] pos) (eBin f g k) :=
  (pe_cmpR ho ha hb hm).wk (tOp_wk hk)
def tNotM (t : TM) : TM := fun ρ S => (t ρ S).bind fun b S1 => .ok (!b) S1
def tAndM (t u : TM) : TM := fun ρ S => (t ρ S).bind fun b S1 => if b = true then u ρ S1 else .ok false S1
def tOrM (t u : TM) : TM := fun ρ S => (t ρ S).bind fun b S1 => if b = true then .ok true S1 else u ρ S1
theorem dt_not (h : DT X W a t) : DT X W (.UnaryOp .Not a pos) (tNotM t) := by
  refine (pt_not h).wk fun σ H Q h => ?_
  obtain ⟨φ, bs, ρ, S, s, e, h⟩ := h
  exact tG_then s e h fun d S1 v H1 φ1 x1 s1 e1 r1 h1 => by
    have r1' : v = d := r1
    subst r1'
    exact PostG.done (rel := RelB) s1 rfl h1
theorem dw_and (ha : DT X W a t) (hb : DW X W (.BoolOp .And (b :: rest) pos) u) : DW X W (.BoolOp .And (a :: b :: rest) pos) (tAndM t u) := by
  refine (pw_and ha hb).wk fun σ H Q h => ?_
  obtain ⟨φ, bs, ρ, S, s, e, h⟩ := h
  exact tG_then s e h fun d S1 v H1 φ1 x1 s1 e1 r1 h1 => by
    have r1' : v = d := r1
    subst r1'
    cases v with
    | true => exact iteT ⟨φ1, bs, ρ, S1, s1, e1, h1⟩
    | false => exact iteF (PostG.done (rel := RelB) s1 rfl h1)
theorem dw_or (ha : DT X W a t) (hb : DW X W (.BoolOp .Or (b :: rest) pos) u) : DW X W (.BoolOp .Or (a :: b :: rest) pos) (tOrM t u) := by
  refine (pw_or ha hb).wk fun σ H Q h => ?_
  obtain ⟨φ, bs, ρ, S, s, e, h⟩ := h
  exact tG_then s e h fun d S1 v H1 φ1 x1 s1 e1 r1 h1 => by
    have r1' : v = d := r1
    subst r1'
    cases v with
    | true => exact iteT (PostG.done (rel := RelB) s1 rfl h1)
    | false => exact iteF ⟨φ1, bs, ρ, S1, s1, e1, h1⟩
theorem dw_and1 (ha : DT X W a t) : DW X W (.BoolOp .And [a] pos) t := pw_and1 ha
theorem dw_or1 (ha : DT X W a t) : DW X W (.BoolOp .Or [a] pos) t := pw_or1 ha
/-- and, or, not as values, by truth -/
def eOrV (f g : EM) : EM := fun ρ S => (f ρ S).bind fun d S1 => match truS S1 d with
  | some true => .ok d S1
  | some false => g ρ S1
  | none => .bad
def eAndV (f g : EM) : EM := fun ρ S => (f ρ S).bind fun d S1 => match truS S1 d with
  | some true => g ρ S1
  | some false => .ok d S1
  | none => .bad
def eNotV (f : EM) : EM := fun ρ S => (f ρ S).bind fun d S1 => match truS S1 d with
  | some k => .ok (.bl (!k)) S1
  | none => .bad
theorem de_or (ha : DE X W a f) (hb : DE X W (.BoolOp .Or (b :: rest) pos) g) : DE X W (.BoolOp .Or (a :: b :: rest) pos) (eOrV f g) := by
  refine (pe_orT ha hb).wk fun σ H Q h => ?_
  obtain ⟨φ, bs, ρ, S, s, e, h⟩ := h
  refine tG_then s e h fun d S1 v H1 φ1 x1 s1 e1 r1 h1 => ?_
  split at h1
  · rename_i e2; exact ⟨true, s1.tru r1 e2, iteT (PostG.done s1 r1 h1)⟩
  · rename_i e2; exact ⟨false, s1.tru r1 e2, iteF ⟨φ1, bs, ρ, S1, s1, e1, h1⟩⟩
  · exact h1.elim
theorem de_and (ha : DE X W a f) (hb : DE X W (.BoolOp .And (b :: rest) pos) g) : DE X W (.BoolOp .And (a :: b :: rest) pos) (eAndV f g) := by
  refine (pe_andT ha hb).wk fun σ H Q h => ?_
  obtain ⟨φ, bs, ρ, S, s, e, h⟩ := h
  refine tG_then s e h fun d S1 v H1 φ1 x1 s1 e1 r1 h1 => ?_
  split at h1
  · rename_i e2; exact ⟨true, s1.tru r1 e2, iteT ⟨φ1, bs, ρ, S1, s1, e1, h1⟩⟩
  · rename_i e2; exact ⟨false, s1.tru r1 e2, iteF (PostG.done s1 r1 h1)⟩
  · exact h1.elim
theorem de_one {op} (ha : DE X W a f) : DE X W (.BoolOp op [a] pos) f := pe_one ha
theorem de_not (ha : DE X W a f) : DE X W (.UnaryOp .Not a pos) (eNotV f) := by
  refine (pe_notT ha).wk fun σ H Q h => ?_
  obtain ⟨φ, bs, ρ, S, s, e, h⟩ := h
  refine tG_then s e h fun d S1 v H1 φ1 x1 s1 e1 r1 h1 => ?_
  split at h1
  · rename_i k e2; exact ⟨k, s1.tru r1 e2, PostG.done s1 (.bl _) h1⟩
  · exact h1.elim
def eIf (t : TM) (f g : EM) : EM := fun ρ S => (t ρ S).bind fun b S1 => if b = true then f ρ S1 else g ρ S1
theorem de_if (hc : DT X W c t) (ha : DE X W a f) (hb : DE X W b g) : DE X W (.IfExp c a b pos) (eIf t f g) := by
  refine (pe_ifExp hc ha hb).wk fun σ H Q h => ?_
  obtain ⟨φ, bs, ρ, S, s, e, h⟩ := h
  refine tG_then s e h fun d S1 v H1 φ1 x1 s1 e1 r1 h1 => ?_
  have r1' : v = d := r1
  subst r1'
  cases v with
  | true => exact iteT ⟨φ1, bs, ρ, S1, s1, e1, h1⟩
  | false => exact iteF ⟨φ1, bs, ρ, S1, s1, e1, h1⟩
/-- a comparison of two (of three) -/
def eChain (f g h : EM) (k k' : D → D → Sto → R D) : EM := fun ρ S => (f ρ S).bind fun x S1 => (g ρ S1).bind fun y S2 => (k x y S2).bind fun z S3 => match blD z with
  | some true => (h ρ S3).bind fun w S4 => k' y w S4
  | some false => .ok (.bl false) S3
  | none => .bad
theorem tChain_wk {f g h : EM} {k k' : D → D → Sto → R D} {r r' : R2} (hk : OpD X W r k) (hk' : OpD X W r' k') (σ : L2.St) (H : Hp) (Q : VK) (hh : tE X W (eChain f g h k k') σ H Q) : tChain r r' (tE X W f) (tE X W g) (tE X W h) σ H Q := by
  obtain ⟨φ, bs, ρ, S, s, e, hh⟩ := hh
  refine tG_then s e hh fun dx S1 x H1 φ1 x1 s1 e1 r1 h1 => ?_
  refine tG_then s1 e1 h1 fun dy S2 y H2 φ2 x2 s2 e2 r2 h2 => ?_
  have r1' := r1.ext x2 s1.cells
  refine hk bs σ _ _ _ _ _ _ _ _ s2 r1' r2 ?_
  revert h2
  cases k dx dy S2 with
  | bad => exact fun h2 => h2
  | ex d S3 => exact fun h2 => h2
  | ok z S3 =>
    intro h2 vz H3 φ3 x3 s3 r3
    have h3 := PostG.shift x3 h2
    dsimp only [R.bind] at h3
    split at h3
    · rename_i e4
      refine ⟨true, r3.bl' e4, iteT ?_⟩
      refine tG_then s3 (e2.ext x3 s2.cells) h3 fun dw S4 w H4 φ4 x4 s4 e5 r4 h4 => ?_
      exact hk' bs σ _ _ _ _ _ _ _ _ s4 ((r2.ext x3 s2.cells).ext x4 s3.cells) r4 h4
    · rename_i e4
      exact ⟨false, r3.bl' e4, iteF (PostG.done s3 (.bl false) h3)⟩
    · exact h3.elim
theorem de_chain {op op' : CmpOp} {r r' : R2} {h : EM} {k k' : D → D → Sto → R D} (ho : OpR X (compareOp op) r) (hk : OpD X W r k) (ho' : OpR X (compareOp op') r') (hk' : OpD X W r' k') (ha : DE X W a f) (hb : DE X W b g) (hc : DE X W c h)
    (hm : lastMarks [op, op'] [b, c] = false := by with_unfolding_all rfl) : DE X W (.Compare a [op, op'] [b, c] pos) (eChain f g h k k') := (pe_chain ho ho' ha hb hc hm).wk (tChain_wk hk hk')
theorem dt_chain {op op' : CmpOp} {r r' : R2} {h : EM} {k k' : D → D → Sto → R D} (ho : OpR X (compareOp op) r) (hk : OpD X W r k) (ho' : OpR X (compareOp op') r') (hk' : OpD X W r' k') (ha : DE X W a f) (hb : DE X W b g) (hc : DE X W c h)
    (hm : lastMarks [op, op'] [b, c] = false := by with_unfolding_all rfl) : DT X W (.Compare a [op, op'] [b, c] pos) (eTst (eChain f g h k k')) := by
  refine (pt_chain ho ho' ha hb hc hm).wk fun σ H Q h => ?_
  obtain ⟨φ, bs, ρ, S, s, e, h⟩ := h
  refine tChain_wk (W := W) hk hk' σ H _ ?_
  refine tG_then s e h fun d S1 v H1 φ1 x1 s1 e1 r1 h1 => ?_
  obtain ⟨b, e2, h2⟩ := of_post h1
  exact ⟨b, r1.bl' e2, PostG.done (rel := RelB) s1 rfl h2⟩
end
end Mi

namespace Mi
open PySem PySem.Spec PyProof.Rows L2

/-! ### what the def's body stands in -/
structure Cz (X : Cx) (W : WX) (k : Nat) : Prop where
  hr : Room k X.A
  tk : Takes X W
  po : PassesOwn (model X.prog X.w) X.A X.env X.xe
  calm : X.calm = true

/-! ### == and in -/
/-- data through the cells -/
def pyLG (f : D → Option PyData) : List D → Option (List PyData)
  | [] => some []
  | x :: xs => match f x, pyLG f xs with
    | some a, some as => some (a :: as)
    | _, _ => none
def pyG (S : Sto) : Nat → D → Option PyData
  | 0, d => pyD d
  | k + 1, .ref n => match S.get n with
    | some (.lst xs) => (pyLG (pyG S k) xs).map .list
    | _ => none
  | k + 1, .lst xs => (pyLG (pyG S k) xs).map .list
  | k + 1, .tup xs => (pyLG (pyG S k) xs).map .tuple
  | _ + 1, d => pyD d
def pyS2 (S : Sto) (d : D) : Option PyData := match pyS S d with
  | some p => some p
  | none => pyG S 6 d
theorem pyS2_of {S : Sto} {d : D} {p : PyData} (h : pyS S d = some p) : pyS2 S d = some p := by unfold pyS2; rw [h]
section
variable {K : PySem.W.Frag} {mg : Str → Option Value} {H : Hp} {φ : Ph} {bs : List Nat} {S : Sto}
theorem RepL.dpG {f : D → Option PyData} (hf : ∀ {d : D} {v : V} {p : PyData}, Rep K mg H φ d v → f d = some p → Dp K H v p ∧ p.canLay0 = true) : ∀ {ds : List D} {vs : List V} {ps : List PyData}, RepL K mg H φ ds vs → pyLG f ds = some ps → DpAll K H vs ps ∧ PyData.canLayAll0 ps = true
  | _, _, _, .nil, e => by cases e; exact ⟨.nil, rfl⟩
  | _, _, ps, .cons (d := d) (ds := ds) h hl, e => by
    cases q1 : f d with
    | none => simp [pyLG, q1] at e
    | some a =>
      cases q2 : pyLG f ds with
      | none => simp [pyLG, q1, q2] at e
      | some as =>
        have e' : some (a :: as) = some ps := by simpa [pyLG, q1, q2] using e
        cases e'
        obtain ⟨h1, h2⟩ := hf h q1
        obtain ⟨h3, h4⟩ := RepL.dpG hf hl q2
        refine ⟨.cons h1 h3, ?_⟩
        show (a.canLay0 && PyData.canLayAll0 as) = true
        rw [h2, h4]; rfl
theorem Sim.dpG (s : Sim K mg H φ bs S) : ∀ (k : Nat) {d : D} {v : V} {p : PyData}, Rep K mg H φ d v → pyG S k d = some p → Dp K H v p ∧ p.canLay0 = true
  | 0, _, _, _, r, e => r.dp e
  | k + 1, d, v, p, r, e => by
    have ih := fun {d : D} {v : V} {p : PyData} (r : Rep K mg H φ d v) (e : pyG S k d = some p) => Sim.dpG s k r e
    cases d with
    | tup ds =>
      have e' : (pyLG (pyG S k) ds).map PyData.tuple = some p := e
      cases r with
      | tup h hl =>
        cases q : pyLG (pyG S k) ds with
        | none => rw [q] at e'; cases e'
        | some ps =>
          rw [q] at e'; cases e'
          obtain ⟨h1, h2⟩ := RepL.dpG ih hl q
          exact ⟨.tup h h1, h2⟩
    | lst ds =>
      have e' : (pyLG (pyG S k) ds).map PyData.list = some p := e
      cases r with
      | lst h _ hl =>
        cases q : pyLG (pyG S k) ds with
        | none => rw [q] at e'; cases e'
        | some ps =>
          rw [q] at e'; cases e'
          obtain ⟨h1, h2⟩ := RepL.dpG ih hl q
          exact ⟨.lst (.of h) h1, h2⟩
    | ref n =>
      simp only [pyG] at e
      split at e
      · rename_i xs q
        obtain ⟨a, rfl, _, vs, hv, lv⟩ := s.at r q
        cases q2 : pyLG (pyG S k) xs with
        | none => rw [q2] at e; cases e
        | some ps =>
          rw [q2] at e; cases e
          obtain ⟨h1, h2⟩ := RepL.dpG ih lv q2
          exact ⟨.lst (.of hv) h1, h2⟩
      · cases e
    | _ => exact r.dp e
theorem Sim.dp2 (s : Sim K mg H φ bs S) {d : D} {v : V} {p : PyData} (r : Rep K mg H φ d v) (e : pyS2 S d = some p) : Dp K H v p ∧ p.canLay0 = true := by
  unfold pyS2 at e
  split at e
  · rename_i q h
    cases e
    exact s.dp r h
  · exact s.dpG 6 r e
end
def eqS (S : Sto) (x y : D) : Option Bool := match pyS2 S x, pyS2 S y with
  | some a, some b => if min a.depth b.depth ≤ 64 then some (PyData.eqv a b) else none
  | _, _ => none
def dEq (x y : D) (S : Sto) : R D := match eqS S x y with
  | some b => .ok (.bl b) S
  | none => .bad
def dNe (x y : D) (S : Sto) : R D := match eqS S x y with
  | some b => .ok (.bl (!b)) S
  | none => .bad
def rEqU (K : PySem.W.Frag) (neg : Bool) : R2 := fun x y H Q => ∃ d e, Dp K H x d ∧ Dp K H y e ∧ d.canLay0 = true ∧ e.canLay0 = true ∧ min d.depth e.depth ≤ 64 ∧ Q (.bl (if neg then !PyData.eqv d e else PyData.eqv d e)) H
section
variable {X : Cx} {W : WX}
theorem op_eqU (hu : X.A.units + 64 < cLine) : OpR X (compareOp .Eq) (rEqU X.K false) := by
  intro pins s σ H x y v u Q I rx ry h
  obtain ⟨d, e, hd, he, sd, se, hm, q⟩ := h
  obtain ⟨as, r1⟩ := Dp.reads I d x v hd rx
  obtain ⟨bs, r2⟩ := Dp.reads I e y u he ry
  exact SeqAt.compareEq_reads r1 r2 sd se (by omega) ⟨.bl _, H, I, rfl, q⟩
theorem op_neU (hu : X.A.units + 64 < cLine) : OpR X (compareOp .NotEq) (rEqU X.K true) := by
  intro pins s σ H x y v u Q I rx ry h
  obtain ⟨d, e, hd, he, sd, se, hm, q⟩ := h
  obtain ⟨as, r1⟩ := Dp.reads I d x v hd rx
  obtain ⟨bs, r2⟩ := Dp.reads I e y u he ry
  exact SeqAt.compareNe_reads r1 r2 sd se (by omega) ⟨.bl _, H, I, rfl, q⟩
theorem eqS_of {S : Sto} {x y : D} {b : Bool} (h : eqS S x y = some b) : ∃ p q, pyS2 S x = some p ∧ pyS2 S y = some q ∧ min p.depth q.depth ≤ 64 ∧ PyData.eqv p q = b := by
  unfold eqS at h
  split at h
  · rename_i p q h1 h2
    by_cases hm : min p.depth q.depth ≤ 64
    · rw [if_pos hm] at h; cases h; exact ⟨p, q, h1, h2, hm, rfl⟩
    · rw [if_neg hm] at h; cases h
  · cases h
theorem eq_ok : OpD X W (rEqU X.K false) dEq := by
  intro bs σ H φ S dx dy x y Q s rx ry h
  unfold dEq at h
  split at h
  · rename_i b e
    obtain ⟨p, q, h1, h2, hm, rfl⟩ := eqS_of e
    obtain ⟨a1, a2⟩ := s.dp2 rx h1
    obtain ⟨b1, b2⟩ := s.dp2 ry h2
    exact ⟨p, q, a1, b1, a2, b2, hm, PostG.done s (.bl _) h⟩
  · exact h.elim
theorem ne_ok : OpD X W (rEqU X.K true) dNe := by
  intro bs σ H φ S dx dy x y Q s rx ry h
  unfold dNe at h
  split at h
  · rename_i b e
    obtain ⟨p, q, h1, h2, hm, rfl⟩ := eqS_of e
    obtain ⟨a1, a2⟩ := s.dp2 rx h1
    obtain ⟨b1, b2⟩ := s.dp2 ry h2
    exact ⟨p, q, a1, b1, a2, b2, hm, PostG.done s (.bl _) h⟩
  · exact h.elim
end
/-- a text in a text -/
def inStr (s t : List Nat) : Bool := match s with
  | [c] => decide (c ∈ t)
  | s => !(Builtin.Str.occurrences ⟨t.toArray⟩ ⟨s.toArray⟩ 0 t.length 1).isEmpty
/-- x in y -/
def inS (S : Sto) (x y : D) : Option Bool := match y with
  | .str t => match x with
    | .str s => some (inStr s t)
    | _ => none
  | y => match dicS S y with
    | some kvs => match keyD x with
      | some k => some (valD kvs k).isSome
      | none => none
    | none => match seqS S y with
      | some ys => match pyS S x, pyL ys with
        | some p, some ps => if min (PyData.depthAll ps) p.depth ≤ 64 then some (ps.any fun q => PyData.eqv q p) else none
        | _, _ => none
      | none => none
def dIn (x y : D) (S : Sto) : R D := match inS S x y with
  | some b => .ok (.bl b) S
  | none => .bad
def dNotIn (x y : D) (S : Sto) : R D := match inS S x y with
  | some b => .ok (.bl (!b)) S
  | none => .bad
/-- the answer b of x in y, read -/
def RIn (K : PySem.W.Frag) (x y : V) (H : Hp) (b : Bool) : Prop :=
  (∃ (c : Nat) (z : Str), x = .str ⟨#[c]⟩ ∧ y = .str z ∧ b = decide (c ∈ z.cps.toList)) ∨ (∃ i j, x = .str i ∧ y = .str j ∧ b = !(Builtin.Str.occurrences j i 0 j.length 1).isEmpty) ∨
  (∃ (p : Addr) (xs : List V) (ds : List PyData) (d : PyData), y = .ref p ∧ (SqL K H p xs ∨ SqT K H p xs) ∧ DpAll K H xs ds ∧ Dp K H x d ∧ PyData.canLayAll0 ds = true ∧ d.canLay0 = true ∧ min (PyData.depthAll ds) d.depth ≤ 64 ∧ b = ds.any fun q => PyData.eqv q d) ∨
  (∃ (a : Addr) (o : Option V), y = .ref a ∧ DGet H a x o ∧ b = o.isSome)
section
variable {X : Cx} {W : WX}
theorem op_inU (hu : X.A.units + 65 < cLine) : OpR X (compareOp .In) (fun x y H Q => ∃ b, RIn X.K x y H b ∧ Q (.bl b) H) := by
  intro pins s σ H x y v u Q I rx ry h
  obtain ⟨b, h, q⟩ := h
  rcases h with ⟨c, z, e1, e2, rfl⟩ | ⟨i, j, e1, e2, rfl⟩ | ⟨p, xs, ds, d, rfl, hq, hds, hd, c1, c2, hm, rfl⟩ | ⟨a, o, rfl, hg, rfl⟩
  · exact op_in_sign pins s σ H x y v u Q I rx ry ⟨c, z, e1, e2, q⟩
  · exact op_in_str pins s σ H x y v u Q I rx ry ⟨i, j, e1, e2, q⟩
  · obtain ⟨as, r1⟩ := Dp.reads I d x v hd rx
    rcases hq with hq | hq
    · obtain ⟨bs, r2⟩ := Dp.reads I (.list ds) _ u (.lst hq hds) ry
      exact SeqAt.in_list_reads r2 r1 c1 c2 (by omega) ⟨.bl _, H, I, rfl, q⟩
    · obtain ⟨bs, r2⟩ := Dp.reads I (.tuple ds) _ u (.tup hq hds) ry
      exact SeqAt.in_tuple_reads r2 r1 c1 c2 (by omega) ⟨.bl _, H, I, rfl, q⟩
  · cases ry
    exact d_in (by omega) I hg rx fun s3 I3 => ⟨.bl _, H, I3, rfl, q⟩
theorem op_notInU (hu : X.A.units + 65 < cLine) : OpR X (compareOp .NotIn) (fun x y H Q => ∃ b, RIn X.K x y H b ∧ Q (.bl (!b)) H) := by
  intro pins s σ H x y v u Q I rx ry h
  obtain ⟨b, h, q⟩ := h
  rcases h with ⟨c, z, e1, e2, rfl⟩ | ⟨i, j, e1, e2, rfl⟩ | ⟨p, xs, ds, d, rfl, hq, hds, hd, c1, c2, hm, rfl⟩ | ⟨a, o, rfl, hg, rfl⟩
  · exact op_notIn_sign pins s σ H x y v u Q I rx ry ⟨c, z, e1, e2, q⟩
  · exact op_notin_str pins s σ H x y v u Q I rx ry ⟨i, j, e1, e2, q⟩
  · obtain ⟨as, r1⟩ := Dp.reads I d x v hd rx
    rcases hq with hq | hq
    · obtain ⟨bs, r2⟩ := Dp.reads I (.list ds) _ u (.lst hq hds) ry
      exact SeqAt.notIn_list_reads r2 r1 c1 c2 (by omega) ⟨.bl _, H, I, rfl, q⟩
    · obtain ⟨bs, r2⟩ := Dp.reads I (.tuple ds) _ u (.tup hq hds) ry
      exact SeqAt.notIn_tuple_reads r2 r1 c1 c2 (by omega) ⟨.bl _, H, I, rfl, q⟩
  · cases ry
    exact d_notIn (by omega) I hg rx fun s3 I3 => ⟨.bl _, H, I3, rfl, q⟩
theorem inStr_of {K : PySem.W.Frag} {H : Hp} (s t : List Nat) : RIn K (.str ⟨s.toArray⟩) (.str ⟨t.toArray⟩) H (inStr s t) := by
  unfold inStr
  split
  · rename_i c
    exact .inl ⟨c, _, rfl, rfl, by simp⟩
  · exact .inr (.inl ⟨_, _, rfl, rfl, by simp [Str.length]⟩)
/-- the ways of an answer -/
theorem Sim.in_of {K : PySem.W.Frag} {mg : Str → Option Value} {H : Hp} {φ : Ph} {bs : List Nat} {S : Sto} {dx dy : D} {x y : V} {b : Bool} (s : Sim K mg H φ bs S) (rx : Rep K mg H φ dx x) (ry : Rep K mg H φ dy y) (h : inS S dx dy = some b) :
    RIn K x y H b := by
  have main : (match dicS S dy with
      | some kvs => match keyD dx with
        | some k => some (valD kvs k).isSome
        | none => none
      | none => match seqS S dy with
        | some ys => match pyS S dx, pyL ys with
          | some p, some ps => if min (PyData.depthAll ps) p.depth ≤ 64 then some (ps.any fun q => PyData.eqv q p) else none
          | _, _ => none
        | none => none) = some b → RIn K x y H b := fun h2 => by
    split at h2
    · rename_i kvs e
      split at h2
      · rename_i k ek
        cases h2
        obtain ⟨a, vs, rfl, hr, lr⟩ := s.dic ry e
        have hx := rx.key ek
        subst hx
        refine .inr (.inr (.inr ⟨a, valV vs k, rfl, .inl ⟨vs, k, hr, rfl, rfl⟩, ?_⟩))
        rcases lr.val (k := k) with ⟨e1, e2⟩ | ⟨d, v, e1, e2, _⟩ <;> rw [e1, e2] <;> rfl
      · cases h2
    · split at h2
      · rename_i ys e
        split at h2
        · rename_i p ps e1 e2
          by_cases hm : min (PyData.depthAll ps) p.depth ≤ 64
          · rw [if_pos hm] at h2
            cases h2
            obtain ⟨a, vs, rfl, hq, lr⟩ := s.seq ry e
            obtain ⟨c1, c2⟩ := s.dp rx e1
            obtain ⟨d1, d2⟩ := lr.dp e2
            exact .inr (.inr (.inl ⟨a, vs, ps, p, rfl, hq, d1, c1, d2, c2, hm, rfl⟩))
          · rw [if_neg hm] at h2; cases h2
        · cases h2
      · cases h2
  cases dy with
  | str t =>
    cases ry
    cases rx with
    | str z g => cases h; exact inStr_of z t
    | _ => cases h
  | _ => exact main h
theorem in_ok : OpD X W (fun x y H Q => ∃ b, RIn X.K x y H b ∧ Q (.bl b) H) dIn := by
  intro bs σ H φ S dx dy x y Q s rx ry h
  unfold dIn at h
  split at h
  · rename_i b e
    exact ⟨b, s.in_of rx ry e, PostG.done s (.bl _) h⟩
  · exact h.elim
theorem notIn_ok : OpD X W (fun x y H Q => ∃ b, RIn X.K x y H b ∧ Q (.bl (!b)) H) dNotIn := by
  intro bs σ H φ S dx dy x y Q s rx ry h
  unfold dNotIn at h
  split at h
  · rename_i b e
    exact ⟨b, s.in_of rx ry e, PostG.done s (.bl _) h⟩
  · exact h.elim
/-! ### < <= > >= -/
def ltS (x y : D) : Option Bool := match x, y with
  | .int i, .int j => some (decide (i < j))
  | .str s, .str t => some (decide (s < t))
  | _, _ => none
def dLt (x y : D) (S : Sto) : R D := match ltS x y with
  | some b => .ok (.bl b) S
  | none => .bad
def dGt (x y : D) (S : Sto) : R D := dLt y x S
def dLe (x y : D) (S : Sto) : R D := match ltS y x with
  | some b => .ok (.bl (!b)) S
  | none => .bad
def dGe (x y : D) (S : Sto) : R D := dLe y x S
def RLt (x y : V) (b : Bool) : Prop := (∃ i j, x = .int i ∧ y = .int j ∧ b = decide (i < j)) ∨ ∃ i j, x = .str i ∧ y = .str j ∧ b = decide (i.cps.toList < j.cps.toList)
theorem ltS_of {K : PySem.W.Frag} {mg : Str → Option Value} {H : Hp} {φ : Ph} {dx dy : D} {x y : V} {b : Bool} (rx : Rep K mg H φ dx x) (ry : Rep K mg H φ dy y) (h : ltS dx dy = some b) : RLt x y b := by
  cases rx with
  | int i =>
    cases ry with
    | int j => cases h; exact .inl ⟨i, j, rfl, rfl, rfl⟩
    | _ => cases h
  | str i g =>
    cases ry with
    | str j g' => cases h; exact .inr ⟨_, _, rfl, rfl, by simp⟩
    | _ => cases h
  | _ => cases h
theorem op_ltU : OpR X (compareOp .Lt) (fun x y H Q => ∃ b, RLt x y b ∧ Q (.bl b) H) := by
  intro pins s σ H x y v u Q I rx ry ⟨b, h, q⟩
  rcases h with ⟨i, j, e1, e2, rfl⟩ | ⟨i, j, e1, e2, rfl⟩
  · exact op_lt pins s σ H x y v u Q I rx ry ⟨i, j, e1, e2, q⟩
  · exact op_lt_str pins s σ H x y v u Q I rx ry ⟨i, j, e1, e2, q⟩
theorem op_gtU : OpR X (compareOp .Gt) (fun x y H Q => ∃ b, RLt y x b ∧ Q (.bl b) H) := by
  intro pins s σ H x y v u Q I rx ry ⟨b, h, q⟩
  rcases h with ⟨i, j, e1, e2, rfl⟩ | ⟨i, j, e1, e2, rfl⟩
  · exact op_gt pins s σ H x y v u Q I rx ry ⟨j, i, e2, e1, q⟩
  · exact op_gt_str pins s σ H x y v u Q I rx ry ⟨j, i, e2, e1, q⟩
theorem not_lt_le (i j : Int) : (!decide (j < i)) = decide (i ≤ j) := by
  by_cases h : j < i
  · rw [decide_eq_true h, decide_eq_false (by omega)] <;> rfl
  · rw [decide_eq_false h, decide_eq_true (by omega)] <;> rfl
theorem op_leU : OpR X (compareOp .LtE) (fun x y H Q => ∃ b, RLt y x b ∧ Q (.bl (!b)) H) := by
  intro pins s σ H x y v u Q I rx ry ⟨b, h, q⟩
  rcases h with ⟨i, j, e1, e2, rfl⟩ | ⟨i, j, e1, e2, rfl⟩
  · exact op_le pins s σ H x y v u Q I rx ry ⟨j, i, e2, e1, by rw [not_lt_le] at q; exact q⟩
  · exact op_le_str pins s σ H x y v u Q I rx ry ⟨j, i, e2, e1, q⟩
theorem op_geU : OpR X (compareOp .GtE) (fun x y H Q => ∃ b, RLt x y b ∧ Q (.bl (!b)) H) := by
  intro pins s σ H x y v u Q I rx ry ⟨b, h, q⟩
  rcases h with ⟨i, j, e1, e2, rfl⟩ | ⟨i, j, e1, e2, rfl⟩
  · exact op_ge pins s σ H x y v u Q I rx ry ⟨i, j, e1, e2, by rw [not_lt_le] at q; exact q⟩
  · exact op_ge_str pins s σ H x y v u Q I rx ry ⟨i, j, e1, e2, q⟩
theorem lt_ok : OpD X W (fun x y H Q => ∃ b, RLt x y b ∧ Q (.bl b) H) dLt := by
  intro bs σ H φ S dx dy x y Q s rx ry h
  unfold dLt at h
  split at h
  · rename_i b e; exact ⟨b, ltS_of rx ry e, PostG.done s (.bl _) h⟩
  · exact h.elim
theorem gt_ok : OpD X W (fun x y H Q => ∃ b, RLt y x b ∧ Q (.bl b) H) dGt := by
  intro bs σ H φ S dx dy x y Q s rx ry h
  unfold dGt dLt at h
  split at h
  · rename_i b e; exact ⟨b, ltS_of ry rx e, PostG.done s (.bl _) h⟩
  · exact h.elim
theorem le_ok : OpD X W (fun x y H Q => ∃ b, RLt y x b ∧ Q (.bl (!b)) H) dLe := by
  intro bs σ H φ S dx dy x y Q s rx ry h
  unfold dLe at h
  split at h
  · rename_i b e; exact ⟨b, ltS_of ry rx e, PostG.done s (.bl _) h⟩
  · exact h.elim
theorem ge_ok : OpD X W (fun x y H Q => ∃ b, RLt x y b ∧ Q (.bl (!b)) H) dGe := by
  intro bs σ H φ S dx dy x y Q s rx ry h
  unfold dGe dLe at h
  split at h
  · rename_i b e; exact ⟨b, ltS_of rx ry e, PostG.done s (.bl _) h⟩
  · exact h.elim
/-! ### is None -/
def isN : D → Bool
  | .non => true
  | _ => false
def dIsN (x y : D) (S : Sto) : R D := match y with
  | .non => .ok (.bl (isN x)) S
  | _ => .bad
def dNotN (x y : D) (S : Sto) : R D := match y with
  | .non => .ok (.bl (!isN x)) S
  | _ => .bad
theorem Rep.isN {K : PySem.W.Frag} {mg : Str → Option Value} {H : Hp} {φ : Ph} {d : D} {v : V} (r : Rep K mg H φ d v) : decide (v = .non) = isN d := by
  cases r <;> simp [Mi.isN]
theorem isN_ok : OpD X W (fun x y H Q => y = .non ∧ Q (.bl (decide (x = .non))) H) dIsN := by
  intro bs σ H φ S dx dy x y Q s rx ry h
  cases ry with
  | non => exact ⟨rfl, by rw [rx.isN]; exact PostG.done s (.bl _) h⟩
  | _ => exact h.elim
theorem notN_ok : OpD X W (fun x y H Q => y = .non ∧ Q (.bl (!decide (x = .non))) H) dNotN := by
  intro bs σ H φ S dx dy x y Q s rx ry h
  cases ry with
  | non => exact ⟨rfl, by rw [rx.isN]; exact PostG.done s (.bl _) h⟩
  | _ => exact h.elim
/-! the comparisons in short: a value (de), a test (dt) -/
variable {a b : Expr} {f g : EM} {pos : Pos} {k : Nat}
theorem Cz.u65 (C : Cz X W k) : X.A.units + 65 < cLine := by have := C.hr.un; omega
theorem Cz.u64 (C : Cz X W k) : X.A.units + 64 < cLine := by have := C.hr.un; omega
theorem Cz.u1 (C : Cz X W k) : X.A.units + 1 < cLine := by have := C.hr.un; omega
theorem de_eq (C : Cz X W k) (ha : DE X W a f) (hb : DE X W b g) : DE X W (.Compare a [.Eq] [b] pos) (eBin f g dEq) := de_cmp (op_eqU C.u64) eq_ok ha hb (nomark _)
theorem de_ne (C : Cz X W k) (ha : DE X W a f) (hb : DE X W b g) : DE X W (.Compare a [.NotEq] [b] pos) (eBin f g dNe) := de_cmp (op_neU C.u64) ne_ok ha hb (nomark _)
theorem de_lt (C : Cz X W k) (ha : DE X W a f) (hb : DE X W b g) : DE X W (.Compare a [.Lt] [b] pos) (eBin f g dLt) := de_cmp op_ltU lt_ok ha hb (nomark _)
theorem de_gt (C : Cz X W k) (ha : DE X W a f) (hb : DE X W b g) : DE X W (.Compare a [.Gt] [b] pos) (eBin f g dGt) := de_cmp op_gtU gt_ok ha hb (nomark _)
theorem de_le (C : Cz X W k) (ha : DE X W a f) (hb : DE X W b g) : DE X W (.Compare a [.LtE] [b] pos) (eBin f g dLe) := de_cmp op_leU le_ok ha hb (nomark _)
theorem de_ge (C : Cz X W k) (ha : DE X W a f) (hb : DE X W b g) : DE X W (.Compare a [.GtE] [b] pos) (eBin f g dGe) := de_cmp op_geU ge_ok ha hb (nomark _)
theorem de_in (C : Cz X W k) (ha : DE X W a f) (hb : DE X W b g) (h1 : behindInMarks .In b = false := by rfl) : DE X W (.Compare a [.In] [b] pos) (eBin f g dIn) := de_cmp (op_inU C.u65) in_ok ha hb h1
theorem de_notIn (C : Cz X W k) (ha : DE X W a f) (hb : DE X W b g) (h1 : behindInMarks .NotIn b = false := by rfl) : DE X W (.Compare a [.NotIn] [b] pos) (eBin f g dNotIn) := de_cmp (op_notInU C.u65) notIn_ok ha hb h1
theorem de_isN (C : Cz X W k) (ha : DE X W a f) (hb : DE X W b g) : DE X W (.Compare a [.Is] [b] pos) (eBin f g dIsN) := de_cmp op_isN isN_ok ha hb (nomark _)
theorem de_notN (C : Cz X W k) (ha : DE X W a f) (hb : DE X W b g) : DE X W (.Compare a [.IsNot] [b] pos) (eBin f g dNotN) := de_cmp op_notN notN_ok ha hb (nomark _)
theorem dt_eq (C : Cz X W k) (ha : DE X W a f) (hb : DE X W b g) : DT X W (.Compare a [.Eq] [b] pos) (eTst (eBin f g dEq)) := dt_cmp (op_eqU C.u64) eq_ok ha hb (nomark _)
theorem dt_ne (C : Cz X W k) (ha : DE X W a f) (hb : DE X W b g) : DT X W (.Compare a [.NotEq] [b] pos) (eTst (eBin f g dNe)) := dt_cmp (op_neU C.u64) ne_ok ha hb (nomark _)
theorem dt_lt (C : Cz X W k) (ha : DE X W a f) (hb : DE X W b g) : DT X W (.Compare a [.Lt] [b] pos) (eTst (eBin f g dLt)) := dt_cmp op_ltU lt_ok ha hb (nomark _)
theorem dt_gt (C : Cz X W k) (ha : DE X W a f) (hb : DE X W b g) : DT X W (.Compare a [.Gt] [b] pos) (eTst (eBin f g dGt)) := dt_cmp op_gtU gt_ok ha hb (nomark _)
theorem dt_le (C : Cz X W k) (ha : DE X W a f) (hb : DE X W b g) : DT X W (.Compare a [.LtE] [b] pos) (eTst (eBin f g dLe)) := dt_cmp op_leU le_ok ha hb (nomark _)
theorem dt_ge (C : Cz X W k) (ha : DE X W a f) (hb : DE X W b g) : DT X W (.Compare a [.GtE] [b] pos) (eTst (eBin f g dGe)) := dt_cmp op_geU ge_ok ha hb (nomark _)
theorem dt_in (C : Cz X W k) (ha : DE X W a f) (hb : DE X W b g) (h1 : behindInMarks .In b = false := by rfl) : DT X W (.Compare a [.In] [b] pos) (eTst (eBin f g dIn)) := dt_cmp (op_inU C.u65) in_ok ha hb h1
theorem dt_notIn (C : Cz X W k) (ha : DE X W a f) (hb : DE X W b g) (h1 : behindInMarks .NotIn b = false := by rfl) : DT X W (.Compare a [.NotIn] [b] pos) (eTst (eBin f g dNotIn)) := dt_cmp (op_notInU C.u65) notIn_ok ha hb h1
theorem dt_isN (C : Cz X W k) (ha : DE X W a f) (hb : DE X W b g) : DT X W (.Compare a [.Is] [b] pos) (eTst (eBin f g dIsN)) := dt_cmp op_isN isN_ok ha hb (nomark _)
theorem dt_notN (C : Cz X W k) (ha : DE X W a f) (hb : DE X W b g) : DT X W (.Compare a [.IsNot] [b] pos) (eTst (eBin f g dNotN)) := dt_cmp op_notN notN_ok ha hb (nomark _)
end
end Mi

namespace Mi
open PySem PySem.Spec PyProof.Rows L2

/-! ### argument lists -/
def aList : List EM → AM
  | [] => fun _ S => .ok [] S
  | f :: fs => fun ρ S => (f ρ S).bind fun x S1 => (aList fs ρ S1).bind fun xs S2 => .ok (x :: xs) S2
section
variable {X : Cx} {W : WX} {e : Expr} {es : List Expr} {f : EM} {fs : List EM} {pos : Pos}
theorem da_nil : DA X W [] (aList []) := pa_nil.wk fun σ H Q h => by
  obtain ⟨φ, bs, ρ, S, s, en, h⟩ := h
  exact PostG.done (rel := RepL) s .nil h
theorem da_cons (ha : DE X W e f) (hr : DA X W es (aList fs)) (hs : starEach (e :: es) X.env = (false, eval e X.env) :: starEach es X.env := by rfl) : DA X W (e :: es) (aList (f :: fs)) := (pa_cons ha hr hs).wk fun σ H Q h => by
  obtain ⟨φ, bs, ρ, S, s, en, h⟩ := h
  refine tG_then s en h fun d S1 v H1 φ1 x1 s1 e1 r1 h1 => ?_
  refine tG_then s1 e1 h1 fun ds S2 vs H2 φ2 x2 s2 e2 r2 h2 => ?_
  exact PostG.done (rel := RepL) s2 (.cons (r1.ext x2 s1.cells) r2) h2
theorem aList_len : ∀ {fs : List EM} {ρ : Env} {S S' : Sto} {ds : List D}, aList fs ρ S = .ok ds S' → ds.length = fs.length
  | [], ρ, S, S', ds, h => by
    have h' : R.ok ([] : List D) S = .ok ds S' := h
    cases h'; rfl
  | f :: fs, ρ, S, S', ds, h => by
    have h' : ((f ρ S).bind fun x S1 => (aList fs ρ S1).bind fun xs S2 => R.ok (x :: xs) S2) = .ok ds S' := h
    cases e1 : f ρ S with
    | ok x S1 =>
      rw [e1] at h'
      have h2 : ((aList fs ρ S1).bind fun xs S2 => R.ok (x :: xs) S2) = .ok ds S' := h'
      cases e2 : aList fs ρ S1 with
      | ok xs S2 =>
        rw [e2] at h2
        have h3 : R.ok (x :: xs) S2 = .ok ds S' := h2
        cases h3
        rw [List.length_cons, List.length_cons, aList_len e2]
      | ex _ _ => rw [e2] at h2; cases h2
      | bad => rw [e2] at h2; cases h2
    | ex _ _ => rw [e1] at h'; cases h'
    | bad => rw [e1] at h'; cases h'
/-- a call by values, over the arguments -/
def eApp (fs : List EM) (g : List D → Sto → R D) : EM := fun ρ S => (aList fs ρ S).bind g
/-- what is asked of the values -/
def CallD (X : Cx) (W : WX) (n : Nat) (r : List V → Hp → VK → Prop) (g : List D → Sto → R D) : Prop := ∀ bs σ H φ S ds vs Q, Sim X.K X.mg H φ bs S → RepL X.K X.mg H φ ds vs → ds.length = n → Post X W bs σ H φ (g ds S) Q → r vs H Q
theorem tCB_wk {g : List D → Sto → R D} {r : List V → Hp → VK → Prop} (hk : CallD X W fs.length r g) (σ : L2.St) (H : Hp) (Q : VK) (h : tE X W (eApp fs g) σ H Q) : tCB r (tA X W (aList fs)) σ H Q := by
  obtain ⟨φ, bs, ρ, S, s, en, h⟩ := h
  have hl : ∀ ds S', aList fs ρ S = .ok ds S' → ds.length = fs.length := fun _ _ q => aList_len q
  refine ⟨φ, bs, ρ, S, s, en, ?_⟩
  revert hl h
  unfold eApp
  cases aList fs ρ S with
  | ok ds S1 => exact fun h hl v H1 φ1 x s1 r1 => hk bs σ H1 φ1 S1 ds v Q s1 r1 (hl _ _ rfl) (PostG.shift x h)
  | ex d S1 => exact fun h _ => h
  | bad => exact fun h _ => h
/-! ### displays -/
def dTup (ds : List D) (S : Sto) : R D := .ok (.tup ds) S
theorem de_tup {x1} (h : DA X W es (aList fs)) (hn : fs.length ≤ 1000 := by exact Nat.le_of_ble_eq_true rfl) : DE X W (.Tuple es x1 pos) (eApp fs dTup) := by
  refine (pe_tup h).wk fun σ H Q h => ?_
  refine tCB_wk (r := fun vs H Q => vs.length ≤ sizeLine ∧ ∀ p, H p = none → Q (.ref p) (upd H p (.tup vs))) (fun bs σ H φ S ds vs Q s r hl h => ?_) σ H Q h
  exact ⟨by rw [← r.length, hl]; exact Nat.le_trans hn (by decide), fun p hp => tup_ok s r hp h⟩
def dLst (c : Bool) (ds : List D) (S : Sto) : R D := mkL c ds S
theorem de_lst {c : Bool} (h : DA X W es (aList fs)) (hn : fs.length ≤ 1000 := by exact Nat.le_of_ble_eq_true rfl) : DE X W (.List es pos) (eApp fs (dLst c)) := by
  refine (pe_lst h).wk fun σ H Q h => ?_
  refine tCB_wk (r := fun vs H Q => vs.length ≤ sizeLine ∧ ∀ p, H p = none → Q (.ref p) (upd H p (.lst vs))) (fun bs σ H φ S ds vs Q s r hl h => ?_) σ H Q h
  exact ⟨by rw [← r.length, hl]; exact Nat.le_trans hn (by decide), fun p hp => mkL_ok s r hp h⟩

/-! ### subscripts -/
def intD : D → Option Int
  | .int i => some i
  | _ => none
theorem Rep.int' {K : PySem.W.Frag} {mg : Str → Option Value} {H : Hp} {φ : Ph} {d : D} {v : V} {i : Int} (r : Rep K mg H φ d v) (h : intD d = some i) : v = .int i := by
  cases r <;> cases h <;> rfl
def ixS (S : Sto) (x i : D) : Option D := match x with
  | .str s => match i with
    | .int n => if s.length ≤ sizeLine then (atI s n).map fun c => .str [c] else none
    | _ => none
  | x => match dicS S x with
    | some kvs => match keyD i with
      | some k => valD kvs k
      | none => none
    | none => match seqS S x with
      | some xs => match intD i with
        | some n => atI xs n
        | none => none
      | none => none
def dIx (x i : D) (S : Sto) : R D := match ixS S x i with
  | some d => .ok d S
  | none => .bad
theorem RepL.atI {K : PySem.W.Frag} {mg : Str → Option Value} {H : Hp} {φ : Ph} {ds : List D} {vs : List V} {n : Int} {d : D} (r : RepL K mg H φ ds vs) (h : L2.atI ds n = some d) : ∃ v, L2.atI vs n = some v ∧ Rep K mg H φ d v := by
  unfold L2.atI at *
  rw [← r.length]
  cases q : ixN ds.length n with
  | none => rw [q] at h; cases h
  | some j =>
    rw [q] at h
    exact r.get h
theorem ix_dict (hu : X.A.units + 1 < cLine) : IxR X (fun x y H Q => ∃ a v, x = .ref a ∧ DGet H a y (some v) ∧ Q v H) := by
  intro value slice pins s σ H x y v u Q I rx ry h hs
  obtain ⟨a, w, rfl, g, q⟩ := h
  cases rx
  have hT := dict_typeIs I g
  unfold subscriptTail
  refine wpAny_bind (by
    rw [getitemInPython_of_ne hT.not_modules]
    refine wpAny_bind (wpAny_specialOf hT PySem.F.slot_dict_getitem.lookup ?_)
    have fin : wpAny (model X.prog X.w) X.A (subscripted slice false (.ref a) u) (fun r s3 => wpAny (model X.prog X.w) X.A (letTemporaryGo value (.ref a) r >>= fun _ => pure r) (EP X pins σ Q) X.xe s3) X.xe s := by
      rw [hs]
      exact wpAny_operating (d_getItem hu I g ry fun w' s3 I3 rw' => wpAny_bind (wpAny_letTemporaryGo (wpAny_pure ⟨w, H, I3, rw', q⟩)))
    first
      | exact wpAny_pure (wpAny_bind fin)
      | exact wpAny_bind (wpAny_pure (wpAny_bind fin))
      | exact wpAny_bind fin)
theorem good_one {c : Nat} {s : List Nat} (g : goodS s = true) (h : c ∈ s) : goodS [c] = true := good_mem.mpr fun x hx => by
  have e : x = c := by simpa using hx
  rw [e]; exact good_mem.mp g c h
def rIxU (K : PySem.W.Frag) : R2 := fun x y H Q => rIx K x y H Q ∨ ∃ a v, x = .ref a ∧ DGet H a y (some v) ∧ Q v H
theorem atI_mem {α : Type} {xs : List α} {n : Int} {d : α} (h : L2.atI xs n = some d) : d ∈ xs := by
  obtain ⟨j, _, h2, _⟩ := atI_get h
  exact List.mem_of_getElem? h2
theorem ix_ok : OpD X W (rIxU X.K) dIx := by
  intro bs σ H φ S dx dy x y Q s rx ry h
  unfold dIx at h
  split at h
  · rename_i d e
    have main : (match dicS S dx with
      | some kvs => match keyD dy with
        | some k => valD kvs k
        | none => none
      | none => match seqS S dx with
        | some xs => match intD dy with
          | some n => L2.atI xs n
          | none => none
        | none => none) = some d → rIxU X.K x y H Q := fun h2 => by
      split at h2
      · rename_i kvs ek
        split at h2
        · rename_i k ey
          obtain ⟨a, vs, rfl, hr, lr⟩ := s.dic rx ek
          have hy := ry.key ey
          subst hy
          rcases lr.val (k := k) with ⟨e1, e2⟩ | ⟨d', v, e1, e2, r⟩
          · rw [h2] at e1; cases e1
          · rw [h2] at e1; cases e1
            exact .inr ⟨a, v, rfl, .inl ⟨vs, k, hr, rfl, e2.symm⟩, PostG.done s r h⟩
        · cases h2
      · split at h2
        · rename_i xs ex
          split at h2
          · rename_i n en
            obtain ⟨a, vs, rfl, hq, lr⟩ := s.seq rx ex
            obtain ⟨v, hv, r⟩ := lr.atI h2
            have hy := ry.int' en
            subst hy
            rcases hq with hq | hq
            · exact .inl (.inl ⟨a, vs, n, v, rfl, rfl, hq, hv, PostG.done s r h⟩)
            · exact .inl (.inr (.inl ⟨a, vs, n, v, rfl, rfl, hq, hv, PostG.done s r h⟩))
          · cases h2
        · cases h2
    cases dx with
    | str z =>
      cases rx with
      | str z g =>
        cases dy with
        | int n =>
          cases ry
          have e' : (if z.length ≤ sizeLine then (L2.atI z n).map fun c => D.str [c] else none) = some d := e
          by_cases hz : z.length ≤ sizeLine
          · rw [if_pos hz] at e'
            cases q : L2.atI z n with
            | none => rw [q] at e'; cases e'
            | some c =>
              rw [q] at e'
              cases e'
              exact .inl (.inr (.inr ⟨_, n, c, rfl, rfl, by simpa [Str.length] using hz, by simpa using q, PostG.done s (.str [c] (good_one g (atI_mem q))) h⟩))
          · rw [if_neg hz] at e'; cases e'
        | _ => cases e
    | _ => exact main e
  · exact h.elim
variable {a b : Expr} {g : EM} {k : Nat}
theorem de_ix (C : Cz X W k) (ha : DE X W a f) (hb : DE X W b g) (hs : PlainIx b := by exact fun _ _ => rfl) : DE X W (.Subscript a b pos) (eBin f g dIx) :=
  (pe_ix (IxR.or ix_seq (ix_dict C.u1)) ha hb hs).wk (tOp_wk ix_ok)
/-! ### slices -/
def oNone : Env → Sto → R (Option Int) := fun _ S => .ok none S
def oSome (f : EM) : Env → Sto → R (Option Int) := fun ρ S => (f ρ S).bind fun d S1 => .of S1 ((intD d).map some)
def RelI : Rel (Option Int) (Option Int) := fun _ _ _ _ b c => c = b
abbrev DO (X : Cx) (W : WX) (e : Option Expr) (o : Env → Sto → R (Option Int)) : Prop := PO X e (tG X W RelI o)
theorem PO.wk {X : Cx} {e : Option Expr} {t t' : TO} (h : PO X e t) (w : ∀ σ H Q, t' σ H Q → t σ H Q) : PO X e t' := ⟨fun pins s σ H Q I q => h.run pins s σ H Q I (w _ _ _ q)⟩
theorem do_none : DO X W none oNone := PO.wk po_none fun σ H Q h => by
  obtain ⟨φ, bs, ρ, S, s, en, h⟩ := h
  exact PostG.done (rel := RelI) s rfl h
theorem do_some (he : DE X W e f) : DO X W (some e) (oSome f) := PO.wk (po_some he) fun σ H Q h => by
  obtain ⟨φ, bs, ρ, S, s, en, h⟩ := h
  refine tG_then s en h fun d S1 v H1 φ1 x1 s1 e1 r1 h1 => ?_
  obtain ⟨o, e2, h2⟩ := of_post h1
  cases q : intD d with
  | none => rw [q] at e2; cases e2
  | some i =>
    rw [q] at e2
    cases e2
    exact ⟨i, r1.int' q, PostG.done (rel := RelI) s1 rfl h2⟩
def cutG {α : Type} (xs : List α) (lo hi : Option Int) : List α := (xs.drop (HT.sIx xs.length 0 lo)).take (HT.sIx xs.length xs.length hi - HT.sIx xs.length 0 lo)
def dSl (c : Bool) (x : D) (lo hi : Option Int) (S : Sto) : R D := match x with
  | .str s => if s.length ≤ sizeLine then .ok (.str (cutG s lo hi)) S else .bad
  | .tup xs => .ok (.tup (cutG xs lo hi)) S
  | x => match lstS S x with
    | some xs => mkL c (cutG xs lo hi) S
    | none => .bad
def eSl (c : Bool) (f : EM) (lo hi : Env → Sto → R (Option Int)) : EM := fun ρ S => (f ρ S).bind fun x S1 => (lo ρ S1).bind fun l S2 => (hi ρ S2).bind fun h S3 => dSl c x l h S3
theorem RepL.cut {K : PySem.W.Frag} {mg : Str → Option Value} {H : Hp} {φ : Ph} {ds : List D} {vs : List V} {lo hi : Option Int} (r : RepL K mg H φ ds vs) : RepL K mg H φ (cutG ds lo hi) (cutV vs lo hi) := by
  unfold cutG cutV
  rw [r.length]
  exact (r.drop _).take _
theorem cutG_good {s : List Nat} {lo hi : Option Int} (g : goodS s = true) : goodS (cutG s lo hi) = true := good_mem.mpr fun c hc => good_mem.mp g c (List.mem_of_mem_drop (List.mem_of_mem_take hc))
theorem cutG_all {α : Type} {xs : List α} {lo hi : Option Int} (h : HT.sIx xs.length 0 lo = 0 ∧ HT.sIx xs.length xs.length hi = xs.length) : cutG xs lo hi = xs := by
  unfold cutG
  rw [h.1, h.2]
  simp
theorem sl_ok {c : Bool} {bs : List Nat} {σ : L2.St} {H : Hp} {φ : Ph} {S : Sto} {d : D} {v : V} {lo hi : Option Int} {Q : VK} (s : Sim X.K X.mg H φ bs S) (r : Rep X.K X.mg H φ d v) (h : Post X W bs σ H φ (dSl c d lo hi S) Q) :
    (rSlS v lo hi H Q ∨ rSlA X.K v lo hi H Q) ∨ rSlL X.K v lo hi H Q := by
  have seq : ∀ {xs : List D}, lstS S d = some xs → Post X W bs σ H φ (mkL c (cutG xs lo hi) S) Q → rSlL X.K v lo hi H Q := fun {xs} e h => by
    obtain ⟨a, vs, rfl, hq, lr⟩ := s.lst r e
    exact ⟨a, vs, rfl, hq, fun p hp => mkL_ok s lr.cut hp h⟩
  have rest : Post X W bs σ H φ (match lstS S d with
      | some xs => mkL c (cutG xs lo hi) S
      | none => .bad) Q → rSlL X.K v lo hi H Q := fun h => by
    split at h
    · rename_i xs e; exact seq e h
    · exact h.elim
  cases r with
  | str z g =>
    obtain ⟨hz, h⟩ := if_bad (P := fun r => Post X W bs σ H φ r Q) h fun z => z
    refine .inl (.inl ⟨_, rfl, by simpa [Str.length] using hz, ?_⟩)
    have e : cutS ⟨z.toArray⟩ lo hi = ⟨(cutG z lo hi).toArray⟩ := by
      unfold cutS cutG
      simp [Str.length]
    rw [e]
    exact PostG.done s (.str _ (cutG_good g)) h
  | tup h1 h2 =>
    rename_i a ds vs
    refine .inl (.inr ⟨_, _, rfl, h1, fun hw => ?_, fun hw p hp => tup_ok s h2.cut hp h⟩)
    rw [← h2.length] at hw
    have h' : Post X W bs σ H φ (.ok (.tup (cutG ds lo hi)) S) Q := h
    rw [cutG_all hw] at h'
    exact PostG.done s (.tup h1 h2) h'
  | lst _ _ _ => exact .inr (rest h)
  | frl _ _ => exact .inr (rest h)
  | ref _ => exact .inr (rest h)
  | non => exact .inr (rest h)
  | bl _ => exact .inr (rest h)
  | int _ => exact .inr (rest h)
  | dic _ _ _ => exact .inr (rest h)
  | obj _ _ _ _ => exact .inr (rest h)
  | exn _ _ => exact .inr (rest h)
theorem de_sl {c : Bool} {lo hi : Option Expr} {l u : Env → Sto → R (Option Int)} {p2 : Pos} (he : DE X W e f) (hl : DO X W lo l) (hu : DO X W hi u) : DE X W (.Subscript e (.Slice lo hi none p2) pos) (eSl c f l u) := by
  refine (pe_slice (SlR.or (SlR.or sl_str sl_tupA) sl_list) he hl hu).wk fun σ H Q h => ?_
  obtain ⟨φ, bs, ρ, S, s, en, h⟩ := h
  refine tG_then s en h fun d S1 v H1 φ1 x1 s1 e1 r1 h1 => ?_
  refine tG_then s1 e1 h1 fun l S2 vl H2 φ2 x2 s2 e2 r2 h2 => ?_
  refine tG_then s2 e2 h2 fun u S3 vu H3 φ3 x3 s3 e3 r3 h3 => ?_
  have q2 : vl = l := r2
  have q3 : vu = u := r3
  subst q2 q3
  exact sl_ok s3 ((r1.ext x2 s1.cells).ext x3 s2.cells) h3
end
end Mi

namespace Mi
open PySem PySem.Spec PyProof.Rows L2

/-! ### calls of own defs -/
/-- a def's promise, from its meaning -/
def spOf (K : PySem.W.Frag) (mg : Str → Option Value) (n : Nat) (G : List D → Sto → R D) : Sp := fun vs H Q E =>
  vs.length = n ∧ ∃ φ bs ds S, Sim K mg H φ bs S ∧ RepL K mg H φ ds vs ∧ PostG K mg (fun cls d _ H' => E cls d H') Rep bs [] H φ (G ds S) Q
/-- the def named x, given n arguments (dds: its defaults that fill up), means G, by at most level k -/
structure CallOk (P : Program) (w : World) (K : PySem.W.Frag) (mg : Str → Option Value) (base : Heap) (k : Nat) (x : Str) (n : Nat) (dds : List D) (G : List D → Sto → R D) : Prop where
  ex : ∃ (f : Addr) (fd : FuncData) (ps : List Str) (dvs : List V) (ds : List Value), mg x = some (.ref f) ∧ PySem.W.keepIn K (.ref f) = true ∧ Binds K fd ps ds ∧ Vals dvs ds ∧ (∀ H φ, RepL K mg H φ dds dvs) ∧
    FnOk P w K mg base (L2.CX P w) k f fd ps (spOf K mg (n + dds.length) G)
theorem CallOk.mono {P : Program} {w : World} {K : PySem.W.Frag} {mg : Str → Option Value} {base : Heap} {j k : Nat} {x : Str} {n : Nat} {dds : List D} {G : List D → Sto → R D} (F : CallOk P w K mg base j x n dds G) (h : j ≤ k) : CallOk P w K mg base k x n dds G := by
  obtain ⟨f, fd, ps, dvs, ds, h1, h2, h3, h4, h5, h6⟩ := F.ex
  exact ⟨f, fd, ps, dvs, ds, h1, h2, h3, h4, h5, h6.mono h⟩
section
variable {X : Cx} {W : WX} {e : Expr} {es : List Expr} {f : EM} {fs : List EM} {pos p : Pos} {k j : Nat} {x : Str} {G : List D → Sto → R D}
theorem PostG.chg {α γ : Type} {K : PySem.W.Frag} {mg : Str → Option Value} {W W' : WX} {rel : Rel α γ} {bs : List Nat} {σ σ' : L2.St} {H : Hp} {φ : Ph} {r : R α} {Q : γ → Hp → Prop} (h : PostG K mg W rel bs σ H φ r Q)
    (hw : ∀ c d H, W c d σ H → W' c d σ' H) : PostG K mg W' rel bs σ' H φ r Q := by
  cases r with
  | ok a S => exact h
  | ex e S => exact fun c d H' φ' x s r => hw _ _ _ (h c d H' φ' x s r)
  | bad => exact h
theorem tApp {α γ : Type} {rel : Rel α γ} {g : List D → Sto → R α} {σ : L2.St} {H : Hp} {Q : γ → Hp → Prop} {T : List V → Hp → Prop} (h : tG X W rel (fun ρ S => (aList fs ρ S).bind g) σ H Q)
    (hk : ∀ bs H φ S ds vs, Sim X.K X.mg H φ bs S → RepL X.K X.mg H φ ds vs → ds.length = fs.length → PostG X.K X.mg W rel bs σ H φ (g ds S) Q → T vs H) : tA X W (aList fs) σ H T := by
  obtain ⟨φ, bs, ρ, S, s, en, h⟩ := h
  have hl : ∀ ds S', aList fs ρ S = .ok ds S' → ds.length = fs.length := fun _ _ q => aList_len q
  refine ⟨φ, bs, ρ, S, s, en, ?_⟩
  have h : PostG X.K X.mg W rel bs σ H φ ((aList fs ρ S).bind g) Q := h
  revert h hl
  cases aList fs ρ S with
  | ok ds S1 => exact fun hl h v H1 φ1 x s1 r1 => hk bs H1 φ1 S1 ds v s1 r1 (hl _ _ rfl) (PostG.shift x h)
  | ex d S1 => exact fun _ h => h
  | bad => exact fun _ h => h
theorem sp_of {dds : List D} {dvs : List V} {σ : L2.St} {Q : VK} {bs : List Nat} {H : Hp} {φ : Ph} {S : Sto} {ds : List D} {vs : List V} {n : Nat} (hd : ∀ H φ, RepL X.K X.mg H φ dds dvs) (s : Sim X.K X.mg H φ bs S) (r : RepL X.K X.mg H φ ds vs) (hl : ds.length = n)
    (h : PostG X.K X.mg W Rep bs σ H φ (G (ds ++ dds) S) Q) : spOf X.K X.mg (n + dds.length) G (vs ++ dvs) H Q (WE W σ) := by
  refine ⟨?_, φ, bs, ds ++ dds, S, s, r.append (hd _ _), PostG.chg h fun _ _ _ z => z⟩
  rw [List.length_append, ← r.length, ← (hd H φ).length, hl]
/-- f(a, ..) -/
def eCall (fs : List EM) (dds : List D) (G : List D → Sto → R D) : EM := fun ρ S => (aList fs ρ S).bind fun ds S1 => G (ds ++ dds) S1
theorem de_call {dds : List D} (C : Cz X W k) (F : CallOk X.prog X.w X.K X.mg X.base j x fs.length dds G) (hj : j ≤ k) (ha : DA X W (e :: es) (aList fs)) (hg : Gl X x := by rfl) (hdb : (x == ("__debug__" : Str)) = false := by decide)
    (he : starEach (e :: es) X.env = (false, eval e X.env) :: starEach es X.env := by rfl) (hpl : (backTo pos (starEach es X.env)).any (·.1) = false := by rfl) : DE X W (.Call (.Name x p) (e :: es) [] pos) (eCall fs dds G) := by
  obtain ⟨f, fd, ps, dvs, dus, hm, hk, hb, hv, hd, F⟩ := F.ex
  exact (pe_callSD (F.mono hj) C.hr hg hm hk hb hv (fun σ => passAt C.tk σ) ha hdb he hpl).wk fun σ H Q h => tApp h fun bs H φ S ds vs s r hl h => sp_of hd s r hl h

/-! ### built-in functions -/
/-- len -/
def lenS (S : Sto) : D → Option Nat
  | .str s => if s.length ≤ sizeLine then some s.length else none
  | .tup xs => some xs.length
  | .lst xs => some xs.length
  | .frl xs => some xs.length
  | .ref n => match S.get n with
    | some (.lst xs) => some xs.length
    | some (.dic kvs) => some kvs.length
    | _ => none
  | _ => none
def b1 (g : Sto → D → Option D) (ds : List D) (S : Sto) : R D := match ds with
  | [d] => .of S (g S d)
  | _ => .bad
def lenG (S : Sto) (d : D) : Option D := (lenS S d).map fun n => .int n
theorem RepK.length {K : PySem.W.Frag} {mg : Str → Option Value} {H : Hp} {φ : Ph} : ∀ {ds : List (Key × D)} {vs : List (Key × V)}, RepK K mg H φ ds vs → ds.length = vs.length
  | _, _, .nil => rfl
  | _, _, .cons _ t => by simp [RepK.length t]
/-- one argument -/
theorem b1_of {n : Nat} {g : Sto → D → Option D} {bs : List Nat} {σ : L2.St} {H : Hp} {φ : Ph} {S : Sto} {ds : List D} {vs : List V} {Q : VK} (s : Sim X.K X.mg H φ bs S) (r : RepL X.K X.mg H φ ds vs) (h : Post X W bs σ H φ (b1 g ds S) Q) :
    ∃ d v d', vs = [v] ∧ Rep X.K X.mg H φ d v ∧ g S d = some d' ∧ Post X W bs σ H φ (.ok d' S) Q := by
  cases r with
  | nil => exact h.elim
  | cons r t =>
    cases t with
    | cons _ _ => exact h.elim
    | nil =>
      obtain ⟨d', e, h⟩ := of_post h
      exact ⟨_, _, d', rfl, r, e, h⟩
theorem len_ok {n : Nat} : CallD X W n (fun xs H Q => (∃ x n, xs = [x] ∧ LenV X.K x H n ∧ Q (.int n) H) ∨ (∃ a kvs, xs = [V.ref a] ∧ H a = some (.dK kvs) ∧ Q (.int kvs.length) H)) (b1 lenG) := by
  intro bs σ H φ S ds vs Q s r hl h
  obtain ⟨d, v, d', rfl, r, e, h⟩ := b1_of (n := n) s r h
  unfold lenG at e
  cases r with
  | str z g =>
    have e' : (if z.length ≤ sizeLine then some z.length else none).map (fun n => D.int n) = some d' := e
    by_cases hz : z.length ≤ sizeLine
    · rw [if_pos hz] at e'
      cases e'
      exact .inl ⟨_, z.length, rfl, ⟨by simpa [Str.length] using hz, by simp [Str.length]⟩, PostG.done s (.int _) h⟩
    · rw [if_neg hz] at e'; cases e'
  | tup h1 h2 =>
    cases e
    exact .inl ⟨_, _, rfl, .inr ⟨_, h1, h2.length⟩, PostG.done s (.int _) h⟩
  | lst h1 _ h2 =>
    cases e
    exact .inl ⟨_, _, rfl, .inl ⟨_, .of h1, h2.length⟩, PostG.done s (.int _) h⟩
  | frl h1 h2 =>
    cases e
    exact .inl ⟨_, _, rfl, .inl ⟨_, h1.sq, h2.length⟩, PostG.done s (.int _) h⟩
  | @ref n a h1 =>
    simp only [lenS] at e
    split at e
    · rename_i xs q
      cases e
      obtain ⟨a', ev, _, vs, hv, lv⟩ := s.at (.ref h1) q
      cases ev
      exact .inl ⟨_, _, rfl, .inl ⟨_, .of hv, lv.length⟩, PostG.done s (.int _) h⟩
    · rename_i xs q
      cases e
      obtain ⟨a', ev, _, vs, hv, lv⟩ := s.at (.ref h1) q
      cases ev
      exact .inr ⟨_, _, rfl, hv, by rw [← lv.length]; exact PostG.done s (.int _) h⟩
    · cases e
  | _ => cases e
theorem de_len (hm : X.mg "len" = none) (ha : DA X W (e :: es) (aList fs)) (hg : Gl X "len" := by rfl) (he : starEach (e :: es) X.env = (false, eval e X.env) :: starEach es X.env := by rfl) (hpl : (backTo pos (starEach es X.env)).any (·.1) = false := by rfl) :
    DE X W (.Call (.Name "len" p) (e :: es) [] pos) (eApp fs (b1 lenG)) := (pe_callB (CallR.or call_len call_lenD) hg hm boot_len ha (by decide) (by decide) he hpl).wk (tCB_wk len_ok)
/-- int(n), int(True) -/
def intG (_ : Sto) : D → Option D
  | .int i => some (.int i)
  | .bl b => some (.int (if b then 1 else 0))
  | _ => none
theorem int_ok {n : Nat} : CallD X W n (fun xs H Q => (∃ i, xs = [.int i] ∧ Q (.int i) H) ∨ ∃ k, xs = [.bl k] ∧ Q (.int (if k then 1 else 0)) H) (b1 intG) := by
  intro bs σ H φ S ds vs Q s r hl h
  obtain ⟨d, v, d', rfl, r, e, h⟩ := b1_of (n := n) s r h
  cases r with
  | int i => cases e; exact .inl ⟨i, rfl, PostG.done s (.int _) h⟩
  | bl b => cases e; exact .inr ⟨b, rfl, PostG.done s (.int _) h⟩
  | _ => cases e
theorem de_intc (hm : X.mg "int" = none) (ha : DA X W (e :: es) (aList fs)) (hg : Gl X "int" := by rfl) (he : starEach (e :: es) X.env = (false, eval e X.env) :: starEach es X.env := by rfl) (hpl : (backTo pos (starEach es X.env)).any (·.1) = false := by rfl) :
    DE X W (.Call (.Name "int" p) (e :: es) [] pos) (eApp fs (b1 intG)) := (pe_callTy call_int1 hg hm (by decide +kernel) ha (by decide) (by decide) he hpl).wk (tCB_wk int_ok)
/-- abs(n) -/
def absG (_ : Sto) : D → Option D
  | .int i => some (.int (if i < 0 then -i else i))
  | _ => none
theorem abs_ok {n : Nat} : CallD X W n (fun xs H Q => ∃ i, xs = [.int i] ∧ Q (.int (if i < 0 then -i else i)) H) (b1 absG) := by
  intro bs σ H φ S ds vs Q s r hl h
  obtain ⟨d, v, d', rfl, r, e, h⟩ := b1_of (n := n) s r h
  cases r with
  | int i => cases e; exact ⟨i, rfl, PostG.done s (.int _) h⟩
  | _ => cases e
theorem de_abs (hm : X.mg "abs" = none) (ha : DA X W (e :: es) (aList fs)) (hg : Gl X "abs" := by rfl) (he : starEach (e :: es) X.env = (false, eval e X.env) :: starEach es X.env := by rfl) (hpl : (backTo pos (starEach es X.env)).any (·.1) = false := by rfl) :
    DE X W (.Call (.Name "abs" p) (e :: es) [] pos) (eApp fs (b1 absG)) := (pe_callB call_abs hg hm (by decide +kernel) ha (by decide) (by decide) he hpl).wk (tCB_wk abs_ok)
/-- list(x) of a list or a tuple -/
def dList (c : Bool) (ds : List D) (S : Sto) : R D := match ds with
  | [d] => match seqS S d with
    | some xs => mkL c xs S
    | none => .bad
  | _ => .bad
theorem list_ok {n : Nat} {c : Bool} : CallD X W n (fun xs H Q => ∃ p ys, xs = [.ref p] ∧ (SqL X.K H p ys ∨ SqT X.K H p ys) ∧ ∀ l, H l = none → Q (.ref l) (upd H l (.lst ys))) (dList c) := by
  intro bs σ H φ S ds vs Q s r hl h
  cases r with
  | nil => exact h.elim
  | cons r t =>
    cases t with
    | cons _ _ => exact h.elim
    | nil =>
      simp only [dList] at h
      split at h
      · rename_i xs e
        obtain ⟨a, vs, rfl, hq, lr⟩ := s.seq r e
        exact ⟨a, vs, rfl, hq, fun p hp => mkL_ok s lr hp h⟩
      · exact h.elim
theorem de_list {c : Bool} (hm : X.mg "list" = none) (ha : DA X W (e :: es) (aList fs)) (hg : Gl X "list" := by rfl) (he : starEach (e :: es) X.env = (false, eval e X.env) :: starEach es X.env := by rfl) (hpl : (backTo pos (starEach es X.env)).any (·.1) = false := by rfl) :
    DE X W (.Call (.Name "list" p) (e :: es) [] pos) (eApp fs (dList c)) := (pe_callTy call_list_of hg hm (by decide +kernel) ha (by decide) (by decide) he hpl).wk (tCB_wk list_ok)
/-- tuple(x) of a list or a tuple -/
def dTuple (ds : List D) (S : Sto) : R D := match ds with
  | [d] => match seqS S d with
    | some xs => .ok (.tup xs) S
    | none => .bad
  | _ => .bad
theorem tuple_ok {n : Nat} : CallD X W n (fun xs H Q => ∃ p ys, xs = [.ref p] ∧ ((SqL X.K H p ys ∧ ∀ l, H l = none → Q (.ref l) (upd H l (.tup ys))) ∨ (SqT X.K H p ys ∧ Q (.ref p) H))) dTuple := by
  intro bs σ H φ S ds vs Q s r hl h
  cases r with
  | nil => exact h.elim
  | cons r t =>
    cases t with
    | cons _ _ => exact h.elim
    | nil =>
      simp only [dTuple] at h
      split at h
      · rename_i xs e
        obtain ⟨a, vs, rfl, hq, lr⟩ := s.seq r e
        refine ⟨a, vs, rfl, ?_⟩
        rcases hq with hq | hq
        · exact .inl ⟨hq, fun p hp => tup_ok s lr hp h⟩
        · exact .inr ⟨hq, PostG.done s (.tup hq lr) h⟩
      · exact h.elim
theorem de_tuple (hm : X.mg "tuple" = none) (ha : DA X W (e :: es) (aList fs)) (hg : Gl X "tuple" := by rfl) (he : starEach (e :: es) X.env = (false, eval e X.env) :: starEach es X.env := by rfl) (hpl : (backTo pos (starEach es X.env)).any (·.1) = false := by rfl) :
    DE X W (.Call (.Name "tuple" p) (e :: es) [] pos) (eApp fs dTuple) := (pe_callTy call_tuple_of hg hm (by decide +kernel) ha (by decide) (by decide) he hpl).wk (tCB_wk tuple_ok)
/-- dict(d): a copy -/
def dDict (c : Bool) (ds : List D) (S : Sto) : R D := match ds with
  | [d] => match dicS S d with
    | some kvs => mkD c kvs S
    | none => .bad
  | _ => .bad
theorem dict_ok {n : Nat} {c : Bool} : CallD X W n (fun xs H Q => ∃ (a : Addr) (kvs : List (Key × V)), xs = [.ref a] ∧ Rd H a (.dK kvs) ∧ ∀ p, H p = none → Q (.ref p) (upd H p (.dK kvs))) (dDict c) := by
  intro bs σ H φ S ds vs Q s r hl h
  cases r with
  | nil => exact h.elim
  | cons r t =>
    cases t with
    | cons _ _ => exact h.elim
    | nil =>
      simp only [dDict] at h
      split at h
      · rename_i xs e
        obtain ⟨a, vs, rfl, hq, lr⟩ := s.dic r e
        exact ⟨a, vs, rfl, hq, fun p hp => mkD_ok s lr hp h⟩
      · exact h.elim
theorem de_dictc {c : Bool} (hm : X.mg "dict" = none) (ha : DA X W (e :: es) (aList fs)) (hg : Gl X "dict" := by rfl) (he : starEach (e :: es) X.env = (false, eval e X.env) :: starEach es X.env := by rfl) (hpl : (backTo pos (starEach es X.env)).any (·.1) = false := by rfl) :
    DE X W (.Call (.Name "dict" p) (e :: es) [] pos) (eApp fs (dDict c)) := (pe_callTy call_dictD hg hm (by decide +kernel) ha (by decide) (by decide) he hpl).wk (tCB_wk dict_ok)
/-- isinstance(x, T), T a built-in type -/
def tyS (S : Sto) : D → Option String
  | .non => some "NoneType"
  | .bl _ => some "bool"
  | .int _ => some "int"
  | .str _ => some "str"
  | .tup _ => some "tuple"
  | .lst _ => some "list"
  | .frl _ => some "list"
  | .dic _ => some "dict"
  | .ref n => match S.get n with
    | some (.lst _) => some "list"
    | some (.dic _) => some "dict"
    | _ => none
  | _ => none
def isTy (T t : String) : Bool := t == T || (t == "bool" && T == "int")
def eIsT (T : String) (f : EM) : EM := fun ρ S => (f ρ S).bind fun d S1 => match tyS S1 d with
  | some t => .ok (.bl (isTy T t)) S1
  | none => .bad
theorem kit_tab : ∀ T ∈ ["str", "int", "bool", "list", "tuple", "dict"], ∀ t ∈ ["NoneType", "bool", "int", "str", "tuple", "list", "dict"], kitB t T = some (isTy T t) := by decide +kernel
theorem Sim.ty {K : PySem.W.Frag} {mg : Str → Option Value} {H : Hp} {φ : Ph} {bs : List Nat} {S : Sto} {d : D} {v : V} {t : String} (s : Sim K mg H φ bs S) (r : Rep K mg H φ d v) (e : tyS S d = some t) :
    TyX K H v (.type t) ∧ t ∈ ["NoneType", "bool", "int", "str", "tuple", "list", "dict"] := by
  cases r with
  | non => cases e; exact ⟨.base .non, by decide⟩
  | bl b => cases e; exact ⟨.base (.bl b), by decide⟩
  | int i => cases e; exact ⟨.base (.int i), by decide⟩
  | str z g => cases e; exact ⟨.base (.str _), by decide⟩
  | tup h _ =>
    cases e
    refine ⟨?_, by decide⟩
    rcases h with (h | ⟨o, h⟩) | ⟨o, its, n, hk, hc, _⟩
    · exact .base (.tup h)
    · exact .fTuple h
    · exact .kTuple hk hc
  | lst h _ _ => cases e; exact ⟨.base (.lst h), by decide⟩
  | frl h _ =>
    cases e
    refine ⟨?_, by decide⟩
    rcases h with ⟨o, h⟩ | ⟨o, its, n, hk, hc, _⟩
    · exact .base (.frz h)
    · exact .kList hk hc
  | dic h _ _ =>
    cases e
    refine ⟨?_, by decide⟩
    rcases h with h | ⟨o, h⟩
    · exact .base (.dK h)
    · exact .fDict h
  | obj _ _ _ _ => cases e
  | exn _ _ => cases e
  | @ref n a h1 =>
    simp only [tyS] at e
    split at e
    · rename_i xs q
      cases e
      obtain ⟨a', ev, _, vs, hv, lv⟩ := s.at (.ref h1) q
      cases ev
      exact ⟨.base (.lst hv), by decide⟩
    · rename_i xs q
      cases e
      obtain ⟨a', ev, _, vs, hv, lv⟩ := s.at (.ref h1) q
      cases ev
      exact ⟨.base (.dK hv), by decide⟩
    · cases e
theorem de_isT {T : Str} {Ts : String} {p2 : Pos} (hT : T = Str.ofString Ts) (hIn : Ts ∈ ["str", "int", "bool", "list", "tuple", "dict"]) (hm : X.mg "isinstance" = none) (hmT : X.mg T = none) (hb : bootBuiltins T = some (.type Ts)) (ha : DE X W e f)
    (hg : Gl X "isinstance" := by rfl) (hgT : Gl X T := by rfl) (hn : T ≠ "__name__" := by decide) (hd : (T == ("__debug__" : Str)) = false := by decide)
    (he : starEach [e, .Name T p2] X.env = (false, eval e X.env) :: starEach [.Name T p2] X.env := by rfl) (he2 : starEach [.Name T p2] X.env = (false, eval (.Name T p2) X.env) :: starEach [] X.env := by rfl) (hpl : (backTo pos (starEach [.Name T p2] X.env)).any (·.1) = false := by rfl) :
    DE X W (.Call (.Name "isinstance" p) [e, .Name T p2] [] pos) (eIsT Ts f) := by
  refine (pe_callB call_isi hg hm (by decide +kernel) (pa_cons ha (pa_cons (pe_bltn (v := .ty Ts) hgT hmT hb rfl hn hd) pa_nil he2) he) (by decide) (by decide) he hpl).wk fun σ H Q h => ?_
  obtain ⟨φ, bs, ρ, S, s, en, h⟩ := h
  refine tG_then s en h fun d S1 v H1 φ1 x1 s1 e1 r1 h1 => ?_
  split at h1
  · rename_i t et
    obtain ⟨ty, hin⟩ := s1.ty r1 et
    exact ⟨v, .ty Ts, .type t, .type Ts, isTy Ts t, rfl, .ty Ts, ty, kit_ty (kit_tab Ts hIn t hin), PostG.done s1 (.bl _) h1⟩
  · exact h1.elim
end
end Mi

namespace Mi
open PySem PySem.Spec PyProof.Rows L2

/-! ### blocks -/
def sSkip : SM := fun ρ S => .nx ρ S
def sSeq (f g : SM) : SM := fun ρ S => match f ρ S with
  | .nx ρ' S' => g ρ' S'
  | r => r
section
variable {X : Cx} {W : WX} {st : Stmt} {sts : List Stmt} {f g : SM} {e : Expr} {fe : EM} {pos : Pos} {k : Nat}
theorem dss_nil : DSs X W [] sSkip := pss_nil.wk fun D σ H h => by
  obtain ⟨φ, bs, ρ, S, s, en, h⟩ := h
  exact h σ H φ (.refl _ _) s en
theorem tSeq_wk (D : Ends) (σ : L2.St) (H : Hp) (h : tS X W (sSeq f g) D σ H) : tSeq (tS X W f) (tS X W g) D σ H := by
  obtain ⟨φ, bs, ρ, S, s, en, h⟩ := h
  refine ⟨φ, bs, ρ, S, s, en, ?_⟩
  have h' : PostS X.K X.mg W (xp X) bs H φ (match f ρ S with
    | .nx ρ' S' => g ρ' S'
    | r => r) D := h
  revert h'
  cases f ρ S with
  | nx ρ' S' => exact fun h' σ' H' φ' x s' e' => ⟨φ', bs, ρ', S', s', e', PostS.shift x h'⟩
  | rt d S' => exact fun h' => h'
  | bk d S' => exact fun h' => h'
  | ct d S' => exact fun h' => h'
  | ex d r S' => exact fun h' => h'
  | bad => exact fun h' => h'
theorem dss_cons (h1 : DS X W st f) (h2 : DSs X W sts g) : DSs X W (st :: sts) (sSeq f g) := (pss_cons h1 h2).wk tSeq_wk
theorem dss_one (h1 : DS X W st f) : DSs X W [st] f := pss_one h1
/-- the text from the i-th to the j-th statement, joined -/
theorem ds_pass : DS X W (.Pass pos) sSkip := ps_pass.wk fun D σ H h => by
  obtain ⟨φ, bs, ρ, S, s, en, h⟩ := h
  exact h σ H φ (.refl _ _) s en
def sBreak : SM := fun ρ S => .bk ρ S
def sCont : SM := fun ρ S => .ct ρ S
theorem ds_break : DS X W (.Break pos) sBreak := ps_break.wk fun D σ H h => by
  obtain ⟨φ, bs, ρ, S, s, en, h⟩ := h
  exact h σ H φ (.refl _ _) s en
theorem ds_cont : DS X W (.Continue pos) sCont := ps_continue.wk fun D σ H h => by
  obtain ⟨φ, bs, ρ, S, s, en, h⟩ := h
  exact h σ H φ (.refl _ _) s en
theorem ds_doc {x j pos pos'} : DS X W (.Expr (.Constant (.str x) j pos) pos') sSkip := ps_doc.wk fun D σ H h => by
  obtain ⟨φ, bs, ρ, S, s, en, h⟩ := h
  exact h σ H φ (.refl _ _) s en
/-- what the proof never comes to -/
def sNever : SM := fun _ _ => .bad
theorem ds_never : DS X W st sNever := ps_never.wk fun D σ H h => by
  obtain ⟨φ, bs, ρ, S, s, en, h⟩ := h
  exact h
theorem dss_never : DSs X W sts sNever := pss_never.wk fun D σ H h => by
  obtain ⟨φ, bs, ρ, S, s, en, h⟩ := h
  exact h
def sExpr (f : EM) : SM := fun ρ S => (f ρ S).bindS ρ fun _ S1 => .nx ρ S1
theorem ds_expr (he : DE X W e fe) (hs : swapsWith e none pos.line X.env = pure false := by rfl) : DS X W (.Expr e pos) (sExpr fe) := (ps_expr he hs).wk fun D σ H h => by
  obtain ⟨φ, bs, ρ, S, s, en, h⟩ := h
  exact tG_thenS s en h fun d S1 v H1 φ1 x1 s1 e1 r1 h1 => h1 σ H1 φ1 (.refl _ _) s1 e1
def sRet (f : EM) : SM := fun ρ S => (f ρ S).bindS ρ fun d S1 => .rt d S1
theorem ds_ret (he : DE X W e fe) : DS X W (.Return (some e) pos) (sRet fe) := (ps_ret he).wk fun D σ H h => by
  obtain ⟨φ, bs, ρ, S, s, en, h⟩ := h
  exact tG_thenS s en h fun d S1 v H1 φ1 x1 s1 e1 r1 h1 => h1 v H1 φ1 (.refl _ _) s1 r1
def sRetN : SM := fun _ S => .rt .non S
theorem ds_retN : DS X W (.Return none pos) sRetN := ps_retN.wk fun D σ H h => by
  obtain ⟨φ, bs, ρ, S, s, en, h⟩ := h
  exact h .non H φ (.refl _ _) s .non
def sIf (t : TM) (f g : SM) : SM := fun ρ S => (t ρ S).bindS ρ fun b S1 => if b = true then f ρ S1 else g ρ S1
theorem ds_if {c : Expr} {t : TM} {as bs' : List Stmt} (hc : DT X W c t) (ha : DSs X W as f) (hb : DSs X W bs' g) : DS X W (.If c as bs' pos) (sIf t f g) := (ps_if hc ha hb).wk fun D σ H h => by
  obtain ⟨φ, bs, ρ, S, s, en, h⟩ := h
  refine tG_thenS s en h fun d S1 v H1 φ1 x1 s1 e1 r1 h1 => ?_
  have r1' : v = d := r1
  subst r1'
  cases v with
  | true => exact iteT ⟨φ1, bs, ρ, S1, s1, e1, h1⟩
  | false => exact iteF ⟨φ1, bs, ρ, S1, s1, e1, h1⟩

/-! ### targets -/
abbrev GM := D → Env → Sto → Option Env
def tGt (X : Cx) (t : GM) : TG := fun v σ H Q => ∃ φ bs ρ S d, Sim X.K X.mg H φ bs S ∧ EnvR X.K X.mg (xp X) H φ ρ σ ∧ Rep X.K X.mg H φ d v ∧ ∃ ρ', t d ρ S = some ρ' ∧ ∀ σ', EnvR X.K X.mg (xp X) H φ ρ' σ' → Q σ' H
abbrev DG (X : Cx) (tg : Expr) (t : GM) : Prop := PG X tg (tGt X t)
theorem PG.wk {tg : Expr} {t t' : TG} (h : PG X tg t) (w : ∀ v σ H Q, t' v σ H Q → t v σ H Q) : PG X tg t' := ⟨fun pins s σ H v u Q I r q => h.run pins s σ H v u Q I r (w _ _ _ _ q)⟩
def gtName (i : Nat) : GM := fun d ρ _ => some (ρ.set i (some d))
theorem dg_name {i : Nat} {x : Str} (hN : X.N.Nodup) (hi : X.N[i]? = some x := by rfl) (hx : Loc X.env.scope x := by first | exact Or.inl rfl | exact Or.inr rfl) (hf : X.fn x = true ∨ X.env.scope.names.lookup x = some .local := by first | exact .inl rfl | exact .inr rfl | assumption) (hne : (x == ("error" : Str)) = false ∨ X.calm = true := by first | exact .inr rfl | exact .inl (by decide)) : DG X (.Name x pos) (gtName i) :=
  PG.wk (pg_name hN hi hx hf) fun v σ H Q h => by
    obtain ⟨φ, bs, ρ, S, d, s, en, r, ρ', e, q⟩ := h
    cases e
    exact q _ (en.set r i (xp_no hne hi))
/-- several, from the items -/
def gtAll : List GM → List D → Env → Sto → Option Env
  | [], [], ρ, _ => some ρ
  | t :: ts, d :: ds, ρ, S => match t d ρ S with
    | some ρ' => gtAll ts ds ρ' S
    | none => none
  | _, _, _, _ => none
def tGts (X : Cx) (ts : List GM) : TGs := fun vs σ H Q => ∃ φ bs ρ S ds, Sim X.K X.mg H φ bs S ∧ EnvR X.K X.mg (xp X) H φ ρ σ ∧ RepL X.K X.mg H φ ds vs ∧ ∃ ρ', gtAll ts ds ρ S = some ρ' ∧ ∀ σ', EnvR X.K X.mg (xp X) H φ ρ' σ' → Q σ' H
abbrev DGs (X : Cx) (tgs : List Expr) (ts : List GM) : Prop := PGs X tgs (tGts X ts)
theorem PGs.wk {tg : List Expr} {t t' : TGs} (h : PGs X tg t) (w : ∀ v σ H Q, t' v σ H Q → t v σ H Q) : PGs X tg t' := ⟨fun pins s σ H v u Q I r q => h.run pins s σ H v u Q I r (w _ _ _ _ q)⟩
theorem dgs_nil : DGs X [] [] := PGs.wk pgs_nil fun vs σ H Q h => by
  obtain ⟨φ, bs, ρ, S, ds, s, en, r, ρ', e, q⟩ := h
  cases r with
  | nil => cases e; exact ⟨rfl, q _ en⟩
  | cons _ _ => cases e
theorem dgs_cons {es : List Expr} {t : GM} {ts : List GM} (h1 : DG X e t) (h2 : DGs X es ts) (hs : (assignEach (e :: es) X.env).map (·.2) = assign e X.env :: (assignEach es X.env).map (·.2) := by rfl) : DGs X (e :: es) (t :: ts) := PGs.wk (pgs_cons h1 h2 hs) fun vs σ H Q h => by
  obtain ⟨φ, bs, ρ, S, ds, s, en, r, ρ', e, q⟩ := h
  cases r with
  | nil => cases e
  | cons r t' =>
    simp only [gtAll] at e
    split at e
    · rename_i ρ1 e1
      exact ⟨_, _, rfl, φ, bs, ρ, S, _, s, en, r, ρ1, e1, fun σ1 en1 => ⟨φ, bs, ρ1, S, _, s, en1, t', ρ', e, q⟩⟩
    · cases e
def gtTup (ts : List GM) : GM := fun d ρ S => match seqS S d with
  | some ds => gtAll ts ds ρ S
  | none => none
theorem gtAll_len : ∀ {ts : List GM} {ds : List D} {ρ ρ' : Env} {S : Sto}, gtAll ts ds ρ S = some ρ' → ds.length = ts.length
  | [], [], _, _, _, _ => rfl
  | [], _ :: _, _, _, _, h => by cases h
  | _ :: _, [], _, _, _, h => by cases h
  | t :: ts, d :: ds, ρ, ρ', S, h => by
    simp only [gtAll] at h
    split at h
    · rw [List.length_cons, List.length_cons, gtAll_len h]
    · cases h
theorem PG.or {tg : Expr} {t t' : TG} (h : PG X tg t) (h' : PG X tg t') : PG X tg (fun v σ H Q => t v σ H Q ∨ t' v σ H Q) :=
  ⟨fun pins s σ H v u Q I r q => q.elim (h.run pins s σ H v u Q I r) (h'.run pins s σ H v u Q I r)⟩
theorem dg_tup {es : List Expr} {n : Nat} {ts : List GM} (C : Cz X W k) (h : DGs X es ts) (hn : (assignEach es X.env).length = ts.length := by rfl) (hst : (assignEach es X.env).findIdx? (·.1) = none := by rfl) : DG X (.Tuple es n pos) (gtTup ts) := by
  refine PG.wk (PG.or (pg_tup C.calm h hn hst) (pg_lst C.calm h hn hst)) fun v σ H Q h => ?_
  obtain ⟨φ, bs, ρ, S, d, s, en, r, ρ', e, q⟩ := h
  simp only [gtTup] at e
  split at e
  · rename_i ds ed
    obtain ⟨a, vs, rfl, hq, lr⟩ := s.seq r ed
    have hl : vs.length = ts.length := by rw [← lr.length]; exact gtAll_len e
    rcases hq with hq | hq
    · exact .inr ⟨a, vs, rfl, hq, hl, φ, bs, ρ, S, ds, s, en, lr, ρ', e, q⟩
    · exact .inl ⟨a, vs, rfl, hq, hl, φ, bs, ρ, S, ds, s, en, lr, ρ', e, q⟩
  · cases e
/-! ### assignments -/
def sAsg (f : EM) (t : GM) : SM := fun ρ S => (f ρ S).bindS ρ fun d S1 => match t d ρ S1 with
  | some ρ' => .nx ρ' S1
  | none => .bad
theorem tAsg_wk {t : GM} (D : Ends) (σ : L2.St) (H : Hp) (h : tS X W (sAsg fe t) D σ H) : tAsg (tE X W fe) (tGt X t) D σ H := by
  obtain ⟨φ, bs, ρ, S, s, en, h⟩ := h
  refine tG_thenS s en h fun d S1 v H1 φ1 x1 s1 e1 r1 h1 => ?_
  split at h1
  · rename_i ρ' et
    exact ⟨φ1, bs, ρ, S1, d, s1, e1, r1, ρ', et, fun σ' en' => h1 σ' H1 φ1 (.refl _ _) s1 en'⟩
  · exact h1.elim
theorem ds_asg {tg : Expr} {t : GM} (he : DE X W e fe) (hg : DG X tg t) (hs : swapsWithSole [tg] e pos.line X.env = pure false := by rfl) (hw : swappedStores [tg] e X.env = pure none := by rfl) (h1 : (assignEach [tg] X.env).map (·.2) = [assign tg X.env] := by rfl) :
    DS X W (.Assign [tg] e pos) (sAsg fe t) := (ps_asg he hg hs hw h1).wk tAsg_wk
theorem ds_set {i : Nat} {x : Str} {pos' : Pos} (hN : X.N.Nodup) (he : DE X W e fe) (hi : X.N[i]? = some x := by rfl) (hx : Loc X.env.scope x := by first | exact Or.inl rfl | exact Or.inr rfl) (hs : swapsWith e (some (.Name x pos')) pos.line X.env = pure false := by rfl)
    (hf : X.fn x = true ∨ X.env.scope.names.lookup x = some .local := by first | exact .inl rfl | exact .inr rfl | assumption) (hne : (x == ("error" : Str)) = false ∨ X.calm = true := by first | exact .inr rfl | exact .inl (by decide)) : DS X W (.Assign [.Name x pos'] e pos) (sAsg fe (gtName i)) := by
  refine (ps_set hN hi hx he hs hf).wk fun D σ H h => ?_
  obtain ⟨φ, bs, ρ, S, s, en, h⟩ := h
  refine tG_thenS s en h fun d S1 v H1 φ1 x1 s1 e1 r1 h1 => ?_
  exact h1 _ H1 φ1 (.refl _ _) s1 (e1.set r1 i (xp_no hne hi))
/-- a, b = x, y -/
def sPar (i j : Nat) (fs : List EM) : SM := fun ρ S => (aList fs ρ S).bindS ρ fun ds S1 => match ds with
  | [d, d'] => .nx ((ρ.set i (some d)).set j (some d')) S1
  | _ => .bad
theorem ds_par {i j : Nat} {x y : Str} {a b : Expr} {fs : List EM} {px py pt : Pos} {kt k2 pt2} (C : Cz X W k) (hN : X.N.Nodup) (ha : DA X W [a, b] (aList fs)) (hi : X.N[i]? = some x := by rfl) (hj : X.N[j]? = some y := by rfl) (hij : i ≠ j := by decide)
    (hx : X.env.scope.names.lookup x = some .local := by rfl) (hy : X.env.scope.names.lookup y = some .local := by rfl)
    (hw : swappedStores [.Tuple [.Name x px, .Name y py] kt pt] (.Tuple [a, b] k2 pt2) X.env = pure (some [x, y]) := by rfl)
    (hs : swapsWithSole [.Tuple [.Name x px, .Name y py] kt pt] (.Tuple [a, b] k2 pt2) pos.line X.env = pure false := by rfl) :
    DS X W (.Assign [.Tuple [.Name x px, .Name y py] kt pt] (.Tuple [a, b] k2 pt2) pos) (sPar i j fs) := by
  refine (ps_par C.calm hN hi hj hij hx hy ha hw hs).wk fun D σ H h => ?_
  obtain ⟨φ, bs, ρ, S, s, en, h⟩ := h
  refine tG_thenS (rel := RepL) s en h fun ds S1 vs H1 φ1 x1 s1 e1 r1 h1 => ?_
  cases r1 with
  | nil => exact h1.elim
  | cons r1 t =>
    cases t with
    | nil => exact h1.elim
    | cons r2 t =>
      cases t with
      | cons _ _ => exact h1.elim
      | nil => exact ⟨_, _, rfl, h1 _ H1 φ1 (.refl _ _) s1 ((e1.set r1 i (xp_no (.inr C.calm) hi)).set r2 j (xp_no (.inr C.calm) hj))⟩
/-- o[i] = e -/
def ixI (n : Nat) (i : Int) : Option Nat := ixN n i
def putD (kvs : List (Key × D)) (k : Key) (v : D) : List (Key × D) := if (kvs.any fun kv => decide (kv.1 = k)) = true then kvs.map (fun kv => if kv.1 = k then (kv.1, v) else kv) else kvs ++ [(k, v)]
def setS (S : Sto) (o i v : D) : Option Sto := match o with
  | .ref n => match S.get n with
    | some (.lst xs) => match intD i with
      | some z => match ixN xs.length z with
        | some j => if S.may n (.lst (xs.set j v)) = true then some (S.set n (.lst (xs.set j v))) else none
        | none => none
      | none => none
    | some (.dic kvs) => match keyD i with
      | some q => if kvs.length < sizeLine ∧ S.may n (.dic (putD kvs q v)) = true then some (S.set n (.dic (putD kvs q v))) else none
      | none => none
    | _ => none
  | _ => none
def sSetIx (fo fi fv : EM) : SM := fun ρ S => (fv ρ S).bindS ρ fun v S1 => (fo ρ S1).bindS ρ fun o S2 => (fi ρ S2).bindS ρ fun i S3 => match setS S3 o i v with
  | some S4 => .nx ρ S4
  | none => .bad
def rSetU : V → V → V → Hp → (Hp → Prop) → Prop := fun o i v H Q => rSetL o i v H Q ∨ ∃ a H', o = .ref a ∧ DPut H a i v H' ∧ Q H'
theorem set_dict (hu : X.A.units + 1 < cLine) : PSet X rSetU := by
  intro pins s σ H o i v ov iv u Q I ro ri rv h
  rcases h with h | ⟨a, H', rfl, g, q⟩
  · exact set_list pins s σ H o i v ov iv u Q I ro ri rv h
  · cases ro
    exact d_setItem hu I g ri rv fun s4 I4 => ⟨H', I4, q⟩
theorem RepK.any {K : PySem.W.Frag} {mg : Str → Option Value} {H : Hp} {φ : Ph} {kk : Key} : ∀ {ds : List (Key × D)} {vs : List (Key × V)}, RepK K mg H φ ds vs → (vs.any fun kv => decide (kv.1 = kk)) = ds.any fun kv => decide (kv.1 = kk)
  | _, _, .nil => rfl
  | _, _, .cons _ t => by rw [List.any_cons, List.any_cons, RepK.any t]
theorem RepK.mapPut {K : PySem.W.Frag} {mg : Str → Option Value} {H : Hp} {φ : Ph} {kk : Key} {d : D} {v : V} (r : Rep K mg H φ d v) : ∀ {ds : List (Key × D)} {vs : List (Key × V)}, RepK K mg H φ ds vs →
    RepK K mg H φ (ds.map fun kv => if kv.1 = kk then (kv.1, d) else kv) (vs.map fun kv => if kv.1 = kk then (kv.1, v) else kv)
  | _, _, .nil => .nil
  | _, _, .cons (k := k') q t => by
    rw [List.map_cons, List.map_cons]
    by_cases e : k' = kk
    · rw [if_pos e, if_pos e]; exact .cons r (RepK.mapPut r t)
    · rw [if_neg e, if_neg e]; exact .cons q (RepK.mapPut r t)
theorem RepK.append {K : PySem.W.Frag} {mg : Str → Option Value} {H : Hp} {φ : Ph} : ∀ {ds es : List (Key × D)} {vs ws : List (Key × V)}, RepK K mg H φ ds vs → RepK K mg H φ es ws → RepK K mg H φ (ds ++ es) (vs ++ ws)
  | _, _, _, _, .nil, s => s
  | _, _, _, _, .cons h t, s => .cons h (RepK.append t s)
theorem RepK.put {K : PySem.W.Frag} {mg : Str → Option Value} {H : Hp} {φ : Ph} {kk : Key} {d : D} {v : V} (r : Rep K mg H φ d v) {ds : List (Key × D)} {vs : List (Key × V)} (h : RepK K mg H φ ds vs) : RepK K mg H φ (putD ds kk d) (putK vs kk v) := by
  unfold putD putK
  rw [h.any]
  by_cases e : (ds.any fun kv => decide (kv.1 = kk)) = true
  · rw [if_pos e, if_pos e]; exact h.mapPut r
  · rw [if_neg e, if_neg e]; exact h.append (.cons r .nil)
theorem set_ok {bs : List Nat} {H : Hp} {φ : Ph} {S S' : Sto} {o i v : D} {ov iv vv : V} {Q : Hp → Prop} (s : Sim X.K X.mg H φ bs S) (ro : Rep X.K X.mg H φ o ov) (ri : Rep X.K X.mg H φ i iv) (rv : Rep X.K X.mg H φ v vv) (h : setS S o i v = some S')
    (q : ∀ H', Ext H φ H' φ → Sim X.K X.mg H' φ bs S' → Q H') : rSetU ov iv vv H Q := by
  cases ro with
  | @ref n a ha =>
    simp only [setS] at h
    split at h
    · rename_i xs e
      obtain ⟨a', ev, _, vs, hv, lv⟩ := s.at (.ref ha) e
      cases ev
      split at h
      · rename_i z ez
        have hi := ri.int' ez
        subst hi
        split at h
        · rename_i j ej
          by_cases hm : S.may n (.lst (xs.set j v)) = true
          · rw [if_pos hm] at h
            cases h
            have x : Ext H φ (upd H a (.lst (vs.set j vv))) φ := Ext.wr s ha
            exact .inl ⟨a, vs, z, j, rfl, rfl, hv, by rw [← lv.length]; exact ej, q _ x (s.wr ha hm ⟨_, upd_same, (lv.set rv j).ext x s.cells⟩)⟩
          · rw [if_neg hm] at h; cases h
        · cases h
      · cases h
    · rename_i kvs e
      obtain ⟨a', ev, _, vs, hv, lv⟩ := s.at (.ref ha) e
      cases ev
      split at h
      · rename_i z ez
        have hi := ri.key ez
        subst hi
        by_cases hm : kvs.length < sizeLine ∧ S.may n (.dic (putD kvs z v)) = true
        · rw [if_pos hm] at h
          cases h
          have x : Ext H φ (upd H a (.dK (putK vs z vv))) φ := Ext.wr s ha
          exact .inr ⟨a, _, rfl, .inl ⟨vs, z, hv, rfl, by rw [← lv.length]; exact hm.1, rfl⟩, q _ x (s.wr ha hm.2 ⟨_, upd_same, (lv.put rv).ext x s.cells⟩)⟩
        · rw [if_neg hm] at h; cases h
      · cases h
    · cases h
  | _ => cases h
theorem ds_setIx {eo ei ev : Expr} {fo fi fv : EM} {pos' : Pos} (C : Cz X W k) (ho : DE X W eo fo) (hi : DE X W ei fi) (hv : DE X W ev fv)
    (ha : ∀ v, assign (.Subscript eo ei pos') X.env v = (do
      let ov ← holding [v] (eval eo X.env)
      let iv ← holding [v, ov] (eval ei X.env)
      standAt pos'
      holding [v, ov, iv] (setItem ov iv v)
      release [v, ov, iv] []) := by intro _; rfl)
    (hs : swapsWithSole [.Subscript eo ei pos'] ev pos.line X.env = pure false := by rfl) (hw : swappedStores [.Subscript eo ei pos'] ev X.env = pure none := by rfl)
    (h1 : (assignEach [.Subscript eo ei pos'] X.env).map (·.2) = [assign (.Subscript eo ei pos') X.env] := by rfl) :
    DS X W (.Assign [.Subscript eo ei pos'] ev pos) (sSetIx fo fi fv) := by
  refine (ps_asg hv (pg_sub ho hi (set_dict C.u1) ha) hs hw h1).wk fun D σ H h => ?_
  obtain ⟨φ, bs, ρ, S, s, en, h⟩ := h
  refine tG_thenS s en h fun dv S1 vv H1 φ1 x1 s1 e1 r1 h1 => ?_
  refine tG_thenS s1 e1 h1 fun d2 S2 v2 H2 φ2 x2 s2 e2 r2 h2 => ?_
  refine tG_thenS s2 e2 h2 fun d3 S3 v3 H3 φ3 x3 s3 e3 r3 h3 => ?_
  split at h3
  · rename_i S4 e4
    exact set_ok s3 (r2.ext x3 s2.cells) r3 ((r1.ext x2 s1.cells).ext x3 s2.cells) e4 fun H4 x4 s4 => h3 σ H4 φ3 x4 s4 (e3.ext x4 s3.cells)
  · exact h3.elim
/-- name op= e -/
def sAug (i : Nat) (f : EM) (g : D → D → Sto → R D) : SM := fun ρ S => match ρ[i]? with
  | some (some x) => (f ρ S).bindS ρ fun y S1 => (g x y S1).bindS ρ fun z S2 => .nx (ρ.set i (some z)) S2
  | _ => .bad
theorem ds_aug {i : Nat} {x : Str} {op : Operator} {r : TIp} {g : D → D → Sto → R D} {pos' : Pos} (ho : PIp X op r) (hk : OpD X W r g) (hN : X.N.Nodup) (he : DE X W e fe) (hi : X.N[i]? = some x := by rfl) (hx : Loc X.env.scope x := by first | exact Or.inl rfl | exact Or.inr rfl)
    (hf : X.fn x = true ∨ X.env.scope.names.lookup x = some .local := by first | exact .inl rfl | exact .inr rfl | assumption) (hne : (x == ("error" : Str)) = false ∨ X.calm = true := by first | exact .inr rfl | exact .inl (by decide)) : DS X W (.AugAssign (.Name x pos') op e pos) (sAug i fe g) := by
  refine (ps_aug hN hi hx he ho hf).wk fun D σ H h => ?_
  obtain ⟨φ, bs, ρ, S, s, en, h⟩ := h
  unfold sAug at h
  split at h
  · rename_i d ed
    obtain ⟨v, h1, h2⟩ := en.rep ed
    refine ⟨v, h1, ?_⟩
    refine tG_thenS s en h fun dy S1 y H1 φ1 x1 s1 e1 r1 h1 => ?_
    refine hk bs σ H1 φ1 S1 d dy v y _ s1 (h2.ext x1 s.cells) r1 ?_
    revert h1
    cases g d dy S1 with
    | ok z S2 => exact fun h1 vz H2 φ2 x2 s2 r2 => h1 _ H2 φ2 x2 s2 ((e1.ext x2 s1.cells).set r2 i (xp_no hne hi))
    | ex z S2 => exact fun h1 c dx H2 φ2 x2 s2 r2 => h1 c dx σ H2 φ2 x2 s2 (e1.ext x2 s1.cells) r2
    | bad => exact fun h1 => h1
  · exact h.elim
def dAddI : D → D → Sto → R D
  | .int i, .int j, S => .ok (.int (i + j)) S
  | _, _, _ => .bad
theorem addI_ok : OpD X W (ipI fun i j => i + j) dAddI := by
  intro bs σ H φ S dx dy x y Q s rx ry h
  cases rx with
  | int i =>
    cases ry with
    | int j => exact ⟨i, j, rfl, rfl, PostG.done s (.int _) h⟩
    | _ => exact h.elim
  | _ => exact h.elim
theorem ds_augAdd {i : Nat} {x : Str} {pos' : Pos} (hN : X.N.Nodup) (he : DE X W e fe) (hi : X.N[i]? = some x := by rfl) (hx : Loc X.env.scope x := by first | exact Or.inl rfl | exact Or.inr rfl)
    (hf : X.fn x = true ∨ X.env.scope.names.lookup x = some .local := by first | exact .inl rfl | exact .inr rfl | assumption) (hne : (x == ("error" : Str)) = false ∨ X.calm = true := by first | exact .inr rfl | exact .inl (by decide)) : DS X W (.AugAssign (.Name x pos') .Add e pos) (sAug i fe dAddI) := ds_aug ip_add addI_ok hN he hi hx hf hne
/-! ### loops -/
/-- the rounds that a while may take here -/
def lots : Nat := 1099511627776
def sWhileN (t : TM) (f : SM) : Nat → SM
  | 0 => fun _ _ => .bad
  | n + 1 => fun ρ S => (t ρ S).bindS ρ fun b S1 => if b = true then match f ρ S1 with
      | .nx ρ' S' => sWhileN t f n ρ' S'
      | .ct ρ' S' => sWhileN t f n ρ' S'
      | .bk ρ' S' => .nx ρ' S'
      | r => r
    else .nx ρ S1
def sWhile (t : TM) (f : SM) : SM := sWhileN t f lots
theorem ds_while {c : Expr} {t : TM} {body : List Stmt} (C : Cz X W k) (hc : DT X W c t) (hb : DSs X W body f) : DS X W (.While c body [] pos) (sWhile t f) := by
  refine (ps_while C.po hc hb).wk fun D σ H h => ?_
  refine ⟨fun m σ H => ∃ φ bs ρ S, Sim X.K X.mg H φ bs S ∧ EnvR X.K X.mg (xp X) H φ ρ σ ∧ PostS X.K X.mg W (xp X) bs H φ (sWhileN t f m ρ S) D, ⟨lots, h⟩, fun m σ H hw => ?_⟩
  obtain ⟨φ, bs, ρ, S, s, en, h⟩ := hw
  cases m with
  | zero => exact h.elim
  | succ m =>
    refine tG_thenS s en h fun d S1 v H1 φ1 x1 s1 e1 r1 h1 => ?_
    have r1' : v = d := r1
    subst r1'
    cases v with
    | false => exact iteF (h1 σ H1 φ1 (.refl _ _) s1 e1)
    | true =>
      refine iteT ⟨fun σ' H' => ∃ φ bs ρ S, Sim X.K X.mg H' φ bs S ∧ EnvR X.K X.mg (xp X) H' φ ρ σ' ∧ PostS X.K X.mg W (xp X) bs H' φ (sWhileN t f m ρ S) D, fun σ' H' hn => ⟨m, Nat.lt_succ_self m, hn⟩, φ1, bs, ρ, S1, s1, e1, ?_⟩
      rw [if_pos rfl] at h1
      revert h1
      cases f ρ S1 with
      | nx ρ' S' => exact fun h1 σ' H' φ' x s' e' => ⟨φ', bs, ρ', S', s', e', PostS.shift x h1⟩
      | ct ρ' S' => exact fun h1 σ' H' φ' x s' e' => ⟨φ', bs, ρ', S', s', e', PostS.shift x h1⟩
      | bk ρ' S' => exact fun h1 => h1
      | rt d S' => exact fun h1 => h1
      | ex d r S' => exact fun h1 => h1
      | bad => exact fun h1 => h1
end
end Mi

namespace Mi
open PySem PySem.Spec PyProof.Rows L2

/-! ### what is walked -/
/-- the items; the cell that is watched -/
abbrev Wk := List D × Option Nat
abbrev IM := Env → Sto → R Wk
def okSrc (src : Option Nat) (all : List D) (S : Sto) : Prop := match src with
  | none => True
  | some n => S.get n = some (.lst all)
noncomputable instance (src : Option Nat) (all : List D) (S : Sto) : Decidable (okSrc src all S) := Classical.propDecidable _
def JOk (K : PySem.W.Frag) (mg : Str → Option Value) (J : It) (all : List D) (src : Option Nat) (bs : List Nat) (H : Hp) (φ : Ph) : Prop :=
  ∀ H' φ' S', Keeps H φ H' φ' → Sim K mg H' φ' bs S' → okSrc src all S' →
    (∀ (i : Nat) (d : D), all[i]? = some d → J.go i H' ∧ ∀ x H2, J.yld i H' x H2 → H2 = H' ∧ Rep K mg H' φ' d x) ∧ ∀ i : Nat, all.length ≤ i → J.stop i H'
theorem JOk.ext {K : PySem.W.Frag} {mg : Str → Option Value} {J : It} {all : List D} {src : Option Nat} {bs : List Nat} {H H' : Hp} {φ φ' : Ph} (h : JOk K mg J all src bs H φ) (x : Ext H φ H' φ') : JOk K mg J all src bs H' φ' :=
  fun H2 φ2 S2 y s o => h H2 φ2 S2 (x.keeps.trans y) s o
def tI (X : Cx) (W : WX) (im : IM) : TI := fun σ H T => ∃ φ bs ρ S, Sim X.K X.mg H φ bs S ∧ EnvR X.K X.mg (xp X) H φ ρ σ ∧ (match im ρ S with
  | .ok (all, src) S' => ∀ H' φ' J, Ext H φ H' φ' → Sim X.K X.mg H' φ' bs S' → okSrc src all S' → JOk X.K X.mg J all src bs H' φ' → T J H'
  | .ex e S' => ∀ cls dx H' φ', Ext H φ H' φ' → Sim X.K X.mg H' φ' bs S' → ExR X.K X.mg H' φ' e cls dx → W cls dx σ H'
  | .bad => False)
abbrev DI (X : Cx) (W : WX) (tg e : Expr) (im : IM) : Prop := PI X tg e (tI X W im)
theorem _root_.L2.PI.wk {X : Cx} {tg e : Expr} {t t' : TI} (h : PI X tg e t) (w : ∀ σ H T, t' σ H T → t σ H T) : PI X tg e t' := ⟨fun pins s σ H T I q => h.run pins s σ H T I (w _ _ _ q)⟩
def itS (S : Sto) : D → Option Wk
  | .str s => some (s.map fun c => .str [c], none)
  | .tup xs => some (xs, none)
  | .lst xs => some (xs, none)
  | .frl xs => some (xs, none)
  | .ref n => match S.get n with
    | some (.lst xs) => some (xs, some n)
    | _ => none
  | _ => none
def iVal (f : EM) : IM := fun ρ S => (f ρ S).bind fun d S1 => .of S1 (itS S1 d)
section
variable {X : Cx} {W : WX} {tg e : Expr} {f : EM} {k : Nat} {pos p : Pos}
theorem j_list {bs : List Nat} {H : Hp} {φ : Ph} {a : Addr} {ds : List D} {src : Option Nat} (hl : ∀ H' φ' S', Keeps H φ H' φ' → Sim X.K X.mg H' φ' bs S' → okSrc src ds S' → ∃ vs, SqL X.K H' a vs ∧ RepL X.K X.mg H' φ' ds vs) : JOk X.K X.mg (Itl X.K a) ds src bs H φ := by
  intro H' φ' S' x s o
  obtain ⟨vs, h1, h2⟩ := hl H' φ' S' x s o
  refine ⟨fun i d e => ?_, fun i hi => ⟨vs, h1, by rw [← h2.length]; exact hi⟩⟩
  obtain ⟨v, hv, r⟩ := h2.get e
  refine ⟨⟨vs, v, h1, hv⟩, fun y H2 hy => ?_⟩
  obtain ⟨e1, e2⟩ := hy
  have e3 := e2 vs h1
  rw [hv] at e3
  cases e3
  exact ⟨e1, r⟩
theorem j_tup {bs : List Nat} {H : Hp} {φ : Ph} {a : Addr} {ds : List D} {vs : List V} {S : Sto} (s : Sim X.K X.mg H φ bs S) (h1 : SqT X.K H a vs) (h2 : RepL X.K X.mg H φ ds vs) : JOk X.K X.mg (Itt X.K a) ds none bs H φ := by
  intro H' φ' S' x s' o
  have h1' := x.sqt s.cells h1
  have h2' := h2.kp x s.cells
  refine ⟨fun i d e => ?_, fun i hi => ⟨vs, h1', by rw [← h2'.length]; exact hi⟩⟩
  obtain ⟨v, hv, r⟩ := h2'.get e
  refine ⟨⟨vs, v, h1', hv⟩, fun y H2 hy => ?_⟩
  obtain ⟨e1, e2⟩ := hy
  have e3 := e2 vs h1'
  rw [hv] at e3
  cases e3
  exact ⟨e1, r⟩
theorem its_stop {s : List Nat} {i : Nat} {H : Hp} : (Its ⟨s.toArray⟩).stop i H ↔ s.length ≤ i := by
  show s.toArray.size ≤ i ↔ _
  simp
theorem its_go {s : List Nat} {i : Nat} {H : Hp} : (Its ⟨s.toArray⟩).go i H ↔ i < s.length := by
  show i < s.toArray.size ↔ _
  simp
theorem j_str {bs : List Nat} {H : Hp} {φ : Ph} {s : List Nat} (g : goodS s = true) : JOk X.K X.mg (Its ⟨s.toArray⟩) (s.map fun c => .str [c]) none bs H φ := by
  intro H' φ' S' x s' o
  refine ⟨fun i d e => ?_, fun i hi => its_stop.mpr (by simpa using hi)⟩
  rw [List.getElem?_map] at e
  cases q : s[i]? with
  | none => rw [q] at e; cases e
  | some c =>
    rw [q] at e
    cases e
    have hi : i < s.length := (List.getElem?_eq_some_iff.mp q).1
    refine ⟨its_go.mpr hi, fun y H2 hy => ?_⟩
    obtain ⟨e1, c', e2, e3⟩ := hy
    have e4 : s[i]? = some c' := by simpa using e2
    rw [q] at e4
    cases e4
    subst e3
    exact ⟨e1, .str [c] (good_one g (List.mem_of_getElem? q))⟩
theorem di_val (he : DE X W e f) : DI X W tg e (iVal f) := by
  refine (PI.or (PI.or (pi_list he) (pi_tup he)) (pi_str he)).wk fun σ H T h => ?_
  obtain ⟨φ, bs, ρ, S, s, en, h⟩ := h
  unfold iVal at h
  cases q : f ρ S with
  | bad => rw [q] at h; exact h.elim
  | ex d S1 =>
    rw [q] at h
    refine .inl (.inl ⟨φ, bs, ρ, S, s, en, ?_⟩)
    rw [q]
    exact h
  | ok d S1 =>
    rw [q] at h
    dsimp only [R.bind] at h
    cases q2 : itS S1 d with
    | none => rw [q2] at h; exact h.elim
    | some w =>
      rw [q2] at h
      obtain ⟨all, src⟩ := w
      dsimp only [R.of] at h
      have lists : (∀ ys, d ≠ .tup ys) → (∀ z, d ≠ .str z) → iList X.K (tE X W f) σ H T := fun n1 n2 => by
        refine ⟨φ, bs, ρ, S, s, en, ?_⟩
        rw [q]
        intro v H' φ' x s' r
        cases r with
        | lst h1 h2 h3 =>
          cases q2
          exact ⟨_, rfl, ⟨_, .of h1⟩, h H' φ' _ x s' True.intro (j_list fun H2 φ2 S2 y s2 _ => ⟨_, .of (y.at' _ _ h1 h2).1, h3.kp y s'.cells⟩)⟩
        | frl h1 h3 =>
          cases q2
          refine ⟨_, rfl, ⟨_, h1.sq⟩, h H' φ' _ x s' True.intro (j_list fun H2 φ2 S2 y s2 _ => ⟨_, ?_, h3.kp y s'.cells⟩)⟩
          rcases h1 with ⟨o, h1⟩ | h1
          · exact .inl (.inr ⟨o, (y.at' _ _ h1 (s'.cells.frz h1)).1⟩)
          · exact .inr h1
        | @ref n a h1 =>
          simp only [itS] at q2
          split at q2
          · rename_i xs e1
            cases q2
            obtain ⟨a', ev, _, vs, hv, lv⟩ := s'.at (.ref h1) e1
            cases ev
            refine ⟨_, rfl, ⟨_, .of hv⟩, h H' φ' _ x s' e1 (j_list fun H2 φ2 S2 y s2 o2 => ?_)⟩
            obtain ⟨a', ev, _, vs2, hv2, lv2⟩ := s2.at (.ref (y.cell _ _ h1)) o2
            cases ev
            exact ⟨vs2, .of hv2, lv2⟩
          · cases q2
        | tup _ _ => exact absurd rfl (n1 _)
        | str _ _ => exact absurd rfl (n2 _)
        | _ => cases q2
      by_cases ht : ∃ ys, d = .tup ys
      · obtain ⟨ys, rfl⟩ := ht
        cases q2
        refine .inl (.inr ⟨φ, bs, ρ, S, s, en, ?_⟩)
        rw [q]
        intro v H' φ' x s' r
        cases r with
        | tup h1 h2 => exact ⟨_, rfl, ⟨_, h1⟩, h H' φ' _ x s' True.intro (j_tup s' h1 h2)⟩
      · by_cases hz : ∃ z, d = .str z
        · obtain ⟨z, rfl⟩ := hz
          cases q2
          refine .inr ⟨φ, bs, ρ, S, s, en, ?_⟩
          rw [q]
          intro v H' φ' x s' r
          cases r with
          | str z g => exact ⟨_, rfl, h H' φ' _ x s' True.intro (j_str g)⟩
        · exact .inl (.inl (lists (fun ys e => ht ⟨ys, e⟩) fun z e => hz ⟨z, e⟩))
def rangeL (lo : Int) (n : Nat) : List D := (List.range n).map fun i => .int (lo + (i : Nat))
theorem j_range {bs : List Nat} {H : Hp} {φ : Ph} {lo : Int} {n : Nat} : JOk X.K X.mg (Itr lo n) (rangeL lo n) none bs H φ := by
  intro H' φ' S' x s' o
  unfold rangeL
  refine ⟨fun i d e => ?_, fun i hi => by
    have q : n ≤ i := by simpa using hi
    exact q⟩
  rw [List.getElem?_map] at e
  cases q : (List.range n)[i]? with
  | none => rw [q] at e; cases e
  | some j =>
    rw [q] at e
    cases e
    obtain ⟨h1, h2⟩ := List.getElem?_eq_some_iff.mp q
    have hj : j = i := by simpa using h2.symm
    subst hj
    refine ⟨(show j < n by simpa using h1), fun y H2 hy => ?_⟩
    obtain ⟨e1, e2⟩ := hy
    subst e2
    exact ⟨e1, .int _⟩
/-- range(n), range(a, b) -/
def iRange (fs : List EM) : IM := fun ρ S => (aList fs ρ S).bind fun ds S1 => match ds with
  | [.int j] => if -(2 ^ 62) ≤ j ∧ j < 2 ^ 62 then .ok (rangeL 0 j.toNat, none) S1 else .bad
  | [.int i, .int j] => if -(2 ^ 62) ≤ i ∧ i < 2 ^ 62 ∧ -(2 ^ 62) ≤ j ∧ j < 2 ^ 62 then .ok (rangeL i (j - i).toNat, none) S1 else .bad
  | _ => .bad
theorem tA_I {fs : List EM} {g : List D → Sto → R Wk} {σ : L2.St} {H : Hp} {T : It → Hp → Prop} {U : List V → Hp → Prop} (h : tI X W (fun ρ S => (aList fs ρ S).bind g) σ H T)
    (hk : ∀ bs H φ S ds vs, Sim X.K X.mg H φ bs S → RepL X.K X.mg H φ ds vs → ds.length = fs.length → (match g ds S with
      | .ok (all, src) S' => ∀ H' φ' J, Ext H φ H' φ' → Sim X.K X.mg H' φ' bs S' → okSrc src all S' → JOk X.K X.mg J all src bs H' φ' → T J H'
      | .ex e S' => ∀ cls dx H' φ', Ext H φ H' φ' → Sim X.K X.mg H' φ' bs S' → ExR X.K X.mg H' φ' e cls dx → W cls dx σ H'
      | .bad => False) → U vs H) : tA X W (aList fs) σ H U := by
  obtain ⟨φ, bs, ρ, S, s, en, h⟩ := h
  have hl : ∀ ds S', aList fs ρ S = .ok ds S' → ds.length = fs.length := fun _ _ q => aList_len q
  refine ⟨φ, bs, ρ, S, s, en, ?_⟩
  dsimp only at h
  cases q : aList fs ρ S with
  | ok ds S1 =>
    rw [q] at h
    dsimp only [R.bind] at h
    intro v H1 φ1 x s1 r1
    refine hk bs H1 φ1 S1 ds v s1 r1 (hl _ _ q) ?_
    cases q2 : g ds S1 with
    | ok w S2 =>
      rw [q2] at h
      obtain ⟨all, src⟩ := w
      exact fun H' φ' J y s2 o j => h H' φ' J (x.trans y) s2 o j
    | ex d S2 => rw [q2] at h; exact fun c dx H' φ' y s2 r => h c dx H' φ' (x.trans y) s2 r
    | bad => rw [q2] at h; exact h
  | ex d S1 => rw [q] at h; exact h
  | bad => rw [q] at h; exact h
theorem di_range1 {a : Expr} {fa : EM} (hm : X.mg "range" = none) (ha : DA X W [a] (aList [fa])) (hg : Gl X "range" := by rfl) (hs : starEach [a] X.env = [(false, eval a X.env)] := by rfl) : DI X W tg (.Call (.Name "range" p) [a] [] pos) (iRange [fa]) := by
  refine (pi_range1 hg hm ha hs).wk fun σ H T h => ?_
  refine tA_I h fun bs H φ S ds vs s r hl h => ?_
  split at h
  · rename_i all src S' e
    cases r with
    | nil => cases hl
    | cons r t =>
      cases t with
      | cons _ _ => cases hl
      | nil =>
        cases r with
        | int j =>
          simp only at e
          by_cases hj : -(2 ^ 62) ≤ j ∧ j < 2 ^ 62
          · rw [if_pos hj] at e
            cases e
            exact ⟨j, rfl, hj.1, hj.2, h H φ _ (.refl _ _) s True.intro j_range⟩
          · rw [if_neg hj] at e; cases e
        | _ => cases e
  · rename_i d S' e
    cases r with
    | nil => cases hl
    | cons r t =>
      cases t with
      | cons _ _ => cases hl
      | nil =>
        cases r with
        | int j =>
          simp only at e
          by_cases hj : -(2 ^ 62) ≤ j ∧ j < 2 ^ 62
          · rw [if_pos hj] at e; cases e
          · rw [if_neg hj] at e; cases e
        | _ => cases e
  · exact h.elim
theorem di_range2 {a b : Expr} {fa fb : EM} (hm : X.mg "range" = none) (ha : DA X W [a, b] (aList [fa, fb])) (hg : Gl X "range" := by rfl) (hs : starEach [a, b] X.env = [(false, eval a X.env), (false, eval b X.env)] := by rfl) (hs2 : starEach [b] X.env = [(false, eval b X.env)] := by rfl) :
    DI X W tg (.Call (.Name "range" p) [a, b] [] pos) (iRange [fa, fb]) := by
  refine (pi_range2 hg hm ha hs hs2).wk fun σ H T h => ?_
  refine tA_I h fun bs H φ S ds vs s r hl h => ?_
  cases r with
  | nil => cases hl
  | cons r t =>
    cases t with
    | nil => cases hl
    | cons r2 t =>
      cases t with
      | cons _ _ => cases hl
      | nil =>
        cases r with
        | int i =>
          cases r2 with
          | int j =>
            dsimp only at h
            by_cases hj : -(2 ^ 62) ≤ i ∧ i < 2 ^ 62 ∧ -(2 ^ 62) ≤ j ∧ j < 2 ^ 62
            · rw [if_pos hj] at h
              exact ⟨i, j, rfl, hj, h H φ _ (.refl _ _) s True.intro j_range⟩
            · rw [if_neg hj] at h; exact h.elim
          | _ => exact h.elim
        | _ => exact h.elim
/-! ### for -/
noncomputable def sForN (g : GM) (f : SM) (src : Option Nat) (all : List D) : List D → SM
  | [] => fun ρ S => if okSrc src all S then .nx ρ S else .bad
  | x :: xs => fun ρ S => if okSrc src all S then match g x ρ S with
      | some ρ1 => match f ρ1 S with
        | .nx ρ' S' => sForN g f src all xs ρ' S'
        | .ct ρ' S' => sForN g f src all xs ρ' S'
        | .bk ρ' S' => .nx ρ' S'
        | r => r
      | none => .bad
    else .bad
noncomputable def sFor (im : IM) (g : GM) (f : SM) : SM := fun ρ S => (im ρ S).bindS ρ fun w S1 => sForN g f w.2 w.1 w.1 ρ S1
theorem sFor_if {c : Prop} [Decidable c] {r : SR} {P : SR → Prop} (h : P (if c then r else .bad)) (hb : P .bad → False) : c ∧ P r := by
  by_cases q : c
  · rw [if_pos q] at h; exact ⟨q, h⟩
  · rw [if_neg q] at h; exact (hb h).elim
theorem ds_for {body : List Stmt} {im : IM} {g : GM} {fb : SM} (C : Cz X W k) (hi : DI X W tg e im) (hg : DG X tg g) (hb : DSs X W body fb) (hs : ∀ x, foldedSetIterable e X.env x = pure x := by intro _; rfl) :
    DS X W (.For tg e body [] pos) (sFor im g fb) := by
  refine (ps_for C.po C.calm hi hg hb hs).wk fun D σ H h => ?_
  obtain ⟨φ, bs, ρ, S, s, en, h⟩ := h
  refine ⟨φ, bs, ρ, S, s, en, ?_⟩
  unfold sFor at h
  cases q : im ρ S with
  | bad => rw [q] at h; exact h
  | ex d S1 =>
    rw [q] at h
    exact fun c dx H' φ' x s' r => h c dx σ H' φ' x s' (en.ext x s.cells) r
  | ok w S1 =>
    rw [q] at h
    obtain ⟨all, src⟩ := w
    intro H1 φ1 J x1 s1 o1 j1
    have h1 : PostS X.K X.mg W (xp X) bs H1 φ1 (sForN g fb src all all ρ S1) D := PostS.shift x1 h
    refine ⟨fun i m σ H => ∃ φ ρ S, m = all.length - i ∧ i ≤ all.length ∧ Sim X.K X.mg H φ bs S ∧ EnvR X.K X.mg (xp X) H φ ρ σ ∧ JOk X.K X.mg J all src bs H φ ∧ PostS X.K X.mg W (xp X) bs H φ (sForN g fb src all (all.drop i) ρ S) D,
      ⟨all.length, φ1, ρ, S1, rfl, Nat.zero_le _, s1, en.ext x1 s.cells, j1, h1⟩, fun i m σ H hw => ?_⟩
    obtain ⟨φ, ρ, S, rfl, hi, s, en, j, h⟩ := hw
    by_cases hlt : i < all.length
    · rw [List.drop_eq_getElem_cons hlt] at h
      unfold sForN at h
      obtain ⟨ho, h⟩ := sFor_if (P := fun r => PostS X.K X.mg W (xp X) bs H φ r D) h fun z => z
      obtain ⟨hgo, hy⟩ := (j H φ S (Ext.refl _ _).keeps s ho).1 i all[i] (List.getElem?_eq_getElem hlt)
      refine .inr ⟨hgo, fun σ' H' => ∃ φ ρ S, i + 1 ≤ all.length ∧ Sim X.K X.mg H' φ bs S ∧ EnvR X.K X.mg (xp X) H' φ ρ σ' ∧ JOk X.K X.mg J all src bs H' φ ∧ PostS X.K X.mg W (xp X) bs H' φ (sForN g fb src all (all.drop (i + 1)) ρ S) D,
        fun σ' H' hn => ?_, fun v H' hv => ?_⟩
      · obtain ⟨φ', ρ', S', h1, h2, h3, h4, h5⟩ := hn
        exact ⟨all.length - (i + 1), by omega, φ', ρ', S', rfl, h1, h2, h3, h4, h5⟩
      · obtain ⟨e1, r⟩ := hy v H' hv
        subst e1
        split at h
        · rename_i ρ1 eg
          refine ⟨φ, bs, ρ, S, all[i], s, en, r, ρ1, eg, fun σ1 en1 => ⟨φ, bs, ρ1, S, s, en1, ?_⟩⟩
          revert h
          cases fb ρ1 S with
          | nx ρ' S' => exact fun h σ' H2 φ' x s' e' => ⟨φ', ρ', S', by omega, s', e', j.ext x, PostS.shift x h⟩
          | ct ρ' S' => exact fun h σ' H2 φ' x s' e' => ⟨φ', ρ', S', by omega, s', e', j.ext x, PostS.shift x h⟩
          | bk ρ' S' => exact fun h => h
          | rt d S' => exact fun h => h
          | ex d r S' => exact fun h => h
          | bad => exact fun h => h
        · exact h.elim
    · have hi2 : i = all.length := by omega
      rw [List.drop_eq_nil_of_le (by omega)] at h
      unfold sForN at h
      obtain ⟨ho, h⟩ := sFor_if (P := fun r => PostS X.K X.mg W (xp X) bs H φ r D) h fun z => z
      exact .inl ⟨(j H φ S (Ext.refl _ _).keeps s ho).2 i (by omega), h σ H φ (.refl _ _) s en⟩
end
end Mi

namespace Mi
open PySem PySem.Spec PyProof.Rows L2

/-! ### list comprehensions -/
def wipeE (ρ : Env) : List Nat → Env
  | [] => ρ
  | v :: vs => (wipeE ρ vs).set v none
def tGw (X : Cx) (vs : List Nat) (t : GM) : TG := fun v σ H Q => ∃ φ bs ρ S d, Sim X.K X.mg H φ bs S ∧ EnvR X.K X.mg (xp X) H φ ρ σ ∧ Rep X.K X.mg H φ d v ∧ ∃ ρ', t d ρ S = some ρ' ∧ ∀ σ', EnvR X.K X.mg (xp X) H φ ρ' σ' → wipe σ' vs = wipe σ vs → Q σ' H
def tGws (X : Cx) (ws : List Nat) (ts : List GM) : TGs := fun vs σ H Q => ∃ φ bs ρ S ds, Sim X.K X.mg H φ bs S ∧ EnvR X.K X.mg (xp X) H φ ρ σ ∧ RepL X.K X.mg H φ ds vs ∧ ∃ ρ', gtAll ts ds ρ S = some ρ' ∧ ∀ σ', EnvR X.K X.mg (xp X) H φ ρ' σ' → wipe σ' ws = wipe σ ws → Q σ' H
theorem wipe_in {σ : L2.St} {i : Nat} {x : Option V} : ∀ {vs : List Nat}, (i ∈ vs → wipe (σ.set i x) vs = wipe σ vs) ∧ (i ∉ vs → wipe (σ.set i x) vs = (wipe σ vs).set i x)
  | [] => ⟨fun h => by simp at h, fun _ => rfl⟩
  | v :: vs => by
    obtain ⟨h1, h2⟩ := wipe_in (σ := σ) (i := i) (x := x) (vs := vs)
    constructor
    · intro h
      show (wipe (σ.set i x) vs).set v none = (wipe σ vs).set v none
      by_cases hi : i ∈ vs
      · rw [h1 hi]
      · have e : i = v := by
          rcases List.mem_cons.mp h with e | e
          · exact e
          · exact absurd e hi
        subst e
        rw [h2 hi, List.set_set]
    · intro h
      have hv : i ≠ v := fun e => h (by rw [e]; exact List.mem_cons_self)
      have hi : i ∉ vs := fun e => h (List.mem_cons_of_mem _ e)
      show (wipe (σ.set i x) vs).set v none = ((wipe σ vs).set v none).set i x
      rw [h2 hi, List.set_comm _ _ hv]
theorem wipe_idem {σ : L2.St} : ∀ {vs us : List Nat}, (∀ i ∈ us, i ∈ vs) → wipe (wipe σ us) vs = wipe σ vs
  | vs, [], _ => rfl
  | vs, u :: us, h => by
    show wipe ((wipe σ us).set u none) vs = _
    rw [(wipe_in (x := none)).1 (h u List.mem_cons_self)]
    exact wipe_idem fun i hi => h i (List.mem_cons_of_mem _ hi)
theorem wipe_wipe (σ : L2.St) (vs : List Nat) : wipe (wipe σ vs) vs = wipe σ vs := wipe_idem fun _ h => h
section
variable {X : Cx} {W : WX} {tg e elt : Expr} {f : EM} {k : Nat} {pos p : Pos}
theorem dgw_name {i : Nat} {x : Str} {vs : List Nat} (hN : X.N.Nodup) (hv : i ∈ vs := by decide) (hi : X.N[i]? = some x := by rfl) (hx : Loc X.env.scope x := by first | exact Or.inl rfl | exact Or.inr rfl) (hf : X.fn x = true ∨ X.env.scope.names.lookup x = some .local := by first | exact .inl rfl | exact .inr rfl | assumption) (hne : (x == ("error" : Str)) = false ∨ X.calm = true := by first | exact .inr rfl | exact .inl (by decide)) : PG X (.Name x pos) (tGw X vs (gtName i)) :=
  PG.wk (pg_name hN hi hx hf) fun v σ H Q h => by
    obtain ⟨φ, bs, ρ, S, d, s, en, r, ρ', e, q⟩ := h
    cases e
    exact q _ (en.set r i (xp_no hne hi)) ((wipe_in (x := some v)).1 hv)
theorem dgws_nil {vs : List Nat} : PGs X [] (tGws X vs []) := PGs.wk pgs_nil fun ws σ H Q h => by
  obtain ⟨φ, bs, ρ, S, ds, s, en, r, ρ', e, q⟩ := h
  cases r with
  | nil => cases e; exact ⟨rfl, q _ en rfl⟩
  | cons _ _ => cases e
theorem dgws_cons {vs : List Nat} {es : List Expr} {t : GM} {ts : List GM} (h1 : PG X e (tGw X vs t)) (h2 : PGs X es (tGws X vs ts)) (hs : (assignEach (e :: es) X.env).map (·.2) = assign e X.env :: (assignEach es X.env).map (·.2) := by rfl) : PGs X (e :: es) (tGws X vs (t :: ts)) := PGs.wk (pgs_cons h1 h2 hs) fun ws σ H Q h => by
  obtain ⟨φ, bs, ρ, S, ds, s, en, r, ρ', e, q⟩ := h
  cases r with
  | nil => cases e
  | cons r t' =>
    simp only [gtAll] at e
    split at e
    · rename_i ρ1 e1
      exact ⟨_, _, rfl, φ, bs, ρ, S, _, s, en, r, ρ1, e1, fun σ1 en1 w1 => ⟨φ, bs, ρ1, S, _, s, en1, t', ρ', e, fun σ2 en2 w2 => q σ2 en2 (w2.trans w1)⟩⟩
    · cases e
theorem dgw_tup {vs : List Nat} {es : List Expr} {n : Nat} {ts : List GM} (hc : X.calm = true) (h : PGs X es (tGws X vs ts)) (hn : (assignEach es X.env).length = ts.length := by rfl) (hst : (assignEach es X.env).findIdx? (·.1) = none := by rfl) : PG X (.Tuple es n pos) (tGw X vs (gtTup ts)) := by
  refine PG.wk (PG.or (pg_tup hc h hn hst) (pg_lst hc h hn hst)) fun v σ H Q h => ?_
  obtain ⟨φ, bs, ρ, S, d, s, en, r, ρ', e, q⟩ := h
  simp only [gtTup] at e
  split at e
  · rename_i ds ed
    obtain ⟨a, ws, rfl, hq, lr⟩ := s.seq r ed
    have hl : ws.length = ts.length := by rw [← lr.length]; exact gtAll_len e
    rcases hq with hq | hq
    · exact .inr ⟨a, ws, rfl, hq, hl, φ, bs, ρ, S, ds, s, en, lr, ρ', e, q⟩
    · exact .inl ⟨a, ws, rfl, hq, hl, φ, bs, ρ, S, ds, s, en, lr, ρ', e, q⟩
  · cases e
theorem EnvR.wipe {K : PySem.W.Frag} {mg : Str → Option Value} {P : List (Nat × Addr × Obj)} {H : Hp} {φ : Ph} {ρ : Env} {σ : L2.St} (e : EnvR K mg P H φ ρ σ) : ∀ vs : List Nat, EnvR K mg P H φ (wipeE ρ vs) (L2.wipe σ vs)
  | [] => e
  | v :: vs => (EnvR.wipe e vs).unset v none
/-- the tests of a clause -/
abbrev W0 : WX := fun _ _ _ _ => False
def tYesM : TM := fun _ S => .ok true S
theorem dts_nil : PTs X [] (tT X W tYesM) := ⟨fun pins s σ H Q I h => pts_nil.run pins s σ H Q I (by
  obtain ⟨φ, bs, ρ, S, s, en, h⟩ := h
  exact PostG.done (rel := RelB) s rfl h)⟩
theorem dts_one {c : Expr} {t : TM} (h : DT X W c t) : PTs X [c] (tT X W t) := pts_one h
theorem Cz.blk {s : Shared} {H : Hp} {scope : Scope} {cenv : PySem.Env} {fp : List Addr} (C : Cz X W k) : Cz (X.blk s H scope cenv fp) W0 k := ⟨C.hr, takes0, PassesOwn.never, C.calm⟩
noncomputable def lcN (g : GM) (t : TM) (f : EM) (src : Option Nat) (all : List D) : List D → List D → Env → Sto → R (List D)
  | [], acc => fun _ S => if okSrc src all S then .ok acc S else .bad
  | x :: xs, acc => fun ρ S => if okSrc src all S then match g x ρ S with
      | some ρ1 => match t ρ1 S with
        | .ok b S1 => if b = true then match f ρ1 S1 with
            | .ok y S2 => if acc.length < sizeLine then lcN g t f src all xs (acc ++ [y]) ρ S2 else .bad
            | _ => .bad
          else lcN g t f src all xs acc ρ S1
        | _ => .bad
      | none => .bad
    else .bad
noncomputable def eLc (c : Bool) (im : IM) (g : GM) (t : TM) (f : EM) (vs : List Nat) : EM := fun ρ S => (im ρ S).bind fun w S1 => match lcN g t f w.2 w.1 w.1 [] (wipeE ρ vs) S1 with
  | .ok acc S2 => mkL c acc S2
  | _ => .bad
/-- what a finished list is wished to be -/
def Fin (X : Cx) (W : WX) (bs : List Nat) (σ : L2.St) (H : Hp) (φ : Ph) (c : Bool) (Q : VK) (r : R (List D)) : Prop := match r with
  | .ok acc S2 => Post X W bs σ H φ (mkL c acc S2) Q
  | _ => False
/-- the loop's own list at Da: hidden -/
structure Hid (H1 : Hp) (φ1 : Ph) (Da : Addr) (H : Hp) (φ : Ph) : Prop where
  hh : φ.h = Da :: φ1.h
  ex : Ext H1 φ1 H ⟨φ.c, φ1.h⟩
theorem Hid.keeps {H1 H : Hp} {φ1 φ : Ph} {Da : Addr} (y : Hid H1 φ1 Da H φ) (hDa : H1 Da = none) : Keeps H1 φ1 H φ := by
  refine ⟨fun a o e n => ?_, fun n a e => y.ex.get e⟩
  obtain ⟨e1, n1⟩ := y.ex.keeps.at' a o e n
  refine ⟨e1, fun z => ?_⟩
  rcases z with z | z
  · exact n1 (.inl z)
  · rw [y.hh] at z
    rcases List.mem_cons.mp z with z | z
    · rw [z, hDa] at e; cases e
    · exact n1 (.inr z)
theorem Hid.step {H1 H H' : Hp} {φ1 φ φ' : Ph} {Da : Addr} {o : HO} (y : Hid H1 φ1 Da H φ) (x : Ext H φ H' φ') (eD : H Da = some o) : Hid H1 φ1 Da H' φ' ∧ H' Da = some o := by
  have hD : H' Da = H Da := x.hk Da (by rw [y.hh]; exact List.mem_cons_self)
  refine ⟨⟨x.hsame.trans y.hh, y.ex.trans ⟨x.pre, rfl, fun b hb => x.hk b (by rw [y.hh]; exact List.mem_cons_of_mem _ hb), fun b o e n => ?_, x.there⟩⟩, hD.trans eD⟩
  by_cases eb : b = Da
  · rw [eb] at e ⊢
    exact hD.trans e
  · refine x.keep b o e fun z => ?_
    rcases z with z | z
    · exact n (.inl z)
    · rw [y.hh] at z
      rcases List.mem_cons.mp z with z | z
      · exact eb z
      · exact n (.inr z)
theorem Hid.put {H1 H : Hp} {φ1 φ : Ph} {Da : Addr} {o : HO} (y : Hid H1 φ1 Da H φ) (hDa : H1 Da = none) (n1 : Da ∉ φ1.h) : Hid H1 φ1 Da (upd H Da o) φ := by
  refine ⟨y.hh, y.ex.pre, rfl, fun b hb => ?_, fun b u e n => ?_, fun b u e => ?_⟩
  · rw [upd_ne (show b ≠ Da from fun z => n1 (z ▸ hb))]; exact y.ex.hk b hb
  · rw [upd_ne (ne_of_none e hDa)]; exact y.ex.keep b u e n
  · rw [upd_ne (ne_of_none e hDa)]; exact y.ex.there b u e
theorem Keeps.put {H : Hp} {φ : Ph} {Da : Addr} {o : HO} (h : Da ∈ φ.h) : Keeps H φ (upd H Da o) φ :=
  ⟨fun a u e n => ⟨by rw [upd_ne (show a ≠ Da from fun z => n (.inr (z ▸ h)))]; exact e, n⟩, fun _ _ e => e⟩
theorem Sim.put {K : PySem.W.Frag} {mg : Str → Option Value} {H : Hp} {φ : Ph} {bs : List Nat} {S : Sto} {Da : Addr} {o : HO} (s : Sim K mg H φ bs S) (h : Da ∈ φ.h) (ho : Hdn (some o)) : Sim K mg (upd H Da o) φ bs S := by
  refine ⟨s.len, s.nd, s.dis, fun a ha => ?_, fun n a c h1 h2 => ?_, s.hd, s.cl⟩
  · by_cases ea : a = Da
    · rw [ea, upd_same]; exact ho
    · rw [upd_ne ea]; exact s.hid a ha
  · exact (s.cell n a c h1 h2).kp (Keeps.put h) s.cells (upd_ne fun e => s.dis a (List.mem_of_getElem? h1) (e ▸ h))
/-- a hidden thing is laid -/
theorem Sim.lay {K : PySem.W.Frag} {mg : Str → Option Value} {H1 : Hp} {φ1 : Ph} {bs : List Nat} {S : Sto} {Da : Addr} {o : HO} (s1 : Sim K mg H1 φ1 bs S) (hDa : H1 Da = none) (ho : Hdn (some o)) :
    Hid H1 φ1 Da (upd H1 Da o) (φ1.hide Da) ∧ Sim K mg (upd H1 Da o) (φ1.hide Da) bs S := by
  have nD : ¬ φ1.has Da := s1.fresh hDa
  have y0 : Hid H1 φ1 Da (upd H1 Da o) (φ1.hide Da) := ⟨rfl, Ext.new s1 hDa⟩
  have kp0 := y0.keeps hDa
  refine ⟨y0, s1.len, s1.nd, fun a ha z => ?_, fun a ha => ?_, fun n a c h1 h2 => ?_, s1.hd, s1.cl⟩
  · rcases List.mem_cons.mp z with z | z
    · rw [z] at ha; exact nD (.inl ha)
    · exact s1.dis a ha z
  · by_cases ea : a = Da
    · rw [ea, upd_same]; exact ho
    · rcases List.mem_cons.mp ha with z | z
      · exact absurd z ea
      · rw [upd_ne ea]; exact s1.hid a z
  · exact (s1.cell n a c h1 h2).kp kp0 s1.cells (upd_ne fun e => nD (.inl (e ▸ List.mem_of_getElem? h1)))
/-- .. and becomes a value -/
theorem Hid.val {K : PySem.W.Frag} {mg : Str → Option Value} {H1 H : Hp} {φ1 φ : Ph} {bs : List Nat} {S : Sto} {Da : Addr} (y : Hid H1 φ1 Da H φ) (n1 : Da ∉ φ1.h) (s : Sim K mg H φ bs S) :
    Sim K mg H ⟨φ.c, φ1.h⟩ bs S ∧ Keeps H φ H ⟨φ.c, φ1.h⟩ ∧ ¬ (Ph.mk φ.c φ1.h).has Da := by
  have k3 : Keeps H φ H ⟨φ.c, φ1.h⟩ := ⟨fun a o e n => ⟨e, fun z => n (by
    rcases z with z | z
    · exact .inl z
    · exact .inr (by rw [y.hh]; exact List.mem_cons_of_mem _ z))⟩, fun _ _ e => e⟩
  refine ⟨⟨s.len, s.nd, fun a ha z => s.dis a ha (by rw [y.hh]; exact List.mem_cons_of_mem _ z), fun a ha => s.hid a (by rw [y.hh]; exact List.mem_cons_of_mem _ ha), fun n a c h1 h2 => (s.cell n a c h1 h2).kp k3 s.cells rfl, s.hd, s.cl⟩, k3, fun z => ?_⟩
  rcases z with z | z
  · exact s.dis Da z (by rw [y.hh]; exact List.mem_cons_self)
  · exact n1 z
/-- .. or a cell -/
theorem Hid.cell {K : PySem.W.Frag} {mg : Str → Option Value} {H1 H : Hp} {φ1 φ : Ph} {bs : List Nat} {S : Sto} {Da : Addr} {c : Cell} (y : Hid H1 φ1 Da H φ) (hDa : H1 Da = none) (n1 : Da ∉ φ1.h) (s : Sim K mg H φ bs S) (hc : Keeps H φ H ⟨φ.c ++ [Da], φ1.h⟩ → CellOk K mg H ⟨φ.c ++ [Da], φ1.h⟩ Da c) :
    Ext H1 φ1 H ⟨φ.c ++ [Da], φ1.h⟩ ∧ Sim K mg H ⟨φ.c ++ [Da], φ1.h⟩ bs (S.add c) ∧ (φ.c ++ [Da])[S.new]? = some Da := by
  have hDm : Da ∈ φ.h := by rw [y.hh]; exact List.mem_cons_self
  have nc : Da ∉ φ.c := fun z => s.dis Da z hDm
  have kp : Keeps H φ H ⟨φ.c ++ [Da], φ1.h⟩ := ⟨fun a o e n => ⟨e, fun z => by
    rcases z with z | z
    · rcases List.mem_append.mp z with z' | z'
      · exact n (.inl z')
      · have ea : a = Da := by simpa using z'
        exact n (.inr (by rw [ea]; exact hDm))
    · exact n (.inr (by rw [y.hh]; exact List.mem_cons_of_mem _ z))⟩, fun n a e => by
    show (φ.c ++ [Da])[n]? = some a
    rw [List.getElem?_append_left (List.getElem?_eq_some_iff.mp e).1]
    exact e⟩
  refine ⟨?_, ?_, ?_⟩
  · obtain ⟨ψ, e, fr⟩ := y.ex.pre
    refine ⟨⟨ψ ++ [Da], by show φ.c ++ [Da] = _; rw [show φ.c = φ1.c ++ ψ from e, List.append_assoc], fun b hb => ?_⟩, rfl, y.ex.hk, y.ex.keep, y.ex.there⟩
    rcases List.mem_append.mp hb with z | z
    · exact fr b z
    · have eb : b = Da := by simpa using z
      rw [eb]; exact hDa
  · refine s.adopt (p := Da) rfl nc (fun a ha => ?_) (fun a ha => ?_) kp (fun _ _ => rfl) (hc kp)
    · have ha' : a ∈ φ.c ++ [Da] := ha
      show a ∉ φ1.h
      rcases List.mem_append.mp ha' with z | z
      · exact fun q => s.dis a z (by rw [y.hh]; exact List.mem_cons_of_mem _ q)
      · have ea : a = Da := by simpa using z
        rw [ea]; exact n1
    · exact s.hid a (by rw [y.hh]; exact List.mem_cons_of_mem _ ha)
  · rw [Sto.new_all, ← s.len, List.getElem?_append_right (Nat.le_refl _)]
    simp
theorem tLc_wk {im : IM} {g : GM} {t : TM} {f : EM} {vs : List Nat} {c : Bool} (σ : L2.St) (H : Hp) (Q : VK) (h : tE X W (eLc c im g t f vs) σ H Q) : tLc (tI X W im) (tGw X vs g) (tT X W0 t) (tE X W0 f) vs σ H Q := by
  obtain ⟨φ, bs, ρ, S, s, en, h⟩ := h
  refine ⟨φ, bs, ρ, S, s, en, ?_⟩
  unfold eLc at h
  cases q : im ρ S with
  | bad => rw [q] at h; exact h
  | ex d S1 => rw [q] at h; exact h
  | ok w S1 =>
    rw [q] at h
    obtain ⟨all, src⟩ := w
    intro H1 φ1 J x1 s1 o1 j1 Da hDa
    have en1 := en.ext x1 s.cells
    have h1 : Fin X W bs σ H1 φ1 c Q (lcN g t f src all all [] (wipeE ρ vs) S1) := by
      have h' := PostG.shift x1 h
      revert h'
      dsimp only [R.bind]
      cases lcN g t f src all all [] (wipeE ρ vs) S1 with
      | ok acc S2 => exact fun h' => h'
      | ex _ _ => exact fun h' => h'
      | bad => exact fun h' => h'
    have nD : ¬ φ1.has Da := s1.fresh hDa
    have n1 : Da ∉ φ1.h := fun z => nD (.inr z)
    obtain ⟨y0, sD⟩ := s1.lay (o := .lst []) hDa (.inl ⟨[], rfl⟩)
    refine ⟨fun i m H => ∃ φ S acc ws, m = all.length - i ∧ i ≤ all.length ∧ Hid H1 φ1 Da H φ ∧ Sim X.K X.mg H φ bs S ∧ H Da = some (.lst ws) ∧ RepL X.K X.mg H φ acc ws ∧ Fin X W bs σ H1 φ1 c Q (lcN g t f src all (all.drop i) acc (wipeE ρ vs) S),
      ⟨all.length, φ1.hide Da, S1, [], [], rfl, Nat.zero_le _, y0, sD, upd_same, .nil, h1⟩, fun i m H hw => ?_⟩
    obtain ⟨φ, S, acc, ws, rfl, hi, y, s, eD, lr, h⟩ := hw
    have hDm : Da ∈ φ.h := by rw [y.hh]; exact List.mem_cons_self
    by_cases hlt : i < all.length
    · rw [List.drop_eq_getElem_cons hlt] at h
      unfold lcN at h
      by_cases ho : okSrc src all S
      · rw [if_pos ho] at h
        obtain ⟨hgo, hy⟩ := (j1 H φ S (y.keeps hDa) s ho).1 i all[i] (List.getElem?_eq_getElem hlt)
        refine .inr ⟨hgo, fun H' => ∃ φ S acc ws, i + 1 ≤ all.length ∧ Hid H1 φ1 Da H' φ ∧ Sim X.K X.mg H' φ bs S ∧ H' Da = some (.lst ws) ∧ RepL X.K X.mg H' φ acc ws ∧ Fin X W bs σ H1 φ1 c Q (lcN g t f src all (all.drop (i + 1)) acc (wipeE ρ vs) S),
          fun H' hn => ?_, fun v H' hv => ?_⟩
        · obtain ⟨φ', S', acc', ws', q1, q2, q3, q4, q5, q6⟩ := hn
          exact ⟨all.length - (i + 1), by omega, φ', S', acc', ws', rfl, q1, q2, q3, q4, q5, q6⟩
        · obtain ⟨e1, r⟩ := hy v H' hv
          subst e1
          have en2 : EnvR X.K X.mg (xp X) H' φ (wipeE ρ vs) (wipe σ vs) := (en1.kp (y.keeps hDa) s1.cells).wipe vs
          cases eg : g all[i] (wipeE ρ vs) S with
          | none => rw [eg] at h; exact h.elim
          | some ρ1 =>
            rw [eg] at h
            dsimp only at h
            refine ⟨φ, bs, wipeE ρ vs, S, all[i], s, en2, r, ρ1, eg, fun σ2 e2 w2 => ⟨?_, φ, bs, ρ1, S, s, e2, ?_⟩⟩
            · rw [w2]; exact wipe_wipe σ vs
            · cases et : t ρ1 S with
              | bad => rw [et] at h; exact h.elim
              | ex _ _ => rw [et] at h; exact h.elim
              | ok b S1 =>
                rw [et] at h
                dsimp only at h
                intro b' H3 φ4 x4 s4 rb
                have rb' : b' = b := rb
                subst rb'
                have e3 := e2.ext x4 s.cells
                have lr4 := lr.ext x4 s.cells
                obtain ⟨y4, eD4⟩ := y.step x4 eD
                cases b' with
                | false => exact iteF ⟨φ4, S1, acc, ws, by omega, y4, s4, eD4, lr4, by rw [if_neg Bool.false_ne_true] at h; exact h⟩
                | true =>
                  rw [if_pos rfl] at h
                  refine iteT ⟨φ4, bs, ρ1, S1, s4, e3, ?_⟩
                  cases ef : f ρ1 S1 with
                  | bad => rw [ef] at h; exact h.elim
                  | ex _ _ => rw [ef] at h; exact h.elim
                  | ok d S2 =>
                    rw [ef] at h
                    dsimp only at h
                    intro u H5 φ5 x5 s5 r5
                    obtain ⟨y5, eD5⟩ := y4.step x5 eD4
                    have lr5 := lr4.ext x5 s4.cells
                    have hD5 : Da ∈ φ5.h := by rw [y5.hh]; exact List.mem_cons_self
                    by_cases hz : acc.length < sizeLine
                    · rw [if_pos hz] at h
                      refine ⟨ws, eD5, by rw [← lr5.length]; exact hz, φ5, S2, acc ++ [d], ws ++ [u], by omega, y5.put hDa n1, s5.put hD5 (.inl ⟨_, rfl⟩), upd_same, ?_, h⟩
                      exact (lr5.append (.cons r5 .nil)).kp (Keeps.put hD5) s5.cells
                    · rw [if_neg hz] at h; exact h.elim
      · rw [if_neg ho] at h; exact h.elim
    · have hi2 : i = all.length := by omega
      rw [List.drop_eq_nil_of_le (by omega)] at h
      unfold lcN at h
      by_cases ho : okSrc src all S
      · rw [if_pos ho] at h
        refine .inl ⟨(j1 H φ S (y.keeps hDa) s ho).2 i (by omega), ?_⟩
        cases c with
        | false =>
          obtain ⟨s3, k3, nn⟩ := y.val n1 s
          exact h _ _ _ y.ex s3 (.lst eD nn (lr.kp k3 s.cells))
        | true =>
          obtain ⟨xs, hs, hg⟩ := y.cell (c := .lst acc) hDa n1 s fun kp => ⟨ws, eD, lr.kp kp s.cells⟩
          exact h _ _ _ xs hs (.ref hg)
      · rw [if_neg ho] at h; exact h.elim
theorem xp_blk {s : Shared} {H : Hp} {sc : Scope} {en : PySem.Env} {fp : List Addr} (h : X.calm = true) : xp (X.blk s H sc en fp) = xp X := by
  unfold xp
  rw [h]
  rfl
theorem tE_blk {s : Shared} {H : Hp} {sc : Scope} {en : PySem.Env} {fp : List Addr} {W : WX} {β γ : Type} {rel : Rel β γ} {f : Env → Sto → R β} (h : X.calm = true) : tG (X.blk s H sc en fp) W rel f = tG X W rel f := by
  unfold tG
  rw [xp_blk h]
theorem tGw_blk {s : Shared} {H : Hp} {sc : Scope} {en : PySem.Env} {fp : List Addr} {vs : List Nat} {g : GM} (h : X.calm = true) : tGw (X.blk s H sc en fp) vs g = tGw X vs g := by
  unfold tGw
  rw [xp_blk h]
theorem pts_blk {s : Shared} {H : Hp} {sc : Scope} {en : PySem.Env} {fp : List Addr} {W : WX} {t : TM} {ifs : List Expr} (h : X.calm = true) (ht : PTs (X.blk s H sc en fp) ifs (tT (X.blk s H sc en fp) W t)) : PTs (X.blk s H sc en fp) ifs (tT X W t) := by
  have e : tT (X.blk s H sc en fp) W t = tT X W t := tE_blk h
  rw [← e]; exact ht
theorem pe_blk {s : Shared} {H : Hp} {sc : Scope} {en : PySem.Env} {fp : List Addr} {W : WX} {t : EM} {e : Expr} (h : X.calm = true) (ht : PE (X.blk s H sc en fp) e (tE (X.blk s H sc en fp) W t)) : PE (X.blk s H sc en fp) e (tE X W t) := by
  have e : tE (X.blk s H sc en fp) W t = tE X W t := tE_blk h
  rw [← e]; exact ht
theorem pg_blk {s : Shared} {H : Hp} {sc : Scope} {en : PySem.Env} {fp : List Addr} {vs : List Nat} {g : GM} {tg : Expr} (h : X.calm = true) (ht : PG (X.blk s H sc en fp) tg (tGw (X.blk s H sc en fp) vs g)) : PG (X.blk s H sc en fp) tg (tGw X vs g) := by
  rw [← tGw_blk h]; exact ht
theorem de_lc {ifs : List Expr} {scope : Scope} {own : List (Str × Nat)} {im : IM} {g : GM} {t : TM} {f : EM} (c : Bool) (C : Cz X W k) (hN : X.N.Nodup) (hi : DI X W tg e im) (ok : BlkOk X.N X.env.scope scope own)
    (hg : ∀ (s : Shared) (H : Hp) (Cl : Addr) (cl : List (Str × Addr)) (fp : List Addr), PG (X.blk s H scope (compEnvC scope cl Cl X.env) fp) tg (tGw (X.blk s H scope (compEnvC scope cl Cl X.env) fp) (own.map (·.2)) g))
    (ht : ∀ (s : Shared) (H : Hp) (Cl : Addr) (cl : List (Str × Addr)) (fp : List Addr), PTs (X.blk s H scope (compEnvC scope cl Cl X.env) fp) ifs (tT (X.blk s H scope (compEnvC scope cl Cl X.env) fp) W0 t))
    (he : ∀ (s : Shared) (H : Hp) (Cl : Addr) (cl : List (Str × Addr)) (fp : List Addr), DE (X.blk s H scope (compEnvC scope cl Cl X.env) fp) W0 elt f) (hs : ∀ x, foldedSetIterable e X.env x = pure x := by intro _; rfl) :
    DE X W (.ListComp elt [⟨tg, e, ifs, 0⟩] scope pos) (eLc c im g t f (own.map (·.2))) := (pe_lc C.calm hN hi ok (fun s H Cl cl fp => pg_blk C.calm (hg s H Cl cl fp)) (fun s H Cl cl fp => pts_blk C.calm (ht s H Cl cl fp)) (fun s H Cl cl fp => pe_blk C.calm (he s H Cl cl fp)) hs).wk tLc_wk
/-- name = [..] -/
theorem ds_setLc {ifs : List Expr} {scope : Scope} {own : List (Str × Nat)} {im : IM} {g : GM} {t : TM} {f : EM} {i : Nat} {y : Str} {py spos : Pos} (c : Bool) (C : Cz X W k) (hN : X.N.Nodup) (hsw : swapsWith (.ListComp elt [⟨tg, e, ifs, 0⟩] scope pos) (some (.Name y py)) spos.line X.env = pure true)
    (hi : DI X W tg e im) (ok : BlkOk X.N X.env.scope scope own)
    (hg : ∀ (s : Shared) (H : Hp) (Cl : Addr) (cl : List (Str × Addr)) (fp : List Addr), PG (X.blk s H scope (compEnvC scope cl Cl X.env) fp) tg (tGw (X.blk s H scope (compEnvC scope cl Cl X.env) fp) (own.map (·.2)) g))
    (ht : ∀ (s : Shared) (H : Hp) (Cl : Addr) (cl : List (Str × Addr)) (fp : List Addr), PTs (X.blk s H scope (compEnvC scope cl Cl X.env) fp) ifs (tT (X.blk s H scope (compEnvC scope cl Cl X.env) fp) W0 t))
    (he : ∀ (s : Shared) (H : Hp) (Cl : Addr) (cl : List (Str × Addr)) (fp : List Addr), DE (X.blk s H scope (compEnvC scope cl Cl X.env) fp) W0 elt f)
    (hy : X.N[i]? = some y := by rfl) (hyl : X.env.scope.names.lookup y = some .local := by rfl) (hs : ∀ x, foldedSetIterable e X.env x = pure x := by intro _; rfl) :
    DS X W (.Assign [.Name y py] (.ListComp elt [⟨tg, e, ifs, 0⟩] scope pos) spos) (sAsg (eLc c im g t f (own.map (·.2))) (gtName i)) := by
  refine (ps_setLc (wi := tI X W im) (g := tGw X (own.map fun x : Str × Nat => x.2) g) (tt := tT X W0 t) (te := tE X W0 f) C.calm hN hy hyl hsw hi ok (fun s H Cl cl fp => pg_blk C.calm (hg s H Cl cl fp)) (fun s H Cl cl fp => pts_blk C.calm (ht s H Cl cl fp)) (fun s H Cl cl fp => pe_blk C.calm (he s H Cl cl fp)) hs).wk fun D σ H h => ?_
  refine tLc_wk (W := W) (c := c) σ H _ ?_
  obtain ⟨φ, bs, ρ, S, s, en, h⟩ := h
  refine tG_thenS s en h fun d S1 v H1 φ1 x1 s1 e1 r1 h1 => ?_
  exact h1 _ H1 φ1 (.refl _ _) s1 (e1.set r1 i (xp_no (.inr C.calm) hy))
/-! ### dict displays -/
def pList : List (EM × EM) → Env → Sto → R (List (Key × D))
  | [] => fun _ S => .ok [] S
  | (f, g) :: r => fun ρ S => (f ρ S).bind fun x S1 => match keyD x with
    | some kk => (g ρ S1).bind fun y S2 => (pList r ρ S2).bind fun ps S3 => .ok ((kk, y) :: ps) S3
    | none => .bad
def mergeD (kvs more : List (Key × D)) : List (Key × D) := more.foldl (fun acc kv => putD acc kv.1 kv.2) kvs
def eDisp (c : Bool) (fs : List (EM × EM)) : EM := fun ρ S => (pList fs ρ S).bind fun ps S1 => mkD c (mergeD [] ps) S1
theorem RepK.merge {K : PySem.W.Frag} {mg : Str → Option Value} {H : Hp} {φ : Ph} : ∀ {ds : List (Key × D)} {vs : List (Key × V)} {es : List (Key × D)} {ws : List (Key × V)}, RepK K mg H φ ds vs → RepK K mg H φ es ws → RepK K mg H φ (mergeD es ds) (mergeK ws vs)
  | _, _, _, _, .nil, h => h
  | _, _, es, ws, .cons (k := kk) (d := d) (v := v) r t, h => by
    have q := RepK.merge t (h.put (kk := kk) r)
    exact q
/-- the pairs, as they are read -/
def RelP : Rel (List (Key × D)) (List (V × V)) := fun K mg H φ ds ps => ∃ kvs : List (Key × V), ps = kvs.map (fun kv => (kV kv.1, kv.2)) ∧ RepK K mg H φ ds kvs
theorem tP_wk : ∀ {fs : List (EM × EM)} {σ : L2.St} {H : Hp} {Q : List (V × V) → Hp → Prop}, tG X W RelP (pList fs) σ H Q → tPairs (fs.map fun p => (tE X W p.1, tE X W p.2)) σ H Q
  | [], σ, H, Q, h => by
    obtain ⟨φ, bs, ρ, S, s, en, h⟩ := h
    exact PostG.done (rel := RelP) s ⟨[], rfl, .nil⟩ h
  | (f, g) :: fs, σ, H, Q, h => by
    obtain ⟨φ, bs, ρ, S, s, en, h⟩ := h
    refine tG_then s en h fun d S1 v H1 φ1 x1 s1 e1 r1 h1 => ?_
    split at h1
    · rename_i kk ek
      have hv := r1.key ek
      refine tG_then s1 e1 h1 fun dy S2 y H2 φ2 x2 s2 e2 r2 h2 => ?_
      refine tP_wk (fs := fs) ⟨φ2, bs, ρ, S2, s2, e2, ?_⟩
      revert h2
      cases pList fs ρ S2 with
      | ok ps S3 =>
        intro h2 vs H3 φ3 x3 s3 r3
        obtain ⟨kvs, rfl, rk⟩ := r3
        exact h2 _ H3 φ3 x3 s3 ⟨(kk, y) :: kvs, by rw [hv]; rfl, .cons (r2.ext x3 s2.cells) rk⟩
      | ex _ _ => exact fun h2 => h2
      | bad => exact fun h2 => h2
    · exact h1.elim
theorem pList_len : ∀ {fs : List (EM × EM)} {ρ : Env} {S S' : Sto} {ds : List (Key × D)}, pList fs ρ S = .ok ds S' → ds.length = fs.length
  | [], ρ, S, S', ds, h => by
    have h' : R.ok ([] : List (Key × D)) S = .ok ds S' := h
    cases h'; rfl
  | (f, g) :: fs, ρ, S, S', ds, h => by
    simp only [pList] at h
    cases e1 : f ρ S with
    | ok x S1 =>
      rw [e1] at h
      dsimp only [R.bind] at h
      split at h
      · cases e2 : g ρ S1 with
        | ok y S2 =>
          rw [e2] at h
          dsimp only [R.bind] at h
          cases e3 : pList fs ρ S2 with
          | ok ps S3 =>
            rw [e3] at h
            dsimp only [R.bind] at h
            cases h
            rw [List.length_cons, List.length_cons, pList_len e3]
          | ex _ _ => rw [e3] at h; cases h
          | bad => rw [e3] at h; cases h
        | ex _ _ => rw [e2] at h; cases h
        | bad => rw [e2] at h; cases h
      · cases h
    | ex _ _ => rw [e1] at h; cases h
    | bad => rw [e1] at h; cases h
theorem dp_nil {pos : Pos} : PPs X pos [] [] (([] : List (EM × EM)).map fun p => (tE X W p.1, tE X W p.2)) := pps_nil
theorem dp_cons {pos : Pos} {kx vx : Expr} {ks : List (Option Expr)} {vs : List Expr} {f g : EM} {fs : List (EM × EM)} (hk : DE X W kx f) (hv : DE X W vx g) (hr : PPs X pos ks vs (fs.map fun p => (tE X W p.1, tE X W p.2))) : PPs X pos (some kx :: ks) (vx :: vs) (((f, g) :: fs).map fun p => (tE X W p.1, tE X W p.2)) := pps_cons hk hv hr
theorem de_disp {pos : Pos} {keys : List (Option Expr)} {values : List Expr} {fs : List (EM × EM)} (c : Bool) (h : PPs X pos keys values (fs.map fun p => (tE X W p.1, tE X W p.2))) (hall : keys.all (·.isSome) = true := by rfl) (hl : keys.length = values.length := by rfl) (h0 : keys ≠ [] := by exact fun z => by cases z)
    (h15 : keys.length ≤ 15 := by exact Nat.le_of_ble_eq_true rfl) (hf : fs.length ≤ 15 := by exact Nat.le_of_ble_eq_true rfl) : DE X W (.Dict keys values pos) (eDisp c fs) := by
  refine (pe_disp h hall hl h0 h15).wk fun σ H Q h => ?_
  obtain ⟨φ, bs, ρ, S, s, en, h⟩ := h
  intro p hp
  obtain ⟨y0, s0⟩ := s.lay (o := .dK []) hp (.inr ⟨[], rfl⟩)
  have n1 : p ∉ φ.h := fun z => s.fresh hp (.inr z)
  refine tP_wk ⟨φ.hide p, bs, ρ, S, s0, en.kp (y0.keeps hp) s.cells, ?_⟩
  have hlen : ∀ ds S', pList fs ρ S = .ok ds S' → ds.length = fs.length := fun _ _ q => pList_len q
  unfold eDisp at h
  revert hlen h
  cases pList fs ρ S with
  | bad => exact fun h _ => h
  | ex e S1 =>
    intro h _ cls dx H' φ' x s' r
    obtain ⟨y, _⟩ := y0.step x upd_same
    obtain ⟨s3, k3, _⟩ := y.val n1 s'
    refine h cls dx H' _ y.ex s3 ?_
    obtain ⟨c, fs, C, rfl, h1, h2, h3, h0⟩ := r
    refine ⟨c, fs, C, rfl, h1, h2, fun hn => ?_, h0⟩
    obtain ⟨a, vs, h4, h5, h6⟩ := h3 hn
    exact ⟨a, vs, h4, h5, h6.kp k3 s'.cells⟩
  | ok ps S1 =>
    intro h hlen qs H' φ' x s' r
    obtain ⟨kvs, rfl, rk⟩ := r
    obtain ⟨y, eD⟩ := y0.step x upd_same
    have hD : p ∈ φ'.h := by rw [y.hh]; exact List.mem_cons_self
    refine ⟨eD, kvs, rfl, by rw [← rk.length, hlen _ _ rfl]; exact hf, ?_⟩
    have y2 := y.put (o := .dK (mergeK [] kvs)) hp n1
    have s2 := s'.put (o := .dK (mergeK [] kvs)) hD (.inr ⟨_, rfl⟩)
    have rk2 : RepK X.K X.mg (upd H' p (.dK (mergeK [] kvs))) φ' (mergeD [] ps) (mergeK [] kvs) := (rk.merge .nil).kp (Keeps.put hD) s'.cells
    cases c with
    | false =>
      obtain ⟨s3, k3, nn⟩ := y2.val n1 s2
      exact h _ _ _ y2.ex s3 (.dic (.inl upd_same) nn (rk2.kp k3 s2.cells))
    | true =>
      obtain ⟨xs, hs, hg⟩ := y2.cell (c := .dic (mergeD [] ps)) hp n1 s2 fun kp => ⟨_, upd_same, rk2.kp kp s2.cells⟩
      exact h _ _ _ xs hs (.ref hg)
/-- {} -/
def eDnew (c : Bool) : EM := fun _ S => mkD c [] S
theorem de_dnew {pos : Pos} (c : Bool) : DE X W (.Dict [] [] pos) (eDnew c) := pe_dnewK.wk fun σ H Q h => by
  obtain ⟨φ, bs, ρ, S, s, en, h⟩ := h
  exact fun p hp => mkD_ok s .nil hp h
end
end Mi

namespace Mi
open PySem PySem.Spec PyProof.Rows L2

/-! ### a def's frame -/
section
variable {K : PySem.W.Frag} {mg : Str → Option Value} {H H' : Hp} {φ φ' : Ph} {bs : List Nat} {S S' : Sto}
mutual
theorem Rep.bel : ∀ {d : D} {v : V}, Rep K mg H φ d v → d.lt φ.c.length = true
  | _, _, .non => rfl
  | _, _, .bl b => rfl
  | _, _, .int i => rfl
  | _, _, .str s g => rfl
  | _, _, .tup h hl => RepL.bel hl
  | _, _, .lst h n hl => RepL.bel hl
  | _, _, .frl h hl => RepL.bel hl
  | _, _, .dic h n hl => RepK.bel hl
  | _, _, .obj hm h n hl => RepF.bel hl
  | _, _, .ref h => decide_eq_true (List.getElem?_eq_some_iff.mp h).1
  | _, _, .exn _ _ => rfl
theorem RepL.bel : ∀ {d : List D} {v : List V}, RepL K mg H φ d v → D.ltL φ.c.length d = true
  | _, _, .nil => rfl
  | _, _, .cons h t => Bool.and_eq_true_iff.mpr ⟨Rep.bel h, RepL.bel t⟩
theorem RepK.bel : ∀ {d : List (Key × D)} {v : List (Key × V)}, RepK K mg H φ d v → D.ltK φ.c.length d = true
  | _, _, .nil => rfl
  | _, _, .cons h t => Bool.and_eq_true_iff.mpr ⟨Rep.bel h, RepK.bel t⟩
theorem RepF.bel : ∀ {d : List (Str × D)} {v : List (Str × V)}, RepF K mg H φ d v → D.ltF φ.c.length d = true
  | _, _, .nil => rfl
  | _, _, .cons h t => Bool.and_eq_true_iff.mpr ⟨Rep.bel h, RepF.bel t⟩
end
theorem CellOk.below {a : Addr} {c : Cell} (h : CellOk K mg H φ a c) : c.lt φ.c.length = true := by
  cases c with
  | lst ds => obtain ⟨vs, _, h⟩ := h; exact h.bel
  | dic ds => obtain ⟨vs, _, h⟩ := h; exact h.bel
  | ins c fs => obtain ⟨C, dx, vs, _, _, h⟩ := h; exact h.bel
/-- fewer cells -/
def Ph.cut (φ : Ph) (b : Nat) : Ph := ⟨φ.c.take b, φ.h⟩
theorem Ph.cut_has {b : Nat} {a : Addr} (h : (φ.cut b).has a) : φ.has a := by
  rcases h with h | h
  · exact .inl (List.mem_of_mem_take h)
  · exact .inr h
theorem cut_get {b n : Nat} {a : Addr} (hn : n < b) (h : φ.c[n]? = some a) : (φ.cut b).c[n]? = some a := by
  show (φ.c.take b)[n]? = some a
  rw [List.getElem?_take_of_lt hn]; exact h
mutual
theorem Rep.low {b : Nat} (hs : ∀ x, φ'.has x → φ.has x) (hg : ∀ (n : Nat) (a : Addr), n < b → φ.c[n]? = some a → φ'.c[n]? = some a) : ∀ {d : D} {v : V}, Rep K mg H φ d v → d.lt b = true → Rep K mg H φ' d v
  | _, _, .non, _ => .non
  | _, _, .bl b, _ => .bl b
  | _, _, .int i, _ => .int i
  | _, _, .str s g, _ => .str s g
  | _, _, .tup h hl, q => .tup h (RepL.low hs hg hl q)
  | _, _, .lst h n hl, q => .lst h (fun z => n (hs _ z)) (RepL.low hs hg hl q)
  | _, _, .frl h hl, q => .frl h (RepL.low hs hg hl q)
  | _, _, .dic h n hl, q => .dic h (fun z => n (hs _ z)) (RepK.low hs hg hl q)
  | _, _, .obj hm h n hl, q => .obj hm h (fun z => n (hs _ z)) (RepF.low hs hg hl q)
  | _, _, .ref h, q => .ref (hg _ _ (of_decide_eq_true q) h)
  | _, _, .exn e a, _ => .exn e a
theorem RepL.low {b : Nat} (hs : ∀ x, φ'.has x → φ.has x) (hg : ∀ (n : Nat) (a : Addr), n < b → φ.c[n]? = some a → φ'.c[n]? = some a) : ∀ {d : List D} {v : List V}, RepL K mg H φ d v → D.ltL b d = true → RepL K mg H φ' d v
  | _, _, .nil, _ => .nil
  | _, _, .cons h t, q => .cons (Rep.low hs hg h (Bool.and_eq_true_iff.mp q).1) (RepL.low hs hg t (Bool.and_eq_true_iff.mp q).2)
theorem RepK.low {b : Nat} (hs : ∀ x, φ'.has x → φ.has x) (hg : ∀ (n : Nat) (a : Addr), n < b → φ.c[n]? = some a → φ'.c[n]? = some a) : ∀ {d : List (Key × D)} {v : List (Key × V)}, RepK K mg H φ d v → D.ltK b d = true → RepK K mg H φ' d v
  | _, _, .nil, _ => .nil
  | _, _, .cons h t, q => .cons (Rep.low hs hg h (Bool.and_eq_true_iff.mp q).1) (RepK.low hs hg t (Bool.and_eq_true_iff.mp q).2)
theorem RepF.low {b : Nat} (hs : ∀ x, φ'.has x → φ.has x) (hg : ∀ (n : Nat) (a : Addr), n < b → φ.c[n]? = some a → φ'.c[n]? = some a) : ∀ {d : List (Str × D)} {v : List (Str × V)}, RepF K mg H φ d v → D.ltF b d = true → RepF K mg H φ' d v
  | _, _, .nil, _ => .nil
  | _, _, .cons h t, q => .cons (Rep.low hs hg h (Bool.and_eq_true_iff.mp q).1) (RepF.low hs hg t (Bool.and_eq_true_iff.mp q).2)
end
theorem Rep.cut {b : Nat} {d : D} {v : V} (h : Rep K mg H φ d v) (q : d.lt b = true) : Rep K mg H (φ.cut b) d v := h.low (fun _ z => Ph.cut_has z) (fun _ _ hn e => cut_get hn e) q
theorem RepL.cut' {b : Nat} {d : List D} {v : List V} (h : RepL K mg H φ d v) (q : D.ltL b d = true) : RepL K mg H (φ.cut b) d v := h.low (fun _ z => Ph.cut_has z) (fun _ _ hn e => cut_get hn e) q
theorem RepK.cut {b : Nat} {d : List (Key × D)} {v : List (Key × V)} (h : RepK K mg H φ d v) (q : D.ltK b d = true) : RepK K mg H (φ.cut b) d v := h.low (fun _ z => Ph.cut_has z) (fun _ _ hn e => cut_get hn e) q
theorem RepF.cut {b : Nat} {d : List (Str × D)} {v : List (Str × V)} (h : RepF K mg H φ d v) (q : D.ltF b d = true) : RepF K mg H (φ.cut b) d v := h.low (fun _ z => Ph.cut_has z) (fun _ _ hn e => cut_get hn e) q
theorem CellOk.low {a : Addr} {c : Cell} {b : Nat} (hs : ∀ x, φ'.has x → φ.has x) (hg : ∀ (n : Nat) (a : Addr), n < b → φ.c[n]? = some a → φ'.c[n]? = some a) (h : CellOk K mg H φ a c) (q : c.lt b = true) : CellOk K mg H φ' a c := by
  cases c with
  | lst ds => obtain ⟨vs, h1, h⟩ := h; exact ⟨vs, h1, h.low hs hg q⟩
  | dic ds => obtain ⟨vs, h1, h⟩ := h; exact ⟨vs, h1, h.low hs hg q⟩
  | ins c fs => obtain ⟨C, dx, vs, h0, h1, h⟩ := h; exact ⟨C, dx, vs, h0, h1, h.low hs hg q⟩
theorem CellOk.cut {a : Addr} {c : Cell} {b : Nat} (h : CellOk K mg H φ a c) (q : c.lt b = true) : CellOk K mg H (φ.cut b) a c := h.low (fun _ z => Ph.cut_has z) (fun _ _ hn e => cut_get hn e) q
theorem push_all (S : Sto) : S.push.all = S.all := by
  unfold Sto.push Sto.all
  rw [List.append_nil]
theorem Sim.push (s : Sim K mg H φ bs S) : Sim K mg H φ (S.all.length :: bs) S.push := by
  refine ⟨by rw [push_all]; exact s.len, s.nd, s.dis, s.hid, fun n a c h1 h2 => s.cell n a c h1 (by rw [push_all] at h2; exact h2), rfl, fun b hb => ?_⟩
  have hl : S.push.old.length = S.all.length := rfl
  rcases List.mem_cons.mp hb with e | hb
  · subst e
    refine ⟨Nat.le_of_eq hl.symm, fun n c hn h => ?_⟩
    rw [push_all] at h
    have hn' : n < φ.c.length := by rw [s.len]; exact hn
    have h2 := (s.cell n _ c (List.getElem?_eq_getElem hn') h).below
    rw [s.len] at h2
    exact h2
  · obtain ⟨h1, h2⟩ := s.cl b hb
    refine ⟨?_, fun n c hn h => h2 n c hn (by rw [push_all] at h; exact h)⟩
    rw [hl]
    unfold Sto.all
    rw [List.length_append]
    omega
/-- behind a frame -/
theorem Sim.pop (s : Sim K mg H φ bs S) (x : Ext H φ H' φ') (s' : Sim K mg H' φ' (S.all.length :: bs) S') : φ'.cut S.all.length = φ ∧ Ext H φ H' φ ∧ Sim K mg H' φ bs (S.pop S') := by
  have hc : φ'.cut S.all.length = φ := by
    obtain ⟨ψ, e, _⟩ := x.pre
    unfold Ph.cut
    rw [e, ← s.len, List.take_left, x.hsame]
  have hx : Ext H φ H' φ := ⟨⟨[], by simp, fun _ h => by simp at h⟩, rfl, x.hk, x.keep, x.there⟩
  refine ⟨hc, hx, ?_⟩
  have hol : S'.old.length = S.all.length := by
    have := s'.hd
    simpa using this.symm
  have hle : S.old.length ≤ S.all.length := by
    unfold Sto.all; rw [List.length_append]; omega
  have hall : (S.pop S').all = S'.old := by
    unfold Sto.pop Sto.all
    exact List.take_append_drop _ _
  have hget : ∀ {n : Nat} {c : Cell}, (S.pop S').all[n]? = some c → n < S.all.length ∧ S'.all[n]? = some c := fun {n c} h => by
    rw [hall] at h
    have hn := (List.getElem?_eq_some_iff.mp h).1
    refine ⟨by rw [← hol]; exact hn, ?_⟩
    unfold Sto.all
    rw [List.getElem?_append_left hn]; exact h
  refine ⟨by rw [hall, hol]; exact s.len, s.nd, s.dis, fun a ha => s'.hid a (by rw [x.hsame]; exact ha), fun n a c h1 h2 => ?_, ?_, fun b hb => ?_⟩
  · obtain ⟨hn, h2⟩ := hget h2
    have h3 := s'.cell n a c (x.get h1) h2
    have h4 := h3.cut ((s'.cl S.all.length List.mem_cons_self).2 n c hn h2)
    rw [hc] at h4
    exact h4
  · rw [s.hd]
    show some S.old.length = some (S'.old.take S.old.length).length
    rw [List.length_take, hol, Nat.min_eq_left hle]
  · refine ⟨?_, fun n c hn h => (s'.cl b (List.mem_cons_of_mem _ hb)).2 n c hn (hget h).2⟩
    show b ≤ (S'.old.take S.old.length).length
    rw [List.length_take, hol, Nat.min_eq_left hle]
    exact (s.cl b hb).1
end
/-! ### what a def hands back -/
def mapO {α β : Type} (f : α → Option β) : List α → Option (List β)
  | [] => some []
  | x :: xs => match f x, mapO f xs with
    | some y, some ys => some (y :: ys)
    | _, _ => none
/-- its own cells taken for values -/
def fz (b m : Nat) (S : Sto) : Nat → D → Option D
  | 0, d => if d.lt b = true then some d else none
  | k + 1, d => if d.lt b = true then some d else match d with
    | .ref n => if n < b ∨ n = m then none else match S.get n with
      | some (.lst xs) => (mapO (fz b m S k) xs).map .lst
      | some (.dic kvs) => (mapO (fun kv : Key × D => (fz b m S k kv.2).map fun d => (kv.1, d)) kvs).map .dic
      | some (.ins c fs) => (mapO (fun kv : Str × D => (fz b m S k kv.2).map fun d => (kv.1, d)) fs).map (.obj c)
      | none => none
    | .tup xs => (mapO (fz b m S k) xs).map .tup
    | .lst xs => (mapO (fz b m S k) xs).map .lst
    | _ => none
section
variable {K : PySem.W.Frag} {mg : Str → Option Value} {H : Hp} {φ ψ : Ph} {bs : List Nat} {S : Sto} {b m : Nat}
theorem mapO_L {f : D → Option D} (hf : ∀ d e v, f d = some e → Rep K mg H φ d v → Rep K mg H ψ e v) : ∀ {ds es : List D} {vs : List V}, mapO f ds = some es → RepL K mg H φ ds vs → RepL K mg H ψ es vs
  | [], _, _, h, .nil => by cases h; exact .nil
  | d :: ds, es, _, h, .cons r t => by
    simp only [mapO] at h
    split at h
    · rename_i e es' h1 h2
      cases h
      exact .cons (hf _ _ _ h1 r) (mapO_L hf h2 t)
    · cases h
theorem mapO_K {f : D → Option D} (hf : ∀ d e v, f d = some e → Rep K mg H φ d v → Rep K mg H ψ e v) : ∀ {ds es : List (Key × D)} {vs : List (Key × V)}, mapO (fun kv : Key × D => (f kv.2).map fun d => (kv.1, d)) ds = some es → RepK K mg H φ ds vs → RepK K mg H ψ es vs
  | [], _, _, h, .nil => by cases h; exact .nil
  | (k, d) :: ds, es, _, h, .cons r t => by
    simp only [mapO] at h
    split at h
    · rename_i e es' h1 h2
      cases h
      cases q : f d with
      | none => rw [q] at h1; cases h1
      | some e' =>
        rw [q] at h1
        cases h1
        exact .cons (hf _ _ _ q r) (mapO_K hf h2 t)
    · cases h
theorem mapO_F {f : D → Option D} (hf : ∀ d e v, f d = some e → Rep K mg H φ d v → Rep K mg H ψ e v) : ∀ {ds es : List (Str × D)} {vs : List (Str × V)}, mapO (fun kv : Str × D => (f kv.2).map fun d => (kv.1, d)) ds = some es → RepF K mg H φ ds vs → RepF K mg H ψ es vs
  | [], _, _, h, .nil => by cases h; exact .nil
  | (k, d) :: ds, es, _, h, .cons r t => by
    simp only [mapO] at h
    split at h
    · rename_i e es' h1 h2
      cases h
      cases q : f d with
      | none => rw [q] at h1; cases h1
      | some e' =>
        rw [q] at h1
        cases h1
        exact .cons (hf _ _ _ q r) (mapO_F hf h2 t)
    · cases h
theorem cut_out (s : Sim K mg H φ bs S) {n : Nat} {a : Addr} (h : φ.c[n]? = some a) (hn : ¬ n < b) : ¬ (φ.cut b).has a := fun z => by
  rcases z with z | z
  · obtain ⟨m, hm, e⟩ := List.getElem_of_mem z
    have hm' : m < b ∧ m < φ.c.length := by
      have : m < (φ.c.take b).length := hm
      rw [List.length_take] at this
      omega
    have e2 : φ.c[m]? = some a := by
      have e3 : (φ.c.take b)[m]? = some a := by exact (List.getElem?_eq_getElem hm).trans (congrArg some e)
      rw [List.getElem?_take_of_lt hm'.1] at e3
      exact e3
    have := nodup_ixA s.nd h e2
    omega
  · exact s.dis a (List.mem_of_getElem? h) z
where
  nodup_ixA {l : List Addr} (nd : l.Nodup) {i j : Nat} {x : Addr} (a : l[i]? = some x) (c : l[j]? = some x) : i = j := by
    obtain ⟨h1, e1⟩ := List.getElem?_eq_some_iff.mp a
    obtain ⟨h2, e2⟩ := List.getElem?_eq_some_iff.mp c
    exact (List.getElem_inj nd).mp (e1.trans e2.symm)
theorem fz_ok (s : Sim K mg H φ bs S) (hs : ∀ x, ψ.has x → φ.has x) (hg : ∀ (n : Nat) (a : Addr), n < b → φ.c[n]? = some a → ψ.c[n]? = some a) (ho : ∀ (n : Nat) (a : Addr), φ.c[n]? = some a → ¬ (n < b ∨ n = m) → ¬ ψ.has a) :
    ∀ (k : Nat) (d e : D) (v : V), fz b m S k d = some e → Rep K mg H φ d v → Rep K mg H ψ e v
  | 0, d, e, v, h, r => by
    unfold fz at h
    by_cases q : d.lt b = true
    · rw [if_pos q] at h; cases h; exact r.low hs hg q
    · rw [if_neg q] at h; cases h
  | k + 1, d, e, v, h, r => by
    unfold fz at h
    by_cases q : d.lt b = true
    · rw [if_pos q] at h; cases h; exact r.low hs hg q
    · rw [if_neg q] at h
      have ih := fz_ok s hs hg ho k
      cases r with
      | tup h1 h2 =>
        rename_i a ds vs
        dsimp only at h
        cases q2 : mapO (fz b m S k) ds with
        | none => rw [q2] at h; cases h
        | some es => rw [q2] at h; cases h; exact .tup h1 (mapO_L ih q2 h2)
      | lst h1 h2 h3 =>
        rename_i a ds vs
        dsimp only at h
        cases q2 : mapO (fz b m S k) ds with
        | none => rw [q2] at h; cases h
        | some es => rw [q2] at h; cases h; exact .lst h1 (fun z => h2 (hs _ z)) (mapO_L ih q2 h3)
      | @ref n a h1 =>
        dsimp only at h
        by_cases hn : n < b ∨ n = m
        · rw [if_pos hn] at h; cases h
        · rw [if_neg hn] at h
          split at h
          · rename_i xs e1
            obtain ⟨a', ev, _, vs, hv, lv⟩ := s.at (.ref h1) e1
            cases ev
            cases q2 : mapO (fz b m S k) xs with
            | none => rw [q2] at h; cases h
            | some es => rw [q2] at h; cases h; exact .lst hv (ho _ _ h1 hn) (mapO_L ih q2 lv)
          · rename_i xs e1
            obtain ⟨a', ev, _, vs, hv, lv⟩ := s.at (.ref h1) e1
            cases ev
            cases q2 : mapO (fun kv : Key × D => (fz b m S k kv.2).map fun d => (kv.1, d)) xs with
            | none => rw [q2] at h; cases h
            | some es => rw [q2] at h; cases h; exact .dic (.inl hv) (ho _ _ h1 hn) (mapO_K ih q2 lv)
          · rename_i c fs e1
            obtain ⟨a', ev, _, C, dx, vs, hm, hv, lv⟩ := s.at (.ref h1) e1
            cases ev
            cases q2 : mapO (fun kv : Str × D => (fz b m S k kv.2).map fun d => (kv.1, d)) fs with
            | none => rw [q2] at h; cases h
            | some es => rw [q2] at h; cases h; exact .obj hm hv (ho _ _ h1 hn) (mapO_F ih q2 lv)
          · cases h
      | _ => cases h
end
def initE (n : Nat) (ds : List D) : Env := ds.map some ++ List.replicate (n - ds.length) none
/-- a value is handed back, the frame's own cells with it as values -/
def give (S : Sto) (d : D) (S' : Sto) : R D := if S'.top.isEmpty = true then .ok d (S.pop S') else match fz S.new S'.all.length S' 24 d with
  | some d' => .ok d' (S.pop S')
  | none => .bad
def throwE (S : Sto) (e : D) (S' : Sto) : R D := if e.lt S.new = true then .ex e (S.pop S') else .bad
def runV (n : Nat) (body : SM) (ds : List D) (S : Sto) : R D := match body (initE n ds) S.push with
  | .nx _ S' => .ok .non (S.pop S')
  | .rt d S' => give S d S'
  | .ex e _ S' => throwE S e S'
  | _ => .bad
/-- a list of its own is handed back: a cell of the caller's -/
def runF (n : Nat) (body : SM) (ds : List D) (S : Sto) : R D := match body (initE n ds) S.push with
  | .rt (.ref m) S' => if m < S.new then .bad else match S'.get m with
    | some (.lst xs) => match mapO (fz S.new m S' 24) xs with
      | some ys => .ok (.ref S.new) ((S.pop S').add (.lst ys))
      | none => .bad
    | _ => .bad
  | .ex e _ S' => throwE S e S'
  | _ => .bad
/-- no frame of its own -/
def runL (n : Nat) (body : SM) (ds : List D) (S : Sto) : R D := match body (initE n ds) S with
  | .nx _ S' => .ok .non S'
  | .rt d S' => .ok d S'
  | .ex e _ S' => .ex e S'
  | _ => .bad
theorem init_env {K : PySem.W.Frag} {mg : Str → Option Value} {H : Hp} {φ : Ph} {ds : List D} {vs : List V} {N : List Str} (r : RepL K mg H φ ds vs) (hl : ds.length ≤ N.length) : EnvR K mg [] H φ (initE N.length ds) (L2.start N vs) := by
  unfold initE L2.start
  rw [← r.length]
  refine ⟨by simp [r.length], fun {i d} h => ?_, fun p hp => by cases hp⟩
  by_cases hi : i < ds.length
  · rw [List.getElem?_append_left (by simpa using hi), List.getElem?_map] at h
    cases q : ds[i]? with
    | none => rw [q] at h; cases h
    | some d' =>
      rw [q] at h
      cases h
      obtain ⟨v, hv, rv⟩ := r.get q
      refine ⟨v, ?_, rv⟩
      rw [List.getElem?_append_left (by simpa [← r.length] using hi), List.getElem?_map, hv]
      rfl
  · rw [List.getElem?_append_right (by simpa using Nat.le_of_not_lt hi)] at h
    have h' := List.mem_of_getElem? h
    rw [List.mem_replicate] at h'
    cases h'.2
section
variable {P : Program} {w : World} {K : PySem.W.Frag} {mg : Str → Option Value} {base : Heap}
/-- the body of the def st means B -/
def BodyOk (P : Program) (w : World) (K : PySem.W.Frag) (mg : Str → Option Value) (base : Heap) (N : List Str) (qual : Str) (st : Stmt) (k : Nat) (B : SM) : Prop :=
  ∀ (f : Addr) (cdv : Value) (A : Around) (outer : List PySem.Env) (s : Shared) (H : Hp) (E : XK), Cz (cxOf (L2.CX P w) P w K mg base N qual (defScope st) f cdv A outer s H E) (fun cls d _ H => E cls d H) k →
    DSs (cxOf (L2.CX P w) P w K mg base N qual (defScope st) f cdv A outer s H E) (fun cls d _ H => E cls d H) (defBody st) B
theorem take_len {N ps : List Str} (h : N.take ps.length = ps) : ps.length ≤ N.length := by
  have e := congrArg List.length h
  rw [List.length_take] at e
  omega
theorem ExR.cut {H : Hp} {φ : Ph} {e : D} {cls : Value} {d : Option Addr} {b : Nat} (r : ExR K mg H φ e cls d) (q : e.lt b = true) : ExR K mg H (φ.cut b) e cls d := by
  obtain ⟨c, fs, C, rfl, h1, h2, h3, h0⟩ := r
  refine ⟨c, fs, C, rfl, h1, h2, fun hn => ?_, h0⟩
  obtain ⟨a, vs, h4, h5, h6⟩ := h3 hn
  exact ⟨a, vs, h4, h5, h6.cut q⟩
/-- from the body to the def, for any way of handing back -/
theorem fnOk_of {x qual : Str} {st : Stmt} {f : Addr} {fd : FuncData} {N ps : List Str} {k : Nat} {B : SM} {G : List D → Sto → R D} (F : Fun K x qual st f fd) (Sc : FnScope N ps (defScope st)) (hb : BodyOk P w K mg base N qual st k B)
    (hG : ∀ (bs : List Nat) (H : Hp) (φ : Ph) (S : Sto) (ds : List D) (vs : List V) (Q : VK) (E : XK), Sim K mg H φ bs S → RepL K mg H φ ds vs → ds.length ≤ N.length → PostG K mg (fun cls d _ H' => E cls d H') Rep bs [] H φ (G ds S) Q →
      ∃ bs' S', Sim K mg H φ bs' S' ∧ PostS K mg (fun cls d _ H' => E cls d H') [] bs' H φ (B (initE N.length ds) S') { nx := fun _ H' => Q .non H', rt := Q }) :
    FnOk P w K mg base (L2.CX P w) (k + 1) f fd ps (spOf K mg ps.length G) := by
  refine F.okX Sc (fun vs H Q E h => h.1) fun cdv A outer s H vs Q E hr h => ?_
  obtain ⟨hl, φ, bs, ds, S, sim, r, h⟩ := h
  have hN : ds.length ≤ N.length := by rw [r.length, hl]; exact take_len Sc.pre
  obtain ⟨bs', S', sim', hp⟩ := hG bs H φ S ds vs Q E sim r hN h
  refine ⟨_, hb f cdv A outer s H E ⟨hr, takes_of rfl rfl rfl rfl, passes_of rfl, rfl⟩, φ, bs', initE N.length ds, S', sim', init_env r hN, hp⟩
theorem okV {x qual : Str} {st : Stmt} {f : Addr} {fd : FuncData} {N ps : List Str} {k : Nat} {B : SM} (F : Fun K x qual st f fd) (Sc : FnScope N ps (defScope st)) (hb : BodyOk P w K mg base N qual st k B) :
    FnOk P w K mg base (L2.CX P w) (k + 1) f fd ps (spOf K mg ps.length (runV N.length B)) := fnOk_of F Sc hb fun bs H φ S ds vs Q E s r hl h => by
  refine ⟨S.all.length :: bs, S.push, s.push, ?_⟩
  unfold runV at h
  revert h
  cases B (initE N.length ds) S.push with
  | nx ρ S' =>
    intro h σ H' φ' x s' e'
    obtain ⟨h1, h2, h3⟩ := s.pop x s'
    exact h .non H' φ h2 h3 .non
  | rt d S' =>
    intro h v H' φ' x s' r'
    obtain ⟨h1, h2, h3⟩ := s.pop x s'
    dsimp only at h
    unfold give at h
    by_cases q : S'.top.isEmpty = true
    · rw [if_pos q] at h
      refine h v H' φ h2 h3 ?_
      have hd := r'.bel
      have hl : φ'.c.length = S.all.length := by
        have e : S'.top = [] := List.isEmpty_iff.mp q
        have e2 : S'.old.length = S.all.length := by simpa using s'.hd.symm
        rw [s'.len]; unfold Sto.all; rw [e, List.append_nil]; exact e2
      rw [hl] at hd
      have := r'.cut hd
      rw [h1] at this
      exact this
    · rw [if_neg q] at h
      split at h
      · rename_i d' ef
        have := fz_ok (b := S.new) (ψ := φ'.cut S.new) s' (fun _ z => Ph.cut_has z) (fun _ _ hn e => cut_get hn e) (fun n a e hn => cut_out s' e (fun h => hn (.inl h))) 24 d d' v ef r'
        rw [Sto.new_all, h1] at this
        exact h v H' φ h2 h3 this
      · exact h.elim
  | ex e ρ S' =>
    intro h cls dx σ H' φ' x s' e' r'
    obtain ⟨h1, h2, h3⟩ := s.pop x s'
    dsimp only at h
    unfold throwE at h
    by_cases q : e.lt S.new = true
    · rw [if_pos q] at h
      have := r'.cut q
      rw [Sto.new_all, h1] at this
      exact h cls dx H' φ h2 h3 this
    · rw [if_neg q] at h; exact h.elim
  | bk _ _ => exact fun h => h.elim
  | ct _ _ => exact fun h => h.elim
  | bad => exact fun h => h.elim
theorem okL {x qual : Str} {st : Stmt} {f : Addr} {fd : FuncData} {N ps : List Str} {k : Nat} {B : SM} (F : Fun K x qual st f fd) (Sc : FnScope N ps (defScope st)) (hb : BodyOk P w K mg base N qual st k B) :
    FnOk P w K mg base (L2.CX P w) (k + 1) f fd ps (spOf K mg ps.length (runL N.length B)) := fnOk_of F Sc hb fun bs H φ S ds vs Q E s r hl h => by
  refine ⟨bs, S, s, ?_⟩
  unfold runL at h
  revert h
  cases B (initE N.length ds) S with
  | nx ρ S' => exact fun h σ H' φ' x s' e' => h .non H' φ' x s' .non
  | rt d S' => exact fun h => h
  | ex e ρ S' => exact fun h cls dx σ H' φ' x s' e' r' => h cls dx H' φ' x s' r'
  | bk _ _ => exact fun h => h.elim
  | ct _ _ => exact fun h => h.elim
  | bad => exact fun h => h.elim
end
end Mi

namespace Mi
open PySem PySem.Spec PyProof.Rows L2
section
variable {P : Program} {w : World} {K : PySem.W.Frag} {mg : Str → Option Value} {base : Heap}
theorem okF {x qual : Str} {st : Stmt} {f : Addr} {fd : FuncData} {N ps : List Str} {k : Nat} {B : SM} (F : Fun K x qual st f fd) (Sc : FnScope N ps (defScope st)) (hb : BodyOk P w K mg base N qual st k B) :
    FnOk P w K mg base (L2.CX P w) (k + 1) f fd ps (spOf K mg ps.length (runF N.length B)) := fnOk_of F Sc hb fun bs H φ S ds vs Q E s r hl h => by
  refine ⟨S.all.length :: bs, S.push, s.push, ?_⟩
  unfold runF at h
  revert h
  cases B (initE N.length ds) S.push with
  | rt d S' =>
    intro h v H' φ' x s' r'
    obtain ⟨h1, h2, h3⟩ := s.pop x s'
    cases r' with
    | @ref m a ha =>
      dsimp only at h
      by_cases hm : m < S.new
      · rw [if_pos hm] at h; exact h.elim
      · rw [if_neg hm] at h
        split at h
        · rename_i xs e1
          obtain ⟨a', ev, _, ws, hv, lv⟩ := s'.at (.ref ha) e1
          cases ev
          split at h
          · rename_i ys hq
            rw [Sto.new_all] at hq hm
            have hout : ¬ φ.has a := by
              have := cut_out (b := S.all.length) s' ha hm
              rw [h1] at this
              exact this
            have fresh : H a = none := by
              cases q : H a with
              | none => rfl
              | some o =>
                obtain ⟨ψ, e, fr⟩ := x.pre
                have hin : a ∈ φ.c ++ ψ := by rw [← e]; exact List.mem_of_getElem? ha
                rcases List.mem_append.mp hin with z | z
                · exact absurd (.inl z) hout
                · rw [fr a z] at q; cases q
            have hx : Ext H φ H' (φ.add a) := by
              refine ⟨⟨[a], rfl, fun b hb => ?_⟩, rfl, h2.hk, h2.keep, h2.there⟩
              have e : b = a := by simpa using hb
              rw [e]; exact fresh
            have hsub : ∀ b, (φ.add a).has b → φ'.has b := fun b z => by
              rcases z with z | z
              · have z' : b ∈ φ.c ++ [a] := z
                obtain ⟨ψ, e, fr⟩ := x.pre
                rcases List.mem_append.mp z' with z' | z'
                · exact .inl (by rw [e]; exact List.mem_append_left _ z')
                · have e2 : b = a := by simpa using z'
                  exact .inl (by rw [e2]; exact List.mem_of_getElem? ha)
              · exact .inr (by rw [x.hsame]; exact z)
            have hlen : φ.c.length = S.all.length := s.len
            have hget : ∀ (n : Nat) (b : Addr), n < S.all.length → φ'.c[n]? = some b → (φ.add a).c[n]? = some b := fun n b hn e => by
              obtain ⟨ψ, e2, _⟩ := x.pre
              rw [e2, List.getElem?_append_left (by rw [hlen]; exact hn)] at e
              show (φ.c ++ [a])[n]? = some b
              rw [List.getElem?_append_left (by rw [hlen]; exact hn)]
              exact e
            have hno : ∀ (n : Nat) (b : Addr), φ'.c[n]? = some b → ¬ (n < S.all.length ∨ n = m) → ¬ (φ.add a).has b := fun n b e hn z => by
              have hnb : ¬ φ.has b := by
                have := cut_out (b := S.all.length) s' e (fun q => hn (.inl q))
                rw [h1] at this
                exact this
              rcases z with z | z
              · have z' : b ∈ φ.c ++ [a] := z
                rcases List.mem_append.mp z' with z' | z'
                · exact hnb (.inl z')
                · have e2 : b = a := by simpa using z'
                  subst e2
                  exact hn (.inr (cut_out.nodup_ixA s'.nd e ha))
              · exact hnb (.inr z)
            have hcell : CellOk K mg H' (φ.add a) a (.lst ys) := ⟨ws, hv, mapO_L (fun d e v hd r => fz_ok s' hsub hget hno 24 d e v hd r) hq lv⟩
            have hs : Sim K mg H' (φ.add a) bs ((S.pop S').add (.lst ys)) := by
              have hlow : ∀ (n : Nat) (b : Addr) (c : Cell), φ.c[n]? = some b → (S.pop S').all[n]? = some c → CellOk K mg H' (φ.add a) b c := fun n b c g1 g2 => by
                have hn : n < S.all.length := by rw [← hlen]; exact (List.getElem?_eq_some_iff.mp g1).1
                have hall : (S.pop S').all = S'.old := by
                  unfold Sto.pop Sto.all
                  exact List.take_append_drop _ _
                rw [hall] at g2
                have g3 : S'.all[n]? = some c := by
                  unfold Sto.all
                  rw [List.getElem?_append_left (List.getElem?_eq_some_iff.mp g2).1]; exact g2
                exact (s'.cell n b c (x.get g1) g3).low hsub hget ((s'.cl S.all.length List.mem_cons_self).2 n c hn g3)
              refine ⟨?_, ?_, fun b hb => ?_, h3.hid, fun n b c g1 g2 => ?_, h3.hd, fun b hb => ?_⟩
              · rw [Sto.add_all]
                show (φ.c ++ [a]).length = _
                rw [List.length_append, List.length_append, h3.len]; rfl
              · show (φ.c ++ [a]).Nodup
                rw [List.nodup_append]
                refine ⟨h3.nd, by simp, fun b hb c hc => ?_⟩
                have e : c = a := by simpa using hc
                subst e
                intro e2; subst e2; exact hout (.inl hb)
              · have hb' : b ∈ φ.c ++ [a] := hb
                show b ∉ φ.h
                rcases List.mem_append.mp hb' with z | z
                · exact h3.dis b z
                · have e : b = a := by simpa using z
                  rw [e]; exact fun q => hout (.inr q)
              · have g1 : (φ.c ++ [a])[n]? = some b := g1
                rw [Sto.add_all] at g2
                by_cases hn : n < φ.c.length
                · rw [List.getElem?_append_left hn] at g1
                  rw [List.getElem?_append_left (by rw [← h3.len]; exact hn)] at g2
                  exact hlow n b c g1 g2
                · rw [List.getElem?_append_right (by omega)] at g1
                  rw [List.getElem?_append_right (by rw [← h3.len]; omega), ← h3.len] at g2
                  have hz : n - φ.c.length = 0 := by
                    have := (List.getElem?_eq_some_iff.mp g1).1
                    simp at this; omega
                  rw [hz] at g1 g2
                  simp at g1 g2
                  subst g1 g2
                  exact hcell
              · obtain ⟨g1, g2⟩ := h3.cl b hb
                refine ⟨g1, fun n d hn e => ?_⟩
                rw [Sto.add_all] at e
                have : n < (S.pop S').all.length := by
                  unfold Sto.all; rw [List.length_append]; omega
                rw [List.getElem?_append_left this] at e
                exact g2 n d hn e
            refine h _ H' _ hx hs (.ref ?_)
            show (φ.c ++ [a])[S.new]? = some a
            rw [Sto.new_all, ← hlen, List.getElem?_append_right (Nat.le_refl _)]
            simp
          · exact h.elim
        · exact h.elim
    | _ => exact h.elim
  | ex e ρ S' =>
    intro h cls dx σ H' φ' x s' e' r'
    obtain ⟨h1, h2, h3⟩ := s.pop x s'
    dsimp only at h
    unfold throwE at h
    by_cases q : e.lt S.new = true
    · rw [if_pos q] at h
      have := r'.cut q
      rw [Sto.new_all, h1] at this
      exact h cls dx H' φ h2 h3 this
    · rw [if_neg q] at h; exact h.elim
  | nx _ _ => exact fun h => h.elim
  | bk _ _ => exact fun h => h.elim
  | ct _ _ => exact fun h => h.elim
  | bad => exact fun h => h.elim
end
end Mi

namespace Mi
open PySem PySem.Spec PyProof.Rows L2

/-! ### methods of lists -/
/-- o.m(e, ..), o a list -/
def eMeth (f : EM) (fs : List EM) (g : D → List D → Sto → R D) : EM := fun ρ S => (f ρ S).bind fun x S1 => match lstS S1 x with
  | some _ => (aList fs ρ S1).bind fun ds S2 => g x ds S2
  | none => .bad
def MtD (X : Cx) (W : WX) (r : V → List V → Hp → VK → Prop) (g : D → List D → Sto → R D) : Prop := ∀ bs σ H φ S d ds x vs Q, Sim X.K X.mg H φ bs S → Rep X.K X.mg H φ d x → RepL X.K X.mg H φ ds vs → Post X W bs σ H φ (g d ds S) Q → r x vs H Q
section
variable {X : Cx} {W : WX} {o e : Expr} {es : List Expr} {f : EM} {fs : List EM} {k : Nat} {apos cpos : Pos} {name : Str} {id : String} {r : V → List V → Hp → VK → Prop} {g : D → List D → Sto → R D}
theorem tBM_wk (hk : MtD X W r g) (σ : L2.St) (H : Hp) (Q : VK) (h : tE X W (eMeth f fs g) σ H Q) : tBM X.K "list" r (tE X W f) (tA X W (aList fs)) σ H Q := by
  obtain ⟨φ, bs, ρ, S, s, en, h⟩ := h
  refine tG_then s en h fun d S1 v H1 φ1 x1 s1 e1 r1 h1 => ?_
  split at h1
  · rename_i xs ex
    obtain ⟨a, vs, rfl, hq, lr⟩ := s1.lst r1 ex
    refine ⟨.inl ⟨rfl, vs, hq⟩, ?_⟩
    refine tG_then (rel := RepL) s1 e1 h1 fun ds S2 us H2 φ2 x2 s2 e2 r2 h2 => ?_
    exact hk bs σ H2 φ2 S2 d ds _ us Q s2 (r1.ext x2 s1.cells) r2 h2
  · exact h1.elim
theorem de_meth (slot : Slot "list" name id) (hty : typeOf (.builtin id) = pure (.type "method_descriptor")) (hm : MtR X id r) (hk : MtD X W r g) (ho : DE X W o f) (ha : DA X W (e :: es) (aList fs))
    (hbase : attributeBase o name X.env (eval o X.env) = eval o X.env := by rfl)
    (hfew : ((backTo cpos (starEach (e :: es) X.env)).all (fun x => !x.1) && (backToKw cpos (keywordEach [] X.env)).all (fun x => x.1.isSome)
      && decide ((e :: es).length + ([] : List Keyword).length + (if ([] : List Keyword).isEmpty then 0 else 1) < 30)) = true := by rfl)
    (hline : (apos.endLine == cpos.line) = true := by rfl) (hs : starEach (e :: es) X.env = (false, eval e X.env) :: starEach es X.env := by rfl) (hplain : (backTo cpos (starEach es X.env)).any (·.1) = false := by rfl) :
    DE X W (.Call (.Attribute o name apos) (e :: es) [] cpos) (eMeth f fs g) := (pe_bm PySem.F.plainAttrs_list slot hty hm ho ha hbase hfew hline hs hplain).wk (tBM_wk hk)
theorem de_meth0 (slot : Slot "list" name id) (hty : typeOf (.builtin id) = pure (.type "method_descriptor")) (hm : MtR X id r) (hk : MtD X W r g) (ho : DE X W o f)
    (hbase : attributeBase o name X.env (eval o X.env) = eval o X.env := by rfl) (hline : (apos.endLine == cpos.line) = true := by rfl) : DE X W (.Call (.Attribute o name apos) [] [] cpos) (eMeth f [] g) :=
  (pe_bm0 PySem.F.plainAttrs_list slot hty hm ho hbase hline).wk fun σ H Q h => by
    obtain ⟨φ, bs, ρ, S, s, en, h⟩ := h
    refine tG_then s en h fun d S1 v H1 φ1 x1 s1 e1 r1 h1 => ?_
    split at h1
    · rename_i xs ex
      obtain ⟨a, vs, rfl, hq, lr⟩ := s1.lst r1 ex
      exact ⟨.inl ⟨rfl, vs, hq⟩, hk bs σ H1 φ1 S1 d [] _ [] Q s1 r1 .nil h1⟩
    · exact h1.elim
/-- the cell n holds other items now -/
def putL (n : Nat) (xs : List D) (d : D) (S : Sto) : R D := if S.may n (.lst xs) = true then .ok d (S.set n (.lst xs)) else .bad
theorem putL_ok {bs : List Nat} {σ : L2.St} {H : Hp} {φ : Ph} {S : Sto} {n : Nat} {a : Addr} {xs : List D} {vs : List V} {d : D} {v : V} {Q : VK} (s : Sim X.K X.mg H φ bs S) (ha : φ.c[n]? = some a) (lr : RepL X.K X.mg H φ xs vs) (rd : Rep X.K X.mg H φ d v)
    (h : Post X W bs σ H φ (putL n xs d S) Q) : Q v (upd H a (.lst vs)) := by
  obtain ⟨hm, h⟩ := if_bad (P := fun r => Post X W bs σ H φ r Q) h fun z => z
  have x : Ext H φ (upd H a (.lst vs)) φ := Ext.wr s ha
  exact h _ _ _ x (s.wr ha hm ⟨vs, upd_same, lr.ext x s.cells⟩) (rd.ext x s.cells)
def mAppend (x : D) (ds : List D) (S : Sto) : R D := match x, ds with
  | .ref n, [d] => match S.get n with
    | some (.lst xs) => if xs.length < sizeLine then putL n (xs ++ [d]) .non S else .bad
    | _ => .bad
  | _, _ => .bad
theorem append_ok : MtD X W rAppend mAppend := by
  intro bs σ H φ S d ds x vs Q s rd rl h
  cases rd with
  | @ref n a ha =>
    cases rl with
    | nil => exact h.elim
    | cons r1 t =>
      cases t with
      | cons _ _ => exact h.elim
      | nil =>
        simp only [mAppend] at h
        split at h
        · rename_i xs e
          obtain ⟨hl, h⟩ := if_bad (P := fun r => Post X W bs σ H φ r Q) h fun z => z
          obtain ⟨a', ev, _, ws, hv, lv⟩ := s.at (.ref ha) e
          cases ev
          exact ⟨a, ws, _, rfl, rfl, hv, by rw [← lv.length]; exact hl, putL_ok s ha (lv.append (.cons r1 .nil)) .non h⟩
        · exact h.elim
  | _ => exact h.elim
theorem de_append (ho : DE X W o f) (ha : DA X W (e :: es) (aList fs)) (hbase : attributeBase o "append" X.env (eval o X.env) = eval o X.env := by rfl)
    (hfew : ((backTo cpos (starEach (e :: es) X.env)).all (fun x => !x.1) && (backToKw cpos (keywordEach [] X.env)).all (fun x => x.1.isSome)
      && decide ((e :: es).length + ([] : List Keyword).length + (if ([] : List Keyword).isEmpty then 0 else 1) < 30)) = true := by rfl)
    (hline : (apos.endLine == cpos.line) = true := by rfl) (hs : starEach (e :: es) X.env = (false, eval e X.env) :: starEach es X.env := by rfl) (hplain : (backTo cpos (starEach es X.env)).any (·.1) = false := by rfl) :
    DE X W (.Call (.Attribute o "append" apos) (e :: es) [] cpos) (eMeth f fs mAppend) := de_meth PySem.F.slot_list_append PySem.F.type_list_append mt_append append_ok ho ha hbase hfew hline hs hplain
/-- extend, by a list that is a cell or a value -/
def mExtend (x : D) (ds : List D) (S : Sto) : R D := match x, ds with
  | .ref n, [d] => match S.get n with
    | some (.lst xs) => match d with
      | .frl _ => .bad
      | d => match lstS S d with
        | some ys => if xs.length + ys.length ≤ sizeLine then putL n (xs ++ ys) .non S else .bad
        | none => .bad
    | _ => .bad
  | _, _ => .bad
theorem Sim.lstM {K : PySem.W.Frag} {mg : Str → Option Value} {H : Hp} {φ : Ph} {bs : List Nat} {S : Sto} (s : Sim K mg H φ bs S) {d : D} {v : V} {xs : List D} (r : Rep K mg H φ d v) (hn : ∀ ys, d ≠ .frl ys) (e : lstS S d = some xs) : ∃ a vs, v = .ref a ∧ H a = some (.lst vs) ∧ RepL K mg H φ xs vs := by
  cases r with
  | lst h _ hl => cases e; exact ⟨_, _, rfl, h, hl⟩
  | frl h hl => exact absurd rfl (hn _)
  | @ref n a h =>
    simp only [lstS] at e
    split at e
    · rename_i ys q
      cases e
      obtain ⟨a', e', _, vs, hv, lv⟩ := s.at (.ref h) q
      cases e'
      exact ⟨_, _, rfl, hv, lv⟩
    · cases e
  | _ => cases e
theorem extend_ok : MtD X W rExtend mExtend := by
  intro bs σ H φ S d ds x vs Q s rd rl h
  cases rd with
  | @ref n a ha =>
    cases rl with
    | nil => exact h.elim
    | cons r1 t =>
      cases t with
      | cons _ _ => exact h.elim
      | nil =>
        simp only [mExtend] at h
        split at h
        · rename_i xs e
          obtain ⟨a', ev, _, ws, hv, lv⟩ := s.at (.ref ha) e
          cases ev
          split at h
          · exact h.elim
          · rename_i hn
            split at h
            · rename_i ys ey
              obtain ⟨hl, h⟩ := if_bad (P := fun r => Post X W bs σ H φ r Q) h fun z => z
              obtain ⟨b, zs, rfl, hb, lb⟩ := s.lstM r1 hn ey
              exact ⟨a, b, ws, zs, rfl, rfl, hv, hb, by rw [← lv.length, ← lb.length]; exact hl, putL_ok s ha (lv.append lb) .non h⟩
            · exact h.elim
        · exact h.elim
  | _ => exact h.elim
theorem de_extend (ho : DE X W o f) (ha : DA X W (e :: es) (aList fs)) (hbase : attributeBase o "extend" X.env (eval o X.env) = eval o X.env := by rfl)
    (hfew : ((backTo cpos (starEach (e :: es) X.env)).all (fun x => !x.1) && (backToKw cpos (keywordEach [] X.env)).all (fun x => x.1.isSome)
      && decide ((e :: es).length + ([] : List Keyword).length + (if ([] : List Keyword).isEmpty then 0 else 1) < 30)) = true := by rfl)
    (hline : (apos.endLine == cpos.line) = true := by rfl) (hs : starEach (e :: es) X.env = (false, eval e X.env) :: starEach es X.env := by rfl) (hplain : (backTo cpos (starEach es X.env)).any (·.1) = false := by rfl) :
    DE X W (.Call (.Attribute o "extend" apos) (e :: es) [] cpos) (eMeth f fs mExtend) := de_meth PySem.F.slot_list_extend PySem.F.type_list_extend mt_extend extend_ok ho ha hbase hfew hline hs hplain
def mPop (x : D) (ds : List D) (S : Sto) : R D := match x, ds with
  | .ref n, [] => match S.get n with
    | some (.lst xs) => match xs[xs.length - 1]? with
      | some d => putL n xs.dropLast d S
      | none => .bad
    | _ => .bad
  | _, _ => .bad
theorem RepL.dropLast {K : PySem.W.Frag} {mg : Str → Option Value} {H : Hp} {φ : Ph} {ds : List D} {vs : List V} (r : RepL K mg H φ ds vs) : RepL K mg H φ ds.dropLast vs.dropLast := by
  rw [List.dropLast_eq_take, List.dropLast_eq_take, r.length]
  exact r.take _
theorem pop_ok : MtD X W rPop mPop := by
  intro bs σ H φ S d ds x vs Q s rd rl h
  cases rd with
  | @ref n a ha =>
    cases rl with
    | cons _ _ => exact h.elim
    | nil =>
      simp only [mPop] at h
      split at h
      · rename_i xs e
        obtain ⟨a', ev, _, ws, hv, lv⟩ := s.at (.ref ha) e
        cases ev
        split at h
        · rename_i y ey
          obtain ⟨v, hv2, rv⟩ := lv.get ey
          exact ⟨a, ws, v, rfl, rfl, hv, by rw [← lv.length]; exact hv2, putL_ok s ha lv.dropLast rv h⟩
        · exact h.elim
      · exact h.elim
  | _ => exact h.elim
theorem de_pop (ho : DE X W o f) (hbase : attributeBase o "pop" X.env (eval o X.env) = eval o X.env := by rfl) (hline : (apos.endLine == cpos.line) = true := by rfl) : DE X W (.Call (.Attribute o "pop" apos) [] [] cpos) (eMeth f [] mPop) :=
  de_meth0 PySem.F.slot_list_pop PySem.F.type_list_pop mt_pop pop_ok ho hbase hline
def mReverse (x : D) (ds : List D) (S : Sto) : R D := match x, ds with
  | .ref n, [] => match S.get n with
    | some (.lst xs) => putL n xs.reverse .non S
    | _ => .bad
  | _, _ => .bad
theorem reverse_ok : MtD X W rReverse mReverse := by
  intro bs σ H φ S d ds x vs Q s rd rl h
  cases rd with
  | @ref n a ha =>
    cases rl with
    | cons _ _ => exact h.elim
    | nil =>
      simp only [mReverse] at h
      split at h
      · rename_i xs e
        obtain ⟨a', ev, _, ws, hv, lv⟩ := s.at (.ref ha) e
        cases ev
        exact ⟨a, ws, rfl, rfl, hv, putL_ok s ha lv.reverse .non h⟩
      · exact h.elim
  | _ => exact h.elim
theorem de_reverse (ho : DE X W o f) (hbase : attributeBase o "reverse" X.env (eval o X.env) = eval o X.env := by rfl) (hline : (apos.endLine == cpos.line) = true := by rfl) : DE X W (.Call (.Attribute o "reverse" apos) [] [] cpos) (eMeth f [] mReverse) :=
  de_meth0 PySem.F.slot_list_reverse PySem.F.type_list_reverse mt_reverse reverse_ok ho hbase hline
def mInsert (x : D) (ds : List D) (S : Sto) : R D := match x, ds with
  | .ref n, [.int i, d] => match S.get n with
    | some (.lst xs) => if xs.length < sizeLine ∧ 0 ≤ i ∧ i < 2 ^ 63 then putL n (xs.take i.toNat ++ [d] ++ xs.drop i.toNat) .non S else .bad
    | _ => .bad
  | _, _ => .bad
theorem insert_ok : MtD X W (fun x vs H Q => ∃ (l : Addr) (xs : List V) (i : Int) (y : V), x = .ref l ∧ vs = [.int i, y] ∧ H l = some (.lst xs) ∧ xs.length < sizeLine ∧ 0 ≤ i ∧ i < 2 ^ 63 ∧
    Q .non (upd H l (.lst (xs.take i.toNat ++ [y] ++ xs.drop i.toNat)))) mInsert := by
  intro bs σ H φ S d ds x vs Q s rd rl h
  cases rd with
  | @ref n a ha =>
    cases rl with
    | nil => exact h.elim
    | cons r1 t =>
      cases t with
      | nil => cases r1 <;> exact h.elim
      | cons r2 t =>
        cases t with
        | cons _ _ => cases r1 <;> exact h.elim
        | nil =>
          cases r1 with
          | int i =>
            simp only [mInsert] at h
            split at h
            · rename_i xs e
              obtain ⟨hl, h⟩ := if_bad (P := fun r => Post X W bs σ H φ r Q) h fun z => z
              obtain ⟨a', ev, _, ws, hv, lv⟩ := s.at (.ref ha) e
              cases ev
              exact ⟨a, ws, i, _, rfl, rfl, hv, by rw [← lv.length]; exact hl.1, hl.2.1, hl.2.2, putL_ok s ha (((lv.take _).append (.cons r2 .nil)).append (lv.drop _)) .non h⟩
            · exact h.elim
          | _ => exact h.elim
  | _ => exact h.elim
theorem de_insert (ho : DE X W o f) (ha : DA X W (e :: es) (aList fs)) (hbase : attributeBase o "insert" X.env (eval o X.env) = eval o X.env := by rfl)
    (hfew : ((backTo cpos (starEach (e :: es) X.env)).all (fun x => !x.1) && (backToKw cpos (keywordEach [] X.env)).all (fun x => x.1.isSome)
      && decide ((e :: es).length + ([] : List Keyword).length + (if ([] : List Keyword).isEmpty then 0 else 1) < 30)) = true := by rfl)
    (hline : (apos.endLine == cpos.line) = true := by rfl) (hs : starEach (e :: es) X.env = (false, eval e X.env) :: starEach es X.env := by rfl) (hplain : (backTo cpos (starEach es X.env)).any (·.1) = false := by rfl) :
    DE X W (.Call (.Attribute o "insert" apos) (e :: es) [] cpos) (eMeth f fs mInsert) := de_meth PySem.F.slot_list_insert PySem.F.type_list_insert mt_insert insert_ok ho ha hbase hfew hline hs hplain
end
/-! ### the law -/
/-- what the law's own call must give -/
def spLaw (K : PySem.W.Frag) : Sp := fun vs H Q _ => ∃ (a : Addr) (ns : List Int), vs = [.ref a] ∧ SqL K H a (ns.map V.int) ∧ ns.length ≤ 63 ∧ Only H ∧ ∀ H', Q (.bl true) H'
def Sto.nil : Sto := ⟨[], []⟩
def scr (ns : List Int) : D := .frl (ns.map .int)
theorem repL_ints {K : PySem.W.Frag} {mg : Str → Option Value} {H : Hp} {φ : Ph} : ∀ ns : List Int, RepL K mg H φ (ns.map .int) (ns.map V.int)
  | [] => .nil
  | n :: ns => .cons (.int n) (repL_ints ns)
theorem law_ok {P : Program} {w : World} {K : PySem.W.Frag} {mg : Str → Option Value} {base : Heap} {k : Nat} {f : Addr} {fd : FuncData} {ps : List Str} {G : List D → Sto → R D} (F : FnOk P w K mg base (L2.CX P w) k f fd ps (spOf K mg 1 G))
    (hG : ∀ ns : List Int, ns.length ≤ 63 → ∃ S', G [scr ns] .nil = .ok (.bl true) S') : FnOk P w K mg base (L2.CX P w) k f fd ps (spLaw K) := F.imp fun vs H Q E h => by
  obtain ⟨a, ns, rfl, hS, hl, ho, q⟩ := h
  obtain ⟨S', e⟩ := hG ns hl
  refine ⟨rfl, ⟨[], []⟩, [0], [scr ns], .nil, ⟨rfl, List.nodup_nil, fun _ h => by simp at h, fun _ h => by simp at h, fun n a c h _ => by simp at h, rfl, fun b hb => ?_⟩, .cons (.frl (vs := ns.map V.int) ?_ (repL_ints ns)) .nil, ?_⟩
  · have e : b = 0 := by simpa using hb
    subst e
    exact ⟨Nat.le_refl _, fun n c hn _ => absurd hn (Nat.not_lt_zero _)⟩
  · rcases hS with (h | ⟨o, h⟩) | h
    · rcases ho a with h2 | ⟨o, xs, h2⟩
      · rw [h2] at h; cases h
      · rw [h2] at h; cases h
    · exact .inl ⟨o, h⟩
    · exact .inr h
  · rw [e]
    intro v H' φ' _ _ r
    cases r with
    | bl _ => exact q H'
end Mi

namespace Mi
open PySem PySem.Spec PyProof.Rows L2

/-! ### what the top has written -/
/-- the def st stands under its name -/
structure DefAt (K : PySem.W.Frag) (mg : Str → Option Value) (x qual : Str) (st : Stmt) (ps : List Str) : Prop where
  ex : ∃ (f : Addr) (fd : FuncData), mg x = some (.ref f) ∧ Fun K x qual st f fd ∧ Binds K fd ps []
section
variable {P : Program} {w : World} {K : PySem.W.Frag} {mg : Str → Option Value} {base : Heap} {x qual : Str} {st : Stmt} {N ps : List Str} {k : Nat} {B : SM}
theorem DefAt.okV (D : DefAt K mg x qual st ps) (Sc : FnScope N ps (defScope st)) (hb : BodyOk P w K mg base N qual st k B) : CallOk P w K mg base (k + 1) x ps.length [] (runV N.length B) := by
  obtain ⟨f, fd, h1, h2, h3⟩ := D.ex
  exact ⟨f, fd, ps, [], [], h1, h2.kp, h3, .nil, fun _ _ => .nil, Mi.okV h2 Sc hb⟩
theorem DefAt.okF (D : DefAt K mg x qual st ps) (Sc : FnScope N ps (defScope st)) (hb : BodyOk P w K mg base N qual st k B) : CallOk P w K mg base (k + 1) x ps.length [] (runF N.length B) := by
  obtain ⟨f, fd, h1, h2, h3⟩ := D.ex
  exact ⟨f, fd, ps, [], [], h1, h2.kp, h3, .nil, fun _ _ => .nil, Mi.okF h2 Sc hb⟩
theorem DefAt.okL (D : DefAt K mg x qual st ps) (Sc : FnScope N ps (defScope st)) (hb : BodyOk P w K mg base N qual st k B) : CallOk P w K mg base (k + 1) x ps.length [] (runL N.length B) := by
  obtain ⟨f, fd, h1, h2, h3⟩ := D.ex
  exact ⟨f, fd, ps, [], [], h1, h2.kp, h3, .nil, fun _ _ => .nil, Mi.okL h2 Sc hb⟩
def badF : List D → Sto → R D := fun _ _ => .bad
theorem DefAt.bad (D : DefAt K mg x qual st ps) (n : Nat) : CallOk P w K mg base k x n [] badF := by
  obtain ⟨f, fd, h1, h2, h3⟩ := D.ex
  refine ⟨f, fd, ps, [], [], h1, h2.kp, h3, .nil, fun _ _ => .nil, fun vs H Q E h => ?_, fun A outer s H args us vs Q E hr he hb hv h => ?_⟩
  · obtain ⟨_, _, _, _, _, _, _, h⟩ := h; exact h.elim
  · obtain ⟨_, _, _, _, _, _, _, h⟩ := h; exact h.elim
end
/-- the law itself: its address, its promise -/
theorem DefAt.law {l : PySem.W.OpenLaw} {w : World} {K : PySem.W.Frag} {mg : Str → Option Value} {base : Heap} {x qual : Str} {st : Stmt} {f : Addr} {fd : FuncData} {p : Str} {N : List Str} {k : Nat} {B : SM} (F : Fun K x qual st f fd) (Sc : FnScope N [p] (defScope st)) (hb : BodyOk l.prog w K mg base N qual st k B)
    (hG : ∀ ns : List Int, ns.length ≤ 63 → ∃ S', runV N.length B [scr ns] .nil = .ok (.bl true) S') : FnOk l.prog w K mg base (L2.CX l.prog w) (k + 1) f fd [p] (spLaw K) := law_ok (Mi.okV F Sc hb) hG
theorem defAt_mk {K : PySem.W.Frag} {mg : Str → Option Value} {h : Heap} {x qual : Str} {st : Stmt} {ps : List Str} {f : Addr} {oc : Value} {od an : Option Addr} {osl : Array (Option Value)} {kV doc pm cdv ct : Value} (X : K.In h) (G : h.Ns mainGlobals mg)
    (a : PySem.W.nsIn K mainGlobals x = some (some (.ref f))) (l : K.lookup f = some ⟨oc, od, .func (PySem.W.fnOf x qual (defArgs st) (defBody st) (defScope st) .none kV doc pm an cdv ct), osl⟩) (c : PySem.W.codeIn K cdv qual = true) (k : PySem.W.keepIn K (.ref f) = true)
    (hb : ∀ (kV doc pm : Value) (an : Option Addr) (cdv ct : Value) (us : List Value), us.length = ps.length → bindArgs (PySem.W.fnOf x qual (defArgs st) (defBody st) (defScope st) .none kV doc pm an cdv ct) ⟨us, []⟩ = pure (ps.zip us)) : DefAt K mg x qual st ps := by
  have F := fun_mk (st := st) l c k
  exact ⟨f, _, PySem.W.mg_of X G a, F, F.binds hb⟩
/-- constants of the module -/
theorem glob_str {K : PySem.W.Frag} {mg : Str → Option Value} {h : Heap} {x z : Str} {t : Tok} (X : K.In h) (G : h.Ns mainGlobals mg) (a : PySem.W.nsIn K mainGlobals x = some (some (.str z t))) {l : List Nat} (hl : z.cps.toList = l) (g : goodS l = true) : Glob K mg x (.str l) := by
  subst hl
  exact ⟨.str z, _, PySem.W.mg_of X G a, ⟨t, rfl⟩, fun _ _ => .strOf z g⟩
theorem glob_int {K : PySem.W.Frag} {mg : Str → Option Value} {h : Heap} {x : Str} {i : Int} {t : Tok} (X : K.In h) (G : h.Ns mainGlobals mg) (a : PySem.W.nsIn K mainGlobals x = some (some (.int i t))) : Glob K mg x (.int i) := ⟨.int i, _, PySem.W.mg_of X G a, ⟨t, rfl⟩, fun _ _ => .int i⟩
/-- what a written value means -/
inductive WrL (K : PySem.W.Frag) (mg : Str → Option Value) : List D → List Value → Prop
  | nil : WrL K mg [] []
  | cons {d : D} {u : Value} {v : V} {ds : List D} {us : List Value} (r : RelV v u) (q : ∀ H φ, Rep K mg H φ d v) (t : WrL K mg ds us) : WrL K mg (d :: ds) (u :: us)
theorem WrL.reps {K : PySem.W.Frag} {mg : Str → Option Value} : ∀ {ds : List D} {us : List Value}, WrL K mg ds us → ∃ vs, Vals vs us ∧ ∀ H φ, RepL K mg H φ ds vs
  | _, _, .nil => ⟨[], .nil, fun _ _ => .nil⟩
  | _, _, .cons r q t => by
    obtain ⟨vs, h1, h2⟩ := t.reps
    exact ⟨_ :: vs, .cons r h1, fun H φ => .cons (q H φ) (h2 H φ)⟩
theorem wr_str {K : PySem.W.Frag} {mg : Str → Option Value} {z : Str} {t : Tok} {l : List Nat} {ds : List D} {us : List Value} (hl : z.cps.toList = l) (g : goodS l = true) (r : WrL K mg ds us) : WrL K mg (.str l :: ds) (.str z t :: us) := by
  subst hl
  exact .cons (v := .str z) ⟨t, rfl⟩ (fun _ _ => .strOf z g) r
theorem wr_int {K : PySem.W.Frag} {mg : Str → Option Value} {i : Int} {t : Tok} {ds : List D} {us : List Value} (r : WrL K mg ds us) : WrL K mg (.int i :: ds) (.int i t :: us) := .cons (v := .int i) ⟨t, rfl⟩ (fun _ _ => .int i) r
theorem glob_tup {K : PySem.W.Frag} {mg : Str → Option Value} {h : Heap} {x : Str} {a : Addr} {od : Option Addr} {its : Array Value} {n : Nat} {sl : Array (Option Value)} {ds : List D} (X : K.In h) (G : h.Ns mainGlobals mg) (e : PySem.W.nsIn K mainGlobals x = some (some (.ref a)))
    (l : K.lookup a = some ⟨.type "tuple", od, .seq its n, sl⟩) (hs : its.size ≤ sizeLine) (r : WrL K mg ds its.toList) : Glob K mg x (.tup ds) := by
  obtain ⟨vs, h1, h2⟩ := r.reps
  exact ⟨.ref a, _, PySem.W.mg_of X G e, rfl, fun H φ => .tup (.inr ⟨_, its, n, l, rfl, rfl, hs, h1⟩) (h2 H φ)⟩
/-! ### written dicts -/
/-- the module's dict x, its texts' keys -/
structure KdAt (K : PySem.W.Frag) (mg : Str → Option Value) (w : World) (x : Str) (kvs : List (List Nat × D)) : Prop where
  ex : ∃ (d : Addr) (es : Array DictEntry) (n : Nat), mg x = some (.ref d) ∧ KDict K w d es n ∧ ∀ p ∈ kvs, ∃ u v, PySem.W.nsIn K d ⟨p.1.toArray⟩ = some (some u) ∧ RelV v u ∧ ∀ H φ, Rep K mg H φ p.2 v
def kdG (kvs : List (List Nat × D)) : D → Option D
  | .str s => (kvs.find? fun p => decide (p.1 = s)).map (·.2)
  | _ => none
/-- X[e], X a dict of the module -/
def eKd (kvs : List (List Nat × D)) (f : EM) : EM := fun ρ S => (f ρ S).bind fun d S1 => .of S1 (kdG kvs d)
section
variable {X : Cx} {W : WX} {e : Expr} {f : EM} {pos p : Pos} {x : Str} {kvs : List (List Nat × D)}
theorem ix_kd {d : Addr} {es : Array DictEntry} {n : Nat} (Dk : KDict X.K X.w d es n) : IxR X (fun x y H Q => ∃ (z : Str) (u0 : Value) (v0 : V), x = .ref d ∧ y = .str z ∧ PySem.W.nsIn X.K d z = some (some u0) ∧ RelV v0 u0 ∧ Q v0 H) := by
  intro value slice pins s σ H x y v u Q I rx ry h hs
  obtain ⟨z, u0, v0, rfl, rfl, h1, h2, q⟩ := h
  have hT := kd_type Dk I
  cases rx
  unfold subscriptTail
  refine wpAny_bind (by
    rw [getitemInPython_of_ne hT.not_modules]
    refine wpAny_bind (wpAny_specialOf hT PySem.F.slot_dict_getitem.lookup ?_)
    have fin : wpAny (model X.prog X.w) X.A (subscripted slice false (.ref d) u) (fun r s3 => wpAny (model X.prog X.w) X.A (letTemporaryGo value (.ref d) r >>= fun _ => pure r) (EP X pins σ Q) X.xe s3) X.xe s := by
      rw [hs]
      exact wpAny_operating (thn (op_item_kd Dk pins s σ H (.ref d) (.str z) _ u _ I rfl ry ⟨z, u0, v0, rfl, rfl, h1, h2, q⟩) fun r s3 hr => wpAny_bind (wpAny_letTemporaryGo (wpAny_pure hr)))
    first
      | exact wpAny_pure (wpAny_bind fin)
      | exact wpAny_bind (wpAny_pure (wpAny_bind fin))
      | exact wpAny_bind fin)
theorem de_kd (T : KdAt X.K X.mg X.w x kvs) (he : DE X W e f) (hg : Gl X x := by rfl) (hd : (x == ("__debug__" : Str)) = false := by decide) (hs : PlainIx e := by exact fun _ _ => rfl) : DE X W (.Subscript (.Name x p) e pos) (eKd kvs f) := by
  obtain ⟨d, es, n, hm, hk, hall⟩ := T.ex
  refine (pe_ix (ix_kd hk) (pe_glob (v := .ref d) hg hm rfl hd) he hs).wk fun σ H Q h => ?_
  obtain ⟨φ, bs, ρ, S, s, en, h⟩ := h
  show tG X W Rep f σ H _
  refine tG_then s en h fun d1 S1 v H1 φ1 x1 s1 e1 r1 h1 => ?_
  obtain ⟨d2, e2, h2⟩ := of_post h1
  cases r1 with
  | str z g =>
    simp only [kdG] at e2
    cases q : kvs.find? fun p => decide (p.1 = z) with
    | none => rw [q] at e2; cases e2
    | some p =>
      rw [q] at e2
      cases e2
      have hp := List.mem_of_find?_eq_some q
      have hz : p.1 = z := by simpa using List.find?_some q
      obtain ⟨u, v, g1, g2, g3⟩ := hall p hp
      subst hz
      exact ⟨_, u, v, rfl, rfl, g1, g2, PostG.done s1 (g3 _ _) h2⟩
  | _ => cases e2
end
/-! ### small ones -/
section
variable {X : Cx} {W : WX} {a b : Expr} {f g : EM} {pos : Pos}
theorem de_strL {x : Str} {l : List Nat} {j pos} (hl : x.cps.toList = l := by decide +kernel) (g : goodS l = true := by decide +kernel) : DE X W (.Constant (.str x) j pos) (eC (.str l)) := by
  subst hl
  exact de_str g
def dNeg (d : D) (S : Sto) : R D := match d with
  | .int i => .ok (.int (-i)) S
  | _ => .bad
theorem de_neg (ha : DE X W a f) : DE X W (.UnaryOp .USub a pos) (eUn f dNeg) := (pe_un un_neg ha).wk fun σ H Q h => by
  obtain ⟨φ, bs, ρ, S, s, en, h⟩ := h
  refine tG_then s en h fun d S1 v H1 φ1 x1 s1 e1 r1 h1 => ?_
  cases r1 with
  | int i => exact ⟨i, rfl, PostG.done s1 (.int _) h1⟩
  | _ => exact h1.elim
/-- a * b of ints -/
abbrev dMul := dI CMul fun i j => i * j
theorem de_mul (ha : DE X W a f) (hb : DE X W b g) : DE X W (.BinOp a .Mult b pos) (eBin f g dMul) := de_bin op_mul dI_ok ha hb
end
end Mi

/-! Mi13: own classes: attributes, methods, instances. -/
namespace Mi
open PySem PySem.Spec PyProof.Rows L2

def insS (S : Sto) : D → Option (Str × List (Str × D))
  | .obj c fs => some (c, fs)
  | .ref n => match S.get n with
    | some (.ins c fs) => some (c, fs)
    | _ => none
  | _ => none
section
variable {K : PySem.W.Frag} {mg : Str → Option Value} {H : Hp} {φ : Ph} {bs : List Nat} {S : Sto}
theorem Sim.ins (s : Sim K mg H φ bs S) {d : D} {v : V} {c : Str} {fs : List (Str × D)} (r : Rep K mg H φ d v) (e : insS S d = some (c, fs)) :
    ∃ a C dx vs, v = .ref a ∧ mg c = some (.ref C) ∧ H a = some (.ins C dx vs) ∧ RepF K mg H φ fs vs := by
  cases r with
  | obj h1 h2 _ h3 => cases e; exact ⟨_, _, _, _, rfl, h1, h2, h3⟩
  | @ref n a h =>
    unfold insS at e
    cases q : S.get n with
    | none => simp only [q] at e; cases e
    | some cl =>
      cases cl with
      | ins c' fs' =>
        simp only [q] at e
        cases e
        obtain ⟨a', e', _, C, dx, vs, h1, h2, h3⟩ := s.at (.ref h) q
        cases e'
        exact ⟨_, _, _, _, rfl, h1, h2, h3⟩
      | lst _ => simp only [q] at e; cases e
      | dic _ => simp only [q] at e; cases e
  | _ => cases e
theorem RepF.look {f : Str} : ∀ {fs : List (Str × D)} {vs : List (Str × V)}, RepF K mg H φ fs vs → (∀ d, fs.lookup f = some d → ∃ v, vs.lookup f = some v ∧ Rep K mg H φ d v) ∧ (fs.lookup f = none → vs.lookup f = none)
  | _, _, .nil => ⟨fun _ h => (by cases h), fun _ => rfl⟩
  | (k, d) :: ds, (_, v) :: vs, .cons r t => by
    have ih := RepF.look (f := f) t
    simp only [List.lookup_cons]
    cases q : f == k with
    | true => exact ⟨fun d e => (by cases e; exact ⟨_, rfl, r⟩), fun e => (by cases e)⟩
    | false => exact ih
def putA (f : Str) (d : D) : List (Str × D) → List (Str × D)
  | [] => [(f, d)]
  | (g, x) :: r => if g = f then (g, d) :: r else (g, x) :: putA f d r
theorem RepF.length : ∀ {fs : List (Str × D)} {vs : List (Str × V)}, RepF K mg H φ fs vs → fs.length = vs.length
  | _, _, .nil => rfl
  | _, _, .cons _ t => congrArg Nat.succ t.length
theorem RepF.put {f : Str} {d : D} {v : V} (r : Rep K mg H φ d v) : ∀ {fs : List (Str × D)} {vs : List (Str × V)}, RepF K mg H φ fs vs → RepF K mg H φ (putA f d fs) (putF f v vs)
  | _, _, .nil => .cons r .nil
  | (k, d') :: ds, (_, v') :: vs, .cons q t => by
    unfold putA putF
    by_cases h : k = f
    · rw [if_pos h, if_pos h]; exact .cons r t
    · rw [if_neg h, if_neg h]; exact .cons q (t.put r)
end
/-- the instances' attributes may be asked for f -/
structure FldAt (K : PySem.W.Frag) (mg : Str → Option Value) (cs : List Str) (f : Str) : Prop where
  ex : ∀ c ∈ cs, ∃ C, mg c = some (.ref C) ∧ Cls K C ∧ NoAttr K C f
/-- the method m of the class c, given n arguments beside the instance, means G -/
structure MtOk (P : Program) (w : World) (K : PySem.W.Frag) (mg : Str → Option Value) (base : Heap) (k : Nat) (c m : Str) (n : Nat) (dds : List D) (G : List D → Sto → R D) : Prop where
  ex : ∃ (C f : Addr) (fd : FuncData) (ps : List Str) (dvs : List V) (ds : List Value), mg c = some (.ref C) ∧ Cls K C ∧ Meth K C m f ∧ Binds K fd ps ds ∧ Vals dvs ds ∧ (∀ H φ, RepL K mg H φ dds dvs) ∧
    FnOk P w K mg base (L2.CX P w) k f fd ps (spOf K mg (n + 1 + dds.length) G)
/-- the class c, called with n arguments: G is its __init__ -/
structure NewOk (P : Program) (w : World) (K : PySem.W.Frag) (mg : Str → Option Value) (base : Heap) (k : Nat) (c : Str) (n : Nat) (dds : List D) (G : List D → Sto → R D) : Prop where
  ex : ∃ (C f : Addr) (fd : FuncData) (ps : List Str) (dvs : List V) (ds : List Value), mg c = some (.ref C) ∧ Mk K C f ∧ Binds K fd ps ds ∧ Vals dvs ds ∧ (∀ H φ, RepL K mg H φ dds dvs) ∧
    FnOk P w K mg base (L2.CX P w) k f fd ps (spOf K mg (n + 1 + dds.length) G)
/-- o.f -/
def eFld (cs : List Str) (g : EM) (f : Str) : EM := fun ρ S => (g ρ S).bind fun d S1 => match insS S1 d with
  | some (c, fs) => if c ∈ cs then .of S1 (fs.lookup f) else .bad
  | none => .bad
/-- o.m(..) of an instance of the class c -/
def eMc (c m : Str) (g : EM) (fs : List EM) (dds : List D) (G : List D → Sto → R D) : EM := fun ρ S => (g ρ S).bind fun d S1 => match insS S1 d with
  | some (c', as) => if c' = c ∧ as.lookup m = none then (aList fs ρ S1).bind fun ds S2 => G (d :: ds ++ dds) S2 else .bad
  | none => .bad
/-- C(..) -/
def eNew (c : Str) (fs : List EM) (dds : List D) (G : List D → Sto → R D) : EM := fun ρ S => (aList fs ρ S).bind fun ds S1 => (G (.ref S1.new :: ds ++ dds) (S1.add (.ins c []))).bind fun d S2 => match d with
  | .non => .ok (.ref S1.new) S2
  | _ => .bad
/-- o.f = v -/
def setA (cs : List Str) (S : Sto) (o : D) (f : Str) (v : D) : Option Sto := match o with
  | .ref n => match S.get n with
    | some (.ins c fs) => if c ∈ cs ∧ fs.length < 1000 ∧ S.may n (.ins c (putA f v fs)) = true then some (S.set n (.ins c (putA f v fs))) else none
    | _ => none
  | _ => none
def sSetA (cs : List Str) (fo : EM) (f : Str) (fv : EM) : SM := fun ρ S => (fv ρ S).bindS ρ fun v S1 => (fo ρ S1).bindS ρ fun o S2 => match setA cs S2 o f v with
  | some S3 => .nx ρ S3
  | none => .bad
section
variable {X : Cx} {W : WX} {e : Expr} {es : List Expr} {g : EM} {fs : List EM} {pos p apos : Pos} {k j : Nat} {x c m f : Str} {G : List D → Sto → R D} {cs : List Str} {dds : List D}
theorem de_fld (F : FldAt X.K X.mg cs f) (he : DE X W e g) (hb : attributeBase e f X.env (eval e X.env) = eval e X.env := by rfl) : DE X W (.Attribute e f pos) (eFld cs g f) := by
  refine (pe_fld he hb).wk fun σ H Q h => ?_
  obtain ⟨φ, bs, ρ, S, s, en, h⟩ := h
  unfold tFld
  refine tG_then s en h fun d S1 v H1 φ1 x1 s1 e1 r1 h1 => ?_
  cases q : insS S1 d with
  | none => rw [q] at h1; exact h1.elim
  | some cf =>
    obtain ⟨c, as⟩ := cf
    rw [q] at h1
    dsimp only at h1
    by_cases hc : c ∈ cs
    · rw [if_pos hc] at h1
      obtain ⟨a, C, dx, vs, ev, hm, hH, rf⟩ := s1.ins r1 q
      obtain ⟨C', hm', k1, k2⟩ := F.ex c hc
      rw [hm] at hm'
      cases hm'
      obtain ⟨u, eu, h2⟩ := of_post h1
      obtain ⟨w, ew, rw'⟩ := rf.look.1 u eu
      exact ⟨a, C, dx, vs, w, ev, hH, k1, k2, ew, PostG.done s1 rw' h2⟩
    · rw [if_neg hc] at h1; exact h1.elim
theorem ds_setA {eo ev : Expr} {fo fv : EM} {pos' : Pos} (F : FldAt X.K X.mg cs f) (ho : DE X W eo fo) (hv : DE X W ev fv) (hs : swapsWith ev (some (.Attribute eo f pos')) pos.line X.env = pure false := by rfl) :
    DS X W (.Assign [.Attribute eo f pos'] ev pos) (sSetA cs fo f fv) := by
  refine (ps_fld ho hv hs).wk fun D σ H h => ?_
  obtain ⟨φ, bs, ρ, S, s, en, h⟩ := h
  unfold sFld
  refine tG_thenS s en h fun v S1 y H1 φ1 x1 s1 e1 r1 h1 => ?_
  refine tG_thenS s1 e1 h1 fun o S2 ov H2 φ2 x2 s2 e2 r2 h2 => ?_
  have rv := r1.ext x2 s1.cells
  cases r2 with
  | @ref n a ha =>
    unfold setA at h2
    dsimp only at h2
    cases q : S2.get n with
    | none => rw [q] at h2; exact h2.elim
    | some cl =>
      rw [q] at h2
      cases cl with
      | ins c as =>
        dsimp only at h2
        by_cases hc : c ∈ cs ∧ as.length < 1000 ∧ S2.may n (.ins c (putA f v as)) = true
        · rw [if_pos hc] at h2
          obtain ⟨a', e', _, C, dx, vs, g1, g2, g3⟩ := s2.at (.ref ha) q
          cases e'
          obtain ⟨C', hm', k1, k2⟩ := F.ex c hc.1
          rw [g1] at hm'
          cases hm'
          refine ⟨a, C, dx, vs, rfl, g2, k1, k2, by rw [← g3.length]; exact hc.2.1, ?_⟩
          have xx : Ext H2 φ2 (upd H2 a (.ins C dx (putF f y vs))) φ2 := Ext.wr s2 ha
          exact h2 _ _ _ xx (s2.wr ha hc.2.2 ⟨C, dx, _, g1, upd_same, (g3.put rv).ext xx s2.cells⟩) (e2.ext xx s2.cells)
        · rw [if_neg hc] at h2; exact h2.elim
      | lst _ => exact h2.elim
      | dic _ => exact h2.elim
  | _ => exact h2.elim
/-! ### methods -/
section
variable {pl : Sem Bool} {eo y : Expr} {ys : List Expr} {ta : TE} {t : TA} {C fa : Addr} {fd : FuncData} {ps : List Str} {sp : Sp} {dvs : List V} {ds : List Value} {E : L2.St → XK}
theorem pe_mtSD (he : PE X eo ta) (c : Cls X.K C) (hm : Meth X.K C m fa)
    (F : FnOk X.prog X.w X.K X.mg X.base (L2.CX X.prog X.w) k fa fd ps sp) (hr : Room k X.A) (hb : Binds X.K fd ps ds) (hd : Vals dvs ds) (hx : ∀ σ, PassesAt (L2.CX X.prog X.w) X σ (E σ)) (ha : PA X (y :: ys) t)
    (z1 : starEach (y :: ys) X.env = (false, eval y X.env) :: starEach ys X.env) (z2 : (backTo pos (starEach ys X.env)).any (·.1) = false)
    (ht : eval (.Call (.Attribute eo m apos) (y :: ys) [] pos) X.env = (do
      let ov ← eval eo X.env
      standAt apos.atName
      let (f, first) ← holding [ov] (getMethod ov m pl)
      callWith pos f first (backTo pos (starEach (y :: ys) X.env)) (backToKw pos (keywordEach [] X.env)))) :
    PE X (.Call (.Attribute eo m apos) (y :: ys) [] pos) (fun σ H Q => ta σ H fun x H1 => ∃ a dx fs, x = .ref a ∧ H1 a = some (.ins C dx fs) ∧ fs.lookup m = none ∧ t σ H1 fun vs H2 => sp (x :: (vs ++ dvs)) H2 Q (E σ)) := by
  refine ⟨fun pins s σ H Q I h => PySem.W.methodCall_KW (pl := pl) (thn (he.run pins s σ H _ I h) fun u s1 hh => ?_) ht⟩
  obtain ⟨x, H1, I1, rx, a, dx, fs, ex, ea, l, q⟩ := hh
  subst ex
  have eu : u = Value.ref a := rx
  subst eu
  refine getmeth_ok I1 ea c hm l ?_
  refine PySem.W.callWith_K (first := [Value.ref a]) (h₀ := X.base) I1.ok.mod.kin hm.kp (thn (ha.run pos pins s1 σ H1 _ I1 q) fun us s2 hh => ?_) z1 z2
  obtain ⟨vs, H2, I2, r, q2⟩ := hh
  exact ⟨I2.kIn, run_fnSD (us := Value.ref a :: us) (vs := V.ref a :: vs) F hr hb hd (hx σ) I2 (.cons rfl r) q2⟩
theorem pe_mtSD0 (he : PE X eo ta) (c : Cls X.K C) (hm : Meth X.K C m fa)
    (F : FnOk X.prog X.w X.K X.mg X.base (L2.CX X.prog X.w) k fa fd ps sp) (hr : Room k X.A) (hb : Binds X.K fd ps ds) (hd : Vals dvs ds) (hx : ∀ σ, PassesAt (L2.CX X.prog X.w) X σ (E σ))
    (ht : eval (.Call (.Attribute eo m apos) [] [] pos) X.env = (do
      let ov ← eval eo X.env
      standAt apos.atName
      let (f, first) ← holding [ov] (getMethod ov m pl)
      callWith pos f first (backTo pos (starEach [] X.env)) (backToKw pos (keywordEach [] X.env)))) :
    PE X (.Call (.Attribute eo m apos) [] [] pos) (fun σ H Q => ta σ H fun x H1 => ∃ a dx fs, x = .ref a ∧ H1 a = some (.ins C dx fs) ∧ fs.lookup m = none ∧ sp (x :: dvs) H1 Q (E σ)) := by
  refine ⟨fun pins s σ H Q I h => PySem.W.methodCall_KW (pl := pl) (thn (he.run pins s σ H _ I h) fun u s1 hh => ?_) ht⟩
  obtain ⟨x, H1, I1, rx, a, dx, fs, ex, ea, l, q⟩ := hh
  subst ex
  have eu : u = Value.ref a := rx
  subst eu
  refine getmeth_ok I1 ea c hm l ?_
  exact PySem.W.callWith_K0 (first := [Value.ref a]) I1.kIn hm.kp (run_fnSD (us := [Value.ref a]) (vs := [V.ref a]) F hr hb hd (hx σ) I1 (.cons rfl .nil) q)
theorem run_mkSD {pins : List (Addr × Obj)} {σ : L2.St} {H : Hp} {s : Shared} {Q : VK} {us : List Value} {vs : List V} (M : Mk X.K C fa) (F : FnOk X.prog X.w X.K X.mg X.base (L2.CX X.prog X.w) k fa fd ps sp) (hr : Room (k + 1) X.A)
    (hb : Binds X.K fd ps ds) (hd : Vals dvs ds) (hx : PassesAt (L2.CX X.prog X.w) X σ (E σ)) (I : Inv X pins σ H s) (r : Vals vs us)
    (h : ∀ x dx, H x = none → H dx = none → dx ≠ x → sp (.ref x :: (vs ++ dvs)) (upd (upd H dx (.own x)) x (.ins C dx [])) (fun v H2 => v = .non ∧ Q (.ref x) H2) (E σ)) :
    wpAny (model X.prog X.w) X.A (call (.ref C) us) (EP X pins σ Q) X.xe s := by
  generalize hn : s.heap.objs.size = n at *
  have big : n ≤ n + 1 := Nat.le_succ n
  have hq := h (n + 1) n (I.hok.fresh (by omega)) (I.hok.fresh (by omega)) (Nat.ne_of_lt (Nat.lt_succ_self n))
  have I2 := Inv.made (C := C) I
  rw [hn] at I2
  have r2 : Vals (V.ref (n + 1) :: (vs ++ dvs)) (Value.ref (n + 1) :: (us ++ ds)) := .cons rfl (r.append hd)
  have hl : (Value.ref (n + 1) :: us ++ ds).length = ps.length := r2.length.symm.trans (F.len _ _ _ _ hq)
  have run := F.run _ X.stack _ _ ⟨Value.ref (n + 1) :: us, []⟩ (Value.ref (n + 1) :: (us ++ ds)) _ _ (E σ) (hr.make C us []) (I2.env0.make C us []) (hb _ (Value.ref (n + 1) :: us) I2.kIn hl) r2 hq
  refine wpAny_call (make_map (f := fa) I.kIn M.makes M.init (beq_iff_eq.mp M.fn) (codeAny_mono (by rw [hn]; exact run) fun r s' hq' => ?_))
  cases r with
  | error e => exact hx pins _ _ e s' I2 hq'
  | ok fl =>
    cases fl with
    | ret u =>
      obtain ⟨v, H', I3, rv, ev, q3⟩ := I2.after hq'
      subst ev
      exact ⟨rv, ⟨V.ref (n + 1), H', I3, by rw [hn]; rfl, q3⟩⟩
    | _ => exact False.elim hq'
theorem pe_mkSD (M : Mk X.K C fa) (F : FnOk X.prog X.w X.K X.mg X.base (L2.CX X.prog X.w) k fa fd ps sp) (hr : Room (k + 1) X.A) (hg : Gl X x) (hm : X.mg x = some (.ref C)) (hb : Binds X.K fd ps ds) (hd : Vals dvs ds)
    (hx : ∀ σ, PassesAt (L2.CX X.prog X.w) X σ (E σ)) (ha : PA X (y :: ys) t) (hdb : (x == ("__debug__" : Str)) = false) (z1 : starEach (y :: ys) X.env = (false, eval y X.env) :: starEach ys X.env) (z2 : (backTo pos (starEach ys X.env)).any (·.1) = false) :
    PE X (.Call (.Name x p) (y :: ys) [] pos) (fun σ H Q => t σ H fun vs H1 => ∀ a dx, H1 a = none → H1 dx = none → dx ≠ a → sp (.ref a :: (vs ++ dvs)) (upd (upd H1 dx (.own a)) a (.ins C dx [])) (fun v H2 => v = .non ∧ Q (.ref a) H2) (E σ)) := by
  refine ⟨fun pins s σ H Q I h => wpAny_Call_Name_kw (ld_glob I hg hm ?_ hdb)⟩
  refine PySem.W.callWith_K (h₀ := X.base) I.ok.mod.kin M.kp (thn (ha.run pos pins s σ H _ I h) fun us s1 hh => ?_) z1 z2
  obtain ⟨vs, H1, I1, r, q⟩ := hh
  exact ⟨I1.kIn, run_mkSD M F hr hb hd (hx σ) I1 r q⟩
end
theorem Sim.own {K : PySem.W.Frag} {mg : Str → Option Value} {H : Hp} {φ : Ph} {bs : List Nat} {S : Sto} {a dx C : Addr} {c : Str} (s : Sim K mg H φ bs S) (ha : H a = none) (hd : H dx = none) (hn : dx ≠ a) (hm : mg c = some (.ref C)) :
    Ext H φ (upd (upd H dx (.own a)) a (.ins C dx [])) (φ.add a) ∧ Sim K mg (upd (upd H dx (.own a)) a (.ins C dx [])) (φ.add a) bs (S.add (.ins c [])) := by
  have x1 : Ext H φ (upd H dx (.own a)) φ := Ext.new s hd
  have s1 : Sim K mg (upd H dx (.own a)) φ bs S := s.new hd
  have ha' : upd H dx (.own a) a = none := by rw [upd_ne (fun e => hn e.symm)]; exact ha
  refine ⟨x1.trans (Ext.newCell s1 ha'), s1.newCell ha' ⟨C, dx, [], hm, upd_same, .nil⟩⟩
theorem de_mt {eo y : Expr} {ys : List Expr} {pl : Sem Bool} (C : Cz X W k) (F : MtOk X.prog X.w X.K X.mg X.base j c m fs.length dds G) (hj : j ≤ k) (ho : DE X W eo g) (ha : DA X W (y :: ys) (aList fs))
    (z1 : starEach (y :: ys) X.env = (false, eval y X.env) :: starEach ys X.env := by rfl) (z2 : (backTo pos (starEach ys X.env)).any (·.1) = false := by rfl)
    (ht : eval (.Call (.Attribute eo m apos) (y :: ys) [] pos) X.env = (do
      let ov ← eval eo X.env
      standAt apos.atName
      let (f, first) ← holding [ov] (getMethod ov m pl)
      callWith pos f first (backTo pos (starEach (y :: ys) X.env)) (backToKw pos (keywordEach [] X.env))) := by rfl) :
    DE X W (.Call (.Attribute eo m apos) (y :: ys) [] pos) (eMc c m g fs dds G) := by
  obtain ⟨Ca, f, fd, ps, dvs, dus, hm, c1, c2, hb, hv, hd, F⟩ := F.ex
  refine (pe_mtSD (E := fun σ => WE W σ) ho c1 c2 (F.mono hj) C.hr hb hv (fun σ => passAt C.tk σ) ha z1 z2 ht).wk fun σ H Q h => ?_
  obtain ⟨φ, bs, ρ, S, s, en, h⟩ := h
  refine tG_then s en h fun d S1 v H1 φ1 x1 s1 e1 r1 h1 => ?_
  cases q : insS S1 d with
  | none => rw [q] at h1; exact h1.elim
  | some cf =>
    obtain ⟨c', as⟩ := cf
    rw [q] at h1
    dsimp only at h1
    by_cases hc : c' = c ∧ as.lookup m = none
    · rw [if_pos hc] at h1
      obtain ⟨hc1, hc2⟩ := hc
      subst hc1
      obtain ⟨a, C', dx, vs, ev, hm', hH, rf⟩ := s1.ins r1 q
      rw [hm] at hm'
      cases hm'
      refine ⟨a, dx, vs, ev, hH, rf.look.2 hc2, ?_⟩
      refine ⟨φ1, bs, ρ, S1, s1, e1, ?_⟩
      have hl : ∀ ds S', aList fs ρ S1 = .ok ds S' → ds.length = fs.length := fun _ _ q => aList_len q
      revert h1 hl
      cases aList fs ρ S1 with
      | ok ds S2 =>
        intro h1 hl vs2 H2 φ2 x2 s2 r2
        refine ⟨?_, φ2, bs, d :: ds ++ dds, S2, s2, .cons (r1.ext x2 s1.cells) (r2.append (hd _ _)), PostG.chg (PostG.shift x2 h1) fun _ _ _ z => z⟩
        rw [List.length_cons, List.length_append, ← r2.length, ← (hd H φ).length, hl _ _ rfl]
        omega
      | ex e S2 => exact fun h1 _ => h1
      | bad => exact fun h1 _ => h1
    · rw [if_neg hc] at h1; exact h1.elim
theorem de_mt0 {eo : Expr} {pl : Sem Bool} (C : Cz X W k) (F : MtOk X.prog X.w X.K X.mg X.base j c m 0 dds G) (hj : j ≤ k) (ho : DE X W eo g)
    (ht : eval (.Call (.Attribute eo m apos) [] [] pos) X.env = (do
      let ov ← eval eo X.env
      standAt apos.atName
      let (f, first) ← holding [ov] (getMethod ov m pl)
      callWith pos f first (backTo pos (starEach [] X.env)) (backToKw pos (keywordEach [] X.env))) := by rfl) :
    DE X W (.Call (.Attribute eo m apos) [] [] pos) (eMc c m g [] dds G) := by
  obtain ⟨Ca, f, fd, ps, dvs, dus, hm, c1, c2, hb, hv, hd, F⟩ := F.ex
  refine (pe_mtSD0 (E := fun σ => WE W σ) ho c1 c2 (F.mono hj) C.hr hb hv (fun σ => passAt C.tk σ) ht).wk fun σ H Q h => ?_
  obtain ⟨φ, bs, ρ, S, s, en, h⟩ := h
  refine tG_then s en h fun d S1 v H1 φ1 x1 s1 e1 r1 h1 => ?_
  cases q : insS S1 d with
  | none => rw [q] at h1; exact h1.elim
  | some cf =>
    obtain ⟨c', as⟩ := cf
    rw [q] at h1
    dsimp only at h1
    by_cases hc : c' = c ∧ as.lookup m = none
    · rw [if_pos hc] at h1
      obtain ⟨hc1, hc2⟩ := hc
      subst hc1
      obtain ⟨a, C', dx, vs, ev, hm', hH, rf⟩ := s1.ins r1 q
      rw [hm] at hm'
      cases hm'
      refine ⟨a, dx, vs, ev, hH, rf.look.2 hc2, ?_, φ1, bs, d :: dds, S1, s1, .cons r1 (hd _ _), PostG.chg h1 fun _ _ _ z => z⟩
      rw [List.length_cons, ← (hd H φ).length]
      omega
    · rw [if_neg hc] at h1; exact h1.elim
theorem de_new {y : Expr} {ys : List Expr} (C : Cz X W k) (F : NewOk X.prog X.w X.K X.mg X.base j x fs.length dds G) (hj : j + 1 ≤ k) (ha : DA X W (y :: ys) (aList fs)) (hg : Gl X x := by rfl) (hdb : (x == ("__debug__" : Str)) = false := by decide)
    (z1 : starEach (y :: ys) X.env = (false, eval y X.env) :: starEach ys X.env := by rfl) (z2 : (backTo pos (starEach ys X.env)).any (·.1) = false := by rfl) :
    DE X W (.Call (.Name x p) (y :: ys) [] pos) (eNew x fs dds G) := by
  obtain ⟨Ca, f, fd, ps, dvs, dus, hm, c1, hb, hv, hd, F⟩ := F.ex
  refine (pe_mkSD (E := fun σ => WE W σ) c1 F (C.hr.mono hj) hg hm hb hv (fun σ => passAt C.tk σ) ha hdb z1 z2).wk fun σ H Q h => tApp h fun bs H1 φ S ds vs s r hl h => ?_
  intro a dx na nd nn
  obtain ⟨xx, ss⟩ := s.own na nd nn hm
  have ra : Rep X.K X.mg (upd (upd H1 dx (.own a)) a (.ins Ca dx [])) (φ.add a) (.ref S.new) (.ref a) := .ref (by
    show (φ.c ++ [a])[S.new]? = some a
    rw [Sto.new_all, ← s.len, List.getElem?_append_right (Nat.le_refl _)]
    simp)
  refine ⟨?_, φ.add a, bs, .ref S.new :: ds ++ dds, S.add (.ins x []), ss, .cons ra ((r.ext xx s.cells).append (hd _ _)), ?_⟩
  · rw [List.length_cons, List.length_append, ← r.length, ← (hd H φ).length, hl]
    omega
  · have h2 := PostG.shift xx h
    revert h2
    cases G (.ref S.new :: ds ++ dds) (S.add (.ins x [])) with
    | ok d S2 =>
      intro h2 v H2 φ2 x2 s2 r2
      cases d with
      | non =>
        cases r2
        exact ⟨rfl, h2 _ _ _ x2 s2 (ra.ext x2 ss.cells)⟩
      | _ => exact h2.elim
    | ex e S2 => exact fun h2 c dx H2 φ2 x2 s2 r2 => h2 c dx H2 φ2 x2 s2 r2
    | bad => exact fun h2 => h2
end
end Mi

/-! Mi14: more built-in functions. -/
namespace Mi
open PySem PySem.Spec PyProof.Rows L2
def decS (i : Int) : Str := (toString i : String)
def strG (_ : Sto) : D → Option D
  | .int i => if i.natAbs.log2 < 1920 ∧ goodS (decS i).cps.toList = true then some (.str (decS i).cps.toList) else none
  | _ => none
def b2 (g : Sto → D → D → Option D) (ds : List D) (S : Sto) : R D := match ds with
  | [d, e] => .of S (g S d e)
  | _ => .bad
def intsD : List D → Option (List Int)
  | [] => some []
  | .int i :: r => (intsD r).map (i :: ·)
  | _ :: _ => none
def blsD : List D → Option (List Bool)
  | [] => some []
  | .bl i :: r => (blsD r).map (i :: ·)
  | _ :: _ => none
def max2G (_ : Sto) : D → D → Option D
  | .int i, .int j => some (.int (if j > i then j else i))
  | _, _ => none
def min2G (_ : Sto) : D → D → Option D
  | .int i, .int j => some (.int (if j < i then j else i))
  | _, _ => none
def sumG (S : Sto) (d : D) : Option D := match lstS S d with
  | some xs => match intsD xs with
    | some ns => some (.int ns.sum)
    | none => none
  | none => none
def maxL : List Int → Option Int
  | [] => none
  | i :: r => some (r.foldl (fun a b => if a < b then b else a) i)
def minL : List Int → Option Int
  | [] => none
  | i :: r => some (r.foldl (fun a b => if b < a then b else a) i)
def maxG (S : Sto) (d : D) : Option D := match lstS S d with
  | some xs => match intsD xs with
    | some ns => (maxL ns).map .int
    | none => none
  | none => none
def minG (S : Sto) (d : D) : Option D := match lstS S d with
  | some xs => match intsD xs with
    | some ns => (minL ns).map .int
    | none => none
  | none => none
def anyG (S : Sto) (d : D) : Option D := match lstS S d with
  | some xs => match blsD xs with
    | some ns => some (.bl (ns.any id))
    | none => none
  | none => none
def allG (S : Sto) (d : D) : Option D := match lstS S d with
  | some xs => match blsD xs with
    | some ns => some (.bl (ns.all id))
    | none => none
  | none => none
section
variable {X : Cx} {W : WX} {e : Expr} {es : List Expr} {f : EM} {fs : List EM} {pos p : Pos} {k j n : Nat}
theorem intsD_rep {K : PySem.W.Frag} {mg : Str → Option Value} {H : Hp} {φ : Ph} : ∀ {ds : List D} {vs : List V} {ns : List Int}, RepL K mg H φ ds vs → intsD ds = some ns → vs = ns.map V.int
  | [], _, ns, .nil, e => by cases e; rfl
  | d :: ds, _, ns, .cons r t, e => by
    cases r with
    | int i =>
      have e' : (intsD ds).map (i :: ·) = some ns := e
      cases q : intsD ds with
      | none => rw [q] at e'; cases e'
      | some ms =>
        rw [q] at e'
        cases e'
        rw [intsD_rep t q]; rfl
    | _ => cases e
theorem blsD_rep {K : PySem.W.Frag} {mg : Str → Option Value} {H : Hp} {φ : Ph} : ∀ {ds : List D} {vs : List V} {ns : List Bool}, RepL K mg H φ ds vs → blsD ds = some ns → vs = ns.map V.bl
  | [], _, ns, .nil, e => by cases e; rfl
  | d :: ds, _, ns, .cons r t, e => by
    cases r with
    | bl i =>
      have e' : (blsD ds).map (i :: ·) = some ns := e
      cases q : blsD ds with
      | none => rw [q] at e'; cases e'
      | some ms =>
        rw [q] at e'
        cases e'
        rw [blsD_rep t q]; rfl
    | _ => cases e
theorem str_ok {n : Nat} : CallD X W n (fun xs H Q => ∃ i, xs = [.int i] ∧ i.natAbs.log2 < 1920 ∧ Q (.str (toString i : String)) H) (b1 strG) := by
  intro bs σ H φ S ds vs Q s r hl h
  obtain ⟨d, v, d', rfl, r, e, h⟩ := b1_of (n := n) s r h
  cases r with
  | int i =>
    have e' : (if i.natAbs.log2 < 1920 ∧ goodS (decS i).cps.toList = true then some (D.str (decS i).cps.toList) else none) = some d' := e
    by_cases q : i.natAbs.log2 < 1920 ∧ goodS (decS i).cps.toList = true
    · rw [if_pos q] at e'
      cases e'
      exact ⟨i, rfl, q.1, PostG.done s (.strOf (decS i) q.2) h⟩
    · rw [if_neg q] at e'; cases e'
  | _ => cases e
theorem de_strc (hm : X.mg "str" = none) (ha : DA X W (e :: es) (aList fs)) (hg : Gl X "str" := by rfl) (he : starEach (e :: es) X.env = (false, eval e X.env) :: starEach es X.env := by rfl) (hpl : (backTo pos (starEach es X.env)).any (·.1) = false := by rfl) :
    DE X W (.Call (.Name "str" p) (e :: es) [] pos) (eApp fs (b1 strG)) := (pe_callTy call_str_int hg hm (by decide +kernel) ha (by decide) (by decide) he hpl).wk (tCB_wk str_ok)
theorem b2_of {g : Sto → D → D → Option D} {bs : List Nat} {σ : L2.St} {H : Hp} {φ : Ph} {S : Sto} {ds : List D} {vs : List V} {Q : VK} (s : Sim X.K X.mg H φ bs S) (r : RepL X.K X.mg H φ ds vs) (h : Post X W bs σ H φ (b2 g ds S) Q) :
    ∃ d v d2 v2 d', vs = [v, v2] ∧ Rep X.K X.mg H φ d v ∧ Rep X.K X.mg H φ d2 v2 ∧ g S d d2 = some d' ∧ Post X W bs σ H φ (.ok d' S) Q := by
  cases r with
  | nil => exact h.elim
  | cons r t =>
    cases t with
    | nil => exact h.elim
    | cons r2 t =>
      cases t with
      | cons _ _ => exact h.elim
      | nil =>
        rename_i d v d2 v2
        have h' : Post X W bs σ H φ (R.of S (g S d d2)) Q := h
        cases q : g S d d2 with
        | none => rw [q] at h'; exact h'.elim
        | some d' => rw [q] at h'; exact ⟨d, v, d2, v2, d', rfl, r, r2, q, h'⟩
theorem max_ok (n : Nat) : CallD X W n (fun xs H Q => (∃ i j, xs = [.int i, .int j] ∧ Q (.int (if j > i then j else i)) H) ∨ rMax X.K xs H Q) (fun ds S => match ds with
    | [_, _] => b2 max2G ds S
    | ds => b1 maxG ds S) := by
  intro bs σ H φ S ds vs Q s r hl h
  cases r with
  | nil => exact h.elim
  | cons r t =>
    cases t with
    | cons r2 t =>
      cases t with
      | cons _ _ => exact h.elim
      | nil =>
        obtain ⟨d, v, d2, v2, d', ev, q1, q2, e, h⟩ := b2_of s (.cons r (.cons r2 .nil)) h
        cases ev
        cases q1 with
        | int i =>
          cases q2 with
          | int j => cases e; exact .inl ⟨i, j, rfl, PostG.done s (.int _) h⟩
          | _ => cases e
        | _ => cases e
    | nil =>
      obtain ⟨d, v, d', ev, r, e, h⟩ := b1_of (n := n) s (.cons r .nil) h
      cases ev
      unfold maxG at e
      split at e
      · rename_i xs ex
        split at e
        · rename_i ns en
          obtain ⟨a, ws, rfl, hq, lr⟩ := s.lst r ex
          have ew := intsD_rep lr en
          subst ew
          cases ns with
          | nil => cases e
          | cons i r =>
            cases e
            refine .inr ⟨a, i :: r, rfl, hq, Nat.succ_pos _, fun m hm hmax => ?_⟩
            have hh : (List.foldl (fun a b => if a < b then b else a) i r) = m := by
              have h1 : ∀ (l : List Int) (i : Int), (List.foldl (fun a b => if a < b then b else a) i l) ∈ i :: l ∧ ∀ y ∈ i :: l, y ≤ List.foldl (fun a b => if a < b then b else a) i l := by
                intro l
                induction l with
                | nil => intro i; simp
                | cons b l ih =>
                  intro i
                  obtain ⟨g1, g2⟩ := ih (if i < b then b else i)
                  simp only [List.foldl_cons]
                  refine ⟨?_, fun y hy => ?_⟩
                  · rcases List.mem_cons.mp g1 with q | q
                    · rw [q]
                      split
                      · exact List.mem_cons_of_mem _ List.mem_cons_self
                      · exact List.mem_cons_self
                    · exact List.mem_cons_of_mem _ (List.mem_cons_of_mem _ q)
                  · have g3 := g2 _ List.mem_cons_self
                    rcases List.mem_cons.mp hy with q | q
                    · subst q
                      refine Int.le_trans ?_ g3
                      split <;> omega
                    · rcases List.mem_cons.mp q with q | q
                      · subst q
                        refine Int.le_trans ?_ g3
                        split <;> omega
                      · exact g2 y (List.mem_cons_of_mem _ q)
              obtain ⟨g1, g2⟩ := h1 r i
              have := hmax _ g1
              have := g2 m hm
              omega
            rw [← hh]
            exact PostG.done s (.int _) h
        · cases e
      · cases e
theorem de_max (C : Cz X W k) (hm : X.mg "max" = none) (ha : DA X W (e :: es) (aList fs)) (hg : Gl X "max" := by rfl) (he : starEach (e :: es) X.env = (false, eval e X.env) :: starEach es X.env := by rfl) (hpl : (backTo pos (starEach es X.env)).any (·.1) = false := by rfl) :
    DE X W (.Call (.Name "max" p) (e :: es) [] pos) (eApp fs (fun ds S => match ds with
    | [_, _] => b2 max2G ds S
    | ds => b1 maxG ds S)) := (pe_callB (CallR.or (call_max2 C.calm) (cr_max C.calm)) hg hm (by decide +kernel) ha (by decide) (by decide) he hpl).wk (tCB_wk (max_ok _))
theorem min2_ok {n : Nat} : CallD X W n (fun xs H Q => ∃ i j, xs = [.int i, .int j] ∧ Q (.int (if j < i then j else i)) H) (b2 min2G) := by
  intro bs σ H φ S ds vs Q s r hl h
  obtain ⟨d, v, d2, v2, d', rfl, q1, q2, e, h⟩ := b2_of s r h
  cases q1 with
  | int i =>
    cases q2 with
    | int j => cases e; exact ⟨i, j, rfl, PostG.done s (.int _) h⟩
    | _ => cases e
  | _ => cases e
theorem de_min2 (C : Cz X W k) (hm : X.mg "min" = none) (ha : DA X W (e :: es) (aList fs)) (hg : Gl X "min" := by rfl) (he : starEach (e :: es) X.env = (false, eval e X.env) :: starEach es X.env := by rfl) (hpl : (backTo pos (starEach es X.env)).any (·.1) = false := by rfl) :
    DE X W (.Call (.Name "min" p) (e :: es) [] pos) (eApp fs (b2 min2G)) := (pe_callB (call_min2 C.calm) hg hm (by decide +kernel) ha (by decide) (by decide) he hpl).wk (tCB_wk min2_ok)
theorem sum_ok {n : Nat} : CallD X W n (rSum X.K) (b1 sumG) := by
  intro bs σ H φ S ds vs Q s r hl h
  obtain ⟨d, v, d', rfl, r, e, h⟩ := b1_of (n := n) s r h
  unfold sumG at e
  split at e
  · rename_i xs ex
    split at e
    · rename_i ns en
      obtain ⟨a, ws, rfl, hq, lr⟩ := s.lst r ex
      have ew := intsD_rep lr en
      subst ew
      cases e
      exact ⟨a, ns, rfl, hq, PostG.done s (.int _) h⟩
    · cases e
  · cases e
theorem de_sum (C : Cz X W k) (hm : X.mg "sum" = none) (ha : DA X W (e :: es) (aList fs)) (hg : Gl X "sum" := by rfl) (he : starEach (e :: es) X.env = (false, eval e X.env) :: starEach es X.env := by rfl) (hpl : (backTo pos (starEach es X.env)).any (·.1) = false := by rfl) :
    DE X W (.Call (.Name "sum" p) (e :: es) [] pos) (eApp fs (b1 sumG)) := (pe_callB (cr_sum C.calm) hg hm (by decide +kernel) ha (by decide) (by decide) he hpl).wk (tCB_wk sum_ok)
theorem any_ok {n : Nat} : CallD X W n (rAny X.K) (b1 anyG) := by
  intro bs σ H φ S ds vs Q s r hl h
  obtain ⟨d, v, d', rfl, r, e, h⟩ := b1_of (n := n) s r h
  unfold anyG at e
  split at e
  · rename_i xs ex
    split at e
    · rename_i ns en
      obtain ⟨a, ws, rfl, hq, lr⟩ := s.lst r ex
      have ew := blsD_rep lr en
      subst ew
      cases e
      exact ⟨a, ns, rfl, hq, PostG.done s (.bl _) h⟩
    · cases e
  · cases e
theorem all_ok {n : Nat} : CallD X W n (rAll X.K) (b1 allG) := by
  intro bs σ H φ S ds vs Q s r hl h
  obtain ⟨d, v, d', rfl, r, e, h⟩ := b1_of (n := n) s r h
  unfold allG at e
  split at e
  · rename_i xs ex
    split at e
    · rename_i ns en
      obtain ⟨a, ws, rfl, hq, lr⟩ := s.lst r ex
      have ew := blsD_rep lr en
      subst ew
      cases e
      exact ⟨a, ns, rfl, hq, PostG.done s (.bl _) h⟩
    · cases e
  · cases e
theorem de_any (C : Cz X W k) (hm : X.mg "any" = none) (ha : DA X W (e :: es) (aList fs)) (hg : Gl X "any" := by rfl) (he : starEach (e :: es) X.env = (false, eval e X.env) :: starEach es X.env := by rfl) (hpl : (backTo pos (starEach es X.env)).any (·.1) = false := by rfl) :
    DE X W (.Call (.Name "any" p) (e :: es) [] pos) (eApp fs (b1 anyG)) := (pe_callB (cr_any C.calm) hg hm (by decide +kernel) ha (by decide) (by decide) he hpl).wk (tCB_wk any_ok)
theorem de_all (C : Cz X W k) (hm : X.mg "all" = none) (ha : DA X W (e :: es) (aList fs)) (hg : Gl X "all" := by rfl) (he : starEach (e :: es) X.env = (false, eval e X.env) :: starEach es X.env := by rfl) (hpl : (backTo pos (starEach es X.env)).any (·.1) = false := by rfl) :
    DE X W (.Call (.Name "all" p) (e :: es) [] pos) (eApp fs (b1 allG)) := (pe_callB (cr_all C.calm) hg hm (by decide +kernel) ha (by decide) (by decide) he hpl).wk (tCB_wk all_ok)
end
end Mi

/-! Mi15: comprehensions with two for's. -/
namespace Mi
open PySem PySem.Spec PyProof.Rows L2
noncomputable def lc2N (g : GM) (t : TM) (im1 : IM) (g1 : GM) (t1 : TM) (f : EM) (vs1 : List Nat) (src : Option Nat) (all : List D) : List D → List D → Env → Sto → R (List D)
  | [], acc => fun _ S => if okSrc src all S then .ok acc S else .bad
  | x :: xs, acc => fun ρ S => if okSrc src all S then match g x ρ S with
      | some ρ1 => match t ρ1 S with
        | .ok b S1 => if b = true then match im1 ρ1 S1 with
            | .ok w S2 => match lcN g1 t1 f w.2 w.1 w.1 acc (wipeE ρ1 vs1) S2 with
              | .ok acc' S3 => lc2N g t im1 g1 t1 f vs1 src all xs acc' ρ S3
              | _ => .bad
            | _ => .bad
          else lc2N g t im1 g1 t1 f vs1 src all xs acc ρ S1
        | _ => .bad
      | none => .bad
    else .bad
noncomputable def eLc2 (c : Bool) (im : IM) (g : GM) (t : TM) (im1 : IM) (g1 : GM) (t1 : TM) (f : EM) (vs vs1 : List Nat) : EM := fun ρ S => (im ρ S).bind fun w S1 => match lc2N g t im1 g1 t1 f vs1 w.2 w.1 w.1 [] (wipeE ρ vs) S1 with
  | .ok acc S2 => mkL c acc S2
  | _ => .bad
/-- .. behind the inner walk -/
noncomputable def lcBack (k : List D → Sto → R (List D)) (r : R (List D)) : R (List D) := match r with
  | .ok acc S => k acc S
  | _ => .bad
section
variable {X : Cx} {W : WX} {elt tg e tg1 e1 : Expr} {pos : Pos} {k : Nat}
theorem Keeps.ext {H H' H2 : Hp} {φ φ' φ2 : Ph} (x : Keeps H φ H' φ') (y : Ext H' φ' H2 φ2) : Keeps H φ H2 φ2 := x.trans y.keeps
theorem tLc2_wk {im im1 : IM} {g g1 : GM} {t t1 : TM} {f : EM} {vs vs1 : List Nat} {c : Bool} (σ : L2.St) (H : Hp) (Q : VK) (h : tE X W (eLc2 c im g t im1 g1 t1 f vs vs1) σ H Q) :
    tLc2 (tI X W im) (tGw X vs g) (tT X W0 t) (tI X W0 im1) (tGw X vs1 g1) (tT X W0 t1) (tE X W0 f) vs vs1 σ H Q := by
  obtain ⟨φ, bs, ρ, S, s, en, h⟩ := h
  refine ⟨φ, bs, ρ, S, s, en, ?_⟩
  unfold eLc2 at h
  cases q : im ρ S with
  | bad => rw [q] at h; exact h
  | ex d S1 => rw [q] at h; exact h
  | ok w S1 =>
    rw [q] at h
    obtain ⟨all, src⟩ := w
    intro H1 φ1 J x1 s1 o1 j1 Da hDa
    have en1 := en.ext x1 s.cells
    have h1 : Fin X W bs σ H1 φ1 c Q (lc2N g t im1 g1 t1 f vs1 src all all [] (wipeE ρ vs) S1) := by
      have h' := PostG.shift x1 h
      revert h'
      dsimp only [R.bind]
      cases lc2N g t im1 g1 t1 f vs1 src all all [] (wipeE ρ vs) S1 with
      | ok acc S2 => exact fun h' => h'
      | ex _ _ => exact fun h' => h'
      | bad => exact fun h' => h'
    have nD : ¬ φ1.has Da := s1.fresh hDa
    have n1 : Da ∉ φ1.h := fun z => nD (.inr z)
    obtain ⟨y0, sD⟩ := s1.lay (o := .lst []) hDa (.inl ⟨[], rfl⟩)
    let N := fun (i : Nat) (acc : List D) (S : Sto) => lc2N g t im1 g1 t1 f vs1 src all (all.drop i) acc (wipeE ρ vs) S
    refine ⟨fun i m H => ∃ φ S acc ws, m = all.length - i ∧ i ≤ all.length ∧ Hid H1 φ1 Da H φ ∧ Sim X.K X.mg H φ bs S ∧ H Da = some (.lst ws) ∧ RepL X.K X.mg H φ acc ws ∧ Fin X W bs σ H1 φ1 c Q (N i acc S),
      ⟨all.length, φ1.hide Da, S1, [], [], rfl, Nat.zero_le _, y0, sD, upd_same, .nil, h1⟩, fun i m H hw => ?_⟩
    obtain ⟨φ, S, acc, ws, rfl, hi, y, s, eD, lr, h⟩ := hw
    have hDm : Da ∈ φ.h := by rw [y.hh]; exact List.mem_cons_self
    by_cases hlt : i < all.length
    · have h : Fin X W bs σ H1 φ1 c Q (lc2N g t im1 g1 t1 f vs1 src all (all.drop i) acc (wipeE ρ vs) S) := h
      rw [List.drop_eq_getElem_cons hlt] at h
      unfold lc2N at h
      by_cases ho : okSrc src all S
      · rw [if_pos ho] at h
        obtain ⟨hgo, hy⟩ := (j1 H φ S (y.keeps hDa) s ho).1 i all[i] (List.getElem?_eq_getElem hlt)
        refine .inr ⟨hgo, fun H' => ∃ φ S acc ws, i + 1 ≤ all.length ∧ Hid H1 φ1 Da H' φ ∧ Sim X.K X.mg H' φ bs S ∧ H' Da = some (.lst ws) ∧ RepL X.K X.mg H' φ acc ws ∧ Fin X W bs σ H1 φ1 c Q (N (i + 1) acc S),
          fun H' hn => ?_, fun v H' hv => ?_⟩
        · obtain ⟨φ', S', acc', ws', q1, q2, q3, q4, q5, q6⟩ := hn
          exact ⟨all.length - (i + 1), by omega, φ', S', acc', ws', rfl, q1, q2, q3, q4, q5, q6⟩
        · obtain ⟨e1, r⟩ := hy v H' hv
          subst e1
          have en2 : EnvR X.K X.mg (xp X) H' φ (wipeE ρ vs) (wipe σ vs) := (en1.kp (y.keeps hDa) s1.cells).wipe vs
          cases eg : g all[i] (wipeE ρ vs) S with
          | none => rw [eg] at h; exact h.elim
          | some ρ1 =>
            rw [eg] at h
            dsimp only at h
            refine ⟨φ, bs, wipeE ρ vs, S, all[i], s, en2, r, ρ1, eg, fun σ2 e2 w2 => ⟨?_, φ, bs, ρ1, S, s, e2, ?_⟩⟩
            · rw [w2]; exact wipe_wipe σ vs
            · cases et : t ρ1 S with
              | bad => rw [et] at h; exact h.elim
              | ex _ _ => rw [et] at h; exact h.elim
              | ok b S1 =>
                rw [et] at h
                dsimp only at h
                intro b' H3 φ4 x4 s4 rb
                have rb' : b' = b := rb
                subst rb'
                have e3 := e2.ext x4 s.cells
                have lr4 := lr.ext x4 s.cells
                obtain ⟨y4, eD4⟩ := y.step x4 eD
                cases b' with
                | false => exact iteF ⟨φ4, S1, acc, ws, by omega, y4, s4, eD4, lr4, by rw [if_neg Bool.false_ne_true] at h; exact h⟩
                | true =>
                  rw [if_pos rfl] at h
                  refine iteT ⟨φ4, bs, ρ1, S1, s4, e3, ?_⟩
                  cases ei : im1 ρ1 S1 with
                  | bad => rw [ei] at h; exact h.elim
                  | ex _ _ => rw [ei] at h; exact h.elim
                  | ok w S2 =>
                    rw [ei] at h
                    obtain ⟨all1, src1⟩ := w
                    dsimp only at h
                    intro H5 φ5 J1 x5 s5 o5 j5
                    have e5 := e3.ext x5 s4.cells
                    have lr5 := lr4.ext x5 s4.cells
                    obtain ⟨y5, eD5⟩ := y4.step x5 eD4
                    have hb : Fin X W bs σ H1 φ1 c Q (lcBack (fun acc S => N (i + 1) acc S) (lcN g1 t1 f src1 all1 all1 acc (wipeE ρ1 vs1) S2)) := by
                      revert h
                      unfold lcBack
                      cases lcN g1 t1 f src1 all1 all1 acc (wipeE ρ1 vs1) S2 with
                      | ok a b => exact fun h => h
                      | ex _ _ => exact fun h => h
                      | bad => exact fun h => h
                    clear h
                    refine ⟨fun j m H => ∃ φ S acc ws, m = all1.length - j ∧ j ≤ all1.length ∧ Hid H1 φ1 Da H φ ∧ Keeps H5 φ5 H φ ∧ Sim X.K X.mg H φ bs S ∧ H Da = some (.lst ws) ∧ RepL X.K X.mg H φ acc ws ∧
                        Fin X W bs σ H1 φ1 c Q (lcBack (fun acc S => N (i + 1) acc S) (lcN g1 t1 f src1 all1 (all1.drop j) acc (wipeE ρ1 vs1) S)),
                      ⟨all1.length, φ5, S2, acc, ws, rfl, Nat.zero_le _, y5, (Ext.refl _ _).keeps, s5, eD5, lr5, hb⟩, fun j m H hw => ?_⟩
                    obtain ⟨φ6, S6, acc6, ws6, rfl, hj, y6, kp6, s6, eD6, lr6, h6⟩ := hw
                    by_cases hjt : j < all1.length
                    · rw [List.drop_eq_getElem_cons hjt] at h6
                      unfold lcN at h6
                      by_cases ho6 : okSrc src1 all1 S6
                      · rw [if_pos ho6] at h6
                        obtain ⟨hgo6, hy6⟩ := (j5 H φ6 S6 kp6 s6 ho6).1 j all1[j] (List.getElem?_eq_getElem hjt)
                        refine .inr ⟨hgo6, fun H' => ∃ φ S acc ws, j + 1 ≤ all1.length ∧ Hid H1 φ1 Da H' φ ∧ Keeps H5 φ5 H' φ ∧ Sim X.K X.mg H' φ bs S ∧ H' Da = some (.lst ws) ∧ RepL X.K X.mg H' φ acc ws ∧
                            Fin X W bs σ H1 φ1 c Q (lcBack (fun acc S => N (i + 1) acc S) (lcN g1 t1 f src1 all1 (all1.drop (j + 1)) acc (wipeE ρ1 vs1) S)), fun H' hn => ?_, fun v H' hv => ?_⟩
                        · obtain ⟨φ', S', acc', ws', q1, q2, q2', q3, q4, q5, q6⟩ := hn
                          exact ⟨all1.length - (j + 1), by omega, φ', S', acc', ws', rfl, q1, q2, q2', q3, q4, q5, q6⟩
                        · obtain ⟨e7, r7⟩ := hy6 v H' hv
                          subst e7
                          have en7 : EnvR X.K X.mg (xp X) H' φ6 (wipeE ρ1 vs1) (wipe σ2 vs1) := (e5.kp kp6 s5.cells).wipe vs1
                          cases eg7 : g1 all1[j] (wipeE ρ1 vs1) S6 with
                          | none => rw [eg7] at h6; exact h6.elim
                          | some ρ7 =>
                            rw [eg7] at h6
                            dsimp only at h6
                            refine ⟨φ6, bs, wipeE ρ1 vs1, S6, all1[j], s6, en7, r7, ρ7, eg7, fun σ8 e8 w8 => ⟨?_, φ6, bs, ρ7, S6, s6, e8, ?_⟩⟩
                            · rw [w8]; exact wipe_wipe σ2 vs1
                            · cases et7 : t1 ρ7 S6 with
                              | bad => rw [et7] at h6; exact h6.elim
                              | ex _ _ => rw [et7] at h6; exact h6.elim
                              | ok b S7 =>
                                rw [et7] at h6
                                dsimp only at h6
                                intro b' H9 φ9 x9 s9 rb
                                have rb' : b' = b := rb
                                subst rb'
                                have e9 := e8.ext x9 s6.cells
                                have lr9 := lr6.ext x9 s6.cells
                                obtain ⟨y9, eD9⟩ := y6.step x9 eD6
                                have kp9 := kp6.ext x9
                                cases b' with
                                | false => exact iteF ⟨φ9, S7, acc6, ws6, by omega, y9, kp9, s9, eD9, lr9, by rw [if_neg Bool.false_ne_true] at h6; exact h6⟩
                                | true =>
                                  rw [if_pos rfl] at h6
                                  refine iteT ⟨φ9, bs, ρ7, S7, s9, e9, ?_⟩
                                  cases ef : f ρ7 S7 with
                                  | bad => rw [ef] at h6; exact h6.elim
                                  | ex _ _ => rw [ef] at h6; exact h6.elim
                                  | ok d S8 =>
                                    rw [ef] at h6
                                    dsimp only at h6
                                    intro u Ha φa xa sa ra
                                    obtain ⟨ya, eDa⟩ := y9.step xa eD9
                                    have lra := lr9.ext xa s9.cells
                                    have hDa' : Da ∈ φa.h := by rw [ya.hh]; exact List.mem_cons_self
                                    by_cases hz : acc6.length < sizeLine
                                    · rw [if_pos hz] at h6
                                      refine ⟨ws6, eDa, by rw [← lra.length]; exact hz, φa, S8, acc6 ++ [d], ws6 ++ [u], by omega, ya.put hDa n1, (kp9.ext xa).trans (Keeps.put hDa'), sa.put hDa' (.inl ⟨_, rfl⟩), upd_same, ?_, h6⟩
                                      exact (lra.append (.cons ra .nil)).kp (Keeps.put hDa') sa.cells
                                    · rw [if_neg hz] at h6; exact h6.elim
                      · rw [if_neg ho6] at h6; exact h6.elim
                    · have hj2 : j = all1.length := by omega
                      rw [List.drop_eq_nil_of_le (by omega)] at h6
                      unfold lcN at h6
                      by_cases ho6 : okSrc src1 all1 S6
                      · rw [if_pos ho6] at h6
                        exact .inl ⟨(j5 H φ6 S6 kp6 s6 ho6).2 j (by omega), φ6, S6, acc6, ws6, by omega, y6, s6, eD6, lr6, h6⟩
                      · rw [if_neg ho6] at h6; exact h6.elim
      · rw [if_neg ho] at h; exact h.elim
    · have hi2 : i = all.length := by omega
      have h : Fin X W bs σ H1 φ1 c Q (lc2N g t im1 g1 t1 f vs1 src all (all.drop i) acc (wipeE ρ vs) S) := h
      rw [List.drop_eq_nil_of_le (by omega)] at h
      unfold lc2N at h
      by_cases ho : okSrc src all S
      · rw [if_pos ho] at h
        refine .inl ⟨(j1 H φ S (y.keeps hDa) s ho).2 i (by omega), ?_⟩
        cases c with
        | false =>
          obtain ⟨s3, k3, nn⟩ := y.val n1 s
          exact h _ _ _ y.ex s3 (.lst eD nn (lr.kp k3 s.cells))
        | true =>
          obtain ⟨xs, hs, hg⟩ := y.cell (c := .lst acc) hDa n1 s fun kp => ⟨ws, eD, lr.kp kp s.cells⟩
          exact h _ _ _ xs hs (.ref hg)
      · rw [if_neg ho] at h; exact h.elim
theorem tI_blk {s : Shared} {H : Hp} {sc : Scope} {en : PySem.Env} {fp : List Addr} {W : WX} {im : IM} (h : X.calm = true) : tI (X.blk s H sc en fp) W im = tI X W im := by
  unfold tI
  rw [xp_blk h]
theorem pi_blk {s : Shared} {H : Hp} {sc : Scope} {en : PySem.Env} {fp : List Addr} {im : IM} (h : X.calm = true) (ht : PI (X.blk s H sc en fp) tg e (tI (X.blk s H sc en fp) W im)) : PI (X.blk s H sc en fp) tg e (tI X W im) := by
  rw [← tI_blk h]; exact ht
theorem de_lc2 {ifs ifs1 : List Expr} {scope : Scope} {own : List (Str × Nat)} {im im1 : IM} {g g1 : GM} {t t1 : TM} {f : EM} (c : Bool) (vs1 : List Nat) (C : Cz X W k) (hN : X.N.Nodup) (hi : DI X W tg e im) (ok : BlkOk X.N X.env.scope scope own) (hv : ∀ i ∈ vs1, i ∈ own.map (·.2))
    (hg : ∀ (s : Shared) (H : Hp) (Cl : Addr) (cl : List (Str × Addr)) (fp : List Addr), PG (X.blk s H scope (compEnvC scope cl Cl X.env) fp) tg (tGw (X.blk s H scope (compEnvC scope cl Cl X.env) fp) (own.map (·.2)) g))
    (ht : ∀ (s : Shared) (H : Hp) (Cl : Addr) (cl : List (Str × Addr)) (fp : List Addr), PTs (X.blk s H scope (compEnvC scope cl Cl X.env) fp) ifs (tT (X.blk s H scope (compEnvC scope cl Cl X.env) fp) W0 t))
    (hi1 : ∀ (s : Shared) (H : Hp) (Cl : Addr) (cl : List (Str × Addr)) (fp : List Addr), DI (X.blk s H scope (compEnvC scope cl Cl X.env) fp) W0 tg1 e1 im1)
    (hg1 : ∀ (s : Shared) (H : Hp) (Cl : Addr) (cl : List (Str × Addr)) (fp : List Addr), PG (X.blk s H scope (compEnvC scope cl Cl X.env) fp) tg1 (tGw (X.blk s H scope (compEnvC scope cl Cl X.env) fp) vs1 g1))
    (ht1 : ∀ (s : Shared) (H : Hp) (Cl : Addr) (cl : List (Str × Addr)) (fp : List Addr), PTs (X.blk s H scope (compEnvC scope cl Cl X.env) fp) ifs1 (tT (X.blk s H scope (compEnvC scope cl Cl X.env) fp) W0 t1))
    (he : ∀ (s : Shared) (H : Hp) (Cl : Addr) (cl : List (Str × Addr)) (fp : List Addr), DE (X.blk s H scope (compEnvC scope cl Cl X.env) fp) W0 elt f) (hs : ∀ x, foldedSetIterable e X.env x = pure x := by intro _; rfl) (hs1 : ∀ env x, foldedSetIterable e1 env x = pure x := by intro _ _; rfl) :
    DE X W (.ListComp elt [⟨tg, e, ifs, 0⟩, ⟨tg1, e1, ifs1, 0⟩] scope pos) (eLc2 c im g t im1 g1 t1 f (own.map (·.2)) vs1) :=
  (pe_lc2 C.calm hN hi ok hv (fun s H Cl cl fp => pg_blk C.calm (hg s H Cl cl fp)) (fun s H Cl cl fp => pts_blk C.calm (ht s H Cl cl fp)) (fun s H Cl cl fp => pi_blk C.calm (hi1 s H Cl cl fp)) (fun s H Cl cl fp => pg_blk C.calm (hg1 s H Cl cl fp))
    (fun s H Cl cl fp => pts_blk C.calm (ht1 s H Cl cl fp)) (fun s H Cl cl fp => pe_blk C.calm (he s H Cl cl fp)) hs hs1).wk tLc2_wk
/-- name = [.. for .. for ..] -/
theorem ds_setLc2 {ifs ifs1 : List Expr} {scope : Scope} {own : List (Str × Nat)} {im im1 : IM} {g g1 : GM} {t t1 : TM} {f : EM} {i : Nat} {y : Str} {py spos : Pos} (c : Bool) (vs1 : List Nat) (C : Cz X W k) (hN : X.N.Nodup)
    (hsw : swapsWith (.ListComp elt [⟨tg, e, ifs, 0⟩, ⟨tg1, e1, ifs1, 0⟩] scope pos) (some (.Name y py)) spos.line X.env = pure true) (hi : DI X W tg e im) (ok : BlkOk X.N X.env.scope scope own) (hv : ∀ i ∈ vs1, i ∈ own.map (·.2))
    (hg : ∀ (s : Shared) (H : Hp) (Cl : Addr) (cl : List (Str × Addr)) (fp : List Addr), PG (X.blk s H scope (compEnvC scope cl Cl X.env) fp) tg (tGw (X.blk s H scope (compEnvC scope cl Cl X.env) fp) (own.map (·.2)) g))
    (ht : ∀ (s : Shared) (H : Hp) (Cl : Addr) (cl : List (Str × Addr)) (fp : List Addr), PTs (X.blk s H scope (compEnvC scope cl Cl X.env) fp) ifs (tT (X.blk s H scope (compEnvC scope cl Cl X.env) fp) W0 t))
    (hi1 : ∀ (s : Shared) (H : Hp) (Cl : Addr) (cl : List (Str × Addr)) (fp : List Addr), DI (X.blk s H scope (compEnvC scope cl Cl X.env) fp) W0 tg1 e1 im1)
    (hg1 : ∀ (s : Shared) (H : Hp) (Cl : Addr) (cl : List (Str × Addr)) (fp : List Addr), PG (X.blk s H scope (compEnvC scope cl Cl X.env) fp) tg1 (tGw (X.blk s H scope (compEnvC scope cl Cl X.env) fp) vs1 g1))
    (ht1 : ∀ (s : Shared) (H : Hp) (Cl : Addr) (cl : List (Str × Addr)) (fp : List Addr), PTs (X.blk s H scope (compEnvC scope cl Cl X.env) fp) ifs1 (tT (X.blk s H scope (compEnvC scope cl Cl X.env) fp) W0 t1))
    (he : ∀ (s : Shared) (H : Hp) (Cl : Addr) (cl : List (Str × Addr)) (fp : List Addr), DE (X.blk s H scope (compEnvC scope cl Cl X.env) fp) W0 elt f)
    (hy : X.N[i]? = some y := by rfl) (hyl : X.env.scope.names.lookup y = some .local := by rfl) (hs : ∀ x, foldedSetIterable e X.env x = pure x := by intro _; rfl) (hs1 : ∀ env x, foldedSetIterable e1 env x = pure x := by intro _ _; rfl) :
    DS X W (.Assign [.Name y py] (.ListComp elt [⟨tg, e, ifs, 0⟩, ⟨tg1, e1, ifs1, 0⟩] scope pos) spos) (sAsg (eLc2 c im g t im1 g1 t1 f (own.map (·.2)) vs1) (gtName i)) := by
  refine (ps_setLc2 (wi := tI X W im) (g := tGw X (own.map fun x : Str × Nat => x.2) g) (tt := tT X W0 t) (wi1 := tI X W0 im1) (g1 := tGw X vs1 g1) (tt1 := tT X W0 t1) (te := tE X W0 f) C.calm hN hy hyl hsw hi ok hv
    (fun s H Cl cl fp => pg_blk C.calm (hg s H Cl cl fp)) (fun s H Cl cl fp => pts_blk C.calm (ht s H Cl cl fp)) (fun s H Cl cl fp => pi_blk C.calm (hi1 s H Cl cl fp)) (fun s H Cl cl fp => pg_blk C.calm (hg1 s H Cl cl fp))
    (fun s H Cl cl fp => pts_blk C.calm (ht1 s H Cl cl fp)) (fun s H Cl cl fp => pe_blk C.calm (he s H Cl cl fp)) hs hs1).wk fun D σ H h => ?_
  refine tLc2_wk (W := W) (c := c) σ H _ ?_
  obtain ⟨φ, bs, ρ, S, s, en, h⟩ := h
  refine tG_thenS s en h fun d S1 v H1 φ1 x1 s1 e1 r1 h1 => ?_
  exact h1 _ H1 φ1 (.refl _ _) s1 (e1.set r1 i (xp_no (.inr C.calm) hy))
end
end Mi

/-! Mi16: raise, try; methods and classes as the text has them. -/
namespace Mi
open PySem PySem.Spec PyProof.Rows L2
/-- an own exception class, without __init__ -/
structure ExAt (K : PySem.W.Frag) (mg : Str → Option Value) (x : Str) : Prop where
  ex : ∃ C, mg x = some (.ref C) ∧ PySem.W.excIn K C [.type "ValueError", .type "Exception", .type "BaseException", .type "object"] "ValueError.__new__" = true ∧ PySem.W.keepIn K (.ref C) = true ∧
    PySem.W.subIn K (.ref C) (.type "BaseException") = some true ∧ PySem.W.typeIn K (.ref C) = some (.type "type")
/-- which classes the clause «except x» takes -/
structure ExTab (K : PySem.W.Frag) (mg : Str → Option Value) (x : Str) (l : List (Str × Bool)) : Prop where
  ex : ∃ C, mg x = some (.ref C) ∧ ∀ p ∈ l, ∀ D, mg p.1 = some (.ref D) → PySem.W.exmOne K (.ref D) (.ref C) = some p.2
def sRaise (x : Str) : SM := fun ρ S => .ex (.obj x []) ρ S
/-- the suite's end -/
def sOut (i : Nat) : SR → SR
  | .nx ρ S => .nx (ρ.set i none) S
  | .bk ρ S => .bk (ρ.set i none) S
  | .ct ρ S => .ct (ρ.set i none) S
  | .rt d S => .rt d S
  | _ => .bad
def exIs (l : List (Str × Bool)) : D → Option Bool
  | .obj c _ => l.lookup c
  | _ => none
/-- try: B; except ..: Bs, the exception in slot i -/
def sTryAs (B : SM) (l : List (Str × Bool)) (i : Nat) (Bs : SM) : SM := fun ρ S => match B ρ S with
  | .ex e ρ' S' => match exIs l e with
    | some true => sOut i (Bs (ρ'.set i (some (.exn e))) S')
    | some false => .ex e ρ' S'
    | none => .bad
  | r => r
theorem lookup_mem {α : Type} {c : Str} {b : α} : ∀ {l : List (Str × α)}, l.lookup c = some b → (c, b) ∈ l
  | [], h => by cases h
  | (k, v) :: l, h => by
    rw [List.lookup_cons] at h
    cases q : c == k with
    | true =>
      rw [q] at h
      cases h
      rw [beq_iff_eq.mp q]
      exact List.mem_cons_self
    | false =>
      rw [q] at h
      exact List.mem_cons_of_mem _ (lookup_mem h)
section
variable {X : Cx} {W : WX} {k : Nat} {x n : Str} {pos pos' p p2 np : Pos} {i : Nat} {l : List (Str × Bool)} {B Bs : SM} {body suite : List Stmt} {b₀ : Stmt}
theorem ds_raise {m : Str} {j : Nat} (C : Cz X W k) (E : ExAt X.K X.mg x) (hg : Gl X x := by rfl) (hdb : (x == ("__debug__" : Str)) = false := by decide) :
    DS X W (.Raise (some (.Call (.Name x p) [.Constant (.str m) j p2] [] pos)) none pos') (sRaise x) := by
  obtain ⟨Ca, h1, h2, h3, h4, h5⟩ := E.ex
  refine (L2.ps_raise C.calm C.tk (L2.pmk_own PySem.F.excBase_ValueError h2 h1 h3 (L2.raises_own h4 h5) hg hdb)).wk fun D σ H h => ?_
  obtain ⟨φ, bs, ρ, S, s, en, h⟩ := h
  exact h (.ref Ca) none σ H φ (Ext.refl _ _) s en ⟨x, [], Ca, rfl, h1, rfl, fun z => absurd rfl z, fun _ => rfl⟩
theorem xp_calm (h : X.calm = true) : xp X = [] := by unfold xp; rw [h]; rfl
theorem tS_tr {pn : List (Addr × Obj)} {xe : Value → Shared → Prop} (h : X.calm = true) : tS (X.tr pn xe) W B = tS X W B := by
  unfold tS
  have e : xp (X.tr pn xe) = xp X := by rw [xp_calm h]; exact xp_calm (X := X.tr pn xe) h
  rw [e]
theorem Cz.tr {pn : List (Addr × Obj)} {xe : Value → Shared → Prop} {W' : WX} (C : Cz X W k) (tk : L2.Takes (X.tr pn xe) W') (po : PassesOwn (model X.prog X.w) X.A X.env xe) : Cz (X.tr pn xe) W' k := ⟨C.hr, tk, po, C.calm⟩
theorem EnvR.held {K : PySem.W.Frag} {mg : Str → Option Value} {H : Hp} {φ : Ph} {ρ : Env} {σ : L2.St} {P : List (Nat × Addr × Obj)} {e : D} {a : Addr} {oe : Obj} {cls : Value} {dx : Option Addr} {i : Nat} (en : EnvR K mg [] H φ ρ σ) (hP : ∀ p ∈ P, p = (i, a, oe))
    (hz : Zc cls dx oe) (hf : ∃ vs, oe.data = .fields vs) (r : ExR K mg H φ e cls dx) : EnvR K mg P H φ (ρ.set i (some (.exn e))) (σ.set i (some (.ref a))) := by
  have e2 := EnvR.set en (.exn e a) i (fun p hp => by cases hp)
  refine ⟨e2.len, e2.rep, fun p hp d v h1 h2 => ?_⟩
  have ep := hP p hp
  subst ep
  have hl : i < ρ.length := by
    have := (List.getElem?_eq_some_iff.mp h1).1
    simpa using this
  have hl2 : i < σ.length := by rw [← en.len]; exact hl
  rw [List.getElem?_set_self hl] at h1
  rw [List.getElem?_set_self hl2] at h2
  cases h1
  cases h2
  exact ⟨cls, dx, rfl, hz, hf, r⟩
theorem EnvR.loose {K : PySem.W.Frag} {mg : Str → Option Value} {H : Hp} {φ : Ph} {ρ : Env} {σ : L2.St} {P : List (Nat × Addr × Obj)} (en : EnvR K mg P H φ ρ σ) : EnvR K mg [] H φ ρ σ :=
  ⟨en.len, en.rep, fun p hp => by cases hp⟩
theorem idx_of {N : List Str} {i : Nat} {x : Str} (hN : N.Nodup) (hi : N[i]? = some x) : N.idxOf x = i := by
  obtain ⟨hl, e⟩ := List.getElem?_eq_some_iff.mp hi
  subst e
  exact hN.idxOf_getElem i hl
theorem ds_tryAs (C : Cz X W k) (hN : X.N.Nodup) (T : ExTab X.K X.mg x l)
    (hb : ∀ (W' : WX) (pn : List (Addr × Obj)) (xe : Value → Shared → Prop), Cz (X.tr pn xe) W' k → DSs (X.tr pn xe) W' body B)
    (hsu : ∀ (a : Addr) (oe : Obj) (pn : List (Addr × Obj)), DSs (X.suite a ((a, oe) :: pn)) W0 (b₀ :: suite) Bs)
    (hi : X.N[i]? = some ("error" : Str) := by rfl) (hln : X.env.kindOf ("error" : Str) = some .local := by rfl) (hg : Gl X x := by rfl) (hdb : (x == ("__debug__" : Str)) = false := by decide)
    (hs : X.stack = X.env :: X.outer := by rfl) (hf : X.env.frame = some X.env.locals := by rfl) :
    DS X W (.Try body [.ExceptHandler (some (.Name x np)) (some "error") (b₀ :: suite) pos'] [] [] pos) (sTryAs B l i Bs) := by
  obtain ⟨Cc, hm, ht⟩ := T.ex
  let ts : Addr → Value → Option Addr → TS := fun a cls d D σ H => ∀ oe, Zc cls d oe → (∃ vs, oe.data = .fields vs) →
    ∃ φ bs ρ S, Sim X.K X.mg H φ bs S ∧ EnvR X.K X.mg [(i, a, oe)] H φ ρ σ ∧ PostS X.K X.mg W0 [(i, a, oe)] bs H φ (Bs ρ S) D
  have key := L2.ps_try_as (X := X) (np := np) (pos := pos) (pos' := pos') (tb := fun W' => tS X W' B) (ts := ts) (Wout := W) hs hf hN hi hln ⟨hg, hdb, .inl hm⟩ C.tk
    (fun W' pn xe tk po => by
      have h := hb W' pn xe (C.tr tk po)
      rw [← tS_tr (pn := pn) (xe := xe) C.calm]
      exact h)
    (fun a oe cls d pn hz hf => (hsu a oe pn).wk fun D σ H h => by
      have h' := h oe hz hf
      unfold tS
      have ex : xp (X.suite a ((a, oe) :: pn)) = [(i, a, oe)] := by
        show (List.map (fun q => (X.N.idxOf ("error" : Str), q)) [(a, oe)]) = _
        rw [idx_of hN hi]; rfl
      rw [ex]
      exact h')
  refine key.wk fun D σ H h => ?_
  obtain ⟨φ, bs, ρ, S, s, en, h⟩ := h
  refine ⟨φ, bs, ρ, S, s, en, ?_⟩
  have hx : xp X = [] := xp_calm C.calm
  rw [hx] at h ⊢
  revert h
  unfold sTryAs
  cases B ρ S with
  | ex e ρ' S' =>
    intro h cls dx σ' H' φ' x' s' e' r'
    dsimp only at h
    have r0 := r'
    obtain ⟨c, fs, Ca, rfl, h1, rfl, h3, h0⟩ := r'
    cases q : l.lookup c with
    | none => rw [show exIs l (.obj c fs) = none from q] at h; exact h.elim
    | some b =>
      rw [show exIs l (.obj c fs) = some b from q] at h
      refine ⟨b, ht _ (lookup_mem q) _ h1, fun hb a na oe hz hf => ?_, fun hb => ?_⟩
      · subst hb
        refine ⟨φ', bs, ρ'.set i (some (.exn (.obj c fs))), S', s', e'.held (fun p hp => by simpa using hp) hz hf r0, ?_⟩
        have h := PostS.shift x' h
        dsimp only at h
        revert h
        cases Bs (ρ'.set i (some (.exn (.obj c fs)))) S' with
        | nx ρ2 S2 => exact fun h σ2 H2 φ2 x2 s2 e2 => h _ H2 φ2 x2 s2 (e2.loose.unset i none)
        | bk ρ2 S2 => exact fun h σ2 H2 φ2 x2 s2 e2 => h _ H2 φ2 x2 s2 (e2.loose.unset i none)
        | ct ρ2 S2 => exact fun h σ2 H2 φ2 x2 s2 e2 => h _ H2 φ2 x2 s2 (e2.loose.unset i none)
        | rt d S2 => exact fun h => h
        | ex _ _ _ => exact fun h => h.elim
        | bad => exact fun h => h.elim
      · subst hb
        exact h _ _ _ H' φ' x' s' e' r0
  | nx _ _ => exact fun h => h
  | bk _ _ => exact fun h => h
  | ct _ _ => exact fun h => h
  | rt _ _ => exact fun h => h
  | bad => exact fun h => h
end
/-! ### isinstance of the exception that is held -/
/-- l: the classes that may be held, and whether they are of the class x -/
structure ExIsAt (K : PySem.W.Frag) (mg : Str → Option Value) (x : Str) (l : List (Str × Bool)) : Prop where
  ex : ∃ C, mg x = some (.ref C) ∧ ∀ p ∈ l, ∀ D, mg p.1 = some (.ref D) → L2.ExcC K D ∧ PySem.W.kitOne K (.ref D) (.ref C) = some p.2
def eExI (l : List (Str × Bool)) (i : Nat) : EM := fun ρ S => match ρ[i]? with
  | some (some (.exn (.obj c []))) => (R.of S (l.lookup c)).bind fun b S1 => .ok (.bl b) S1
  | _ => .bad
section
variable {X : Cx} {W : WX} {k : Nat} {x : Str} {pos p p2 p3 : Pos} {i : Nat} {l : List (Str × Bool)} {a : Addr} {oe : Obj} {pn : List (Addr × Obj)}
theorem de_exI (hN : X.N.Nodup) (T : ExIsAt X.K X.mg x l) (hm0 : X.mg "isinstance" = none) (hi : X.N[i]? = some ("error" : Str) := by rfl) (hv : Vis X.env.scope "error" := by first | exact Or.inl rfl | exact Or.inr (Or.inl rfl) | exact Or.inr (Or.inr rfl))
    (hg : Gl X x := by rfl) (hdb : (x == ("__debug__" : Str)) = false := by decide) (hg0 : Gl X "isinstance" := by rfl)
    (he : starEach [.Name "error" p2, .Name x p3] X.env = (false, eval (.Name "error" p2) X.env) :: starEach [.Name x p3] X.env := by rfl) (hpl : (backTo pos (starEach [.Name x p3] X.env)).any (·.1) = false := by rfl) :
    DE (X.suite a ((a, oe) :: pn)) W (.Call (.Name "isinstance" p) [.Name "error" p2, .Name x p3] [] pos) (eExI l i) := by
  obtain ⟨Cx2, hm, ht⟩ := T.ex
  refine ⟨fun pins s σ H Q I h => ?_⟩
  obtain ⟨φ, bs, ρ, S, sm, en, h⟩ := h
  unfold eExI at h
  split at h
  · rename_i c he2
    obtain ⟨v, hv1, hr⟩ := en.rep he2
    have ex : xp (X.suite a ((a, oe) :: pn)) = [(i, a, oe)] := by
      show (List.map (fun q => (X.N.idxOf ("error" : Str), q)) [(a, oe)]) = _
      rw [idx_of hN hi]; rfl
    obtain ⟨cls, dx, rfl, hz, hf, r⟩ := en.exn (i, a, oe) (by rw [ex]; exact List.mem_cons_self) _ v he2 hv1
    obtain ⟨c', fs, Ca, ee, h1, rfl, h3, h0⟩ := r
    cases ee
    have hdx := h0 rfl
    subst hdx
    cases q : l.lookup c with
    | none => rw [q] at h; exact h.elim
    | some b =>
      rw [q] at h
      obtain ⟨g1, g2⟩ := ht _ (lookup_mem q) _ h1
      refine (L2.pe_callB (X := X.suite a ((a, oe) :: pn)) (L2.call_isE g1 hz hf) hg0 hm0 (by decide +kernel) (pa_cons (pv i hi hv (by decide) (by decide)) (pa_cons (L2.pe_glob (v := .ref Cx2) hg hm rfl hdb) pa_nil)) (by decide) (by decide) he hpl).run pins s σ H Q I ?_
      exact ⟨.ref a, hv1, .ref Cx2, .ref Cx2, b, rfl, fun u hu => hu, g2, PostG.done sm (.bl b) h⟩
  · exact h.elim
end
end Mi

/-! Mi17: methods and classes as the text has them. -/
namespace Mi
open PySem PySem.Spec PyProof.Rows L2
structure MtAt (K : PySem.W.Frag) (mg : Str → Option Value) (c m qual : Str) (st : Stmt) (ps : List Str) : Prop where
  ex : ∃ (C f : Addr) (fd : FuncData), mg c = some (.ref C) ∧ Cls K C ∧ Meth K C m f ∧ Fun K m qual st f fd ∧ Binds K fd ps []
structure NwAt (K : PySem.W.Frag) (mg : Str → Option Value) (c qual : Str) (st : Stmt) (ps : List Str) : Prop where
  ex : ∃ (C f : Addr) (fd : FuncData), mg c = some (.ref C) ∧ Mk K C f ∧ Fun K "__init__" qual st f fd ∧ Binds K fd ps []
section
variable {P : Program} {w : World} {K : PySem.W.Frag} {mg : Str → Option Value} {base : Heap} {c m qual p : Str} {st : Stmt} {N ps : List Str} {k : Nat} {B : SM}
theorem MtAt.okV (D : MtAt K mg c m qual st (p :: ps)) (Sc : FnScope N (p :: ps) (defScope st)) (hb : BodyOk P w K mg base N qual st k B) : MtOk P w K mg base (k + 1) c m ps.length [] (runV N.length B) := by
  obtain ⟨C, f, fd, h1, h2, h3, h4, h5⟩ := D.ex
  exact ⟨C, f, fd, p :: ps, [], [], h1, h2, h3, h5, .nil, fun _ _ => .nil, Mi.okV h4 Sc hb⟩
theorem MtAt.okF (D : MtAt K mg c m qual st (p :: ps)) (Sc : FnScope N (p :: ps) (defScope st)) (hb : BodyOk P w K mg base N qual st k B) : MtOk P w K mg base (k + 1) c m ps.length [] (runF N.length B) := by
  obtain ⟨C, f, fd, h1, h2, h3, h4, h5⟩ := D.ex
  exact ⟨C, f, fd, p :: ps, [], [], h1, h2, h3, h5, .nil, fun _ _ => .nil, Mi.okF h4 Sc hb⟩
theorem MtAt.okL (D : MtAt K mg c m qual st (p :: ps)) (Sc : FnScope N (p :: ps) (defScope st)) (hb : BodyOk P w K mg base N qual st k B) : MtOk P w K mg base (k + 1) c m ps.length [] (runL N.length B) := by
  obtain ⟨C, f, fd, h1, h2, h3, h4, h5⟩ := D.ex
  exact ⟨C, f, fd, p :: ps, [], [], h1, h2, h3, h5, .nil, fun _ _ => .nil, Mi.okL h4 Sc hb⟩
theorem MtAt.bad (D : MtAt K mg c m qual st ps) (n : Nat) : MtOk P w K mg base k c m n [] badF := by
  obtain ⟨C, f, fd, h1, h2, h3, h4, h5⟩ := D.ex
  refine ⟨C, f, fd, ps, [], [], h1, h2, h3, h5, .nil, fun _ _ => .nil, fun vs H Q E h => ?_, fun A outer s H args us vs Q E hr he hb hv h => ?_⟩
  · obtain ⟨_, _, _, _, _, _, _, h⟩ := h; exact h.elim
  · obtain ⟨_, _, _, _, _, _, _, h⟩ := h; exact h.elim
theorem NwAt.okL (D : NwAt K mg c qual st (p :: ps)) (Sc : FnScope N (p :: ps) (defScope st)) (hb : BodyOk P w K mg base N qual st k B) : NewOk P w K mg base (k + 1) c ps.length [] (runL N.length B) := by
  obtain ⟨C, f, fd, h1, h2, h4, h5⟩ := D.ex
  exact ⟨C, f, fd, p :: ps, [], [], h1, h2, h5, .nil, fun _ _ => .nil, Mi.okL h4 Sc hb⟩
theorem mtAt_mk {h : Heap} {ps : List Str} {C f : Addr} {oc : Value} {od an : Option Addr} {osl : Array (Option Value)} {kV doc pm cdv ct : Value} (X : K.In h) (G : h.Ns mainGlobals mg)
    (a : PySem.W.nsIn K mainGlobals c = some (some (.ref C))) (pg : PySem.W.plainGet K C Str.empty = true) (hd : PySem.W.hasDictIn K C = true) (po : PySem.W.plainOver K C = true) (sa : PySem.W.findIn K (.ref C) "__setattr__" = some (some (.builtin "object.__setattr__")))
    (at_ : PySem.W.findIn K (.ref C) m = some (some (.ref f))) (fn : PySem.W.isFn K (.ref f) = true)
    (l : K.lookup f = some ⟨oc, od, .func (PySem.W.fnOf m qual (defArgs st) (defBody st) (defScope st) .none kV doc pm an cdv ct), osl⟩) (e : PySem.W.codeIn K cdv qual = true) (k : PySem.W.keepIn K (.ref f) = true)
    (hb : ∀ (kV doc pm : Value) (an : Option Addr) (cdv ct : Value) (us : List Value), us.length = ps.length → bindArgs (PySem.W.fnOf m qual (defArgs st) (defBody st) (defScope st) .none kV doc pm an cdv ct) ⟨us, []⟩ = pure (ps.zip us)) : MtAt K mg c m qual st ps := by
  have F := fun_mk (st := st) l e k
  exact ⟨C, f, _, PySem.W.mg_of X G a, ⟨pg, hd, po, sa⟩, ⟨at_, fn, k⟩, F, F.binds hb⟩
theorem nwAt_mk {h : Heap} {ps : List Str} {C f : Addr} {oc : Value} {od an : Option Addr} {osl : Array (Option Value)} {kV doc pm cdv ct : Value} (X : K.In h) (G : h.Ns mainGlobals mg)
    (a : PySem.W.nsIn K mainGlobals c = some (some (.ref C))) (mk : PySem.W.makesIn K C = true) (kc : PySem.W.keepIn K (.ref C) = true)
    (at_ : PySem.W.findIn K (.ref C) "__init__" = some (some (.ref f))) (fn : PySem.W.isFn K (.ref f) = true)
    (l : K.lookup f = some ⟨oc, od, .func (PySem.W.fnOf "__init__" qual (defArgs st) (defBody st) (defScope st) .none kV doc pm an cdv ct), osl⟩) (e : PySem.W.codeIn K cdv qual = true) (k : PySem.W.keepIn K (.ref f) = true)
    (hb : ∀ (kV doc pm : Value) (an : Option Addr) (cdv ct : Value) (us : List Value), us.length = ps.length → bindArgs (PySem.W.fnOf "__init__" qual (defArgs st) (defBody st) (defScope st) .none kV doc pm an cdv ct) ⟨us, []⟩ = pure (ps.zip us)) : NwAt K mg c qual st ps := by
  have F := fun_mk (st := st) l e k
  exact ⟨C, f, _, PySem.W.mg_of X G a, ⟨mk, at_, fn, kc⟩, F, F.binds hb⟩
end
end Mi
namespace Mi
open PySem PySem.Spec PyProof.Rows L2
/-! ### the truth of a conditional expression -/
def tIfM (t u v : TM) : TM := fun ρ S => (t ρ S).bind fun b S1 => if b = true then u ρ S1 else v ρ S1
theorem dt_ifx {X : Cx} {W : WX} {c a b : Expr} {t u v : TM} {pos : Pos} (hc : DT X W c t) (ha : DT X W a u) (hb : DT X W b v) : DT X W (.IfExp c a b pos) (tIfM t u v) := by
  refine ⟨fun pins s σ H Q I h => isTrue_IfExp ?_⟩
  have h0 : tT X W t σ H (fun d H1 => if d = true then tT X W u σ H1 Q else tT X W v σ H1 Q) := by
    obtain ⟨φ, bs, ρ, S, sm, en, h⟩ := h
    refine ⟨φ, bs, ρ, S, sm, en, ?_⟩
    unfold tIfM at h
    revert h
    cases t ρ S with
    | ok b S1 =>
      intro h d H1 φ1 x1 s1 r1
      have r2 : d = b := r1
      subst r2
      have e1 := en.ext x1 sm.cells
      have h2 := PostG.shift x1 h
      cases d with
      | true => exact iteT ⟨φ1, bs, ρ, S1, s1, e1, h2⟩
      | false => exact iteF ⟨φ1, bs, ρ, S1, s1, e1, h2⟩
    | ex e S1 => exact fun h => h
    | bad => exact fun h => h
  refine wpAny_mono (hc.run pins s σ H _ I h0) (fun d s1 hh => ?_) fun _ _ z => z
  obtain ⟨H1, I1, q1⟩ := hh
  cases d with
  | true => exact ha.run pins s1 σ H1 Q I1 (by simpa using q1)
  | false => exact hb.run pins s1 σ H1 Q I1 (by simpa using q1)
end Mi

/-! Mi18: try .. except X as n .. else. -/
namespace Mi
open PySem PySem.Spec PyProof.Rows L2
section
variable {X : Cx} {x n : Str} {c : Value} {i : Nat} {suite : List Stmt} {b₀ : Stmt} {np pos pos' : Pos} {ts : Addr → Value → Option Addr → TS} {Wout : WX} {D : Ends} {pins : List (Addr × Obj)} {s : Shared}
/-- an object that bears fields is no def's frame -/
theorem noFrame {B hp : Heap} {es : List PySem.Env} {a : Addr} {ob : Obj} {fld : Array Value} (ff : hp.FunFrames B es) (at_ : hp.get? a = some ob) (dat : ob.data = .fields fld) : a ∉ frs es := fun bad => by
  obtain ⟨_, ob', at', no⟩ := ff.mem bad
  cases at_.symm.trans at'
  exact no _ dat
/-- the name of the class, looked up in the suite's place -/
theorem seek_class {a : Addr} {ob : Obj} {σ : L2.St} {H : Hp} {t : Shared} {pn : List (Addr × Obj)} {Q E : Value → Shared → Prop} (nm : Names X x c) (S : Inv (X.suite a ((a, ob) :: pn)) [] σ H t) (q : Q c t) :
    wpAny (model X.prog X.w) (X.A.mark (some (.ref a))) (eval (.Name x np) X.env) Q E t := by
  rcases nm with ⟨g, dbg, z | ⟨z, v, ne⟩⟩
  · exact ld_glob (X := X.suite a ((a, ob) :: pn)) S g z q dbg
  · exact ld_blt (X := X.suite a ((a, ob) :: pn)) S g z v q ne dbg
/-- behind the suite its name goes -/
theorem suite_ends {a : Addr} {ob : Obj} {f : Flow} {t : Shared} (ok : ∃ σ H s, Inv X pins σ H s) (nd : X.N.Nodup) (ix : X.N[i]? = some n) (lc : X.env.kindOf n = some .local)
    (back : ∀ {σ : L2.St} {H : Hp}, Inv (X.suite a ((a, ob) :: (X.pn ++ pins))) [] σ H t → Inv X pins σ H t)
    (h : SP (X.suite a ((a, ob) :: (X.pn ++ pins))) [] { nx := fun σ' H' => D.nx (σ'.set i none) H', rt := D.rt, bk := fun σ' H' => D.bk (σ'.set i none) H', ct := fun σ' H' => D.ct (σ'.set i none) H' } f t) :
    wpAny (model X.prog X.w) X.A (do bindName X.env n .none; unbindBehindTheSuite X.env n pos') (fun _ t' => SP X pins D f t') X.xe t := by
  cases f with
  | ret u =>
    obtain ⟨v, σ, H, S, r, q⟩ := h
    exact gone_ok (back S) nd ix lc fun t' J => ⟨v, _, _, J, r, q⟩
  | next => obtain ⟨σ, H, S, q⟩ := h; exact gone_ok (back S) nd ix lc fun t' J => ⟨_, _, J, q⟩
  | brk => obtain ⟨σ, H, S, q⟩ := h; exact gone_ok (back S) nd ix lc fun t' J => ⟨_, _, J, q⟩
  | cont => obtain ⟨σ, H, S, q⟩ := h; exact gone_ok (back S) nd ix lc fun t' J => ⟨_, _, J, q⟩
/-- the clause at work on what was thrown -/
theorem catch_as (st : X.stack = X.env :: X.outer) (fr : X.env.frame = some X.env.locals) (nd : X.N.Nodup) (ix : X.N[i]? = some n) (lc : X.env.kindOf n = some .local) (nm : Names X x c) (tk : L2.Takes X Wout)
    (run : ∀ (a : Addr) (ob : Obj) (cl : Value) (dx : Option Addr) (pn : List (Addr × Obj)), Zc cl dx ob → (∃ fld, ob.data = .fields fld) → PSs (X.suite a ((a, ob) :: pn)) (b₀ :: suite) (ts a cl dx))
    {a : Addr} {B : Heap} {sI t : Shared} {σ : L2.St} {H : Hp} {cl : Value} {dx : Option Addr} (J : Inv X pins σ H sI) (nb : ∀ b o, sI.heap.get? b = some o → b ∉ frs X.stack → B.get? b = some o) (up : sI.heap.UpToSlots t.heap)
    (sky : Sky B (X.env :: X.outer) a (Zc cl dx) X.env.locals t.heap) (na : H a = none) (os : t.os = sI.os) (ag : AllBare t.gens) (wish : wAs X.K c i ts Wout D cl dx σ H) :
    wpAny (model X.prog X.w) X.A (noteFrame (.ref a) X.env) (fun _ t2 => wpAny (model X.prog X.w) X.A (setFlight (.ref a) none) (fun _ t3 =>
      wpAny (model X.prog X.w) X.A (handleBy (.ref a) X.env [.ExceptHandler (some (.Name x np)) (some n) (b₀ :: suite) pos']) (SP X pins D) X.xe t3) X.xe t2) X.xe t := by
  have gnd := J.ok
  have frames : X.A.frames = some (X.env :: X.outer) := by rw [gnd.frames, st]
  refine Sky.land Zc.steady frames fr sky fun hp2 fly2 up2 => ?_
  have J2 : Inv X pins σ H { t with heap := hp2 } := J.landed nb fly2.1 (up.trans up2) os ag
  obtain ⟨ob2, fld2, at2, zc2, dat2⟩ := fly2.there
  have off := noFrame fly2.2.2.1 at2 dat2
  have off0 : a ≠ X.env.locals := fun e => off (List.mem_filterMap.mpr ⟨X.env, List.mem_cons_self, by rw [fr, e]⟩)
  have off1 : a ∉ X.fs := fun bad => by
    obtain ⟨en, hen, e⟩ := List.mem_filterMap.mp bad
    exact off (List.mem_filterMap.mpr ⟨en, List.mem_cons_of_mem _ hen, e⟩)
  have S2 := J2.suite at2 dat2 na off0 off1
  obtain ⟨b, tab, yes, no⟩ := wish
  have looks : PySem.W.Looks (model X.prog X.w) hp2 (typeOf (.ref a)) cl := fun _ _ _ _ kp q => wpAny_typeOf_ref (kp _ _ at2) (by rw [zc2.1]; exact q)
  have asks := PySem.W.exm_one (M := model X.prog X.w) J2.kIn looks tab
  refine wpAny_handleBy_cons (codeAny_handlers_test (seek_class nm S2 (asks.here ?_))) (fun z => by cases z)
  cases b with
  | false =>
    refine wpAny_handleBy_nil ?_
    obtain ⟨_, _, _, ob3, fld3, cT, oT, tT3, at3, zc3, dat3, f1, hr3⟩ := id fly2
    unfold PySem.passOn
    refine wpAny_bind (wpAny_field at3 dat3 f1 ?_)
    rw [if_neg (by simp)]
    have gone : wpAny (model X.prog X.w) X.A (setFlight (.ref a) X.env.frame) (fun _ t4 => wpAny (model X.prog X.w) X.A (throw (.ref a) : Sem Flow) (SP X pins D) X.xe t4) X.xe { t with heap := hp2 } := by
      rw [fr]
      refine HandSPX.setFlight_upZ fly2 fun hp4 held up4 => wpAny_throw (tk _ _ ?_)
      refine ⟨a, B, sI, pins, σ, H, cl, dx, rfl, J, nb, (up.trans up2).trans up4, .inr (.inr ?_), na, os, ag, no rfl⟩
      rw [st]; exact held
    first
      | exact wpAny_bind gone
      | exact wpAny_bind (wpAny_pure (wpAny_bind gone))
  | true =>
    refine codeAny_handlers_suite_as (HandSPX.lands_againZ fly2 fun hp5 fly5 up5 => ?_)
    have J5 : Inv X pins σ H { t with heap := hp5 } := J.landed nb fly5.1 ((up.trans up2).trans up5) os ag
    obtain ⟨ob5, fld5, at5, zc5, dat5⟩ := fly5.there
    have S5 := J5.suite at5 dat5 na off0 off1
    refine store_ok (X := X.suite a ((a, ob5) :: (X.pn ++ pins))) (v := .ref a) S5 nd ix (.inl lc) rfl (fun t6 S6 => ?_) (.inr lc)
    have body := (run a ob5 cl dx (X.pn ++ pins) zc5 ⟨_, dat5⟩).run [] t6 _ H _ S6 (yes rfl a na)
    exact wpAny_mono body (fun f t7 h => suite_ends ⟨_, _, _, J⟩ nd ix lc (fun S => S.unsuite gnd) h) fun _ _ z => z.elim
/-- try: body / except x as n: suite / else: orelse -/
theorem ps_try_asE {body orelse : List Stmt} {pos : Pos} {tb : WX → TS} {u : TS} (ho : PSs X orelse u) (st : X.stack = X.env :: X.outer) (fr : X.env.frame = some X.env.locals) (nd : X.N.Nodup) (ix : X.N[i]? = some n) (lc : X.env.kindOf n = some .local) (nm : Names X x c) (tk : L2.Takes X Wout)
    (hb : ∀ (W : WX) (pn : List (Addr × Obj)) (xe : Value → Shared → Prop), L2.Takes (X.tr pn xe) W → PassesOwn (model X.prog X.w) X.A X.env xe → PSs (X.tr pn xe) body (tb W))
    (run : ∀ (a : Addr) (ob : Obj) (cl : Value) (dx : Option Addr) (pn : List (Addr × Obj)), Zc cl dx ob → (∃ fld, ob.data = .fields fld) → PSs (X.suite a ((a, ob) :: pn)) (b₀ :: suite) (ts a cl dx)) :
    PS X (.Try body [.ExceptHandler (some (.Name x np)) (some n) (b₀ :: suite) pos'] orelse [] pos) (fun D σ H => tb (wAs X.K c i ts Wout D) { D with nx := u D } σ H) := ⟨fun pins s σ H D I h => by
  have gnd := I.ok
  refine wpAny_Try_except (wpAny_mono ((hb (wAs X.K c i ts Wout D) (X.pn ++ pins) _ (fun v t thrown => ?_) PassesOwn.looking).run [] s σ H { D with nx := u D } (I.toTry _) h) (fun f t h => ?_) fun v t h => h)
  · obtain ⟨a, B, sI, _, σ1, H1, cl, dx, rfl, J, nb, up, sky, na, os, ag, wish⟩ := thrown
    have sky1 : Sky B (X.env :: X.outer) a (Zc cl dx) X.env.locals t.heap := by rw [← st]; exact sky
    exact catch_as st fr nd ix lc nm tk run (J.ofTry gnd) nb up sky1 na os ag wish
  · cases f with
    | ret v =>
      obtain ⟨v1, σ1, H1, J, r, q⟩ := h
      exact ⟨v1, σ1, H1, J.ofTry gnd, r, q⟩
    | next =>
      obtain ⟨σ1, H1, J, q⟩ := h
      exact ho.run pins t σ1 H1 D (J.ofTry gnd) q
    | brk => obtain ⟨σ1, H1, J, q⟩ := h; exact ⟨σ1, H1, J.ofTry gnd, q⟩
    | cont => obtain ⟨σ1, H1, J, q⟩ := h; exact ⟨σ1, H1, J.ofTry gnd, q⟩⟩
/-- try: B; except ..: Bs, the exception in slot i; else: O -/
def sTryAsE (B : SM) (l : List (Str × Bool)) (i : Nat) (Bs O : SM) : SM := fun ρ S => match B ρ S with
  | .nx ρ' S' => O ρ' S'
  | .ex e ρ' S' => match exIs l e with
    | some true => sOut i (Bs (ρ'.set i (some (.exn e))) S')
    | some false => .ex e ρ' S'
    | none => .bad
  | r => r
theorem ds_tryAsE {W : WX} {k : Nat} {l : List (Str × Bool)} {B Bs O : SM} {body orelse : List Stmt} {pos : Pos} (C : Cz X W k) (hN : X.N.Nodup) (T : ExTab X.K X.mg x l)
    (hb : ∀ (W' : WX) (pn : List (Addr × Obj)) (xe : Value → Shared → Prop), Cz (X.tr pn xe) W' k → DSs (X.tr pn xe) W' body B)
    (hsu : ∀ (a : Addr) (oe : Obj) (pn : List (Addr × Obj)), DSs (X.suite a ((a, oe) :: pn)) W0 (b₀ :: suite) Bs) (ho : DSs X W orelse O)
    (hi : X.N[i]? = some ("error" : Str) := by rfl) (hln : X.env.kindOf ("error" : Str) = some .local := by rfl) (hg : Gl X x := by rfl) (hdb : (x == ("__debug__" : Str)) = false := by decide)
    (hs : X.stack = X.env :: X.outer := by rfl) (hf : X.env.frame = some X.env.locals := by rfl) :
    DS X W (.Try body [.ExceptHandler (some (.Name x np)) (some "error") (b₀ :: suite) pos'] orelse [] pos) (sTryAsE B l i Bs O) := by
  obtain ⟨Cc, hm, ht⟩ := T.ex
  let ts : Addr → Value → Option Addr → TS := fun a cls d D σ H => ∀ oe, Zc cls d oe → (∃ vs, oe.data = .fields vs) →
    ∃ φ bs ρ S, Sim X.K X.mg H φ bs S ∧ EnvR X.K X.mg [(i, a, oe)] H φ ρ σ ∧ PostS X.K X.mg W0 [(i, a, oe)] bs H φ (Bs ρ S) D
  have key := ps_try_asE (X := X) (np := np) (pos := pos) (pos' := pos') (tb := fun W' => tS X W' B) (ts := ts) (Wout := W) ho hs hf hN hi hln ⟨hg, hdb, .inl hm⟩ C.tk
    (fun W' pn xe tk po => by
      have h := hb W' pn xe (C.tr tk po)
      rw [← tS_tr (pn := pn) (xe := xe) C.calm]
      exact h)
    (fun a oe cls d pn hz hf => (hsu a oe pn).wk fun D σ H h => by
      have h' := h oe hz hf
      unfold tS
      have ex : xp (X.suite a ((a, oe) :: pn)) = [(i, a, oe)] := by
        show (List.map (fun q => (X.N.idxOf ("error" : Str), q)) [(a, oe)]) = _
        rw [idx_of hN hi]; rfl
      rw [ex]
      exact h')
  refine key.wk fun D σ H h => ?_
  obtain ⟨φ, bs, ρ, S, s, en, h⟩ := h
  refine ⟨φ, bs, ρ, S, s, en, ?_⟩
  have hx : xp X = [] := xp_calm C.calm
  rw [hx] at h ⊢
  revert h
  unfold sTryAsE
  cases B ρ S with
  | ex e ρ' S' =>
    intro h cls dx σ' H' φ' x' s' e' r'
    dsimp only at h
    have r0 := r'
    obtain ⟨c, fs, Ca, rfl, h1, rfl, h3, h0⟩ := r'
    cases q : l.lookup c with
    | none => rw [show exIs l (.obj c fs) = none from q] at h; exact h.elim
    | some b =>
      rw [show exIs l (.obj c fs) = some b from q] at h
      refine ⟨b, ht _ (lookup_mem q) _ h1, fun hb a na oe hz hf => ?_, fun hb => ?_⟩
      · subst hb
        refine ⟨φ', bs, ρ'.set i (some (.exn (.obj c fs))), S', s', e'.held (fun p hp => by simpa using hp) hz hf r0, ?_⟩
        have h := PostS.shift x' h
        dsimp only at h
        revert h
        cases Bs (ρ'.set i (some (.exn (.obj c fs)))) S' with
        | nx ρ2 S2 => exact fun h σ2 H2 φ2 x2 s2 e2 => h _ H2 φ2 x2 s2 (e2.loose.unset i none)
        | bk ρ2 S2 => exact fun h σ2 H2 φ2 x2 s2 e2 => h _ H2 φ2 x2 s2 (e2.loose.unset i none)
        | ct ρ2 S2 => exact fun h σ2 H2 φ2 x2 s2 e2 => h _ H2 φ2 x2 s2 (e2.loose.unset i none)
        | rt d S2 => exact fun h => h
        | ex _ _ _ => exact fun h => h.elim
        | bad => exact fun h => h.elim
      · subst hb
        exact h _ _ _ H' φ' x' s' e' r0
  | nx ρ' S' =>
    intro h σ2 H2 φ2 x2 s2 e2
    refine ⟨φ2, bs, ρ', S', s2, by rw [hx]; exact e2, ?_⟩
    rw [hx]
    exact PostS.shift x2 h
  | bk _ _ => exact fun h => h
  | ct _ _ => exact fun h => h
  | rt _ _ => exact fun h => h
  | bad => exact fun h => h
end
end Mi

/-! Ma0: reckoning with the meanings. -/
namespace Mi
open PySem PySem.Spec PyProof.Rows L2
noncomputable instance decD : DecidableEq D := fun _ _ => Classical.propDecidable _
/-! ### running -/
section
variable {f g h : EM} {a b : SM} {t u : TM} {ρ ρ' : Env} {S S' : Sto} {d e x y : D} {i j : Nat} {α β : Type}
@[simp] theorem x_bind_ok (a : α) (S : Sto) (k : α → Sto → R β) : R.bind (.ok a S) k = k a S := (rfl)
@[simp] theorem x_bind_ex (e : D) (S : Sto) (k : α → Sto → R β) : R.bind (.ex e S) k = .ex e S := (rfl)
@[simp] theorem x_bindS_ok (a : α) (S : Sto) (k : α → Sto → SR) : R.bindS ρ (.ok a S) k = k a S := (rfl)
@[simp] theorem x_bindS_ex (e : D) (S : Sto) (k : α → Sto → SR) : R.bindS ρ (.ex e S) k = .ex e ρ S := (rfl)
@[simp] theorem x_of_some (a : α) : R.of S (some a) = .ok a S := (rfl)
@[simp] theorem x_var : eVar i ρ S = (match ρ[i]? with
  | some (some d) => .ok d S
  | _ => .bad) := (rfl)
@[simp] theorem x_C : eC d ρ S = .ok d S := (rfl)
@[simp] theorem x_bin {k : D → D → Sto → R D} : eBin f g k ρ S = (f ρ S).bind fun x S1 => (g ρ S1).bind fun y S2 => k x y S2 := (rfl)
@[simp] theorem x_un {k : D → Sto → R D} : eUn f k ρ S = (f ρ S).bind k := (rfl)
@[simp] theorem x_tru : eTru f ρ S = (f ρ S).bind fun d S1 => .of S1 (truS S1 d) := (rfl)
@[simp] theorem x_tst : eTst f ρ S = (f ρ S).bind fun d S1 => .of S1 (blD d) := (rfl)
@[simp] theorem x_not : tNotM t ρ S = (t ρ S).bind fun b S1 => .ok (!b) S1 := (rfl)
@[simp] theorem x_and : tAndM t u ρ S = (t ρ S).bind fun b S1 => if b = true then u ρ S1 else .ok false S1 := (rfl)
@[simp] theorem x_or : tOrM t u ρ S = (t ρ S).bind fun b S1 => if b = true then .ok true S1 else u ρ S1 := (rfl)
@[simp] theorem x_orV : eOrV f g ρ S = (f ρ S).bind fun d S1 => (match truS S1 d with
  | some true => .ok d S1
  | some false => g ρ S1
  | none => .bad) := (rfl)
@[simp] theorem x_andV : eAndV f g ρ S = (f ρ S).bind fun d S1 => (match truS S1 d with
  | some true => g ρ S1
  | some false => .ok d S1
  | none => .bad) := (rfl)
@[simp] theorem x_notV : eNotV f ρ S = (f ρ S).bind fun d S1 => (match truS S1 d with
  | some k => .ok (.bl (!k)) S1
  | none => .bad) := (rfl)
@[simp] theorem x_if : eIf t f g ρ S = (t ρ S).bind fun b S1 => if b = true then f ρ S1 else g ρ S1 := (rfl)
@[simp] theorem x_chain {k k' : D → D → Sto → R D} : eChain f g h k k' ρ S = (f ρ S).bind fun x S1 => (g ρ S1).bind fun y S2 => (k x y S2).bind fun z S3 => (match blD z with
  | some true => (h ρ S3).bind fun w S4 => k' y w S4
  | some false => .ok (.bl false) S3
  | none => .bad) := (rfl)
@[simp] theorem x_l0 : aList [] ρ S = .ok [] S := (rfl)
@[simp] theorem x_l1 {fs : List EM} : aList (f :: fs) ρ S = (f ρ S).bind fun x S1 => (aList fs ρ S1).bind fun xs S2 => .ok (x :: xs) S2 := (rfl)
@[simp] theorem x_app {fs : List EM} {k : List D → Sto → R D} : eApp fs k ρ S = (aList fs ρ S).bind k := (rfl)
@[simp] theorem x_call {fs : List EM} {ds : List D} {k : List D → Sto → R D} : eCall fs ds k ρ S = (aList fs ρ S).bind fun xs S1 => k (xs ++ ds) S1 := (rfl)
@[simp] theorem x_tup {ds : List D} : dTup ds S = .ok (.tup ds) S := (rfl)
@[simp] theorem x_lstF {ds : List D} : dLst false ds S = .ok (.lst ds) S := (rfl)
@[simp] theorem x_lstT {ds : List D} : dLst true ds S = .ok (.ref S.new) (S.add (.lst ds)) := (rfl)
@[simp] theorem x_mkF {ds : List D} : mkL false ds S = .ok (.lst ds) S := (rfl)
@[simp] theorem x_mkT {ds : List D} : mkL true ds S = .ok (.ref S.new) (S.add (.lst ds)) := (rfl)
@[simp] theorem x_mdF {ds : List (Key × D)} : mkD false ds S = .ok (.dic ds) S := (rfl)
@[simp] theorem x_mdT {ds : List (Key × D)} : mkD true ds S = .ok (.ref S.new) (S.add (.dic ds)) := (rfl)
@[simp] theorem x_b1 {k : Sto → D → Option D} : b1 k [d] S = .of S (k S d) := (rfl)
@[simp] theorem x_intI {n : Int} : intG S (.int n) = some (.int n) := (rfl)
@[simp] theorem x_absI {n : Int} : absG S (.int n) = some (.int (if n < 0 then -n else n)) := (rfl)
@[simp] theorem x_isT {T : String} : eIsT T f ρ S = (f ρ S).bind fun d S1 => (match tyS S1 d with
  | some t => .ok (.bl (isTy T t)) S1
  | none => .bad) := (rfl)
@[simp] theorem x_oN : oNone ρ S = .ok none S := (rfl)
@[simp] theorem x_oS : oSome f ρ S = (f ρ S).bind fun d S1 => .of S1 ((intD d).map some) := (rfl)
@[simp] theorem x_sl {c : Bool} {lo hi : Env → Sto → R (Option Int)} : eSl c f lo hi ρ S = (f ρ S).bind fun x S1 => (lo ρ S1).bind fun l S2 => (hi ρ S2).bind fun h S3 => dSl c x l h S3 := (rfl)
@[simp] theorem x_slT {c : Bool} {xs : List D} {lo hi : Option Int} : dSl c (.tup xs) lo hi S = .ok (.tup (cutG xs lo hi)) S := (rfl)
@[simp] theorem x_slL {c : Bool} {xs : List D} {lo hi : Option Int} : dSl c (.lst xs) lo hi S = mkL c (cutG xs lo hi) S := (rfl)
@[simp] theorem x_intD {n : Int} : intD (.int n) = some n := (rfl)
@[simp] theorem x_blD {b : Bool} : blD (.bl b) = some b := (rfl)
@[simp] theorem x_truB {b : Bool} : truS S (.bl b) = some b := (rfl)
@[simp] theorem x_kd {kvs : List (List Nat × D)} : eKd kvs f ρ S = (f ρ S).bind fun d S1 => .of S1 (kdG kvs d) := (rfl)
@[simp] theorem x_kdG {kvs : List (List Nat × D)} {s : List Nat} : kdG kvs (.str s) = (kvs.find? fun p => decide (p.1 = s)).map (·.2) := (rfl)
-- statements
@[simp] theorem x_skip : sSkip ρ S = .nx ρ S := (rfl)
@[simp] theorem x_seq : sSeq a b ρ S = (match a ρ S with
  | .nx ρ' S' => b ρ' S'
  | r => r) := (rfl)
@[simp] theorem x_expr : sExpr f ρ S = (f ρ S).bindS ρ fun _ S1 => .nx ρ S1 := (rfl)
@[simp] theorem x_ret : sRet f ρ S = (f ρ S).bindS ρ fun d S1 => .rt d S1 := (rfl)
@[simp] theorem x_sif : sIf t a b ρ S = (t ρ S).bindS ρ fun k S1 => if k = true then a ρ S1 else b ρ S1 := (rfl)
@[simp] theorem x_asg {i : Nat} : sAsg f (gtName i) ρ S = (f ρ S).bindS ρ fun d S1 => .nx (ρ.set i (some d)) S1 := (rfl)
theorem x_asgG {t : GM} : sAsg f t ρ S = (f ρ S).bindS ρ fun d S1 => (match t d ρ S1 with
  | some ρ' => .nx ρ' S1
  | none => .bad) := (rfl)
@[simp] theorem x_par {fs : List EM} : sPar i j fs ρ S = (aList fs ρ S).bindS ρ fun ds S1 => (match ds with
  | [d, d'] => .nx ((ρ.set i (some d)).set j (some d')) S1
  | _ => .bad) := (rfl)
@[simp] theorem x_setIx {fo fi fv : EM} : sSetIx fo fi fv ρ S = (fv ρ S).bindS ρ fun v S1 => (fo ρ S1).bindS ρ fun o S2 => (fi ρ S2).bindS ρ fun i S3 => (match setS S3 o i v with
  | some S4 => .nx ρ S4
  | none => .bad) := (rfl)
@[simp] theorem x_for {im : IM} {gt : GM} : sFor im gt a ρ S = (im ρ S).bindS ρ fun w S1 => sForN gt a w.2 w.1 w.1 ρ S1 := (rfl)
@[simp] theorem x_iVal : iVal f ρ S = (f ρ S).bind fun d S1 => .of S1 (itS S1 d) := (rfl)
@[simp] theorem x_itT {xs : List D} : itS S (.tup xs) = some (xs, none) := (rfl)
@[simp] theorem x_itL {xs : List D} : itS S (.lst xs) = some (xs, none) := (rfl)
@[simp] theorem x_itF {xs : List D} : itS S (.frl xs) = some (xs, none) := (rfl)
@[simp] theorem x_iR1 : iRange [f] ρ S = (f ρ S).bind fun d S1 => (match d with
  | .int j => if -(2 ^ 62) ≤ j ∧ j < 2 ^ 62 then .ok (rangeL 0 j.toNat, none) S1 else .bad
  | _ => .bad) := by
  show (R.bind (R.bind (f ρ S) _) _) = _
  cases f ρ S with
  | ok d S1 => cases d <;> rfl
  | ex _ _ => rfl
  | bad => rfl
@[simp] theorem x_kInt {n : Int} : keyD (.int n) = some (.inl n) := (rfl)
@[simp] theorem x_kStr {s : List Nat} : keyD (.str s) = some (.inr ⟨s.toArray⟩) := (rfl)
@[simp] theorem x_disp {c : Bool} {fs : List (EM × EM)} : eDisp c fs ρ S = (pList fs ρ S).bind fun ps S1 => mkD c (mergeD [] ps) S1 := (rfl)
@[simp] theorem x_dnew {c : Bool} : eDnew c ρ S = mkD c [] S := (rfl)
@[simp] theorem x_p0 : pList [] ρ S = .ok [] S := (rfl)
@[simp] theorem x_p1 {r : List (EM × EM)} : pList ((f, g) :: r) ρ S = (f ρ S).bind fun x S1 => (match keyD x with
  | some kk => (g ρ S1).bind fun y S2 => (pList r ρ S2).bind fun ps S3 => .ok ((kk, y) :: ps) S3
  | none => .bad) := (rfl)
@[simp] theorem x_lc {c : Bool} {im : IM} {gt : GM} {vs : List Nat} : eLc c im gt t f vs ρ S = (im ρ S).bind fun w S1 => (match lcN gt t f w.2 w.1 w.1 [] (wipeE ρ vs) S1 with
  | .ok acc S2 => mkL c acc S2
  | _ => .bad) := (rfl)
@[simp] theorem x_yes : tYesM ρ S = .ok true S := (rfl)
-- operators
@[simp] theorem x_addI {m n : Int} {c : Bool} : dAdd c (.int m) (.int n) S = .ok (.int (m + n)) S := (rfl)
@[simp] theorem x_addL {m n : List D} {c : Bool} : dAdd c (.lst m) (.lst n) S = if m.length + n.length ≤ sizeLine then mkL c (m ++ n) S else .bad := (rfl)
@[simp] theorem x_addT {m n : List D} {c : Bool} : dAdd c (.tup m) (.tup n) S = if m.length + n.length ≤ sizeLine then .ok (.tup (m ++ n)) S else .bad := (rfl)
@[simp] theorem x_subI {m n : Int} : dSub (.int m) (.int n) S = .ok (.int (m - n)) S := (rfl)
@[simp] theorem x_dI {C : Int → Int → Prop} [∀ i j, Decidable (C i j)] {k : Int → Int → Int} {m n : Int} : dI C k (.int m) (.int n) S = if C m n then .ok (.int (k m n)) S else .bad := (rfl)
@[simp] theorem x_ltI {m n : Int} : dLt (.int m) (.int n) S = .ok (.bl (decide (m < n))) S := (rfl)
@[simp] theorem x_gtI {m n : Int} : dGt (.int m) (.int n) S = .ok (.bl (decide (n < m))) S := (rfl)
@[simp] theorem x_leI {m n : Int} : dLe (.int m) (.int n) S = .ok (.bl (decide (m ≤ n))) S := by
  show R.ok (D.bl (!decide (n < m))) S = _
  by_cases q : m ≤ n
  · have : ¬ n < m := by omega
    simp [q, this]
  · have : n < m := by omega
    simp [q, this]
@[simp] theorem x_geI {m n : Int} : dGe (.int m) (.int n) S = .ok (.bl (decide (n ≤ m))) S := x_leI
@[simp] theorem x_isN : dIsN d .non S = .ok (.bl (isN d)) S := (rfl)
@[simp] theorem x_notN : dNotN d .non S = .ok (.bl (!isN d)) S := (rfl)
end
/-! ### == -/
mutual
def Pl : D → Bool
  | .non => true | .int _ => true | .str _ => true
  | .tup xs => PlL xs
  | .lst xs => PlL xs
  | _ => false
def PlL : List D → Bool
  | [] => true
  | x :: xs => Pl x && PlL xs
end
mutual
def dp : D → Nat
  | .tup xs => dpL xs + 1
  | .lst xs => dpL xs + 1
  | _ => 0
def dpL : List D → Nat
  | [] => 0
  | x :: xs => max (dp x) (dpL xs)
end
theorem PlL_all {xs : List D} : PlL xs = true ↔ ∀ x ∈ xs, Pl x = true := by
  induction xs with
  | nil => simp [PlL]
  | cons a r ih => simp [PlL, ih]
theorem dpL_le {xs : List D} {n : Nat} : dpL xs ≤ n ↔ ∀ x ∈ xs, dp x ≤ n := by
  induction xs with
  | nil => simp [dpL]
  | cons a r ih => simp [dpL, ih, Nat.max_le]
mutual
theorem pyD_pl : ∀ {d : D}, Pl d = true → ∃ p, pyD d = some p ∧ p.depth = dp d
  | .non, _ => ⟨_, rfl, rfl⟩
  | .int _, _ => ⟨_, rfl, rfl⟩
  | .str _, _ => ⟨_, rfl, rfl⟩
  | .tup xs, h => by
    obtain ⟨ps, e, q⟩ := pyL_pl (xs := xs) h
    exact ⟨.tuple ps, by rw [pyD, e]; rfl, by rw [PyData.depth, q, dp]⟩
  | .lst xs, h => by
    obtain ⟨ps, e, q⟩ := pyL_pl (xs := xs) h
    exact ⟨.list ps, by rw [pyD, e]; rfl, by rw [PyData.depth, q, dp]⟩
theorem pyL_pl : ∀ {xs : List D}, PlL xs = true → ∃ ps, pyL xs = some ps ∧ PyData.depthAll ps = dpL xs
  | [], _ => ⟨[], rfl, rfl⟩
  | x :: xs, h => by
    simp only [PlL, Bool.and_eq_true] at h
    obtain ⟨p, e, q⟩ := pyD_pl h.1
    obtain ⟨ps, e2, q2⟩ := pyL_pl h.2
    exact ⟨p :: ps, by rw [pyL, e, e2], by rw [PyData.depthAll, q, q2, dpL]⟩
end
mutual
theorem eqv_pl : ∀ {x y : D} {p q : PyData}, Pl x = true → Pl y = true → pyD x = some p → pyD y = some q → (PyData.eqv p q = true ↔ x = y)
  | .non, y, p, q, _, hy, e1, e2 => by
    cases e1
    cases y <;> simp only [Pl] at hy <;> simp only [pyD, Option.some.injEq, Option.map_eq_some_iff, reduceCtorEq] at e2
    all_goals first
      | (cases hy; done)
      | (subst e2; simp [PyData.eqv]; done)
      | (obtain ⟨_, _, e2⟩ := e2; subst e2; simp [PyData.eqv])
  | .int _, y, p, q, _, hy, e1, e2 => by
    cases e1
    cases y <;> simp only [Pl] at hy <;> simp only [pyD, Option.some.injEq, Option.map_eq_some_iff, reduceCtorEq] at e2
    all_goals first
      | (cases hy; done)
      | (subst e2; simp [PyData.eqv]; done)
      | (obtain ⟨_, _, e2⟩ := e2; subst e2; simp [PyData.eqv])
  | .str _, y, p, q, _, hy, e1, e2 => by
    cases e1
    cases y <;> simp only [Pl] at hy <;> simp only [pyD, Option.some.injEq, Option.map_eq_some_iff, reduceCtorEq] at e2
    all_goals first
      | (subst e2; simp [PyData.eqv]; done)
      | (obtain ⟨_, _, e2⟩ := e2; subst e2; simp [PyData.eqv])
  | .tup xs, y, p, q, hx, hy, e1, e2 => by
    obtain ⟨ps, e, _⟩ := pyL_pl (xs := xs) hx
    rw [pyD, e] at e1
    cases e1
    cases y with
    | tup ys =>
      obtain ⟨qs, e', _⟩ := pyL_pl (xs := ys) hy
      rw [pyD, e'] at e2
      cases e2
      simp only [PyData.eqv, D.tup.injEq]
      exact eqvAll_pl hx hy e e'
    | lst ys =>
      obtain ⟨qs, e', _⟩ := pyL_pl (xs := ys) hy
      rw [pyD, e'] at e2
      cases e2
      simp [PyData.eqv]
    | non => cases e2; simp [PyData.eqv]
    | int _ => cases e2; simp [PyData.eqv]
    | str _ => cases e2; simp [PyData.eqv]
    | bl _ => cases hy
    | dic _ => cases hy
    | obj _ _ => cases hy
    | ref _ => cases hy
    | frl _ => cases hy
    | exn _ => cases hy
  | .lst xs, y, p, q, hx, hy, e1, e2 => by
    obtain ⟨ps, e, _⟩ := pyL_pl (xs := xs) hx
    rw [pyD, e] at e1
    cases e1
    cases y with
    | lst ys =>
      obtain ⟨qs, e', _⟩ := pyL_pl (xs := ys) hy
      rw [pyD, e'] at e2
      cases e2
      simp only [PyData.eqv, D.lst.injEq]
      exact eqvAll_pl hx hy e e'
    | tup ys =>
      obtain ⟨qs, e', _⟩ := pyL_pl (xs := ys) hy
      rw [pyD, e'] at e2
      cases e2
      simp [PyData.eqv]
    | non => cases e2; simp [PyData.eqv]
    | int _ => cases e2; simp [PyData.eqv]
    | str _ => cases e2; simp [PyData.eqv]
    | bl _ => cases hy
    | dic _ => cases hy
    | obj _ _ => cases hy
    | ref _ => cases hy
    | frl _ => cases hy
    | exn _ => cases hy
theorem eqvAll_pl : ∀ {x y : List D} {p q : List PyData}, PlL x = true → PlL y = true → pyL x = some p → pyL y = some q → (PyData.eqvAll p q = true ↔ x = y)
  | [], [], _, _, _, _, e1, e2 => by cases e1; cases e2; simp [PyData.eqvAll]
  | [], y :: ys, _, _, _, hy, e1, e2 => by
    obtain ⟨qs, e', _⟩ := pyL_pl hy
    cases e1
    simp only [PlL, Bool.and_eq_true] at hy
    obtain ⟨p, e, _⟩ := pyD_pl hy.1
    obtain ⟨ps, e3, _⟩ := pyL_pl hy.2
    rw [pyL, e, e3] at e2
    cases e2
    simp [PyData.eqvAll]
  | y :: ys, [], _, _, hy, _, e2, e1 => by
    cases e1
    simp only [PlL, Bool.and_eq_true] at hy
    obtain ⟨p, e, _⟩ := pyD_pl hy.1
    obtain ⟨ps, e3, _⟩ := pyL_pl hy.2
    rw [pyL, e, e3] at e2
    cases e2
    simp [PyData.eqvAll]
  | x :: xs, y :: ys, _, _, hx, hy, e1, e2 => by
    simp only [PlL, Bool.and_eq_true] at hx hy
    obtain ⟨p, e, _⟩ := pyD_pl hx.1
    obtain ⟨ps, e3, _⟩ := pyL_pl hx.2
    obtain ⟨q, e', _⟩ := pyD_pl hy.1
    obtain ⟨qs, e3', _⟩ := pyL_pl hy.2
    rw [pyL, e, e3] at e1
    rw [pyL, e', e3'] at e2
    cases e1
    cases e2
    simp only [PyData.eqvAll, Bool.and_eq_true, List.cons.injEq]
    rw [eqv_pl hx.1 hy.1 e e', eqvAll_pl hx.2 hy.2 e3 e3']
end
theorem pyS_pl {S : Sto} {d : D} (h : Pl d = true) : pyS S d = pyD d := by
  cases d <;> first | rfl | cases h
theorem eqS_pl {S : Sto} {x y : D} (hx : Pl x = true) (hy : Pl y = true) (hd : dp x ≤ 64 ∨ dp y ≤ 64) : eqS S x y = some (decide (x = y)) := by
  obtain ⟨p, e1, d1⟩ := pyD_pl hx
  obtain ⟨q, e2, d2⟩ := pyD_pl hy
  have := eqv_pl hx hy e1 e2
  unfold eqS
  rw [pyS2_of ((pyS_pl hx).trans e1), pyS2_of ((pyS_pl hy).trans e2)]
  simp only
  rw [if_pos (by omega)]
  by_cases h : x = y
  · rw [this.mpr h, decide_eq_true h]
  · have h2 : PyData.eqv p q = false := by
      cases z : PyData.eqv p q with
      | false => rfl
      | true => exact absurd (this.mp z) h
    rw [h2, decide_eq_false h]
theorem dEq_pl {S : Sto} {x y : D} (hx : Pl x = true) (hy : Pl y = true) (hd : dp x ≤ 64 ∨ dp y ≤ 64) : dEq x y S = .ok (.bl (decide (x = y))) S := by
  unfold dEq; rw [eqS_pl hx hy hd]
theorem dNe_pl {S : Sto} {x y : D} (hx : Pl x = true) (hy : Pl y = true) (hd : dp x ≤ 64 ∨ dp y ≤ 64) : dNe x y S = .ok (.bl (!decide (x = y))) S := by
  unfold dNe; rw [eqS_pl hx hy hd]
@[simp] theorem x_eqStr {S : Sto} {a b : List Nat} : dEq (.str a) (.str b) S = .ok (.bl (decide (a = b))) S := by
  rw [dEq_pl rfl rfl (.inl (Nat.zero_le _))]; simp
@[simp] theorem x_neStr {S : Sto} {a b : List Nat} : dNe (.str a) (.str b) S = .ok (.bl (!decide (a = b))) S := by
  rw [dNe_pl rfl rfl (.inl (Nat.zero_le _))]; simp
@[simp] theorem x_eqInt {S : Sto} {a b : Int} : dEq (.int a) (.int b) S = .ok (.bl (decide (a = b))) S := by
  rw [dEq_pl rfl rfl (.inl (Nat.zero_le _))]; simp
@[simp] theorem x_neInt {S : Sto} {a b : Int} : dNe (.int a) (.int b) S = .ok (.bl (!decide (a = b))) S := by
  rw [dNe_pl rfl rfl (.inl (Nat.zero_le _))]; simp
@[simp] theorem x_eqBl {S : Sto} {a b : Bool} : dEq (.bl a) (.bl b) S = .ok (.bl (a == b)) S := by
  cases a <;> cases b <;> rfl
@[simp] theorem x_neBl {S : Sto} {a b : Bool} : dNe (.bl a) (.bl b) S = .ok (.bl (!(a == b))) S := by
  cases a <;> cases b <;> rfl
theorem inS_pl {S : Sto} {x : D} {ys : List D} (hx : Pl x = true) (hy : PlL ys = true) (hd : dp x ≤ 64 ∨ dpL ys ≤ 64) (y : D) (e : y = .tup ys ∨ y = .lst ys) : inS S x y = some (decide (x ∈ ys)) := by
  obtain ⟨p, e1, d1⟩ := pyD_pl hx
  obtain ⟨qs, e2, d2⟩ := pyL_pl hy
  have hs : dicS S y = none ∧ seqS S y = some ys := by rcases e with rfl | rfl <;> exact ⟨rfl, rfl⟩
  have h0 : inS S x y = match pyS S x, pyL ys with
        | some p, some ps => if min (PyData.depthAll ps) p.depth ≤ 64 then some (ps.any fun q => PyData.eqv q p) else none
        | _, _ => none := by rcases e with rfl | rfl <;> rfl
  rw [h0, pyS_pl hx, e1, e2]
  simp only
  rw [if_pos (by omega)]
  congr 1
  clear h0 hs e d1 d2 hd
  induction ys generalizing qs with
  | nil => cases e2; simp
  | cons a r ih =>
    simp only [PlL, Bool.and_eq_true] at hy
    obtain ⟨q, e3, _⟩ := pyD_pl hy.1
    obtain ⟨qs', e4, _⟩ := pyL_pl hy.2
    rw [pyL, e3, e4] at e2
    cases e2
    rw [List.any_cons, ih hy.2 qs' e4]
    have := eqv_pl hy.1 hx e3 e1
    by_cases h : a = x
    · subst h
      rw [this.mpr rfl]; simp
    · have h2 : PyData.eqv q p = false := by
        cases z : PyData.eqv q p with
        | false => rfl
        | true => exact absurd (this.mp z) h
      rw [h2]
      have h' : ¬ x = a := fun z => h z.symm
      simp [h']
theorem PlL_str (l : List (List Nat)) : PlL (l.map D.str) = true := by
  induction l with
  | nil => rfl
  | cons a r ih => simpa [PlL, Pl] using ih
@[simp] theorem x_inT2 {S : Sto} {a b c : List Nat} : dIn (.str a) (.tup [.str b, .str c]) S = .ok (.bl (decide (a = b) || decide (a = c))) S := by
  unfold dIn
  rw [inS_pl (ys := [.str b, .str c]) rfl rfl (.inl (Nat.zero_le _)) _ (.inl rfl)]
  simp
/-! ### the store -/
section
variable {S S' T : Sto} {n m : Nat} {c : Cell}
@[simp] theorem get_push : S.push.get n = S.get n := by rw [Sto.get_all, Sto.get_all, push_all]
@[simp] theorem new_push : S.push.new = S.new := by rw [Sto.new_all, Sto.new_all, push_all]
theorem pop_push (h : S.old.length = T.old.length) : S.pop T.push = T := by
  unfold Sto.pop Sto.push
  rw [h]
  simp
@[simp] theorem pop_push_self : S.pop S.push = S := pop_push rfl
/-- all but the cell m stays -/
structure Sam (m : Nat) (S S' : Sto) : Prop where
  lo : S'.old.length = S.old.length
  lt : S'.top.length = S.top.length
  g : ∀ n, n ≠ m → S'.get n = S.get n
theorem Sam.refl : Sam m S S := ⟨rfl, rfl, fun _ _ => rfl⟩
theorem Sam.trans (a : Sam m S S') (b : Sam m S' T) : Sam m S T := ⟨b.lo.trans a.lo, b.lt.trans a.lt, fun n h => (b.g n h).trans (a.g n h)⟩
theorem Sam.set : Sam m S (S.set m c) := by
  refine ⟨Sto.set_old S m c, ?_, fun n h => ?_⟩
  · unfold Sto.set; split <;> simp
  · rw [Sto.get_all, Sto.get_all, Sto.set_all, List.getElem?_set_ne (fun q => h q.symm)]
theorem Sam.new (a : Sam m S S') : S'.new = S.new := by unfold Sto.new; rw [a.lo, a.lt]
theorem get_set (h : m < S.new) : (S.set m c).get m = some c := by
  rw [Sto.get_all, Sto.set_all, List.getElem?_set_self (by rw [← Sto.new_all]; exact h)]
theorem get_lt (h : S.get m = some c) : m < S.new := by
  rw [Sto.get_all] at h
  rw [Sto.new_all]
  exact (List.getElem?_eq_some_iff.mp h).1
theorem get_add : (S.add c).get S.new = some c := by
  rw [Sto.get_all, Sto.add_all, Sto.new_all, List.getElem?_append_right (Nat.le_refl _)]; simp
theorem get_add_lt (h : n < S.new) : (S.add c).get n = S.get n := by
  rw [Sto.get_all, Sto.get_all, Sto.add_all, List.getElem?_append_left (by rw [← Sto.new_all]; exact h)]
theorem new_add : (S.add c).new = S.new + 1 := by
  rw [Sto.new_all, Sto.new_all, Sto.add_all]; simp
/-- behind a frame that changed the cell m -/
theorem Sam.pop (a : Sam m S.push S') (hT : S'.top = []) : Sam m S (S.pop S') ∧ ∀ n, (S.pop S').get n = S'.get n := by
  have h1 : S'.old.length = (S.old ++ S.top).length := a.lo
  have hall : (S.pop S').all = S'.old := by
    unfold Sto.pop Sto.all
    exact List.take_append_drop _ _
  have h2 : S'.all = S'.old := by unfold Sto.all; rw [hT, List.append_nil]
  have hg : ∀ n, (S.pop S').get n = S'.get n := fun n => by rw [Sto.get_all, Sto.get_all, hall, h2]
  refine ⟨⟨?_, ?_, fun n h => ?_⟩, hg⟩
  · show (S'.old.take S.old.length).length = _
    rw [List.length_take, h1, List.length_append]; omega
  · show (S'.old.drop S.old.length).length = _
    rw [List.length_drop, h1, List.length_append]; omega
  · rw [hg, a.g n h]
    exact get_push
end
end Mi

/-! Ma1: reading and writing cells, loops, the laws' own draws. -/
namespace Mi
open PySem PySem.Spec PyProof.Rows L2
section
variable {S S' T : Sto} {n m : Nat} {c : Cell} {xs ys : List D} {kvs : List (Key × D)} {d v : D} {i : Int}
@[simp] theorem x_ixT : dIx (.tup xs) (.int i) S = (match atI xs i with
  | some d => .ok d S
  | none => .bad) := (rfl)
@[simp] theorem x_ixL : dIx (.lst xs) (.int i) S = (match atI xs i with
  | some d => .ok d S
  | none => .bad) := (rfl)
@[simp] theorem x_ixF : dIx (.frl xs) (.int i) S = (match atI xs i with
  | some d => .ok d S
  | none => .bad) := (rfl)
theorem x_ixR (h : S.get n = some (.lst xs)) : dIx (.ref n) (.int i) S = (match atI xs i with
  | some d => .ok d S
  | none => .bad) := by
  unfold dIx ixS
  simp only [dicS, seqS, lstS, h, intD]
  try (cases atI xs i <;> rfl)
theorem x_ixD {k : D} (h : S.get n = some (.dic kvs)) : dIx (.ref n) k S = (match keyD k with
  | some q => (match valD kvs q with
    | some d => .ok d S
    | none => .bad)
  | none => .bad) := by
  unfold dIx ixS
  simp only [dicS, h]
  cases keyD k with
  | none => rfl
  | some q => rfl
@[simp] theorem x_ixDv {k : D} : dIx (.dic kvs) k S = (match keyD k with
  | some q => (match valD kvs q with
    | some d => .ok d S
    | none => .bad)
  | none => .bad) := by
  unfold dIx ixS
  simp only [dicS]
  cases keyD k with
  | none => rfl
  | some q => rfl
theorem atI_nat {α : Type} {l : List α} {j : Nat} : atI l (j : Int) = l[j]? := by
  unfold atI ixN
  rw [if_pos (by omega)]
  by_cases h : (j : Int) < l.length
  · rw [if_pos h]; simp
  · rw [if_neg h]
    have : l.length ≤ j := by omega
    simp [this]
@[simp] theorem atI_0 {α : Type} {a : α} {l : List α} : atI (a :: l) 0 = some a := atI_nat (j := 0)
@[simp] theorem atI_1 {α : Type} {a b : α} {l : List α} : atI (a :: b :: l) 1 = some b := atI_nat (j := 1)
@[simp] theorem atI_2 {α : Type} {a b c : α} {l : List α} : atI (a :: b :: c :: l) 2 = some c := atI_nat (j := 2)
@[simp] theorem atI_3 {α : Type} {a b c d : α} {l : List α} : atI (a :: b :: c :: d :: l) 3 = some d := atI_nat (j := 3)
@[simp] theorem atI_4 {α : Type} {a b c d e : α} {l : List α} : atI (a :: b :: c :: d :: e :: l) 4 = some e := atI_nat (j := 4)
@[simp] theorem cut_1 {α : Type} {a : α} {l : List α} : cutG (a :: l) (some 1) none = l := by
  unfold cutG HT.sIx
  simp
@[simp] theorem x_lenT : lenG S (.tup xs) = some (.int xs.length) := (rfl)
@[simp] theorem x_lenL : lenG S (.lst xs) = some (.int xs.length) := (rfl)
@[simp] theorem x_lenF : lenG S (.frl xs) = some (.int xs.length) := (rfl)
theorem x_lenR (h : S.get n = some (.lst xs)) : lenG S (.ref n) = some (.int xs.length) := by
  unfold lenG lenS; simp only [h]; rfl
theorem may_new (h : S.old.length ≤ n) : S.may n c = true := by unfold Sto.may; simp [h]
theorem may_lt (h : c.lt 0 = true) : S.may n c = true := by unfold Sto.may; simp [h]
theorem ixN_nat' {n j : Nat} (hj : j < n) : ixN n (j : Int) = some j := by
  unfold ixN
  rw [if_pos (by omega), if_pos (by omega)]
  simp
theorem x_setL {j : Nat} (h : S.get n = some (.lst xs)) (hj : j < xs.length) (hm : S.may n (.lst (xs.set j v)) = true) : setS S (.ref n) (.int (j : Int)) v = some (S.set n (.lst (xs.set j v))) := by
  unfold setS
  simp only [h, intD]
  rw [ixN_nat' hj]
  simp only
  rw [if_pos hm]
theorem x_setD {k : D} {q : Key} (h : S.get n = some (.dic kvs)) (hk : keyD k = some q) (hl : kvs.length < sizeLine) (hm : S.may n (.dic (putD kvs q v)) = true) : setS S (.ref n) k v = some (S.set n (.dic (putD kvs q v))) := by
  unfold setS
  simp only [h, hk]
  rw [if_pos ⟨hl, hm⟩]
@[simp] theorem x_meth {f : EM} {fs : List EM} {g : D → List D → Sto → R D} {ρ : Env} : eMeth f fs g ρ S = (f ρ S).bind fun x S1 => (match lstS S1 x with
  | some _ => (aList fs ρ S1).bind fun ds S2 => g x ds S2
  | none => .bad) := (rfl)
theorem x_lstR (h : S.get n = some (.lst xs)) : lstS S (.ref n) = some xs := by
  unfold lstS; simp only [h]
theorem x_app1 (h : S.get n = some (.lst xs)) (hl : xs.length < sizeLine) (hm : S.may n (.lst (xs ++ [d])) = true) : mAppend (.ref n) [d] S = .ok .non (S.set n (.lst (xs ++ [d]))) := by
  unfold mAppend
  simp only [h]
  rw [if_pos hl]
  unfold putL
  rw [if_pos hm]
theorem x_append {f g : EM} {ρ : Env} {S1 S2 : Sto} (hf : f ρ S = .ok (.ref n) S1) (h1 : S1.get n = some (.lst ys)) (hg : g ρ S1 = .ok d S2) (h : S2.get n = some (.lst xs)) (hl : xs.length < sizeLine) (hm : S2.may n (.lst (xs ++ [d])) = true) :
    eMeth f [g] mAppend ρ S = .ok .non (S2.set n (.lst (xs ++ [d]))) := by
  unfold eMeth
  rw [hf]
  simp only [x_bind_ok, lstS, h1, x_l1, x_l0, hg, mAppend, h]
  rw [if_pos hl]
  unfold putL
  rw [if_pos hm]
theorem ltL_int {b : Nat} (l : List Int) : D.ltL b (l.map D.int) = true := by
  induction l with
  | nil => rfl
  | cons a r ih => simpa [D.ltL, D.lt] using ih
/-! ### loops -/
theorem forN_any {g : GM} {f : SM} {src : Option Nat} {all : List D} {P : List D → Env → Sto → Prop} {Q : SR → Prop}
    (hs : ∀ x xs ρ S, P (x :: xs) ρ S → okSrc src all S ∧ ∃ ρ1, g x ρ S = some ρ1 ∧ (match f ρ1 S with
      | .nx ρ' S' => P xs ρ' S'
      | .ct ρ' S' => P xs ρ' S'
      | .bk ρ' S' => Q (.nx ρ' S')
      | r => Q r))
    (he : ∀ ρ S, P [] ρ S → okSrc src all S ∧ Q (.nx ρ S)) : ∀ xs ρ S, P xs ρ S → Q (sForN g f src all xs ρ S)
  | [], ρ, S, h => by
    unfold sForN
    obtain ⟨h1, h2⟩ := he ρ S h
    rw [if_pos h1]
    exact h2
  | x :: xs, ρ, S, h => by
    unfold sForN
    obtain ⟨h1, ρ1, h2, h3⟩ := hs x xs ρ S h
    rw [if_pos h1, h2]
    dsimp only
    revert h3
    cases f ρ1 S with
    | nx ρ' S' => exact fun h3 => forN_any hs he xs ρ' S' h3
    | ct ρ' S' => exact fun h3 => forN_any hs he xs ρ' S' h3
    | _ => exact id
theorem forN_nx {g : GM} {f : SM} {src : Option Nat} {all : List D} (P : List D → Env → Sto → Prop)
    (ho : ∀ xs ρ S, P xs ρ S → okSrc src all S)
    (hs : ∀ x xs ρ S, P (x :: xs) ρ S → ∃ ρ1, g x ρ S = some ρ1 ∧ ∃ ρ' S', (f ρ1 S = .nx ρ' S' ∨ f ρ1 S = .ct ρ' S') ∧ P xs ρ' S') :
    ∀ xs ρ S, P xs ρ S → ∃ ρ' S', sForN g f src all xs ρ S = .nx ρ' S' ∧ P [] ρ' S' := fun xs ρ S h =>
  forN_any (P := P) (Q := fun r => ∃ ρ' S', r = .nx ρ' S' ∧ P [] ρ' S') (fun x xs ρ S h => by
    obtain ⟨ρ1, e, ρ', S', e2, p⟩ := hs x xs ρ S h
    refine ⟨ho _ _ _ h, ρ1, e, ?_⟩
    rcases e2 with e2 | e2 <;> rw [e2] <;> exact p) (fun ρ S h => ⟨ho _ _ _ h, ρ, S, rfl, h⟩) xs ρ S h
theorem okSrc_none {all : List D} : okSrc none all S := trivial
/-- a comprehension -/
theorem lcN_ok {g : GM} {t : TM} {f : EM} {src : Option Nat} {all : List D} {ρ : Env} (P : List D → List D → Sto → Prop)
    (ho : ∀ xs acc S, P xs acc S → okSrc src all S ∧ acc.length + xs.length ≤ sizeLine)
    (hs : ∀ x xs acc S, P (x :: xs) acc S → ∃ ρ1, g x ρ S = some ρ1 ∧ ∃ b S1, t ρ1 S = .ok b S1 ∧ (if b = true then ∃ y S2, f ρ1 S1 = .ok y S2 ∧ P xs (acc ++ [y]) S2 else P xs acc S1)) :
    ∀ xs acc S, P xs acc S → ∃ acc' S', lcN g t f src all xs acc ρ S = .ok acc' S' ∧ P [] acc' S'
  | [], acc, S, h => by
    unfold lcN
    rw [if_pos (ho _ _ _ h).1]
    exact ⟨acc, S, rfl, h⟩
  | x :: xs, acc, S, h => by
    unfold lcN
    obtain ⟨h1, h2⟩ := ho _ _ _ h
    rw [if_pos h1]
    obtain ⟨ρ1, e1, b, S1, e2, h3⟩ := hs x xs acc S h
    rw [e1]
    dsimp only
    rw [e2]
    dsimp only
    cases b with
    | false =>
      simp only [Bool.false_eq_true, if_false] at h3 ⊢
      exact lcN_ok P ho hs xs acc S1 h3
    | true =>
      simp only [if_true] at h3 ⊢
      obtain ⟨y, S2, e3, h4⟩ := h3
      rw [e3]
      dsimp only
      have hl : acc.length < sizeLine := by
        simp only [List.length_cons] at h2; omega
      rw [if_pos hl]
      exact lcN_ok P ho hs xs _ S2 h4
/-- .. whose parts leave the store, without a test -/
theorem lcN_map {g : GM} {f : EM} {src : Option Nat} {all : List D} {ρ : Env} {k : D → D} (ho : okSrc src all S) : ∀ (xs acc : List D), acc.length + xs.length ≤ sizeLine →
    (∀ x ∈ xs, ∃ ρ1, g x ρ S = some ρ1 ∧ f ρ1 S = .ok (k x) S) → lcN g tYesM f src all xs acc ρ S = .ok (acc ++ xs.map k) S
  | [], acc, _, _ => by
    unfold lcN
    rw [if_pos ho]; simp
  | x :: xs, acc, hl, h => by
    unfold lcN
    rw [if_pos ho]
    obtain ⟨ρ1, e1, e2⟩ := h x List.mem_cons_self
    rw [e1]
    dsimp only [x_yes]
    simp only [x_yes, if_true]
    rw [e2]
    simp only [List.length_cons] at hl
    dsimp only
    rw [if_pos (by omega), lcN_map ho xs _ (by simp; omega) fun y hy => h y (List.mem_cons_of_mem _ hy)]
    simp
end
/-! ### the laws' draws -/
/-- the state's cell holds; at most b draws were made -/
def Ok (m : Nat) (S : Sto) (b : Nat) : Prop := ∃ (row : List Int) (seed : Int) (a : Nat), (∀ r ∈ row, 0 ≤ r) ∧ 0 ≤ seed ∧ a ≤ b ∧ S.get m = some (.lst [.lst (row.map .int), .int a, .int seed])
theorem Ok.lt {m b : Nat} {S : Sto} (h : Ok m S b) : m < S.new := by obtain ⟨_, _, _, _, _, _, h⟩ := h; exact get_lt h
theorem Ok.le {m b c : Nat} {S : Sto} (h : Ok m S b) (hb : b ≤ c) : Ok m S c := by obtain ⟨r, s, a, h1, h2, h3, h⟩ := h; exact ⟨r, s, a, h1, h2, by omega, h⟩
theorem Ok.of {m b : Nat} {S S' : Sto} (h : Ok m S b) (e : S'.get m = S.get m) : Ok m S' b := by obtain ⟨r, s, a, h1, h2, h3, h⟩ := h; exact ⟨r, s, a, h1, h2, h3, e.trans h⟩
theorem Ok.push {m b : Nat} {S : Sto} (h : Ok m S b) : Ok m S.push b := h.of get_push
noncomputable def bTake : SM := (sSeq (sAsg (eBin (eVar 0) (eC (.int 1)) dIx) (gtName 2))
  (sSeq (sSetIx (eVar 0) (eC (.int 1)) (eBin (eVar 2) (eC (.int 1)) (dAdd false)))
  (sSeq (sIf (eTst (eBin (eVar 2) (eApp [(eBin (eVar 0) (eC (.int 0)) dIx)] (b1 lenG)) dLt)) (sRet (eBin (eApp [(eBin (eBin (eVar 0) (eC (.int 0)) dIx) (eVar 2) dIx)] (b1 intG)) (eVar 1) dMod)) sSkip)
  (sSeq (sAsg (eBin (eApp [(eBin (eBin (eBin (eVar 0) (eC (.int 2)) dIx) (eBin (eVar 2) (eC (.int 40503)) dMul) (dAdd false)) (eC (.int 48271)) dMul)] (b1 intG)) (eC (.int 2147483647)) dMod) (gtName 3))
  (sSeq (sAsg (eBin (eApp [(eBin (eBin (eVar 3) (eC (.int 69621)) dMul) (eBin (eVar 2) (eVar 2) dMul) (dAdd false))] (b1 intG)) (eC (.int 2147483629)) dMod) (gtName 3))
  (sRet (eBin (eBin (eVar 3) (eC (.int 11)) dDiv) (eVar 1) dMod)))))))
noncomputable def gTake : List D → Sto → R D := runV 4 bTake
def lim : Nat := 18446744073709551616
theorem cmulR {i j : Int} (h : -(2 ^ 64) < j) (h' : j < 2 ^ 64) : CMul i j := .inr ⟨h, h'⟩
theorem take_ok {m b : Nat} {S : Sto} {many : Int} (h : Ok m S b) (hb : b < lim) (hm : 0 < many) :
    ∃ i : Int, 0 ≤ i ∧ i < many ∧ ∃ S', gTake [.ref m, .int many] S = .ok (.int i) S' ∧ Ok m S' (b + 1) ∧ Sam m S S' := by
  obtain ⟨row, seed, a, hr, hs, ha, hg⟩ := h
  have hg' : S.push.get m = some (.lst [.lst (row.map .int), .int a, .int seed]) := get_push.trans hg
  let T := S.push.set m (.lst [.lst (row.map .int), .int ((a : Int) + 1), .int seed])
  have hT : T.get m = some (.lst [.lst (row.map .int), .int ((a : Int) + 1), .int seed]) := get_set (get_lt hg')
  have hset : setS S.push (.ref m) (.int 1) (.int ((a : Int) + 1)) = some T := x_setL (j := 1) hg' (by simp) (may_lt (by simp [Cell.lt, D.ltL, D.lt, ltL_int]))
  have hsam : Sam m S.push T := Sam.set
  have hTt : T.top = [] := List.eq_nil_of_length_eq_zero hsam.lt
  obtain ⟨p1, p2⟩ := hsam.pop hTt
  have fin : ∀ i : Int, 0 ≤ i → i < many → bTake (initE 4 [.ref m, .int many]) S.push = .rt (.int i) T → ∃ i : Int, 0 ≤ i ∧ i < many ∧ ∃ S', gTake [.ref m, .int many] S = .ok (.int i) S' ∧ Ok m S' (b + 1) ∧ Sam m S S' := fun i h0 h1 e => by
    refine ⟨i, h0, h1, S.pop T, ?_, ⟨row, seed, a + 1, hr, hs, by omega, (p2 m).trans (by rw [hT]; rfl)⟩, p1⟩
    unfold gTake runV
    rw [e]
    simp only [give, hTt]
    rfl
  by_cases hin : a < row.length
  · refine fin (row[a] % many) (Int.emod_nonneg _ (by omega)) (Int.emod_lt_of_pos _ hm) ?_
    have h1 : atI (row.map D.int) (a : Int) = some (.int row[a]) := by rw [atI_nat]; simp [hin]
    unfold bTake
    simp [initE, List.replicate, x_ixR hg', hset, x_ixR hT, hin, h1, hm]
  · have hmul : CMul (a : Int) (a : Int) := .inl ⟨by omega, by unfold lim at hb; omega⟩
    refine fin ((((seed + a * 40503) * 48271 % 2147483647 * 69621 + a * a) % 2147483629) / 11 % many) (Int.emod_nonneg _ (by omega)) (Int.emod_lt_of_pos _ hm) ?_
    have hlt : (a : Int) < 18446744073709551616 := by unfold lim at hb; omega
    unfold bTake
    simp [initE, List.replicate, x_ixR hg', hset, x_ixR hT, x_lenR, hin, hm, CMul, CDiv, hlt, show (-18446744073709551616 : Int) < (a : Int) by omega]

/-! ### the draws' start -/
noncomputable def bIn : SM := (sFor (iRange [(eC (.int 60))]) (gtName 5) (sIf (eTst (eBin (eVar 4) (eC (.int 0)) dGt)) (sSeq (sExpr (eMeth (eVar 1) [(eBin (eApp [(eVar 4)] (b1 intG)) (eC (.int 840)) dMod)] mAppend))
  (sAsg (eBin (eVar 4) (eC (.int 840)) dDiv) (gtName 4))) sSkip))
noncomputable def bOut : SM := (sSeq (sAsg (eApp [(eBin (eVar 0) (eVar 3) dIx)] (b1 absG)) (gtName 4))
  (sSeq (sAsg (eBin (eApp [(eBin (eBin (eBin (eVar 2) (eC (.int 31)) dMul) (eVar 4) (dAdd false)) (eVar 3) (dAdd false))] (b1 intG)) (eC (.int 2147483647)) dMod) (gtName 2))
  (sIf (eTst (eBin (eVar 4) (eBin (eC (.int 10)) (eC (.int 18)) dPow) dGe)) (sSeq (sAsg (eBin (eVar 4) (eBin (eC (.int 10)) (eC (.int 18)) dPow) dSub) (gtName 4))
  bIn) (sSeq (sAsg (eBin (eApp [(eBin (eBin (eBin (eVar 4) (eC (.int 1)) (dAdd false)) (eC (.int 48271)) dMul) (eBin (eVar 3) (eC (.int 69621)) dMul) (dAdd false))] (b1 intG)) (eC (.int 2147483647)) dMod) (gtName 6))
  (sSeq (sAsg (eBin (eApp [(eBin (eBin (eVar 6) (eC (.int 40692)) dMul) (eC (.int 5)) (dAdd false))] (b1 intG)) (eC (.int 2147483399)) dMod) (gtName 6))
  (sExpr (eMeth (eVar 1) [(eBin (eBin (eVar 6) (eC (.int 13)) dDiv) (eC (.int 840)) dMod)] mAppend)))))))
noncomputable def bStart : SM := (sSeq (sAsg (eApp [] (dLst true)) (gtName 1))
  (sSeq (sAsg (eC (.int 17)) (gtName 2))
  (sSeq (sFor (iRange [(eApp [(eVar 0)] (b1 lenG))]) (gtName 3) bOut)
  (sRet (eApp [(eVar 1), (eC (.int 0)), (eVar 2)] (dLst true))))))
noncomputable def gStart : List D → Sto → R D := runF 7 bStart
structure Ro (r : Nat) (T0 T : Sto) (k : Nat) (row : List Int) : Prop where
  g : T.get r = some (.lst (row.map .int))
  s : Sam r T0 T
  p : ∀ v ∈ row, 0 ≤ v
  l : row.length + k ≤ 3780
  o : T0.old.length ≤ r
theorem Ro.put {r : Nat} {T0 T : Sto} {k : Nat} {row : List Int} (h : Ro r T0 T (k + 1) row) {v : Int} (hv : 0 ≤ v) :
    Ro r T0 (T.set r (.lst (row.map .int ++ [.int v]))) k (row ++ [v]) ∧ mAppend (.ref r) [.int v] T = .ok .non (T.set r (.lst (row.map .int ++ [.int v]))) := by
  refine ⟨⟨?_, h.s.trans Sam.set, fun x hx => ?_, ?_, h.o⟩, x_app1 h.g ?_ (may_new ?_)⟩
  · rw [get_set (get_lt h.g)]; simp
  · rcases List.mem_append.mp hx with q | q
    · exact h.p x q
    · have : x = v := by simpa using q
      omega
  · have := h.l; simp; omega
  · have := h.l
    have h2 : (3780 : Nat) < sizeLine := by decide
    rw [List.length_map]; omega
  · have := h.s.lo; have := h.o; omega
theorem rangeL_succ (lo : Int) (n : Nat) : rangeL lo n = (List.range n).map fun i : Nat => D.int (lo + i) := rfl
theorem rangeL_len {lo : Int} {n : Nat} : (rangeL lo n).length = n := by rw [rangeL_succ]; simp
theorem rangeL_mem {n : Nat} {x : D} (h : x ∈ rangeL 0 n) : ∃ k : Nat, k < n ∧ x = .int k := by
  rw [rangeL_succ] at h
  obtain ⟨k, hk, e⟩ := List.mem_map.mp h
  exact ⟨k, List.mem_range.mp hk, by rw [← e]; simp⟩
theorem bIn_ok {r : Nat} {T0 T : Sto} {k : Nat} {row : List Int} {d0 d2 d3 : D} {o5 o6 : Option D} {cell : Int} (h : Ro r T0 T (60 + k) row) :
    ∃ c' o' T' row', bIn [some d0, some (.ref r), some d2, some d3, some (.int cell), o5, o6] T = .nx [some d0, some (.ref r), some d2, some d3, some (.int c'), o', o6] T' ∧ Ro r T0 T' k row' := by
  obtain ⟨ρ', S', e, c, o, row2, e2, _, p⟩ := forN_nx (g := gtName 5) (f := (sIf (eTst (eBin (eVar 4) (eC (.int 0)) dGt)) (sSeq (sExpr (eMeth (eVar 1) [(eBin (eApp [(eVar 4)] (b1 intG)) (eC (.int 840)) dMod)] mAppend))
  (sAsg (eBin (eVar 4) (eC (.int 840)) dDiv) (gtName 4))) sSkip)) (src := none) (all := rangeL 0 60)
    (fun xs ρ T => ∃ (c : Int) (o : Option D) (row : List Int), ρ = [some d0, some (.ref r), some d2, some d3, some (.int c), o, o6] ∧ True ∧ Ro r T0 T (xs.length + k) row)
    (fun _ _ _ _ => trivial) (fun x xs ρ T h => by
      obtain ⟨c, o, row, rfl, _, h⟩ := h
      refine ⟨_, rfl, ?_⟩
      by_cases hc : 0 < c
      · have h' : Ro r T0 T ((xs.length + k) + 1) row := by
          have := h; simp only [List.length_cons] at this; rw [show xs.length + 1 + k = xs.length + k + 1 by omega] at this; exact this
        obtain ⟨h2, h3⟩ := h'.put (v := c % 840) (Int.emod_nonneg _ (by omega))
        refine ⟨[some d0, some (.ref r), some d2, some d3, some (.int (c / 840)), some x, o6], _, .inl ?_, c / 840, some x, _, rfl, trivial, h2⟩
        simp [hc, x_lstR h.g, h3, CDiv]
      · refine ⟨[some d0, some (.ref r), some d2, some d3, some (.int c), some x, o6], T, .inl ?_, c, some x, row, rfl, trivial, ⟨h.g, h.s, h.p, ?_, h.o⟩⟩
        · simp [hc]
        · have := h.l; simp only [List.length_cons] at this; omega) (rangeL 0 60) [some d0, some (.ref r), some d2, some d3, some (.int cell), o5, o6] T ⟨cell, o5, row, rfl, trivial, by rw [rangeL_len]; exact h⟩
  subst e2
  refine ⟨c, o, S', row2, ?_, by simpa using p⟩
  unfold bIn
  simp
  exact e
theorem bOut_ok {r : Nat} {T0 T : Sto} {k : Nat} {row : List Int} {ns : List Int} {seed : Int} {j : Nat} {o4 o5 o6 : Option D} (h : Ro r T0 T (60 + k) row) (hj : j < ns.length) :
    ∃ s' o4' o5' o6' T' row', bOut [some (scr ns), some (.ref r), some (.int seed), some (.int j), o4, o5, o6] T = .nx [some (scr ns), some (.ref r), some (.int s'), some (.int j), o4', o5', o6'] T' ∧ 0 ≤ s' ∧ Ro r T0 T' k row' := by
  have h1 : atI (ns.map D.int) (j : Int) = some (.int ns[j]) := by rw [atI_nat]; simp [hj]
  generalize hc : (if ns[j] < 0 then -ns[j] else ns[j]) = cell at *
  by_cases hq : 1000000000000000000 ≤ cell
  · obtain ⟨c', o', T', row', e, q⟩ := bIn_ok (d0 := scr ns) (d2 := .int ((seed * 31 + cell + j) % 2147483647)) (d3 := .int j) (o5 := o5) (o6 := o6) (cell := cell - 1000000000000000000) h
    refine ⟨(seed * 31 + cell + j) % 2147483647, some (.int c'), o', o6, T', row', ?_, Int.emod_nonneg _ (by omega), q⟩
    unfold scr at e ⊢
    unfold bOut
    simp [h1, hc, CMul, CPow, hq, e]
  · have h' : Ro r T0 T (k + 1) row := ⟨h.g, h.s, h.p, by have := h.l; omega, h.o⟩
    obtain ⟨h2, h3⟩ := h'.put (v := ((((cell + 1) * 48271 + j * 69621) % 2147483647 * 40692 + 5) % 2147483399) / 13 % 840) (Int.emod_nonneg _ (by omega))
    refine ⟨(seed * 31 + cell + j) % 2147483647, some (.int cell), o5, some (.int ((((cell + 1) * 48271 + j * 69621) % 2147483647 * 40692 + 5) % 2147483399)), _, _, ?_, Int.emod_nonneg _ (by omega), h2⟩
    unfold scr
    unfold bOut
    simp [h1, hc, CMul, CPow, CDiv, hq, x_lstR h.g, h3]
theorem mapO_lt {b m : Nat} {S : Sto} {k : Nat} : ∀ {xs : List D}, D.ltL b xs = true → mapO (fz b m S k) xs = some xs
  | [], _ => rfl
  | x :: xs, h => by
    simp only [D.ltL, Bool.and_eq_true] at h
    have e : fz b m S k x = some x := by cases k <;> (unfold fz; rw [if_pos h.1])
    unfold mapO
    rw [e, mapO_lt h.2]
theorem runF_of {n m : Nat} {b : SM} {ds xs ys : List D} {S S' : Sto} (h : b (initE n ds) S.push = .rt (.ref m) S') (h1 : ¬ m < S.new) (h2 : S'.get m = some (.lst xs)) (h3 : mapO (fz S.new m S' 24) xs = some ys) :
    runF n b ds S = .ok (.ref S.new) ((S.pop S').add (.lst ys)) := by
  unfold runF
  rw [h]
  dsimp only
  rw [if_neg h1, h2]
  dsimp only
  rw [h3]
theorem runV_of {n : Nat} {b : SM} {ds : List D} {d : D} {S S' : Sto} (h : b (initE n ds) S.push = .rt d S') (h1 : S'.top = []) : runV n b ds S = .ok d (S.pop S') := by
  unfold runV
  rw [h]
  dsimp only [give]
  rw [h1]
  rfl
theorem runV_ex {n : Nat} {b : SM} {ds : List D} {e : D} {ρ : Env} {S S' : Sto} (h : b (initE n ds) S.push = .ex e ρ S') (h1 : e.lt S.new = true) : runV n b ds S = .ex e (S.pop S') := by
  unfold runV
  rw [h]
  dsimp only [throwE]
  rw [if_pos h1]
theorem runV_nx {n : Nat} {b : SM} {ds : List D} {ρ : Env} {S S' : Sto} (h : b (initE n ds) S.push = .nx ρ S') : runV n b ds S = .ok .non (S.pop S') := by
  unfold runV
  rw [h]
theorem runV_up {n : Nat} {b : SM} {ds : List D} {d d' : D} {S S' : Sto} (h : b (initE n ds) S.push = .rt d S') (h1 : fz S.new S'.all.length S' 24 d = some d') (h2 : S'.top.isEmpty = false) : runV n b ds S = .ok d' (S.pop S') := by
  unfold runV
  rw [h]
  dsimp only [give]
  rw [if_neg (by rw [h2]; exact Bool.false_ne_true), h1]
/-- .. that leaves the store -/
theorem runV_pure {n : Nat} {b : SM} {ds : List D} {d : D} {S : Sto} (h : b (initE n ds) S.push = .rt d S.push) : runV n b ds S = .ok d S := by
  rw [runV_of h rfl, pop_push_self]
theorem start_ok {S : Sto} {ns : List Int} (hn : ns.length ≤ 63) : ∃ c, gStart [scr ns] S = .ok (.ref S.new) (S.add c) ∧ Ok S.new (S.add c) 0 := by
  let r := S.new
  let T0 := S.push.add (.lst [])
  have hr : T0.get r = some (.lst (([] : List Int).map D.int)) := by
    have := get_add (S := S.push) (c := .lst [])
    rw [new_push] at this
    exact this
  have h0 : Ro r T0 T0 (60 * ns.length) [] := ⟨hr, Sam.refl, by simp, by simp; omega, by
    show S.push.old.length ≤ S.new
    rw [Sto.new_all]; exact Nat.le_refl _⟩
  obtain ⟨ρ', T, e, seed, row, o3, o4, o5, o6, e2, hs, p, _⟩ := forN_nx (g := gtName 3) (f := bOut) (src := none) (all := rangeL 0 ns.length)
    (fun xs ρ T => ∃ (seed : Int) (row : List Int) (o3 o4 o5 o6 : Option D), ρ = [some (scr ns), some (.ref r), some (.int seed), o3, o4, o5, o6] ∧ 0 ≤ seed ∧ Ro r T0 T (60 * xs.length) row ∧ ∀ x ∈ xs, ∃ k : Nat, k < ns.length ∧ x = .int k)
    (fun _ _ _ _ => trivial) (fun x xs ρ T h => by
      obtain ⟨seed, row, o3, o4, o5, o6, rfl, hs, h, hx⟩ := h
      obtain ⟨j, hj, rfl⟩ := hx x List.mem_cons_self
      refine ⟨_, rfl, ?_⟩
      have h' : Ro r T0 T (60 + 60 * xs.length) row := by
        have := h; simp only [List.length_cons] at this; rw [show 60 * (xs.length + 1) = 60 + 60 * xs.length by omega] at this; exact this
      obtain ⟨s', o4', o5', o6', T', row', e, hs', q⟩ := bOut_ok (seed := seed) (o4 := o4) (o5 := o5) (o6 := o6) h' hj
      exact ⟨_, T', .inl e, s', row', _, _, _, _, rfl, hs', q, fun y hy => hx y (List.mem_cons_of_mem _ hy)⟩)
    (rangeL 0 ns.length) [some (scr ns), some (.ref r), some (.int 17), none, none, none, none] T0 ⟨17, [], none, none, none, none, rfl, by omega, by rw [rangeL_len]; exact h0, fun x hx => rangeL_mem hx⟩
  subst e2
  have hnr : S.push.new = r := new_push
  have hTn : T.new = r + 1 := by
    rw [p.s.new]; show (S.push.add _).new = _; rw [new_add, hnr]
  let S' := T.add (.lst [.ref r, .int 0, .int seed])
  have hb : bStart (initE 7 [scr ns]) S.push = .rt (.ref T.new) S' := by
    unfold bStart
    have hlen : -4611686018427387904 ≤ (ns.length : Int) ∧ (ns.length : Int) < 4611686018427387904 := ⟨by omega, by omega⟩
    have e' : sForN (gtName 3) bOut none (rangeL 0 ns.length) (rangeL 0 ns.length) [some (D.frl (ns.map D.int)), some (.ref r), some (.int 17), none, none, none, none] (S.push.add (.lst [])) = _ := e
    simp [initE, List.replicate, scr, hlen.1, hlen.2, hnr, e']
    rfl
  have hg' : S'.get T.new = some (.lst [.ref r, .int 0, .int seed]) := get_add
  have hgr : S'.get r = some (.lst (row.map .int)) := by
    show (T.add _).get r = _
    rw [get_add_lt (by rw [hTn]; omega)]; exact p.g
  have hfz : mapO (fz S.new T.new S' 24) [.ref r, .int 0, .int seed] = some [.lst (row.map .int), .int 0, .int seed] := by
    have e1 : fz S.new T.new S' 24 (.ref r) = some (.lst (row.map .int)) := by
      unfold fz
      rw [if_neg (by simp [D.lt, r])]
      simp only
      rw [if_neg (by rw [hTn]; simp [r]), hgr]
      simp only
      rw [mapO_lt (ltL_int row)]
      rfl
    unfold mapO
    rw [e1, mapO_lt rfl]
  have hold : S'.old = S.push.old := by
    show T.old = T0.old
    apply List.ext_getElem?
    intro n
    by_cases hn : n < T0.old.length
    · have h1 := p.s.g n (by have := p.o; omega)
      rw [Sto.get_all, Sto.get_all] at h1
      unfold Sto.all at h1
      rw [List.getElem?_append_left (by rw [p.s.lo]; exact hn), List.getElem?_append_left hn] at h1
      exact h1
    · rw [List.getElem?_eq_none (by rw [p.s.lo]; omega), List.getElem?_eq_none (by omega)]
  have hpop : S.pop S' = S := by
    unfold Sto.pop
    rw [hold]
    show Sto.mk ((S.old ++ S.top).take S.old.length) ((S.old ++ S.top).drop S.old.length) = S
    simp
  refine ⟨.lst [.lst (row.map .int), .int 0, .int seed], ?_, row, seed, 0, p.p, hs, Nat.le_refl _, get_add⟩
  have := runF_of (n := 7) hb (by rw [hTn]; simp [r]) hg' hfz
  rw [hpop] at this
  exact this
end Mi

/-! Ma2: frames, short walks, dicts. -/
namespace Mi
open PySem PySem.Spec PyProof.Rows L2
section
variable {S S' T : Sto} {n m : Nat} {c : Cell} {xs ys all : List D} {kvs : List (Key × D)} {d v x : D} {i : Int} {ρ : Env} {g : GM} {f : SM} {t : TM} {e : EM}
@[simp] theorem forN_0 : sForN g f none all [] ρ S = .nx ρ S := by
  unfold sForN; rw [if_pos okSrc_none]
@[simp] theorem forN_1 : sForN g f none all (x :: xs) ρ S = (match g x ρ S with
  | some ρ1 => (match f ρ1 S with
    | .nx ρ' S' => sForN g f none all xs ρ' S'
    | .ct ρ' S' => sForN g f none all xs ρ' S'
    | .bk ρ' S' => .nx ρ' S'
    | r => r)
  | none => .bad) := by
  conv => lhs; unfold sForN
  rw [if_pos okSrc_none]
  try (cases g x ρ S with
    | none => rfl
    | some ρ1 => dsimp only; cases f ρ1 S <;> rfl)
@[simp] theorem lcN_0 {acc : List D} : lcN g t e none all [] acc ρ S = .ok acc S := by
  unfold lcN; rw [if_pos okSrc_none]
@[simp] theorem lcN_1 {acc : List D} : lcN g t e none all (x :: xs) acc ρ S = (match g x ρ S with
      | some ρ1 => (match t ρ1 S with
        | .ok b S1 => if b = true then (match e ρ1 S1 with
            | .ok y S2 => if acc.length < sizeLine then lcN g t e none all xs (acc ++ [y]) ρ S2 else .bad
            | _ => .bad)
          else lcN g t e none all xs acc ρ S1
        | _ => .bad)
      | none => .bad) := by
  conv => lhs; unfold lcN
  rw [if_pos okSrc_none]
  try (cases g x ρ S with
    | none => rfl
    | some ρ1 =>
      dsimp only
      cases t ρ1 S with
      | ok b S1 =>
        dsimp only
        cases b with
        | false => rfl
        | true => rw [if_pos rfl, if_pos rfl]; cases e ρ1 S1 <;> rfl
      | _ => rfl)
@[simp] theorem x_gtN {j : Nat} : gtName j d ρ S = some (ρ.set j (some d)) := (rfl)
theorem big : (1000000 : Nat) < sizeLine := by decide
@[simp] theorem big0 : 0 < sizeLine := by decide
@[simp] theorem big1 : 1 < sizeLine := by decide
@[simp] theorem big2 : 2 < sizeLine := by decide
@[simp] theorem big3 : 3 < sizeLine := by decide
@[simp] theorem big4 : 4 < sizeLine := by decide
theorem x_ixDS {k : D} (h : dicS S x = some kvs) : dIx x k S = (match keyD k with
  | some q => (match valD kvs q with
    | some d => .ok d S
    | none => .bad)
  | none => .bad) := by
  cases x with
  | dic l => cases h; exact x_ixDv
  | ref n =>
    unfold dicS at h
    cases q : S.get n with
    | none => simp only [q] at h; cases h
    | some c =>
      cases c with
      | dic l => simp only [q] at h; cases h; exact x_ixD q
      | lst _ => simp only [q] at h; cases h
      | ins _ _ => simp only [q] at h; cases h
  | _ => cases h
theorem dDict_ok {b : Bool} (h : dicS S x = some kvs) : dDict b [x] S = mkD b kvs S := by
  unfold dDict; simp only [h]
theorem dicS_ref (h : S.get n = some (.dic kvs)) : dicS S (.ref n) = some kvs := by unfold dicS; simp only [h]
theorem valD_put {k q : Key} : valD (putD kvs k v) q = if q = k then some v else valD kvs q := by
  unfold putD
  by_cases h : (kvs.any fun kv => decide (kv.1 = k)) = true
  · rw [if_pos h]
    unfold valD
    induction kvs with
    | nil => simp at h
    | cons a r ih =>
      obtain ⟨k', d'⟩ := a
      simp only [List.map_cons, List.find?_cons]
      by_cases hk : k' = k
      · subst hk
        by_cases hq : k' = q
        · subst hq; simp
        · have hq' : ¬ q = k' := fun z => hq z.symm
          simp only [if_true, hq, decide_false]
          rw [if_neg hq']
          by_cases hr : (r.any fun kv => decide (kv.1 = k')) = true
          · have := ih hr
            rw [if_neg hq'] at this
            exact this
          · congr 1
            have : r.map (fun kv => if kv.1 = k' then (kv.1, v) else kv) = r := by
              clear ih h
              induction r with
              | nil => rfl
              | cons b s ih2 =>
                simp only [List.any_cons, Bool.or_eq_true, decide_eq_true_eq, not_or] at hr
                simp only [List.map_cons, if_neg hr.1]
                rw [ih2 hr.2]
            rw [this]
      · have h2 : (r.any fun kv => decide (kv.1 = k)) = true := by
          simp only [List.any_cons, hk, decide_false, Bool.false_or] at h; exact h
        simp only [if_neg hk]
        by_cases hq : k' = q
        · subst hq; simp [hk]
        · simp only [hq, decide_false]
          exact ih h2
  · rw [if_neg h]
    unfold valD
    rw [List.find?_append]
    by_cases hq : q = k
    · subst hq
      have : kvs.find? (fun kv => decide (kv.1 = q)) = none := by
        rw [List.find?_eq_none]
        intro a ha hk
        exact h (List.any_eq_true.mpr ⟨a, ha, hk⟩)
      rw [this]; simp
    · have hq' : ¬ k = q := fun z => hq z.symm
      simp [hq, hq']
theorem putD_len {k : Key} : (putD kvs k v).length ≤ kvs.length + 1 := by
  unfold putD; split <;> simp
/-- T stands a frame over S -/
def Up (S T : Sto) : Prop := T.old = S.old ++ S.top
theorem Up.push : Up S S.push := rfl
theorem Up.add (h : Up S T) : Up S (T.add c) := h
theorem Up.new (h : Up S T) : S.new ≤ T.new := by
  unfold Up at h; unfold Sto.new; rw [h, List.length_append]; omega
theorem Up.set (h : Up S T) (hn : S.new ≤ n) : Up S (T.set n c) := by
  unfold Up at *
  unfold Sto.set
  have : T.old.length = S.new := by rw [h, List.length_append]; rfl
  rw [if_neg (by omega)]
  exact h
theorem Up.get (h : Up S T) (hn : n < S.new) : T.get n = S.get n := by
  unfold Up at h
  have h1 : n < T.old.length := by rw [h, List.length_append]; exact hn
  rw [Sto.get_all, Sto.get_all]
  unfold Sto.all
  rw [List.getElem?_append_left h1, h]
theorem Up.pop (h : Up S T) : S.pop T = S := by
  unfold Up at h
  unfold Sto.pop
  rw [h]; simp
theorem Up.may (h : Up S T) (hn : S.new ≤ n) : T.may n c = true := by
  refine may_new ?_
  unfold Up at h
  rw [h, List.length_append]; exact hn
theorem runV_lt {b : SM} {ds : List D} (h : b (initE n ds) S.push = .rt d S') (hd : d.lt S.new = true) : runV n b ds S = .ok d (S.pop S') := by
  unfold runV
  rw [h]
  dsimp only [give]
  have : fz S.new S'.all.length S' 24 d = some d := by unfold fz; rw [if_pos hd]
  rw [this]
  simp
theorem atI_in {α : Type} {l : List α} {i : Int} (h0 : 0 ≤ i) (h1 : i < l.length) : ∃ a, atI l i = some a ∧ a ∈ l := by
  obtain ⟨j, rfl⟩ := Int.eq_ofNat_of_zero_le h0
  have hj : j < l.length := by omega
  exact ⟨l[j], by rw [atI_nat]; simp [hj], List.getElem_mem hj⟩
end
end Mi

/-! Ma3: instances; stores by equations. -/
namespace Mi
open PySem PySem.Spec PyProof.Rows L2
section
variable {S S' T : Sto} {n m : Nat} {c d : Cell} {x v : D} {ρ : Env} {g f : EM} {cs : List Str} {fn : Str}
theorem Sto.ext {S T : Sto} (h1 : S.old.length = T.old.length) (h2 : S.all = T.all) : S = T := by
  obtain ⟨a, b⟩ := S
  obtain ⟨a', b'⟩ := T
  have h1 : a.length = a'.length := h1
  have h2 : a ++ b = a' ++ b' := h2
  obtain ⟨e1, e2⟩ := List.append_inj h2 h1
  rw [e1, e2]
theorem set_set : (S.set n c).set n d = S.set n d := by
  refine Sto.ext (by rw [Sto.set_old, Sto.set_old, Sto.set_old]) ?_
  rw [Sto.set_all, Sto.set_all, Sto.set_all, List.set_set]
theorem add_set_new : (S.add c).set S.new d = S.add d := by
  refine Sto.ext (by rw [Sto.set_old]; rfl) ?_
  rw [Sto.set_all, Sto.add_all, Sto.add_all, Sto.new_all, List.set_append_right _ _ (Nat.le_refl _)]
  simp
theorem add_set_lt (h : n < S.new) : (S.add c).set n d = (S.set n d).add c := by
  refine Sto.ext (by rw [Sto.set_old]; show S.old.length = (S.set n d).old.length; rw [Sto.set_old]) ?_
  rw [Sto.set_all, Sto.add_all, Sto.add_all, Sto.set_all, List.set_append_left _ _ (by rw [← Sto.new_all]; exact h)]
theorem new_set : (S.set n c).new = S.new := by
  rw [Sto.new_all, Sto.new_all, Sto.set_all, List.length_set]
theorem get_set_ne (h : n ≠ m) : (S.set n c).get m = S.get m := by
  rw [Sto.get_all, Sto.get_all, Sto.set_all, List.getElem?_set_ne h]
@[simp] theorem x_fld : eFld cs g fn ρ S = (g ρ S).bind fun d S1 => (match insS S1 d with
  | some (c, fs) => if c ∈ cs then .of S1 (fs.lookup fn) else .bad
  | none => .bad) := (rfl)
@[simp] theorem x_setA {fo fv : EM} : sSetA cs fo fn fv ρ S = (fv ρ S).bindS ρ fun v S1 => (fo ρ S1).bindS ρ fun o S2 => (match setA cs S2 o fn v with
  | some S3 => .nx ρ S3
  | none => .bad) := (rfl)
@[simp] theorem x_new {k : Str} {fs : List EM} {dds : List D} {G : List D → Sto → R D} : eNew k fs dds G ρ S = (aList fs ρ S).bind fun ds S1 => (G (.ref S1.new :: ds ++ dds) (S1.add (.ins k []))).bind fun d S2 => (match d with
  | .non => .ok (.ref S1.new) S2
  | _ => .bad) := (rfl)
@[simp] theorem x_mc {k m : Str} {fs : List EM} {dds : List D} {G : List D → Sto → R D} : eMc k m g fs dds G ρ S = (g ρ S).bind fun d S1 => (match insS S1 d with
  | some (c', as) => if c' = k ∧ as.lookup m = none then (aList fs ρ S1).bind fun ds S2 => G (d :: ds ++ dds) S2 else .bad
  | none => .bad) := (rfl)
theorem insS_ref {k : Str} {fs : List (Str × D)} (h : S.get n = some (.ins k fs)) : insS S (.ref n) = some (k, fs) := by
  unfold insS; simp only [h]
@[simp] theorem insS_obj {k : Str} {fs : List (Str × D)} : insS S (.obj k fs) = some (k, fs) := (rfl)
theorem setA_ok {k : Str} {fs : List (Str × D)} (h : S.get n = some (.ins k fs)) (hk : k ∈ cs) (hl : fs.length < 1000) (hm : S.may n (.ins k (putA fn v fs)) = true) : setA cs S (.ref n) fn v = some (S.set n (.ins k (putA fn v fs))) := by
  unfold setA
  simp only [h]
  rw [if_pos ⟨hk, hl, hm⟩]
@[simp] theorem x_ifx {t u w : TM} : tIfM t u w ρ S = (t ρ S).bind fun b S1 => if b = true then u ρ S1 else w ρ S1 := (rfl)
@[simp] theorem x_never {b : Env} : sNever b S = .bad := (rfl)
theorem szl {k : Nat} (h : k ≤ 1000000) : k ≤ sizeLine := Nat.le_trans h (Nat.le_of_lt big)
@[simp] theorem x_lenS {s : List Nat} (h : s.length ≤ 1000000) : lenG S (.str s) = some (.int s.length) := by
  show (if s.length ≤ sizeLine then some s.length else none).map (fun n => D.int n) = _
  rw [if_pos (szl h)]; rfl
@[simp] theorem x_ixS {s : List Nat} {i : Int} (h : s.length ≤ 1000000) : dIx (.str s) (.int i) S = (match atI s i with
  | some c => .ok (.str [c]) S
  | none => .bad) := by
  unfold dIx ixS
  simp only
  rw [if_pos (szl h)]
  cases atI s i <;> rfl
@[simp] theorem x_itS {s : List Nat} : itS S (.str s) = some (s.map fun c => .str [c], none) := (rfl)
@[simp] theorem x_inS1 {c : Nat} {t : List Nat} : dIn (.str [c]) (.str t) S = .ok (.bl (decide (c ∈ t))) S := (rfl)
@[simp] theorem x_ninS1 {c : Nat} {t : List Nat} : dNotIn (.str [c]) (.str t) S = .ok (.bl (!decide (c ∈ t))) S := (rfl)
theorem x_inStrs {s : List Nat} {l : List (List Nat)} {ys : List D} (h : ys = l.map D.str) : dIn (.str s) (.tup ys) S = .ok (.bl (decide (s ∈ l))) S := by
  subst h
  unfold dIn
  rw [inS_pl (ys := l.map D.str) rfl (PlL_str _) (.inl (Nat.zero_le _)) _ (.inl rfl)]
  simp
theorem x_ninStrs {s : List Nat} {l : List (List Nat)} {ys : List D} (h : ys = l.map D.str) : dNotIn (.str s) (.tup ys) S = .ok (.bl (!decide (s ∈ l))) S := by
  subst h
  unfold dNotIn
  rw [inS_pl (ys := l.map D.str) rfl (PlL_str _) (.inl (Nat.zero_le _)) _ (.inl rfl)]
  simp
@[simp] theorem x_addS {a b : List Nat} {c : Bool} (h : a.length + b.length ≤ 1000000) : dAdd c (.str a) (.str b) S = .ok (.str (a ++ b)) S := by
  show (if a.length + b.length ≤ sizeLine then R.ok (D.str (a ++ b)) S else .bad) = _
  rw [if_pos (szl h)]
/-- a comprehension whose parts leave the store -/
theorem lcN_filt {gt : GM} {t : TM} {src : Option Nat} {all : List D} {p : D → Bool} {k : D → D} (ho : okSrc src all S) : ∀ (xs acc : List D), acc.length + xs.length ≤ sizeLine →
    (∀ x ∈ xs, ∃ ρ1, gt x ρ S = some ρ1 ∧ t ρ1 S = .ok (p x) S ∧ (p x = true → f ρ1 S = .ok (k x) S)) → lcN gt t f src all xs acc ρ S = .ok (acc ++ (xs.filter p).map k) S
  | [], acc, _, _ => by
    unfold lcN
    rw [if_pos ho]; simp
  | x :: xs, acc, hl, h => by
    unfold lcN
    rw [if_pos ho]
    obtain ⟨ρ1, e1, e2, e3⟩ := h x List.mem_cons_self
    rw [e1]
    dsimp only
    rw [e2]
    simp only [List.length_cons] at hl
    cases q : p x with
    | false =>
      dsimp only
      rw [if_neg Bool.false_ne_true, lcN_filt ho xs acc (by omega) fun y hy => h y (List.mem_cons_of_mem _ hy)]
      simp [q]
    | true =>
      dsimp only
      rw [if_pos rfl, e3 q]
      dsimp only
      rw [if_pos (by omega), lcN_filt ho xs _ (by simp; omega) fun y hy => h y (List.mem_cons_of_mem _ hy)]
      simp [q]
end
end Mi

/-! Ma4: things walked, lists compared, comprehensions with two fors, frozen results. -/
namespace Mi
open PySem PySem.Spec PyProof.Rows L2
section
variable {S S' T : Sto} {n m : Nat} {c d : Cell} {x v : D} {ρ : Env} {g f : EM} {xs ys : List D}
theorem inS_ref (h : S.get n = some (.lst ys)) : inS S x (.ref n) = inS S x (.lst ys) := by
  unfold inS
  simp only [dicS, seqS, lstS, h]
theorem pyS_ref (h : S.get n = some (.lst ys)) : pyS S (.ref n) = pyS S (.lst ys) := by
  unfold pyS
  simp only [h]
  rw [pyD]
theorem pyS2_ref (h : S.get n = some (.lst ys)) : pyS2 S (.ref n) = pyS2 S (.lst ys) := by
  have e : pyG S 6 (.ref n) = pyG S 6 (.lst ys) := by
    unfold pyG
    simp only [h]
  unfold pyS2
  rw [pyS_ref h, e]
theorem eqS_refl (h : S.get n = some (.lst ys)) : eqS S (.ref n) x = eqS S (.lst ys) x := by
  unfold eqS
  rw [pyS2_ref h]
theorem eqS_refr (h : S.get n = some (.lst ys)) : eqS S x (.ref n) = eqS S x (.lst ys) := by
  unfold eqS
  rw [pyS2_ref h]
theorem dEq_refl (h : S.get n = some (.lst ys)) : dEq (.ref n) x S = dEq (.lst ys) x S := by
  unfold dEq; rw [eqS_refl h]
theorem dNe_refl (h : S.get n = some (.lst ys)) : dNe (.ref n) x S = dNe (.lst ys) x S := by
  unfold dNe; rw [eqS_refl h]
theorem dEq_refr (h : S.get n = some (.lst ys)) : dEq x (.ref n) S = dEq x (.lst ys) S := by
  unfold dEq; rw [eqS_refr h]
theorem dNe_refr (h : S.get n = some (.lst ys)) : dNe x (.ref n) S = dNe x (.lst ys) S := by
  unfold dNe; rw [eqS_refr h]
/-- what a walk over x goes through -/
def Itr (S : Sto) (x : D) (xs : List D) : Prop := ∃ src, itS S x = some (xs, src) ∧ okSrc src xs S
theorem Itr.lst : Itr S (.lst xs) xs := ⟨none, rfl, trivial⟩
theorem Itr.tup : Itr S (.tup xs) xs := ⟨none, rfl, trivial⟩
theorem Itr.ref (h : S.get n = some (.lst xs)) : Itr S (.ref n) xs := ⟨some n, by unfold itS; simp only [h], h⟩
theorem Itr.of (h : Itr S x xs) (e : ∀ n, x = .ref n → S'.get n = S.get n) : Itr S' x xs := by
  obtain ⟨src, h1, h2⟩ := h
  cases x with
  | ref n =>
    have e := e n rfl
    unfold itS at h1
    refine ⟨src, ?_, ?_⟩
    · unfold itS; simp only [e]; exact h1
    · cases q : S.get n with
      | none => simp only [q] at h1; cases h1
      | some c =>
        cases c with
        | lst l => simp only [q] at h1; cases h1; exact e.trans q
        | _ => simp only [q] at h1; cases h1
  | str s => cases h1; exact ⟨none, rfl, trivial⟩
  | tup s => cases h1; exact ⟨none, rfl, trivial⟩
  | lst s => cases h1; exact ⟨none, rfl, trivial⟩
  | frl s => cases h1; exact ⟨none, rfl, trivial⟩
  | _ => cases h1
theorem Itr.push (h : Itr S x xs) : Itr S.push x xs := h.of fun _ _ => get_push
theorem x_lc_map {b : Bool} {gt : GM} {vs : List Nat} {k : D → D} (h : Itr S x xs) (hg : g ρ S = .ok x S) (hl : xs.length ≤ 1000000) (hk : ∀ y ∈ xs, ∃ ρ1, gt y (wipeE ρ vs) S = some ρ1 ∧ f ρ1 S = .ok (k y) S) :
    eLc b (iVal g) gt tYesM f vs ρ S = mkL b (xs.map k) S := by
  obtain ⟨src, h1, h2⟩ := h
  have := big
  have e := lcN_map (acc := []) h2 xs (ρ := wipeE ρ vs) (g := gt) (f := f) (all := xs) (k := k) (by simp; omega) hk
  simp only [x_lc, x_iVal, hg, x_bind_ok, h1, x_of_some, e]
  rfl
theorem x_lc_filt {b : Bool} {gt : GM} {t : TM} {vs : List Nat} {p : D → Bool} {k : D → D} (h : Itr S x xs) (hg : g ρ S = .ok x S) (hl : xs.length ≤ 1000000) (hk : ∀ y ∈ xs, ∃ ρ1, gt y (wipeE ρ vs) S = some ρ1 ∧ t ρ1 S = .ok (p y) S ∧ (p y = true → f ρ1 S = .ok (k y) S)) :
    eLc b (iVal g) gt t f vs ρ S = mkL b ((xs.filter p).map k) S := by
  obtain ⟨src, h1, h2⟩ := h
  have := big
  have e := lcN_filt (acc := []) h2 xs (ρ := wipeE ρ vs) (gt := gt) (t := t) (f := f) (all := xs) (p := p) (k := k) (by simp; omega) hk
  simp only [x_lc, x_iVal, hg, x_bind_ok, h1, x_of_some, e]
  rfl
theorem lc2N_map {gt gt1 : GM} {im1 : IM} {vs1 : List Nat} {src : Option Nat} {all : List D} {k : D → D → D} {ws : D → List D} {N : Nat} (ho : okSrc src all S) : ∀ (xs acc : List D), acc.length + xs.length * N ≤ sizeLine →
    (∀ x ∈ xs, ∃ ρ1, gt x ρ S = some ρ1 ∧ ∃ src1, im1 ρ1 S = .ok (ws x, src1) S ∧ okSrc src1 (ws x) S ∧ (ws x).length ≤ N ∧ ∀ y ∈ ws x, ∃ ρ2, gt1 y (wipeE ρ1 vs1) S = some ρ2 ∧ f ρ2 S = .ok (k x y) S) →
    lc2N gt tYesM im1 gt1 tYesM f vs1 src all xs acc ρ S = .ok (acc ++ xs.flatMap fun x => (ws x).map (k x)) S
  | [], acc, _, _ => by
    unfold lc2N
    rw [if_pos ho]; simp
  | x :: xs, acc, hl, h => by
    unfold lc2N
    rw [if_pos ho]
    obtain ⟨ρ1, e1, src1, e2, o1, l1, h2⟩ := h x List.mem_cons_self
    rw [e1]
    dsimp only [x_yes]
    simp only [x_yes, if_true]
    rw [e2]
    simp only [List.length_cons, Nat.add_mul] at hl
    dsimp only
    rw [lcN_map o1 (ws x) acc (by omega) h2]
    dsimp only
    rw [lc2N_map ho xs _ (by simp; omega) fun y hy => h y (List.mem_cons_of_mem _ hy)]
    simp
theorem x_lc2_map {b : Bool} {gt gt1 : GM} {im1 : IM} {vs vs1 : List Nat} {k : D → D → D} {ws : D → List D} (N : Nat) (h : Itr S x xs) (hg : g ρ S = .ok x S) (hl : xs.length * N ≤ 1000000)
    (hk : ∀ x ∈ xs, ∃ ρ1, gt x (wipeE ρ vs) S = some ρ1 ∧ ∃ src1, im1 ρ1 S = .ok (ws x, src1) S ∧ okSrc src1 (ws x) S ∧ (ws x).length ≤ N ∧ ∀ y ∈ ws x, ∃ ρ2, gt1 y (wipeE ρ1 vs1) S = some ρ2 ∧ f ρ2 S = .ok (k x y) S) :
    eLc2 b (iVal g) gt tYesM im1 gt1 tYesM f vs vs1 ρ S = mkL b (xs.flatMap fun x => (ws x).map (k x)) S := by
  obtain ⟨src, h1, h2⟩ := h
  have := big
  have e := lc2N_map (acc := []) (N := N) h2 xs (ρ := wipeE ρ vs) (gt := gt) (gt1 := gt1) (im1 := im1) (f := f) (vs1 := vs1) (all := xs) (k := k) (ws := ws) (by simp; omega) hk
  unfold eLc2
  simp only [x_iVal, hg, x_bind_ok, h1, x_of_some, e]
  rfl
/-- a walk with a store: the state is a Lean value -/
theorem forN_st {gt : GM} {b : SM} {src : Option Nat} {all : List D} (P : List D → Env → Sto → Prop)
    (ho : ∀ xs ρ S, P xs ρ S → okSrc src all S)
    (hs : ∀ x xs ρ S, P (x :: xs) ρ S → ∃ ρ1, gt x ρ S = some ρ1 ∧ ∃ ρ' S', b ρ1 S = .nx ρ' S' ∧ P xs ρ' S') (xs : List D) (ρ : Env) (S : Sto) (h : P xs ρ S) :
    ∃ ρ' S', sForN gt b src all xs ρ S = .nx ρ' S' ∧ P [] ρ' S' :=
  forN_nx P ho (fun x xs ρ S h => by
    obtain ⟨ρ1, e, ρ', S', e2, p⟩ := hs x xs ρ S h
    exact ⟨ρ1, e, ρ', S', .inl e2, p⟩) xs ρ S h
theorem x_forI {gt : GM} {b : SM} {r : SR} (h : Itr S x xs) (hg : g ρ S = .ok x S) (hr : ∀ src, okSrc src xs S → sForN gt b src xs xs ρ S = r) : sFor (iVal g) gt b ρ S = r := by
  obtain ⟨src, h1, h2⟩ := h
  simp only [x_for, x_iVal, hg, x_bind_ok, h1, x_of_some, x_bindS_ok]
  exact hr src h2
theorem Itr.ups (h : Itr S x xs) : ∃ src, ∀ T, Up S T → itS T x = some (xs, src) ∧ okSrc src xs T := by
  obtain ⟨src, h1, h2⟩ := h
  cases x with
  | ref n =>
    unfold itS at h1
    cases q : S.get n with
    | none => simp only [q] at h1; cases h1
    | some c =>
      cases c with
      | lst l =>
        simp only [q] at h1
        cases h1
        exact ⟨some n, fun T u => by
          have e := (u.get (get_lt q)).trans q
          exact ⟨by unfold itS; simp only [e], e⟩⟩
      | _ => simp only [q] at h1; cases h1
  | str s => cases h1; exact ⟨none, fun _ _ => ⟨rfl, trivial⟩⟩
  | tup s => cases h1; exact ⟨none, fun _ _ => ⟨rfl, trivial⟩⟩
  | lst s => cases h1; exact ⟨none, fun _ _ => ⟨rfl, trivial⟩⟩
  | frl s => cases h1; exact ⟨none, fun _ _ => ⟨rfl, trivial⟩⟩
  | _ => cases h1
theorem Itr.up (h : Itr S x xs) (u : Up S T) : Itr T x xs := by
  obtain ⟨src, h⟩ := h.ups
  exact ⟨src, h T u⟩
/-- a list of its own or one in a cell -/
def Lis (S : Sto) (x : D) (xs : List D) : Prop := x = .lst xs ∨ ∃ n, x = .ref n ∧ S.get n = some (.lst xs)
theorem Lis.itr (h : Lis S x xs) : Itr S x xs := by
  rcases h with rfl | ⟨n, rfl, h⟩
  · exact .lst
  · exact .ref h
theorem Lis.of (h : Lis S x xs) (e : ∀ n, x = .ref n → S'.get n = S.get n) : Lis S' x xs := by
  rcases h with rfl | ⟨n, rfl, h⟩
  · exact .inl rfl
  · exact .inr ⟨n, rfl, (e n rfl).trans h⟩
theorem Lis.nin {y : D} (h : Lis S x xs) (hy : Pl y = true) (hx : PlL xs = true) (hd : dp y ≤ 64 ∨ dpL xs ≤ 64) : dNotIn y x S = .ok (.bl (!decide (y ∈ xs))) S := by
  have h1 := inS_pl (S := S) hy hx hd _ (.inr rfl)
  unfold dNotIn
  rcases h with rfl | ⟨n, rfl, h⟩
  · rw [h1]
  · rw [Mi.inS_ref h, h1]
theorem Lis.isin {y : D} (h : Lis S x xs) (hy : Pl y = true) (hx : PlL xs = true) (hd : dp y ≤ 64 ∨ dpL xs ≤ 64) : dIn y x S = .ok (.bl (decide (y ∈ xs))) S := by
  have h1 := inS_pl (S := S) hy hx hd _ (.inr rfl)
  unfold dIn
  rcases h with rfl | ⟨n, rfl, h⟩
  · rw [h1]
  · rw [Mi.inS_ref h, h1]
theorem Lis.dlist {b : Bool} (h : Lis S x xs) : dList b [x] S = mkL b xs S := by
  unfold dList
  rcases h with rfl | ⟨n, rfl, h⟩
  · rfl
  · simp only [seqS, lstS, h]
theorem Lis.dtuple (h : Lis S x xs) : dTuple [x] S = .ok (.tup xs) S := by
  unfold dTuple
  rcases h with rfl | ⟨n, rfl, h⟩
  · rfl
  · simp only [seqS, lstS, h]
theorem Lis.len (h : Lis S x xs) : lenG S x = some (.int xs.length) := by
  rcases h with rfl | ⟨n, rfl, h⟩
  · rfl
  · exact x_lenR h
theorem x_ext (h : S.get n = some (.lst xs)) (hl : xs.length + ys.length ≤ sizeLine) (hm : S.may n (.lst (xs ++ ys)) = true) : mExtend (.ref n) [.lst ys] S = .ok .non (S.set n (.lst (xs ++ ys))) := by
  unfold mExtend
  simp only [h, lstS]
  rw [if_pos hl]
  unfold putL
  rw [if_pos hm]
/-! ### results frozen -/
theorem give_some {S S' : Sto} {d d' : D} (h : fz S.new S'.all.length S' 24 d = some d') (ht : S'.top.isEmpty = false) : give S d S' = .ok d' (S.pop S') := by
  unfold give
  rw [ht, h]
  rfl
theorem runV_give {n : Nat} {b : SM} {ds : List D} {d d' : D} {S S' : Sto} (h : b (initE n ds) S.push = .rt d S') (hf : fz S.new S'.all.length S' 24 d = some d') (ht : S'.top.isEmpty = false) : runV n b ds S = .ok d' (S.pop S') := by
  unfold runV
  rw [h]
  exact give_some hf ht
theorem mapO_id {α : Type} {f : α → Option α} : ∀ {l : List α}, (∀ a ∈ l, f a = some a) → mapO f l = some l
  | [], _ => rfl
  | a :: l, h => by
    unfold mapO
    rw [h a List.mem_cons_self, mapO_id fun b hb => h b (List.mem_cons_of_mem _ hb)]
theorem fz_lt {b m k : Nat} {S : Sto} {d : D} (h : d.lt b = true) : fz b m S k d = some d := by
  cases k <;> (unfold fz; rw [if_pos h])
theorem ltL_all {b : Nat} {l : List D} : D.ltL b l = true ↔ ∀ d ∈ l, d.lt b = true := by
  induction l with
  | nil => simp [D.ltL]
  | cons a r ih => simp [D.ltL, ih]
/-- a list of the frame's own is handed back -/
theorem fz_ref {b m k : Nat} {S : Sto} {l : List D} (h : S.get n = some (.lst l)) (hb : b ≤ n) (hm : n < m) (hl : D.ltL b l = true) : fz b m S (k + 1) (.ref n) = some (.lst l) := by
  unfold fz
  rw [if_neg (by simp [D.lt]; omega)]
  simp only
  rw [if_neg (by omega), h]
  simp only
  rw [mapO_lt hl]
  rfl
theorem runV_list {n m : Nat} {b : SM} {ds : List D} {l : List D} {S S' : Sto} (h : b (initE n ds) S.push = .rt (.ref m) S') (hg : S'.get m = some (.lst l)) (hm : S.new ≤ m) (hl : D.ltL S.new l = true) (u : Up S S') : runV n b ds S = .ok (.lst l) S := by
  have hlt := get_lt hg
  have h0 : S'.old.length = S.new := by unfold Up at u; rw [u, List.length_append]; rfl
  have ht : S'.top.isEmpty = false := by
    cases q : S'.top with
    | nil =>
      unfold Sto.new at hlt
      rw [h0, q] at hlt
      simp at hlt; omega
    | cons _ _ => rfl
  rw [runV_give h (fz_ref hg hm (by rw [← Sto.new_all]; exact hlt) hl) ht, u.pop]
theorem runF_list {n m : Nat} {b : SM} {ds : List D} {l : List D} {S S' : Sto} (h : b (initE n ds) S.push = .rt (.ref m) S') (hg : S'.get m = some (.lst l)) (hm : S.new ≤ m) (hl : D.ltL S.new l = true) (u : Up S S') : runF n b ds S = .ok (.ref S.new) (S.add (.lst l)) := by
  rw [runF_of h (by omega) hg (mapO_lt hl), u.pop]
end
end Mi

/-! Ma5: statements, one after the other; draws; data through cells. -/
namespace Mi
open PySem PySem.Spec PyProof.Rows L2
section
variable {S S1 S2 S3 S' T : Sto} {ρ ρ1 ρ2 ρ3 : Env} {a b c : SM} {f g : EM} {t : TM} {d : D} {i : Nat} {xs ys : List D} {src : Option Nat} {im : IM} {gt : GM} {r : SR}
def Tru (r : SR) : Prop := ∃ S', r = .rt (.bl true) S'
theorem sq (h : a ρ S = .nx ρ1 S1) : sSeq a b ρ S = b ρ1 S1 := by simp only [x_seq, h]
theorem sqT (h : a ρ S = .nx ρ1 S1) (h2 : Tru (b ρ1 S1)) : Tru (sSeq a b ρ S) := by rw [sq h]; exact h2
theorem sq_rt (h : a ρ S = .rt d S1) : sSeq a b ρ S = .rt d S1 := by simp only [x_seq, h]
theorem sq_ex {e : D} (h : a ρ S = .ex e ρ1 S1) : sSeq a b ρ S = .ex e ρ1 S1 := by simp only [x_seq, h]
theorem if_no (h : t ρ S = .ok false S1) : sIf t a b ρ S = b ρ S1 := by simp only [x_sif, h, x_bindS_ok, Bool.false_eq_true, if_false]
theorem if_yes (h : t ρ S = .ok true S1) : sIf t a b ρ S = a ρ S1 := by simp only [x_sif, h, x_bindS_ok, if_true]
theorem if_skip (h : t ρ S = .ok false S1) : sIf t a sSkip ρ S = .nx ρ S1 := (if_no h).trans rfl
theorem ret_ok (h : f ρ S = .ok d S1) : sRet f ρ S = .rt d S1 := by simp only [x_ret, h, x_bindS_ok]
theorem expr_ok (h : f ρ S = .ok d S1) : sExpr f ρ S = .nx ρ S1 := by simp only [x_expr, h, x_bindS_ok]
theorem expr_ex {e : D} (h : f ρ S = .ex e S1) : sExpr f ρ S = .ex e ρ S1 := by simp only [x_expr, h, x_bindS_ex]
theorem asg_ok (h : f ρ S = .ok d S1) : sAsg f (gtName i) ρ S = .nx (ρ.set i (some d)) S1 := by simp only [x_asg, h, x_bindS_ok]
theorem asg_ex {e : D} (h : f ρ S = .ex e S1) : sAsg f (gtName i) ρ S = .ex e ρ S1 := by simp only [x_asg, h, x_bindS_ex]
theorem for_ok (h : im ρ S = .ok (xs, src) S1) (h2 : sForN gt b src xs xs ρ S1 = r) : sFor im gt b ρ S = r := by simp only [x_for, h, x_bindS_ok, h2]
theorem while_n (t : TM) (f : SM) : sWhile t f = sWhileN t f (1099511627772 + 4) := rfl
theorem whN_s {n : Nat} : sWhileN t a (n + 1) ρ S = (t ρ S).bindS ρ fun b S1 => if b = true then match a ρ S1 with
      | .nx ρ' S' => sWhileN t a n ρ' S'
      | .ct ρ' S' => sWhileN t a n ρ' S'
      | .bk ρ' S' => .nx ρ' S'
      | r => r
    else .nx ρ S1 := rfl
theorem cut_to {α : Type} {l : List α} {i : Nat} : cutG l none (some (i : Int)) = l.take i := by
  unfold cutG
  rw [HT.sIx_nat, HT.sIx_none]
  simp [List.take_eq_take_iff]
theorem cut_from {α : Type} {l : List α} {i : Nat} : cutG l (some (i : Int)) none = l.drop i := by
  unfold cutG
  rw [HT.sIx_nat, HT.sIx_none]
  by_cases h : i ≤ l.length
  · rw [Nat.min_eq_left h]
    exact List.take_of_length_le (by simp)
  · rw [Nat.min_eq_right (by omega)]
    simp
    omega
theorem sl_to {l : List D} {k : Nat} {c : Bool} (hf : f ρ S = .ok (.lst l) S) (hg : g ρ S = .ok (.int (k : Int)) S1) : eSl c f oNone (oSome g) ρ S = mkL c (l.take k) S1 := by
  simp only [x_sl, hf, x_bind_ok, x_oN, x_oS, hg, x_intD, Option.map_some, x_of_some, x_slL, cut_to]
/-- a frame that draws and makes no cell -/
theorem drV {n m bb : Nat} {b : SM} {ds : List D} (h : b (initE n ds) S.push = .rt d S') (hs : Sam m S.push S') (ho : Ok m S' bb) : ∃ T, runV n b ds S = .ok d T ∧ Ok m T bb ∧ Sam m S T := by
  have ht : S'.top = [] := List.eq_nil_of_length_eq_zero hs.lt
  obtain ⟨p1, p2⟩ := hs.pop ht
  exact ⟨S.pop S', runV_of h ht, ho.of (p2 m), p1⟩
theorem tkN {m bb : Nat} {many : Nat} (h : Ok m S bb) (hb : bb < lim) (hm : 0 < many) :
    ∃ i : Nat, i < many ∧ ∃ S', gTake [.ref m, .int (many : Int)] S = .ok (.int (i : Int)) S' ∧ Ok m S' (bb + 1) ∧ Sam m S S' := by
  obtain ⟨i, h0, h1, S', e, o, s⟩ := take_ok (many := (many : Int)) h hb (by omega)
  obtain ⟨n, rfl⟩ := Int.eq_ofNat_of_zero_le h0
  exact ⟨n, by omega, S', e, o, s⟩
/-! ### data through cells -/
theorem pyLG_pl {F : D → Option PyData} : ∀ {l : List D}, (∀ d ∈ l, F d = pyD d) → pyLG F l = pyL l
  | [], _ => rfl
  | a :: l, h => by
    unfold pyLG
    rw [h a List.mem_cons_self, pyLG_pl fun d hd => h d (List.mem_cons_of_mem _ hd)]
    rfl
theorem pyG_pl : ∀ (k : Nat) {d : D}, Pl d = true → pyG S k d = pyD d
  | 0, _, _ => rfl
  | k + 1, d, h => by
    cases d with
    | tup xs =>
      show (pyLG (pyG S k) xs).map PyData.tuple = (pyL xs).map PyData.tuple
      rw [pyLG_pl fun d hd => pyG_pl k (PlL_all.mp h d hd)]
    | lst xs =>
      show (pyLG (pyG S k) xs).map PyData.list = (pyL xs).map PyData.list
      rw [pyLG_pl fun d hd => pyG_pl k (PlL_all.mp h d hd)]
    | ref _ => cases h
    | _ => rfl
theorem pyG_lis {k : Nat} {x : D} (h : Lis S x xs) (hp : PlL xs = true) : pyG S (k + 1) x = pyD (.lst xs) := by
  rcases h with rfl | ⟨n, rfl, h⟩
  · exact pyG_pl _ hp
  · show (match S.get n with
      | some (.lst xs) => (pyLG (pyG S k) xs).map PyData.list
      | _ => none) = _
    simp only [h]
    rw [pyLG_pl fun d hd => pyG_pl k (PlL_all.mp hp d hd)]
    rfl
/-- lists whose parts may be cells -/
inductive LisL (S : Sto) : List D → List (List D) → Prop
  | nil : LisL S [] []
  | cons {x : D} {xs : List D} {r : List D} {rs : List (List D)} (h : Lis S x xs) (t : LisL S r rs) : LisL S (x :: r) (xs :: rs)
theorem pyG_lisL {k : Nat} : ∀ {ls : List D} {xss : List (List D)}, LisL S ls xss → PlL (xss.map .lst) = true → pyLG (pyG S (k + 1)) ls = pyL (xss.map .lst)
  | _, _, .nil, _ => rfl
  | _, _, .cons (xs := xs) h t, hp => by
    simp only [List.map_cons, PlL, Bool.and_eq_true] at hp
    have h1 : PlL xs = true := hp.1
    rw [pyLG, pyG_lis h h1, pyG_lisL t hp.2]
    rfl
theorem lst_inj : ∀ {xss yss : List (List D)}, xss.map D.lst = yss.map D.lst → xss = yss
  | [], [], _ => rfl
  | [], _ :: _, h => by cases h
  | _ :: _, [], h => by cases h
  | a :: r, b :: r', h => by
    simp only [List.map_cons, List.cons.injEq, D.lst.injEq] at h
    rw [h.1, lst_inj h.2]
theorem eqS_lisL {ls ms : List D} {xss yss : List (List D)} (h1 : LisL S ls xss) (h2 : LisL S ms yss) (p1 : PlL (xss.map .lst) = true) (p2 : PlL (yss.map .lst) = true) (hd : dpL (xss.map .lst) ≤ 60) : eqS S (.lst ls) (.lst ms) = some (decide (xss = yss)) := by
  have key : ∀ {ls : List D} {xss : List (List D)}, LisL S ls xss → PlL (xss.map .lst) = true → pyS2 S (.lst ls) = pyD (.lst (xss.map .lst)) := fun {ls xss} h p => by
    have e : pyG S 6 (.lst ls) = pyD (.lst (xss.map .lst)) := by
      show (pyLG (pyG S 5) ls).map PyData.list = _
      rw [pyG_lisL h p]
      rfl
    unfold pyS2
    cases q : pyS S (.lst ls) with
    | none => exact e
    | some pp =>
      have hq : pyL ls = pyL (xss.map .lst) := by
        have q' : (pyL ls).map PyData.list = some pp := q
        clear e q p
        induction h generalizing pp with
        | nil => rfl
        | @cons x xs r rs h t ih =>
          rcases h with rfl | ⟨n, rfl, h⟩
          · show (match pyD (.lst xs), pyL r with
              | some a, some as => some (a :: as)
              | _, _ => none) = (match pyD (.lst xs), pyL (rs.map .lst) with
              | some a, some as => some (a :: as)
              | _, _ => none)
            cases q1 : pyL r with
            | none =>
              rw [pyL, q1] at q'
              cases q2 : pyD (.lst xs) <;> simp [q2] at q'
            | some ps =>
              rw [← ih (.list ps) (by rw [q1]; rfl), q1]
          · rw [pyL] at q'
            cases q'
      show some pp = _
      have q' : (pyL ls).map PyData.list = some pp := q
      rw [hq] at q'
      exact q'.symm
  have a1 : Pl (.lst (xss.map .lst)) = true := p1
  have a2 : Pl (.lst (yss.map .lst)) = true := p2
  have e := eqS_pl (S := S) a1 a2 (.inl (by simp only [dp]; omega))
  obtain ⟨p, e1, _⟩ := pyD_pl a1
  obtain ⟨q, e2, _⟩ := pyD_pl a2
  unfold eqS at e ⊢
  rw [key h1 p1, key h2 p2]
  rw [pyS2_of ((pyS_pl a1).trans e1), pyS2_of ((pyS_pl a2).trans e2)] at e
  rw [e1, e2, e]
  congr 1
  have : (D.lst (xss.map .lst) = D.lst (yss.map .lst)) ↔ xss = yss := by
    constructor
    · intro h
      have h' : xss.map D.lst = yss.map D.lst := D.lst.inj h
      exact lst_inj h'
    · intro h; rw [h]
  exact decide_eq_decide.mpr this
end
end Mi

namespace K86
open PySem PySem.Spec PyProof.Rows L2 Mi
/-! ### meanings -/
def et_WorldOrPaperError : List (Str × Bool) := [("BadPlace", true)]
def ei_BadPlace : List (Str × Bool) := [("BadPlace", true)]
noncomputable def B_is_unknown : SM := (sRet (eIsT "str" (eVar 0)))
noncomputable def F_is_unknown : List D → Sto → R D := runV 1 B_is_unknown
noncomputable def B_term_size (r_term_size : List D → Sto → R D) : SM := (sSeq (sIf (eTru (eCall [(eVar 0)] [] F_is_unknown)) (sRet (eC (.int 1))) sSkip)
  (sRet (eBin (eC (.int 1)) (eApp [(eLc false (iVal (eSl false (eVar 0) (oSome (eC (.int 1))) oNone)) (gtName 1) tYesM (eCall [(eVar 1)] [] r_term_size) [1])] (b1 sumG)) (dAdd false))))
noncomputable def F_term_size : Nat → List D → Sto → R D
  | 0 => badF
  | n + 1 => runV 2 (B_term_size (F_term_size n))
noncomputable def B_places_of (r_places_of : List D → Sto → R D) : SM := (sSeq (sAsg (eApp [(eApp [] dTup)] (dLst true)) (gtName 1))
  (sSeq (sIf (tNotM (eTru (eCall [(eVar 0)] [] F_is_unknown))) (sFor (iRange [(eC (.int 1)), (eApp [(eVar 0)] (b1 lenG))]) (gtName 2) (sFor (iVal (eCall [(eBin (eVar 0) (eVar 2) dIx)] [] r_places_of)) (gtName 3) (sExpr (eMeth (eVar 1) [(eBin (eApp [(eBin (eVar 2) (eC (.int 1)) dSub)] dTup) (eVar 3) (dAdd false))] mAppend)))) sSkip)
  (sRet (eVar 1))))
noncomputable def F_places_of : Nat → List D → Sto → R D
  | 0 => badF
  | n + 1 => runF 4 (B_places_of (F_places_of n))
noncomputable def B_part_at : SM := (sSeq (sFor (iVal (eVar 1)) (gtName 2) (sSeq (sIf (tOrM (eTru (eCall [(eVar 0)] [] F_is_unknown)) (tNotM (eTst (eChain (eC (.int 0)) (eVar 2) (eBin (eApp [(eVar 0)] (b1 lenG)) (eC (.int 1)) dSub) dLe dLt)))) (sRaise "BadPlace") sSkip)
  (sAsg (eBin (eVar 0) (eBin (eVar 2) (eC (.int 1)) (dAdd false)) dIx) (gtName 0))))
  (sRet (eVar 0)))
noncomputable def F_part_at : List D → Sto → R D := runV 3 B_part_at
noncomputable def B_replace_at (r_replace_at : List D → Sto → R D) : SM := (sSeq (sIf (tNotM (eTru (eVar 1))) (sRet (eVar 2)) sSkip)
  (sSeq (sAsg (eBin (eVar 1) (eC (.int 0)) dIx) (gtName 3))
  (sSeq (sIf (tOrM (eTru (eCall [(eVar 0)] [] F_is_unknown)) (tNotM (eTst (eChain (eC (.int 0)) (eVar 3) (eBin (eApp [(eVar 0)] (b1 lenG)) (eC (.int 1)) dSub) dLe dLt)))) (sRaise "BadPlace") sSkip)
  (sSeq (sAsg (eCall [(eBin (eVar 0) (eBin (eVar 3) (eC (.int 1)) (dAdd false)) dIx), (eSl false (eVar 1) (oSome (eC (.int 1))) oNone), (eVar 2)] [] r_replace_at) (gtName 4))
  (sRet (eBin (eBin (eSl false (eVar 0) oNone (oSome (eBin (eVar 3) (eC (.int 1)) (dAdd false)))) (eApp [(eVar 4)] dTup) (dAdd false)) (eSl false (eVar 0) (oSome (eBin (eVar 3) (eC (.int 2)) (dAdd false))) oNone) (dAdd false)))))))
noncomputable def F_replace_at : Nat → List D → Sto → R D
  | 0 => badF
  | n + 1 => runV 5 (B_replace_at (F_replace_at n))
noncomputable def B_parts_of : SM := (sSeq (sAsg (eApp [] (dLst true)) (gtName 1))
  (sSeq (sFor (iVal (eCall [(eVar 0)] [] (F_places_of 40))) (gtName 2) (sSeq (sAsg (eCall [(eVar 0), (eVar 2)] [] F_part_at) (gtName 3))
  (sIf (eTst (eBin (eVar 3) (eVar 1) dNotIn)) (sExpr (eMeth (eVar 1) [(eVar 3)] mAppend)) sSkip)))
  (sRet (eVar 1))))
noncomputable def F_parts_of : List D → Sto → R D := runF 4 B_parts_of
noncomputable def B_unknowns_of (r_unknowns_of : List D → Sto → R D) : SM := (sSeq (sIf (eTru (eCall [(eVar 0)] [] F_is_unknown)) (sRet (eApp [(eVar 0)] (dLst true))) sSkip)
  (sSeq (sAsg (eApp [] (dLst true)) (gtName 1))
  (sSeq (sFor (iVal (eSl false (eVar 0) (oSome (eC (.int 1))) oNone)) (gtName 2) (sFor (iVal (eCall [(eVar 2)] [] r_unknowns_of)) (gtName 3) (sIf (eTst (eBin (eVar 3) (eVar 1) dNotIn)) (sExpr (eMeth (eVar 1) [(eVar 3)] mAppend)) sSkip)))
  (sRet (eVar 1)))))
noncomputable def F_unknowns_of : Nat → List D → Sto → R D
  | 0 => badF
  | n + 1 => runF 4 (B_unknowns_of (F_unknowns_of n))
noncomputable def B__law_start : SM := (sSeq (sAsg (eApp [] (dLst true)) (gtName 1))
  (sSeq (sAsg (eC (.int 17)) (gtName 2))
  (sSeq (sFor (iRange [(eApp [(eVar 0)] (b1 lenG))]) (gtName 3) (sSeq (sAsg (eApp [(eBin (eVar 0) (eVar 3) dIx)] (b1 absG)) (gtName 4))
  (sSeq (sAsg (eBin (eApp [(eBin (eBin (eBin (eVar 2) (eC (.int 31)) dMul) (eVar 4) (dAdd false)) (eVar 3) (dAdd false))] (b1 intG)) (eC (.int 2147483647)) dMod) (gtName 2))
  (sIf (eTst (eBin (eVar 4) (eBin (eC (.int 10)) (eC (.int 18)) dPow) dGe)) (sSeq (sAsg (eBin (eVar 4) (eBin (eC (.int 10)) (eC (.int 18)) dPow) dSub) (gtName 4))
  (sFor (iRange [(eC (.int 60))]) (gtName 5) (sIf (eTst (eBin (eVar 4) (eC (.int 0)) dGt)) (sSeq (sExpr (eMeth (eVar 1) [(eBin (eApp [(eVar 4)] (b1 intG)) (eC (.int 840)) dMod)] mAppend))
  (sAsg (eBin (eVar 4) (eC (.int 840)) dDiv) (gtName 4))) sSkip))) (sSeq (sAsg (eBin (eApp [(eBin (eBin (eBin (eVar 4) (eC (.int 1)) (dAdd false)) (eC (.int 48271)) dMul) (eBin (eVar 3) (eC (.int 69621)) dMul) (dAdd false))] (b1 intG)) (eC (.int 2147483647)) dMod) (gtName 6))
  (sSeq (sAsg (eBin (eApp [(eBin (eBin (eVar 6) (eC (.int 40692)) dMul) (eC (.int 5)) (dAdd false))] (b1 intG)) (eC (.int 2147483399)) dMod) (gtName 6))
  (sExpr (eMeth (eVar 1) [(eBin (eBin (eVar 6) (eC (.int 13)) dDiv) (eC (.int 840)) dMod)] mAppend))))))))
  (sRet (eApp [(eVar 1), (eC (.int 0)), (eVar 2)] (dLst true))))))
noncomputable def F__law_start : List D → Sto → R D := runF 7 B__law_start
noncomputable def B__law_take : SM := (sSeq (sAsg (eBin (eVar 0) (eC (.int 1)) dIx) (gtName 2))
  (sSeq (sSetIx (eVar 0) (eC (.int 1)) (eBin (eVar 2) (eC (.int 1)) (dAdd false)))
  (sSeq (sIf (eTst (eBin (eVar 2) (eApp [(eBin (eVar 0) (eC (.int 0)) dIx)] (b1 lenG)) dLt)) (sRet (eBin (eApp [(eBin (eBin (eVar 0) (eC (.int 0)) dIx) (eVar 2) dIx)] (b1 intG)) (eVar 1) dMod)) sSkip)
  (sSeq (sAsg (eBin (eApp [(eBin (eBin (eBin (eVar 0) (eC (.int 2)) dIx) (eBin (eVar 2) (eC (.int 40503)) dMul) (dAdd false)) (eC (.int 48271)) dMul)] (b1 intG)) (eC (.int 2147483647)) dMod) (gtName 3))
  (sSeq (sAsg (eBin (eApp [(eBin (eBin (eVar 3) (eC (.int 69621)) dMul) (eBin (eVar 2) (eVar 2) dMul) (dAdd false))] (b1 intG)) (eC (.int 2147483629)) dMod) (gtName 3))
  (sRet (eBin (eBin (eVar 3) (eC (.int 11)) dDiv) (eVar 1) dMod)))))))
noncomputable def F__law_take : List D → Sto → R D := runV 4 B__law_take
noncomputable def B__law_term (r__law_term : List D → Sto → R D) : SM := (sSeq (sAsg (eCall [(eVar 0), (eC (.int 8))] [] F__law_take) (gtName 2))
  (sSeq (sIf (tOrM (eTst (eBin (eVar 1) (eC (.int 0)) dEq)) (eTst (eBin (eVar 2) (eC (.int 3)) dLt))) (sSeq (sAsg (eApp [(eC (.str [120])), (eC (.str [121])), (eC (.str [122, 57])), (eApp [(eC (.str [97]))] dTup), (eApp [(eC (.str [98]))] dTup), (eApp [(eC (.str [108, 111, 110, 103, 110, 97, 109, 101, 49, 50]))] dTup)] (dLst false)) (gtName 3))
  (sRet (eBin (eVar 3) (eCall [(eVar 0), (eC (.int 6))] [] F__law_take) dIx))) sSkip)
  (sSeq (sIf (eTst (eBin (eVar 2) (eC (.int 5)) dLt)) (sRet (eApp [(eC (.str [102])), (eCall [(eVar 0), (eBin (eVar 1) (eC (.int 1)) dSub)] [] r__law_term)] dTup)) sSkip)
  (sSeq (sIf (eTst (eBin (eVar 2) (eC (.int 7)) dLt)) (sRet (eApp [(eC (.str [103])), (eCall [(eVar 0), (eBin (eVar 1) (eC (.int 1)) dSub)] [] r__law_term), (eCall [(eVar 0), (eBin (eVar 1) (eC (.int 1)) dSub)] [] r__law_term)] dTup)) sSkip)
  (sRet (eApp [(eC (.str [104, 50])), (eCall [(eVar 0), (eBin (eVar 1) (eC (.int 1)) dSub)] [] r__law_term), (eCall [(eVar 0), (eBin (eVar 1) (eC (.int 1)) dSub)] [] r__law_term), (eCall [(eVar 0), (eBin (eVar 1) (eC (.int 1)) dSub)] [] r__law_term)] dTup))))))
noncomputable def F__law_term : Nat → List D → Sto → R D
  | 0 => badF
  | n + 1 => runV 4 (B__law_term (F__law_term n))
noncomputable def B__law_atom : SM := (sSeq (sAsg (eCall [(eVar 0), (eC (.int 4))] [] F__law_take) (gtName 1))
  (sSeq (sAsg (eApp [(eC (.str [81])), (eC (.str [80])), (eC (.str [82, 49, 50])), (eC (.str [76, 111, 110, 103, 110, 97, 109, 101, 49, 50, 51, 65]))] (dLst false)) (gtName 2))
  (sRet (eApp [(eBin (eApp [(eBin (eVar 2) (eVar 1) dIx)] (dLst false)) (eLc false (iRange [(eVar 1)]) (gtName 3) tYesM (eCall [(eVar 0), (eC (.int 3))] [] (F__law_term 40)) [3]) (dAdd false))] (dTuple)))))
noncomputable def F__law_atom : List D → Sto → R D := runV 4 B__law_atom
noncomputable def B__law_places (r__law_places : List D → Sto → R D) : SM := (sSeq (sAsg (eApp [(eApp [] dTup)] (dLst false)) (gtName 1))
  (sSeq (sIf (tNotM (eTru (eIsT "str" (eVar 0)))) (sFor (iRange [(eC (.int 1)), (eApp [(eVar 0)] (b1 lenG))]) (gtName 2) (sAsg (eBin (eVar 1) (eLc false (iVal (eCall [(eBin (eVar 0) (eVar 2) dIx)] [] r__law_places)) (gtName 3) tYesM (eBin (eApp [(eBin (eVar 2) (eC (.int 1)) dSub)] dTup) (eVar 3) (dAdd false)) [3]) (dAdd false)) (gtName 1))) sSkip)
  (sRet (eVar 1))))
noncomputable def F__law_places : Nat → List D → Sto → R D
  | 0 => badF
  | n + 1 => runV 4 (B__law_places (F__law_places n))
noncomputable def B__law_part : SM := (sSeq (sFor (iVal (eVar 1)) (gtName 2) (sAsg (eBin (eVar 0) (eBin (eVar 2) (eC (.int 1)) (dAdd false)) dIx) (gtName 0)))
  (sRet (eVar 0)))
noncomputable def F__law_part : List D → Sto → R D := runV 3 B__law_part
noncomputable def B__law_put (r__law_put : List D → Sto → R D) : SM := (sSeq (sIf (eTst (eBin (eApp [(eVar 1)] (b1 lenG)) (eC (.int 0)) dEq)) (sRet (eVar 2)) sSkip)
  (sSeq (sAsg (eApp [(eVar 0)] (dList true)) (gtName 3))
  (sSeq (sSetIx (eVar 3) (eBin (eBin (eVar 1) (eC (.int 0)) dIx) (eC (.int 1)) (dAdd false)) (eCall [(eBin (eVar 3) (eBin (eBin (eVar 1) (eC (.int 0)) dIx) (eC (.int 1)) (dAdd false)) dIx), (eSl false (eVar 1) (oSome (eC (.int 1))) oNone), (eVar 2)] [] r__law_put))
  (sRet (eApp [(eVar 3)] (dTuple))))))
noncomputable def F__law_put : Nat → List D → Sto → R D
  | 0 => badF
  | n + 1 => runV 4 (B__law_put (F__law_put n))
noncomputable def B__law_refused : SM := (sSeq (sTryAsE (sExpr (eCall [(eVar 0), (eVar 1)] [] F_part_at)) et_WorldOrPaperError 2 (sIf (tNotM (eTru (eExI ei_BadPlace 2))) (sRet (eC (.bl false))) sSkip) (sRet (eC (.bl false))))
  (sSeq (sTryAs (sExpr (eCall [(eVar 0), (eVar 1), (eApp [(eC (.str [97]))] dTup)] [] (F_replace_at 40))) et_WorldOrPaperError 2 (sRet (eExI ei_BadPlace 2)))
  (sRet (eC (.bl false)))))
noncomputable def F__law_refused : List D → Sto → R D := runV 3 B__law_refused
noncomputable def B__law_listed : SM := (sSeq (sAsg (eLc false (iVal (eCall [(eVar 0)] [] (F__law_places 40))) (gtName 8) tYesM (eCall [(eVar 0), (eVar 8)] [] F__law_part) [8]) (gtName 1))
  (sSeq (sAsg (eApp [] (dLst true)) (gtName 2))
  (sSeq (sAsg (eApp [] (dLst true)) (gtName 3))
  (sSeq (sFor (iVal (eVar 1)) (gtName 4) (sSeq (sIf (eTst (eBin (eVar 4) (eVar 2) dNotIn)) (sExpr (eMeth (eVar 2) [(eVar 4)] mAppend)) sSkip)
  (sIf (tAndM (eTru (eIsT "str" (eVar 4))) (eTst (eBin (eVar 4) (eVar 3) dNotIn))) (sExpr (eMeth (eVar 3) [(eVar 4)] mAppend)) sSkip)))
  (sSeq (sAsg (eCall [(eVar 0)] [] (F_term_size 40)) (gtName 5))
  (sSeq (sIf (tOrM (tNotM (eTru (eIsT "int" (eVar 5)))) (tOrM (eTru (eIsT "bool" (eVar 5))) (eTst (eBin (eVar 5) (eApp [(eVar 1)] (b1 lenG)) dNe)))) (sRet (eC (.bl false))) sSkip)
  (sSeq (sAsg (eApp [(eCall [(eVar 0)] [] (F_places_of 40)), (eCall [(eVar 0)] [] F_parts_of), (eCall [(eVar 0)] [] (F_unknowns_of 40))] (dLst false)) (gtName 6))
  (sSeq (sAsg (eApp [(eCall [(eVar 0)] [] (F__law_places 40)), (eVar 2), (eVar 3)] (dLst false)) (gtName 7))
  (sSeq (sIf (eTst (eBin (eVar 6) (eVar 7) dNe)) (sRet (eC (.bl false))) sSkip)
  (sSeq (sExpr (eMeth (eBin (eVar 6) (eC (.int 0)) dIx) [(eApp [(eC (.int 0)), (eC (.int 0))] dTup)] mAppend))
  (sSeq (sExpr (eMeth (eBin (eVar 6) (eC (.int 1)) dIx) [] mReverse))
  (sSeq (sExpr (eMeth (eBin (eVar 6) (eC (.int 1)) dIx) [(eApp [(eC (.str [97]))] dTup)] mAppend))
  (sSeq (sExpr (eMeth (eBin (eVar 6) (eC (.int 2)) dIx) [(eC (.str [122, 57]))] mAppend))
  (sRet (eBin (eApp [(eCall [(eVar 0)] [] (F_places_of 40)), (eCall [(eVar 0)] [] F_parts_of), (eCall [(eVar 0)] [] (F_unknowns_of 40))] (dLst false)) (eVar 7) dEq)))))))))))))))
noncomputable def F__law_listed : List D → Sto → R D := runV 9 B__law_listed
noncomputable def B__law_one : SM := (sSeq (sAsg (eCall [(eVar 1)] [] (F__law_places 40)) (gtName 3))
  (sSeq (sAsg (eBin (eVar 3) (eCall [(eVar 0), (eApp [(eVar 3)] (b1 lenG))] [] F__law_take) dIx) (gtName 4))
  (sSeq (sFor (iVal (eVar 3)) (gtName 5) (sIf (eTst (eBin (eCall [(eVar 1), (eVar 5)] [] F_part_at) (eCall [(eVar 1), (eVar 5)] [] F__law_part) dNe)) (sRet (eC (.bl false))) sSkip))
  (sSeq (sAsg (eCall [(eVar 1), (eVar 4), (eVar 2)] [] (F__law_put 40)) (gtName 6))
  (sSeq (sAsg (eCall [(eVar 1), (eVar 4), (eVar 2)] [] (F_replace_at 40)) (gtName 7))
  (sSeq (sIf (tOrM (eTst (eBin (eVar 7) (eVar 6) dNe)) (eTst (eBin (eCall [(eVar 7), (eVar 4)] [] F_part_at) (eVar 2) dNe))) (sRet (eC (.bl false))) sSkip)
  (sSeq (sAsg (eCall [(eVar 1), (eVar 4)] [] F__law_part) (gtName 8))
  (sSeq (sIf (eTst (eBin (eCall [(eVar 7), (eVar 4), (eVar 8)] [] (F_replace_at 40)) (eVar 1) dNe)) (sRet (eC (.bl false))) sSkip)
  (sSeq (sAsg (eBin (eVar 4) (eApp [(eBin (eApp [(eVar 8)] (b1 lenG)) (eC (.int 1)) dSub)] dTup) (dAdd false)) (gtName 9))
  (sSeq (sIf (eTru (eIsT "str" (eVar 8))) (sAsg (eBin (eVar 4) (eApp [(eCall [(eVar 0), (eC (.int 3))] [] F__law_take)] dTup) (dAdd false)) (gtName 9)) sSkip)
  (sSeq (sIf (tOrM (tNotM (eTru (eCall [(eVar 1), (eVar 9)] [] F__law_refused))) (tNotM (eTru (eCall [(eVar 1), (eBin (eVar 9) (eApp [(eC (.int 0))] dTup) (dAdd false))] [] F__law_refused)))) (sRet (eC (.bl false))) sSkip)
  (sSeq (sAsg (eSl false (eVar 4) oNone (oSome (eCall [(eVar 0), (eBin (eApp [(eVar 4)] (b1 lenG)) (eC (.int 1)) (dAdd false))] [] F__law_take))) (gtName 10))
  (sSeq (sIf (tNotM (eTru (eCall [(eVar 1), (eBin (eVar 10) (eApp [(eBin (eUn (eC (.int 1)) dNeg) (eCall [(eVar 0), (eC (.int 4))] [] F__law_take) dSub)] dTup) (dAdd false))] [] F__law_refused))) (sRet (eC (.bl false))) sSkip)
  (sRet (eAndV (eCall [(eVar 1)] [] F__law_listed) (eAndV (eCall [(eVar 2)] [] F__law_listed) (eCall [(eVar 6)] [] F__law_listed)))))))))))))))))
noncomputable def F__law_one : List D → Sto → R D := runV 11 B__law_one
noncomputable def B_law : SM := (sSeq (sAsg (eCall [(eVar 0)] [] F__law_start) (gtName 1))
  (sSeq (sAsg (eCall [(eVar 1), (eC (.int 4))] [] (F__law_term 40)) (gtName 2))
  (sSeq (sAsg (eCall [(eVar 1), (eC (.int 2))] [] (F__law_term 40)) (gtName 3))
  (sSeq (sIf (tNotM (eTru (eCall [(eVar 1), (eVar 2), (eVar 3)] [] F__law_one))) (sRet (eC (.bl false))) sSkip)
  (sSeq (sAsg (eCall [(eVar 1)] [] F__law_atom) (gtName 4))
  (sRet (eCall [(eVar 1), (eVar 4), (eCall [(eVar 1), (eC (.int 2))] [] (F__law_term 40))] [] F__law_one)))))))
noncomputable def F_law : List D → Sto → R D := runV 5 B_law
end K86

/-! K86a: terms, places, parts: the plain mathematics. -/
namespace K86
open PySem PySem.Spec PyProof.Rows L2 Mi
/-- a term of height at most n -/
def Good : Nat → D → Prop
  | 0, _ => False
  | n + 1, d => (∃ s : {s : List Nat // s.length ≤ 100}, d = .str s.1) ∨ ∃ nm args, d = .tup (.str nm :: args) ∧ args.length ≤ 3 ∧ ∀ a ∈ args, Good n a
theorem Good.mono : ∀ {n m : Nat} {d : D}, n ≤ m → Good n d → Good m d
  | 0, _, _, _, h => h.elim
  | n + 1, 0, _, hl, _ => absurd hl (by omega)
  | n + 1, m + 1, d, hl, h => by
    rcases h with h | ⟨nm, args, e, l, h⟩
    · exact .inl h
    · exact .inr ⟨nm, args, e, l, fun a ha => (h a ha).mono (by omega)⟩
theorem Good.pl : ∀ {n : Nat} {d : D}, Good n d → Pl d = true ∧ dp d ≤ n ∧ d.lt 0 = true
  | 0, _, h => h.elim
  | n + 1, d, h => by
    rcases h with ⟨s, rfl⟩ | ⟨nm, args, rfl, l, h⟩
    · exact ⟨rfl, Nat.zero_le _, rfl⟩
    · refine ⟨?_, ?_, ?_⟩
      · simp only [Pl, PlL, Bool.true_and]
        exact PlL_all.mpr fun a ha => (h a ha).pl.1
      · simp only [dp]
        refine Nat.succ_le_succ (dpL_le.mpr fun a ha => ?_)
        rcases List.mem_cons.mp ha with z | z
        · rw [z]; exact Nat.zero_le _
        · exact (h a z).pl.2.1
      · simp only [D.lt, D.ltL, Bool.true_and]
        exact ltL_all.mpr fun a ha => (h a ha).pl.2.2
def isStr : D → Bool
  | .str _ => true
  | _ => false
/-- the places in the arguments, the first one's index being i -/
def plA (f : D → List (List Int)) : Nat → List D → List (List Int)
  | _, [] => []
  | i, a :: r => (f a).map (fun p => (i : Int) :: p) ++ plA f (i + 1) r
def places : Nat → D → List (List Int)
  | 0, _ => []
  | n + 1, .tup (_ :: args) => [] :: plA (places n) 0 args
  | _ + 1, _ => [[]]
def parts : Nat → D → List D
  | 0, _ => []
  | n + 1, .tup (h :: args) => .tup (h :: args) :: args.flatMap (parts n)
  | _ + 1, d => [d]
def partO : List Int → D → Option D
  | [], d => some d
  | i :: p, .tup (_ :: args) => if 0 ≤ i then match args[i.toNat]? with
    | some a => partO p a
    | none => none
    else none
  | _ :: _, _ => none
def replO : List Int → D → D → Option D
  | [], _, x => some x
  | i :: p, .tup (h :: args), x => if 0 ≤ i then match args[i.toNat]? with
    | some a => (replO p a x).map fun b => .tup (h :: args.set i.toNat b)
    | none => none
    else none
  | _ :: _, _, _ => none
theorem part_app : ∀ (p q : List Int) (d : D), partO (p ++ q) d = (partO p d).bind (partO q)
  | [], _, _ => rfl
  | i :: p, q, d => by
    cases d with
    | tup l =>
      cases l with
      | nil => rfl
      | cons h args =>
        simp only [List.cons_append, partO]
        split
        · cases args[i.toNat]? with
          | none => rfl
          | some a => exact part_app p q a
        · rfl
    | _ => rfl
theorem repl_none : ∀ (p : List Int) (d x : D), partO p d = none → replO p d x = none
  | [], _, _, h => by cases h
  | i :: p, d, x, h => by
    cases d with
    | tup l =>
      cases l with
      | nil => rfl
      | cons hd args =>
        simp only [partO, replO] at *
        split
        · rename_i hi
          rw [if_pos hi] at h
          cases q : args[i.toNat]? with
          | none => rfl
          | some a =>
            rw [q] at h
            show (replO p a x).map _ = none
            rw [repl_none p a x h]
            rfl
        · rfl
    | _ => rfl
theorem repl_some : ∀ (p : List Int) (d x old : D), partO p d = some old → ∃ y, replO p d x = some y ∧ partO p y = some x ∧ replO p y old = some d
  | [], d, x, old, h => by cases h; exact ⟨x, rfl, rfl, rfl⟩
  | i :: p, d, x, old, h => by
    cases d with
    | tup l =>
      cases l with
      | nil => cases h
      | cons hd args =>
        simp only [partO] at h
        split at h
        · rename_i hi
          cases q : args[i.toNat]? with
          | none => rw [q] at h; cases h
          | some a =>
            rw [q] at h
            obtain ⟨y, e1, e2, e3⟩ := repl_some p a x old h
            have hlt := (List.getElem?_eq_some_iff.mp q).1
            have hget : (args.set i.toNat y)[i.toNat]? = some y := List.getElem?_set_self hlt
            refine ⟨.tup (hd :: args.set i.toNat y), ?_, ?_, ?_⟩
            · simp only [replO, if_pos hi, q, e1, Option.map_some]
            · simp only [partO, if_pos hi, hget]; exact e2
            · simp only [replO, if_pos hi, hget, e3, Option.map_some, List.set_set]
              have hs : args.set i.toNat a = args := by
                refine List.ext_getElem? fun k => ?_
                by_cases hk : i.toNat = k
                · rw [← hk, List.getElem?_set_self hlt, q]
                · rw [List.getElem?_set_ne hk]
              rw [hs]
        · cases h
    | _ => cases h
theorem part_good : ∀ (p : List Int) {n : Nat} {d x : D}, Good n d → partO p d = some x → ∃ m, m + p.length = n ∧ Good m x
  | [], n, d, x, g, h => by cases h; exact ⟨n, rfl, g⟩
  | i :: p, 0, d, x, g, h => g.elim
  | i :: p, n + 1, d, x, g, h => by
    rcases g with ⟨s, rfl⟩ | ⟨nm, args, rfl, l, g⟩
    · cases h
    · simp only [partO] at h
      split at h
      · cases q : args[i.toNat]? with
        | none => rw [q] at h; cases h
        | some a =>
          rw [q] at h
          obtain ⟨m, e, g'⟩ := part_good p (g a (List.mem_of_getElem? q)) h
          exact ⟨m, by simp only [List.length_cons]; omega, g'⟩
      · cases h
theorem repl_good : ∀ (p : List Int) {n k : Nat} {d x y : D}, Good n d → Good k x → replO p d x = some y → Good (n + k) y
  | [], n, k, d, x, y, g, gx, h => by cases h; exact gx.mono (by omega)
  | i :: p, 0, k, d, x, y, g, gx, h => g.elim
  | i :: p, n + 1, k, d, x, y, g, gx, h => by
    rcases g with ⟨s, rfl⟩ | ⟨nm, args, rfl, l, g⟩
    · cases h
    · simp only [replO] at h
      split at h
      · cases q : args[i.toNat]? with
        | none => rw [q] at h; cases h
        | some a =>
          rw [q] at h
          dsimp only at h
          cases q2 : replO p a x with
          | none => rw [q2] at h; cases h
          | some b =>
            rw [q2] at h
            cases h
            have gb := repl_good p (g a (List.mem_of_getElem? q)) gx q2
            rw [show n + 1 + k = n + k + 1 by omega]
            refine .inr ⟨nm, _, rfl, by simpa using l, fun c hc => ?_⟩
            rcases List.mem_or_eq_of_mem_set hc with z | z
            · exact (g c z).mono (by omega)
            · rw [z]; exact gb
      · cases h
theorem plA_part {n : Nat} {h : D} (ih : ∀ a, Good n a → (places n a).map (partO · a) = (parts n a).map some) : ∀ (l r : List D), (∀ a ∈ r, Good n a) → (plA (places n) l.length r).map (partO · (.tup (h :: (l ++ r)))) = (r.flatMap (parts n)).map some
  | l, [], _ => rfl
  | l, a :: r, g => by
    have e := plA_part (h := h) ih (l ++ [a]) r fun b hb => g b (List.mem_cons_of_mem _ hb)
    rw [List.append_assoc] at e
    simp only [List.singleton_append, List.length_append, List.length_singleton] at e
    simp only [plA, List.map_append, List.flatMap_cons, e]
    congr 1
    rw [← ih a (g a List.mem_cons_self), List.map_map]
    refine List.map_congr_left fun p _ => ?_
    simp [partO]
theorem part_places : ∀ {n : Nat} {d : D}, Good n d → (places n d).map (partO · d) = (parts n d).map some
  | 0, _, h => h.elim
  | n + 1, d, h => by
    rcases h with ⟨s, rfl⟩ | ⟨nm, args, rfl, l, g⟩
    · rfl
    · have e := plA_part (n := n) (h := .str nm) (fun a ga => part_places ga) [] args g
      simp only [places, parts, List.map_cons]
      exact congrArg _ e
theorem place_has {n : Nat} {d : D} (g : Good n d) {p : List Int} (h : p ∈ places n d) : ∃ x, partO p d = some x ∧ x ∈ parts n d := by
  have e := part_places g
  have h1 : partO p d ∈ (places n d).map (partO · d) := List.mem_map_of_mem h
  rw [e] at h1
  obtain ⟨x, hx, e2⟩ := List.mem_map.mp h1
  exact ⟨x, e2.symm, hx⟩
theorem part_mem_good : ∀ {n : Nat} {d x : D}, Good n d → x ∈ parts n d → Good n x
  | 0, _, _, h, _ => h.elim
  | n + 1, d, x, h, hx => by
    have h0 := h
    rcases h with ⟨s, rfl⟩ | ⟨nm, args, rfl, l, g⟩
    · have : x = .str s := by simpa [parts] using hx
      rw [this]; exact h0
    · simp only [parts, List.mem_cons, List.mem_flatMap] at hx
      rcases hx with rfl | ⟨a, ha, hx⟩
      · exact h0
      · exact (part_mem_good (g a ha) hx).mono (by omega)
/-- without doubles -/
noncomputable def ins (acc : List D) (x : D) : List D := if x ∈ acc then acc else acc ++ [x]
noncomputable def add (acc l : List D) : List D := l.foldl ins acc
theorem mem_ins {acc : List D} {x y : D} : y ∈ ins acc x ↔ y ∈ acc ∨ y = x := by
  unfold ins
  split
  · constructor
    · exact .inl
    · rintro (h | rfl)
      · exact h
      · assumption
  · simp
theorem mem_add {y : D} : ∀ {l acc : List D}, y ∈ add acc l ↔ y ∈ acc ∨ y ∈ l
  | [], acc => by simp [add]
  | x :: l, acc => by
    have := mem_add (y := y) (l := l) (acc := ins acc x)
    unfold add at *
    rw [List.foldl_cons, this, mem_ins]
    simp [or_assoc]
theorem add_app {acc l m : List D} : add acc (l ++ m) = add (add acc l) m := List.foldl_append
theorem add_ins {acc b : List D} {x : D} : add acc (ins b x) = ins (add acc b) x := by
  unfold ins
  by_cases h : x ∈ b
  · have h2 : x ∈ add acc b := mem_add.mpr (.inr h)
    rw [if_pos h, if_pos h2]
  · rw [if_neg h]
    show add acc (b ++ [x]) = _
    rw [add_app]
    rfl
theorem add_add : ∀ (l b acc : List D), add acc (add b l) = add (add acc b) l
  | [], _, _ => rfl
  | x :: l, b, acc => by
    have e := add_add l (ins b x) acc
    rw [add_ins] at e
    exact e
/-- the unknowns as the program has them -/
noncomputable def unk : Nat → D → List D
  | 0, _ => []
  | n + 1, .tup (_ :: args) => args.foldl (fun acc a => add acc (unk n a)) []
  | _ + 1, d => [d]
theorem unk_eq : ∀ {n : Nat} {d : D}, Good n d → unk n d = add [] ((parts n d).filter isStr)
  | 0, _, h => h.elim
  | n + 1, d, h => by
    rcases h with ⟨s, rfl⟩ | ⟨nm, args, rfl, l, g⟩
    · simp [unk, parts, isStr, add, ins, List.filter]
    · have key : ∀ (r acc : List D), (∀ a ∈ r, Good n a) → r.foldl (fun acc a => add acc (unk n a)) acc = add acc ((r.flatMap (parts n)).filter isStr) := fun r => by
        induction r with
        | nil => intro acc _; rfl
        | cons a r ih =>
          intro acc g
          rw [List.foldl_cons, ih _ fun b hb => g b (List.mem_cons_of_mem _ hb), unk_eq (g a List.mem_cons_self), add_add, List.flatMap_cons, List.filter_append, add_app]
          rfl
      simp only [unk, parts]
      rw [key args [] g, List.filter_cons]
      rfl
def size : Nat → D → Nat
  | 0, _ => 0
  | n + 1, .tup (_ :: args) => 1 + (args.map (size n)).sum
  | _ + 1, _ => 1
theorem size_parts : ∀ {n : Nat} {d : D}, Good n d → size n d = (parts n d).length
  | 0, _, h => h.elim
  | n + 1, d, h => by
    rcases h with ⟨s, rfl⟩ | ⟨nm, args, rfl, l, g⟩
    · rfl
    · have key : ∀ r : List D, (∀ a ∈ r, Good n a) → (r.map (size n)).sum = (r.flatMap (parts n)).length := fun r => by
        induction r with
        | nil => intro _; rfl
        | cons a r ih =>
          intro g
          rw [List.map_cons, List.sum_cons, ih fun b hb => g b (List.mem_cons_of_mem _ hb), size_parts (g a List.mem_cons_self), List.flatMap_cons, List.length_append]
      simp only [size, parts, List.length_cons]
      rw [key args g]; omega
theorem parts_len : ∀ {n : Nat} {d : D}, Good n d → (parts n d).length ≤ 4 ^ n
  | 0, _, h => h.elim
  | n + 1, d, h => by
    rcases h with ⟨s, rfl⟩ | ⟨nm, args, rfl, l, g⟩
    · simp only [parts, List.length_singleton]; exact Nat.one_le_pow _ _ (by decide)
    · have key : ∀ r : List D, (∀ a ∈ r, Good n a) → (r.flatMap (parts n)).length ≤ r.length * 4 ^ n := fun r => by
        induction r with
        | nil => intro _; simp
        | cons a r ih =>
          intro g
          have h1 := ih fun b hb => g b (List.mem_cons_of_mem _ hb)
          have h2 := parts_len (g a List.mem_cons_self)
          rw [List.flatMap_cons, List.length_append, List.length_cons, Nat.add_mul]
          omega
      have h1 := key args g
      have h2 : args.length * 4 ^ n ≤ 3 * 4 ^ n := Nat.mul_le_mul_right _ l
      have h3 : 1 ≤ 4 ^ n := Nat.one_le_pow _ _ (by decide)
      simp only [parts, List.length_cons]
      rw [Nat.pow_succ]; omega
theorem places_len {n : Nat} {d : D} (g : Good n d) : (places n d).length = (parts n d).length := by
  have := congrArg List.length (part_places g)
  simpa using this
end K86

/-! K86b: sizes and places. -/
namespace K86
open PySem PySem.Spec PyProof.Rows L2 Mi
theorem unknown_ok {n : Nat} {d : D} (g : Good n d) (S : Sto) : F_is_unknown [d] S = .ok (.bl (isStr d)) S := by
  refine runV_pure ?_
  cases n with
  | zero => exact g.elim
  | succ n =>
    have h1 : isTy "str" "str" = true := by decide
    have h2 : isTy "str" "tuple" = false := by decide
    rcases g with ⟨s, rfl⟩ | ⟨nm, args, rfl, l, g⟩
    · simp [B_is_unknown, initE, List.replicate, tyS, isStr, h1]
    · simp [B_is_unknown, initE, List.replicate, tyS, isStr, h2]
theorem tru_unknown {n : Nat} {d : D} {ρ : Mi.Env} {S : Sto} {i : Nat} (g : Good n d) (h : ρ[i]? = some (some d)) : eTru (eCall [(eVar i)] [] F_is_unknown) ρ S = .ok (isStr d) S := by
  simp only [x_tru, x_call, x_l1, x_l0, x_var, h, x_bind_ok, List.append_nil, unknown_ok g, x_truB, x_of_some]
theorem isInts (l : List Int) : intsD (l.map .int) = some l := by
  induction l with
  | nil => rfl
  | cons a r ih => simp [intsD, ih]
theorem sum_cast (l : List Nat) : (l.map fun (k : Nat) => (k : Int)).sum = ((l.sum : Nat) : Int) := by
  induction l with
  | nil => rfl
  | cons a r ih => simp [ih]
theorem args_sl {h : D} {args : List D} {ρ : Mi.Env} {S : Sto} {i : Nat} {c : Bool} (e : ρ[i]? = some (some (.tup (h :: args)))) : eSl c (eVar i) (oSome (eC (.int 1))) oNone ρ S = .ok (.tup args) S := by
  simp [e]
theorem size_ok : ∀ {n m : Nat} {d : D}, n ≤ m → Good n d → ∀ S, F_term_size m [d] S = .ok (.int (size n d)) S
  | 0, _, _, _, g, _ => g.elim
  | n + 1, 0, _, h, _, _ => absurd h (by omega)
  | n + 1, m + 1, d, hm, g, S => by
    have t := tru_unknown (S := S.push) (ρ := [some d, none]) (i := 0) g rfl
    refine runV_pure ?_
    show B_term_size (F_term_size m) [some d, none] S.push = _
    unfold B_term_size
    rcases g with ⟨s, rfl⟩ | ⟨nm, args, rfl, l, g⟩
    · rw [x_seq, if_yes t]
      rfl
    · rw [sq (if_skip t)]
      have hbig := big
      have e := x_lc_map (b := false) (S := S.push) (g := eSl false (eVar 0) (oSome (eC (.int 1))) oNone) (ρ := [some (.tup (.str nm :: args)), none]) (x := .tup args) (gt := gtName 1) (vs := [1]) (f := eCall [(eVar 1)] [] (F_term_size m)) (k := fun a => .int (size n a))
        .tup (args_sl rfl) (by omega) (fun a ha => ⟨_, x_gtN, by
          have := size_ok (show n ≤ m by omega) (g a ha) S.push
          simp [wipeE, this]⟩)
      have e1 : args.map (fun a => D.int (size n a)) = ((args.map (size n)).map fun (k : Nat) => (k : Int)).map .int := by rw [List.map_map, List.map_map]; rfl
      rw [e1, x_mkF] at e
      refine ret_ok ?_
      revert e
      generalize (eLc false (iVal (eSl false (eVar 0) (oSome (eC (.int 1))) oNone)) (gtName 1) tYesM (eCall [(eVar 1)] [] (F_term_size m)) [1]) = G
      intro e
      have es : sumG S.push (.lst (((args.map (size n)).map fun (k : Nat) => (k : Int)).map .int)) = some (.int (((args.map (size n)).sum : Nat) : Int)) := by
        unfold sumG
        simp only [lstS, isInts, sum_cast]
      simp only [x_bin, x_C, x_bind_ok, x_app, x_l1, x_l0, e, x_b1, es, x_of_some, x_addI]
      simp [size]
def enP (p : List Int) : D := .tup (p.map .int)
theorem plA_app (f : D → List (List Int)) : ∀ (l r : List D) (i : Nat), plA f i (l ++ r) = plA f i l ++ plA f (i + l.length) r
  | [], r, i => by simp [plA]
  | a :: l, r, i => by
    simp only [List.cons_append, plA, plA_app f l r, List.length_cons, List.append_assoc]
    congr 3
    omega
def ixs : Nat → List D → List D
  | _, [] => []
  | k, _ :: r => .int ((k : Int) + 1) :: ixs (k + 1) r
theorem range_ixs : ∀ (r : List D) (k : Nat), rangeL ((k : Int) + 1) r.length = ixs k r
  | [], _ => rfl
  | a :: r, k => by
    have e := range_ixs r (k + 1)
    rw [ixs, ← e, rangeL_succ, rangeL_succ, List.length_cons, List.range_succ_eq_map, List.map_cons, List.map_map]
    congr 1
    simp
    intros
    omega
theorem range_args {h : D} {args : List D} {ρ : Mi.Env} {S : Sto} {i : Nat} (e : ρ[i]? = some (some (.tup (h :: args)))) (hl : args.length ≤ 1000) : iRange [(eC (.int 1)), (eApp [(eVar i)] (b1 lenG))] ρ S = .ok (ixs 0 args, none) S := by
  have h1 : ((args.length : Int) + 1 - 1).toNat = args.length := by omega
  have h2 := range_ixs args 0
  simp only [Int.ofNat_zero, Int.zero_add] at h2
  have h3 : (args.length : Int) + 1 < 4611686018427387904 := by omega
  have h4 : (-4611686018427387904 : Int) ≤ (args.length : Int) + 1 := by omega
  unfold iRange
  simp [e, h3, h4]
  exact h2
theorem getArg {h a : D} {l r : List D} {S : Sto} : dIx (.tup (h :: (l ++ a :: r))) (.int ((l.length : Int) + 1)) S = .ok a S := by
  rw [x_ixT, show ((l.length : Int) + 1) = ((l.length + 1 : Nat) : Int) from rfl, Mi.atI_nat]
  simp
theorem few {n : Nat} {d : D} (g : Good n d) (hn : n ≤ 8) : (places n d).length ≤ 65536 := by
  rw [places_len g]
  refine Nat.le_trans (parts_len g) ?_
  calc 4 ^ n ≤ 4 ^ 8 := Nat.pow_le_pow_right (by decide) hn
    _ = 65536 := by decide
theorem plA_le {n : Nat} {h : D} {l r : List D} {a : D} : (([] :: plA (places n) 0 l) : List (List Int)).length + (places n a).length ≤ (places (n + 1) (.tup (h :: (l ++ a :: r)))).length := by
  simp only [places, plA_app, plA, List.length_cons, List.length_append, List.length_map]
  omega
theorem place_len : ∀ {n : Nat} {d : D} {p : List Int}, Good n d → p ∈ places n d → p.length ≤ n := fun {n d p} g h => by
  obtain ⟨x, e, _⟩ := place_has g h
  obtain ⟨m, e2, _⟩ := part_good p g e
  omega
theorem ltL_enP {b : Nat} (l : List (List Int)) : D.ltL b (l.map enP) = true := ltL_all.mpr fun d hd => by
  obtain ⟨p, _, rfl⟩ := List.mem_map.mp hd
  simp only [enP, D.lt]
  exact ltL_int p
noncomputable def bPl : SM := (sExpr (eMeth (eVar 1) [(eBin (eApp [(eBin (eVar 2) (eC (.int 1)) dSub)] dTup) (eVar 3) (dAdd false))] mAppend))
theorem pl_step {S : Sto} {L k : Nat} {acc : List D} {d : D} {p : List Int} (hL : S.get L = some (.lst acc)) (ho : S.old.length ≤ L) (hl : acc.length ≤ 100000) (hp : p.length ≤ 100) :
    bPl [some d, some (.ref L), some (.int ((k : Int) + 1)), some (enP p)] S = .nx [some d, some (.ref L), some (.int ((k : Int) + 1)), some (enP p)] (S.set L (.lst (acc ++ [enP ((k : Int) :: p)]))) := by
  have hbig := big
  have hL' : lstS S (.ref L) = some acc := x_lstR hL
  have ea := x_app1 (d := enP ((k : Int) :: p)) hL (by omega) (may_new ho)
  have hs : 1 + p.length ≤ sizeLine := by omega
  unfold enP at ea ⊢
  unfold bPl
  simp only [List.map_cons] at ea
  simp [hL', hs, ea]
theorem places_ok : ∀ {n m : Nat} {d : D}, n ≤ m → n ≤ 8 → Good n d → ∀ S, F_places_of m [d] S = .ok (.ref S.new) (S.add (.lst ((places n d).map enP)))
  | 0, _, _, _, _, g, _ => g.elim
  | n + 1, 0, _, h, _, _, _ => absurd h (by omega)
  | n + 1, m + 1, d, hm, hn, g, S => by
    have g0 := g
    have hbig := big
    have hS : S.push.new = S.new := new_push
    let T := S.push.add (.lst [.tup []])
    have hT : T.get S.new = some (.lst [.tup []]) := by have := get_add (S := S.push) (c := .lst [.tup []]); rw [hS] at this; exact this
    have t := tru_unknown (S := T) (ρ := [some d, some (.ref S.new), none, none]) (i := 0) g rfl
    have e1 : sAsg (eApp [(eApp [] dTup)] (dLst true)) (gtName 1) [some d, none, none, none] S.push = .nx [some d, some (.ref S.new), none, none] T := by
      rw [asg_ok (d := .ref S.new) (S1 := T)]
      · rfl
      · rw [← hS]; rfl
    have u0 : Up S T := Up.push.add
    have fin : ∀ S', Up S S' → S'.get S.new = some (.lst ((places (n + 1) d).map enP)) → ∀ o2 o3, B_places_of (F_places_of m) [some d, none, none, none] S.push = sRet (eVar 1) [some d, some (.ref S.new), o2, o3] S' → F_places_of (m + 1) [d] S = .ok (.ref S.new) (S.add (.lst ((places (n + 1) d).map enP))) := fun S' u hg o2 o3 e => by
      refine runF_list (m := S.new) (S' := S') (e.trans (by simp)) hg (Nat.le_refl _) (ltL_enP _) u
    unfold B_places_of at fin
    rcases g with ⟨s, rfl⟩ | ⟨nm, args, rfl, l, g⟩
    · refine fin T u0 hT none none ?_
      rw [sq e1, sq (if_skip _)]
      simp only [x_not, t, x_bind_ok]
      rfl
    · have hfew := few g0 hn
      obtain ⟨ρ', S', e, l', r, o2, o3, f1, f2, rfl, u, hg⟩ := forN_st (gt := gtName 2) (b := sFor (iVal (eCall [(eBin (eVar 0) (eVar 2) dIx)] [] (F_places_of m))) (gtName 3) bPl) (src := none) (all := ixs 0 args)
        (fun xs ρ S' => ∃ (l r : List D) (o2 o3 : Option D), args = l ++ r ∧ xs = ixs l.length r ∧ ρ = [some (.tup (.str nm :: args)), some (.ref S.new), o2, o3] ∧ Up S S' ∧ S'.get S.new = some (.lst (([] :: plA (places n) 0 l).map enP)))
        (fun _ _ _ _ => trivial) (fun x xs ρ S' h => by
          obtain ⟨l, r, o2, o3, f1, f2, rfl, u, hg⟩ := h
          cases r with
          | nil => cases f2
          | cons a r =>
            simp only [ixs, List.cons.injEq] at f2
            obtain ⟨rfl, rfl⟩ := f2
            have ga := g a (by rw [f1]; simp)
            have ec := places_ok (show n ≤ m by omega) (by omega) ga S'
            have hle := plA_le (n := n) (h := .str nm) (l := l) (r := r) (a := a)
            rw [← f1] at hle
            have hSn : S.new < S'.new := get_lt hg
            have hg1 : (S'.add (.lst ((places n a).map enP))).get S'.new = some (.lst ((places n a).map enP)) := get_add
            obtain ⟨ρ'', S'', e, q, q', o3', h1, h2, rfl, u', hg', hs'⟩ := forN_st (gt := gtName 3) (b := bPl) (src := some S'.new) (all := (places n a).map enP)
              (fun xs ρ T => ∃ (q q' : List (List Int)) (o3 : Option D), places n a = q ++ q' ∧ xs = q'.map enP ∧ ρ = [some (.tup (.str nm :: args)), some (.ref S.new), some (.int ((l.length : Int) + 1)), o3] ∧ Up S T ∧ T.get S.new = some (.lst (([] :: plA (places n) 0 l).map enP ++ (q.map fun p => enP ((l.length : Int) :: p)))) ∧ T.get S'.new = some (.lst ((places n a).map enP)))
              (fun _ _ _ h => by obtain ⟨_, _, _, _, _, _, _, _, h⟩ := h; exact h) (fun y ys ρ T h => by
                obtain ⟨q, q', o3, h1, h2, rfl, u', hg', hs'⟩ := h
                cases q' with
                | nil => cases h2
                | cons p q' =>
                  cases h2
                  have hp : p ∈ places n a := by rw [h1]; simp
                  have hpl := place_len ga hp
                  have hq : q.length ≤ (places n a).length := by rw [h1]; simp
                  have hold : T.old.length = S.new := by unfold Up at u'; rw [u', List.length_append]; rfl
                  have e := pl_step (k := l.length) (d := .tup (.str nm :: args)) (p := p) hg' (by omega) (by simp only [List.length_append, List.length_map, List.length_cons] at *; omega) (by omega)
                  exact ⟨_, x_gtN, _, _, e, q ++ [p], q', _, by rw [h1]; simp, rfl, rfl, u'.set (Nat.le_refl _), by rw [get_set (get_lt hg')]; simp, by rw [get_set_ne (by omega)]; exact hs'⟩)
              ((places n a).map enP) [some (.tup (.str nm :: args)), some (.ref S.new), some (.int ((l.length : Int) + 1)), o3] (S'.add (.lst ((places n a).map enP))) ⟨[], places n a, o3, rfl, rfl, rfl, u.add, by rw [get_add_lt hSn, hg]; simp, hg1⟩
            have hq' : q' = [] := by cases q' with
              | nil => rfl
              | cons _ _ => cases h2
            subst hq'
            rw [List.append_nil] at h1
            refine ⟨_, x_gtN, _, S'', for_ok (xs := (places n a).map enP) (src := some S'.new) (S1 := S'.add (.lst ((places n a).map enP))) ?_ e, l ++ [a], r, _, o3', by rw [f1]; simp, by simp, rfl, u', ?_⟩
            · have hit : itS (S'.add (.lst ((places n a).map enP))) (.ref S'.new) = some ((places n a).map enP, some S'.new) := by unfold itS; simp only [hg1]
              have hix : dIx (.tup (.str nm :: args)) (.int ((l.length : Int) + 1)) S' = .ok a S' := by rw [f1]; exact getArg
              simp only [x_iVal, x_call, x_l1, x_l0, x_bin, x_var, List.set_cons_succ, List.set_cons_zero, List.getElem?_cons_succ, List.getElem?_cons_zero, x_bind_ok, hix, List.append_nil, ec, hit, x_of_some]
            · rw [hg', plA_app, ← h1]
              simp [plA]
        )
        (ixs 0 args) [some (.tup (.str nm :: args)), some (.ref S.new), none, none] T ⟨[], args, none, none, rfl, rfl, rfl, u0, by rw [hT]; rfl⟩
      have hr : r = [] := by cases r with
        | nil => rfl
        | cons _ _ => cases f2
      subst hr
      rw [List.append_nil] at f1
      subst f1
      refine fin S' u hg o2 o3 ?_
      refine (sq e1).trans (sq ((if_yes (S1 := T) ?_).trans (for_ok (xs := ixs 0 args) (src := none) (S1 := T) (range_args rfl (by omega)) e)))
      simp only [x_not, t, x_bind_ok]
      rfl
end K86

/-! K86c: parts and their places. -/
namespace K86
open PySem PySem.Spec PyProof.Rows L2 Mi
theorem lplaces_ok : ∀ {n m : Nat} {d : D}, n ≤ m → n ≤ 8 → Good n d → ∀ S, F__law_places m [d] S = .ok (.lst ((places n d).map enP)) S
  | 0, _, _, _, _, g, _ => g.elim
  | n + 1, 0, _, h, _, _, _ => absurd h (by omega)
  | n + 1, m + 1, d, hm, hn, g, S => by
    have g0 := g
    have hbig := big
    refine runV_pure ?_
    show B__law_places (F__law_places m) [some d, none, none, none] S.push = _
    unfold B__law_places
    have e1 : sAsg (eApp [(eApp [] dTup)] (dLst false)) (gtName 1) [some d, none, none, none] S.push = .nx [some d, some (.lst [.tup []]), none, none] S.push := rfl
    have hty : eTru (eIsT "str" (eVar 0)) [some d, some (.lst [.tup []]), none, none] S.push = .ok (isStr d) S.push := by
      have h1 : isTy "str" "str" = true := by decide
      have h2 : isTy "str" "tuple" = false := by decide
      rcases g with ⟨s, rfl⟩ | ⟨nm, args, rfl, l, g⟩
      · simp [tyS, h1, isStr]
      · simp [tyS, h2, isStr]
    rcases g with ⟨s, rfl⟩ | ⟨nm, args, rfl, l, g⟩
    · rw [sq e1, sq (if_skip (S1 := S.push) (by rw [x_not, hty]; rfl))]
      rfl
    · have hfew := few g0 hn
      obtain ⟨ρ', S', e, l', r, o2, f1, f2, rfl, rfl⟩ := forN_st (gt := gtName 2) (b := sAsg (eBin (eVar 1) (eLc false (iVal (eCall [(eBin (eVar 0) (eVar 2) dIx)] [] (F__law_places m))) (gtName 3) tYesM (eBin (eApp [(eBin (eVar 2) (eC (.int 1)) dSub)] dTup) (eVar 3) (dAdd false)) [3]) (dAdd false)) (gtName 1)) (src := none) (all := ixs 0 args)
        (fun xs ρ S' => ∃ (l r : List D) (o2 : Option D), args = l ++ r ∧ xs = ixs l.length r ∧ ρ = [some (.tup (.str nm :: args)), some (.lst (([] :: plA (places n) 0 l).map enP)), o2, none] ∧ S' = S.push)
        (fun _ _ _ _ => trivial) (fun x xs ρ S' h => by
          obtain ⟨l, r, o2, f1, f2, rfl, rfl⟩ := h
          cases r with
          | nil => cases f2
          | cons a r =>
            simp only [ixs, List.cons.injEq] at f2
            obtain ⟨rfl, rfl⟩ := f2
            have ga := g a (by rw [f1]; simp)
            have ec := lplaces_ok (show n ≤ m by omega) (by omega) ga S.push
            have hle := plA_le (n := n) (h := .str nm) (l := l) (r := r) (a := a)
            rw [← f1] at hle
            have hix : dIx (.tup (.str nm :: args)) (.int ((l.length : Int) + 1)) S.push = .ok a S.push := by rw [f1]; exact getArg
            let Kk : D → D := fun x => match x with
              | .tup p => .tup (.int (l.length : Int) :: p)
              | _ => .non
            have el := x_lc_map (b := false) (S := S.push) (g := eCall [(eBin (eVar 0) (eVar 2) dIx)] [] (F__law_places m)) (ρ := [some (.tup (.str nm :: args)), some (.lst (([] :: plA (places n) 0 l).map enP)), some (.int ((l.length : Int) + 1)), none]) (x := .lst ((places n a).map enP)) (gt := gtName 3) (vs := [3]) (f := eBin (eApp [(eBin (eVar 2) (eC (.int 1)) dSub)] dTup) (eVar 3) (dAdd false)) (k := Kk)
              .lst (by simp only [x_call, x_l1, x_l0, x_bin, x_var, List.getElem?_cons_succ, List.getElem?_cons_zero, x_bind_ok, hix, List.append_nil, ec]) (by rw [List.length_map]; have := few ga (by omega); omega) (fun w hw => by
                obtain ⟨p, hp, rfl⟩ := List.mem_map.mp hw
                have := place_len ga hp
                have hs : 1 + p.length ≤ sizeLine := by omega
                exact ⟨_, x_gtN, by simp [wipeE, enP, Kk, hs]⟩)
            have e3 : ((places n a).map enP).map Kk = ((places n a).map fun p => (l.length : Int) :: p).map enP := by
              rw [List.map_map, List.map_map]; rfl
            rw [e3, x_mkF] at el
            refine ⟨_, x_gtN, _, S.push, ?_, l ++ [a], r, some (.int ((l.length : Int) + 1)), by rw [f1]; simp, by simp, rfl, rfl⟩
            revert el
            generalize (eLc false (iVal (eCall [(eBin (eVar 0) (eVar 2) dIx)] [] (F__law_places m))) (gtName 3) tYesM (eBin (eApp [(eBin (eVar 2) (eC (.int 1)) dSub)] dTup) (eVar 3) (dAdd false)) [3]) = G
            intro el
            refine (asg_ok (d := .lst (([] :: plA (places n) 0 (l ++ [a])).map enP)) (S1 := S.push) ?_).trans rfl
            simp only [x_bin, x_var, List.set_cons_succ, List.set_cons_zero, List.getElem?_cons_succ, List.getElem?_cons_zero, x_bind_ok, el, x_addL]
            rw [if_pos (by simp only [List.length_map, List.length_cons] at *; omega), x_mkF, plA_app]
            simp [plA])
        (ixs 0 args) [some (.tup (.str nm :: args)), some (.lst [.tup []]), none, none] S.push ⟨[], args, none, rfl, rfl, rfl, rfl⟩
      have hr : r = [] := by cases r with
        | nil => rfl
        | cons _ _ => cases f2
      subst hr
      rw [List.append_nil] at f1
      subst f1
      refine (sq e1).trans ((sq ((if_yes (S1 := S.push) (by rw [x_not, hty]; rfl)).trans (for_ok (xs := ixs 0 args) (src := none) (S1 := S.push) (range_args rfl (by omega)) e))).trans ?_)
      exact ret_ok (by simp [places])
def exBad : D := .obj "BadPlace" []
/-- the test that a place is none -/
noncomputable def tBad (i j : Nat) : TM := (tOrM (eTru (eCall [(eVar i)] [] F_is_unknown)) (tNotM (eTst (eChain (eC (.int 0)) (eVar j) (eBin (eApp [(eVar i)] (b1 lenG)) (eC (.int 1)) dSub) dLe dLt))))
theorem bad_ok {n : Nat} {d : D} {x : Int} {ρ : Mi.Env} {S : Sto} {i j : Nat} (g : Good n d) (hi : ρ[i]? = some (some d)) (hj : ρ[j]? = some (some (.int x))) : tBad i j ρ S = .ok (partO [x] d).isNone S := by
  have t := tru_unknown (S := S) g hi
  cases n with
  | zero => exact g.elim
  | succ n =>
    unfold tBad
    rcases g with ⟨s, rfl⟩ | ⟨nm, args, rfl, l, g⟩
    · rw [x_or, t]
      rfl
    · rw [x_or, t]
      by_cases h0 : 0 ≤ x
      · obtain ⟨k, rfl⟩ := Int.eq_ofNat_of_zero_le h0
        by_cases h1 : k < args.length
        · have h2 : (k : Int) < (args.length : Int) + 1 - 1 := by omega
          simp [isStr, hi, hj, partO, h1]
        · have h2 : ¬ (k : Int) < (args.length : Int) + 1 - 1 := by omega
          simp [isStr, hi, hj, partO, h1]
      · simp [isStr, hi, hj, partO, h0]
theorem step_ok {n : Nat} {d y : D} {x : Int} {S : Sto} (g : Good n d) (h : partO [x] d = some y) : dIx d (.int (x + 1)) S = .ok y S := by
  cases n with
  | zero => exact g.elim
  | succ n =>
    rcases g with ⟨s, rfl⟩ | ⟨nm, args, rfl, l, g⟩
    · cases h
    · simp only [partO] at h
      split at h
      · rename_i h0
        obtain ⟨k, rfl⟩ := Int.eq_ofNat_of_zero_le h0
        simp only [Int.toNat_natCast] at h
        rw [x_ixT, show ((k : Int) + 1) = ((k + 1 : Nat) : Int) from rfl, Mi.atI_nat]
        cases q : args[k]? with
        | none => rw [q] at h; cases h
        | some a => rw [q] at h; cases h; simp [q]
      · cases h
noncomputable def bAt : SM := (sSeq (sIf (tBad 0 2) (sRaise "BadPlace") sSkip)
  (sAsg (eBin (eVar 0) (eBin (eVar 2) (eC (.int 1)) (dAdd false)) dIx) (gtName 0)))
theorem at_step {n : Nat} {d : D} {x : Int} {S : Sto} {q : D} (g : Good n d) : bAt [some d, some q, some (.int x)] S = match partO [x] d with
    | some y => .nx [some y, some q, some (.int x)] S
    | none => .ex exBad [some d, some q, some (.int x)] S := by
  have t := bad_ok (ρ := [some d, some q, some (.int x)]) (S := S) (i := 0) (j := 2) g rfl rfl
  unfold bAt
  cases h : partO [x] d with
  | none =>
    rw [h] at t
    refine sq_ex ((if_yes t).trans rfl)
  | some y =>
    rw [h] at t
    rw [sq (if_skip t), asg_ok (d := y) (S1 := S)]
    · rfl
    · have := step_ok (S := S) g h
      simp [this]
theorem at_loop {S : Sto} {q : D} {all : List D} : ∀ (p : List Int) {n : Nat} {d : D} {o2 : Option D}, Good n d → ∃ o2' d', sForN (gtName 2) bAt none all (p.map .int) [some d, some q, o2] S = match partO p d with
    | some y => .nx [some y, some q, o2'] S
    | none => .ex exBad [some d', some q, o2'] S
  | [], n, d, o2, g => ⟨o2, d, by rw [List.map_nil, forN_0]; rfl⟩
  | x :: p, n, d, o2, g => by
    have e := part_app [x] p d
    have s := at_step (S := S) (q := q) (x := x) g
    rw [List.singleton_append] at e
    cases h : partO [x] d with
    | none =>
      rw [h] at s e
      refine ⟨some (.int x), d, ?_⟩
      rw [List.map_cons, forN_1, x_gtN]
      dsimp only [List.set_cons_succ, List.set_cons_zero]
      rw [s, e]
      rfl
    | some y =>
      rw [h] at s e
      obtain ⟨m, _, gy⟩ := part_good [x] g h
      obtain ⟨o2', d', e2⟩ := at_loop p (o2 := some (.int x)) gy
      refine ⟨o2', d', ?_⟩
      rw [List.map_cons, forN_1, x_gtN]
      dsimp only [List.set_cons_succ, List.set_cons_zero]
      rw [s]
      dsimp only
      rw [e2, e]
      rfl
theorem at_ok {n : Nat} {d : D} {p : List Int} (g : Good n d) (S : Sto) : F_part_at [d, enP p] S = match partO p d with
    | some y => .ok y S
    | none => .ex exBad S := by
  obtain ⟨o2', d', e⟩ := at_loop (S := S.push) (q := enP p) (all := p.map .int) p (o2 := none) g
  have hf : sFor (iVal (eVar 1)) (gtName 2) bAt [some d, some (enP p), none] S.push = _ := for_ok (xs := p.map .int) (src := none) (S1 := S.push) rfl e
  have hB : B_part_at (initE 3 [d, enP p]) S.push = sSeq (sFor (iVal (eVar 1)) (gtName 2) bAt) (sRet (eVar 0)) [some d, some (enP p), none] S.push := rfl
  cases h : partO p d with
  | none =>
    rw [h] at hf
    rw [show F_part_at [d, enP p] S = runV 3 B_part_at [d, enP p] S from rfl, runV_ex (hB.trans (sq_ex hf)) rfl, pop_push_self]
  | some y =>
    rw [h] at hf
    exact runV_pure (hB.trans ((sq hf).trans rfl))
theorem lpart_ok {n : Nat} {d y : D} {p : List Int} (g : Good n d) (h : partO p d = some y) (S : Sto) : F__law_part [d, enP p] S = .ok y S := by
  have key : ∀ (p : List Int) {n : Nat} {d y : D} {o2 : Option D} {q : D} {all : List D}, Good n d → partO p d = some y → ∃ o2', sForN (gtName 2) (sAsg (eBin (eVar 0) (eBin (eVar 2) (eC (.int 1)) (dAdd false)) dIx) (gtName 0)) none all (p.map .int) [some d, some q, o2] S.push = .nx [some y, some q, o2'] S.push := fun p => by
    induction p with
    | nil =>
      intro n d y o2 q all g h
      cases h
      exact ⟨o2, by rw [List.map_nil, forN_0]⟩
    | cons x p ih =>
      intro n d y o2 q all g h
      have e := part_app [x] p d
      rw [List.singleton_append, h] at e
      cases h1 : partO [x] d with
      | none => rw [h1] at e; cases e
      | some z =>
        rw [h1] at e
        obtain ⟨m, _, gz⟩ := part_good [x] g h1
        obtain ⟨o2', e2⟩ := ih (o2 := some (.int x)) (q := q) (all := all) gz e.symm
        refine ⟨o2', ?_⟩
        have hs := step_ok (S := S.push) g h1
        rw [List.map_cons, forN_1, x_gtN]
        dsimp only [List.set_cons_succ, List.set_cons_zero]
        rw [asg_ok (d := z) (S1 := S.push) (by simp [hs])]
        dsimp only [List.set_cons_succ, List.set_cons_zero]
        exact e2
  obtain ⟨o2', e⟩ := key p (o2 := none) (q := enP p) (all := p.map .int) g h
  refine runV_pure ?_
  show sSeq (sFor (iVal (eVar 1)) (gtName 2) _) (sRet (eVar 0)) [some d, some (enP p), none] S.push = _
  exact (sq (for_ok (xs := p.map .int) (src := none) (S1 := S.push) rfl e)).trans rfl
end K86

/-! K86d: parts put in, listed, refused. -/
namespace K86
open PySem PySem.Spec PyProof.Rows L2 Mi
theorem set_row {args : List D} {k : Nat} {h b : D} (hk : k < args.length) : ((h :: args).take (k + 1) ++ [b]) ++ (h :: args).drop (k + 2) = h :: args.set k b := by
  simp [List.set_eq_take_append_cons_drop, hk]
theorem repl_ok : ∀ {p : List Int} {m n : Nat} {d x : D}, p.length < m → Good n d → ∀ S, F_replace_at m [d, enP p, x] S = match replO p d x with
    | some y => .ok y S
    | none => .ex exBad S
  | _, 0, _, _, _, h, _, _ => absurd h (by omega)
  | [], m + 1, n, d, x, _, g, S => by
    refine runV_pure ?_
    show B_replace_at (F_replace_at m) [some d, some (enP []), some x, none, none] S.push = _
    unfold B_replace_at
    rw [x_seq, if_yes (S1 := S.push) (by simp [enP, truS])]
    rfl
  | i :: p, m + 1, n, d, x, h, g, S => by
    have hbig := big
    simp only [List.length_cons] at h
    have a1 : sIf (tNotM (eTru (eVar 1))) (sRet (eVar 2)) sSkip [some d, some (enP (i :: p)), some x, none, none] S.push = .nx [some d, some (enP (i :: p)), some x, none, none] S.push := if_skip (by simp [enP, truS])
    have a2 : sAsg (eBin (eVar 1) (eC (.int 0)) dIx) (gtName 3) [some d, some (enP (i :: p)), some x, none, none] S.push = .nx [some d, some (enP (i :: p)), some x, some (.int i), none] S.push := by
      rw [asg_ok (d := .int i) (S1 := S.push) (by simp [enP])]
      rfl
    have t := bad_ok (ρ := [some d, some (enP (i :: p)), some x, some (.int i), none]) (S := S.push) (i := 0) (j := 3) g rfl rfl
    have hB : B_replace_at (F_replace_at m) (initE 5 [d, enP (i :: p), x]) S.push = sSeq (sIf (tBad 0 3) (sRaise "BadPlace") sSkip) (sSeq (sAsg (eCall [(eBin (eVar 0) (eBin (eVar 3) (eC (.int 1)) (dAdd false)) dIx), (eSl false (eVar 1) (oSome (eC (.int 1))) oNone), (eVar 2)] [] (F_replace_at m)) (gtName 4))
        (sRet (eBin (eBin (eSl false (eVar 0) oNone (oSome (eBin (eVar 3) (eC (.int 1)) (dAdd false)))) (eApp [(eVar 4)] dTup) (dAdd false)) (eSl false (eVar 0) (oSome (eBin (eVar 3) (eC (.int 2)) (dAdd false))) oNone) (dAdd false)))) [some d, some (enP (i :: p)), some x, some (.int i), none] S.push := (sq a1).trans (sq a2)
    cases h1 : partO [i] d with
    | none =>
      rw [h1] at t
      have e : replO (i :: p) d x = none := by
        have h2 := part_app [i] p d
        rw [h1] at h2
        exact repl_none _ _ _ h2
      rw [e]
      rw [show F_replace_at (m + 1) [d, enP (i :: p), x] S = runV 5 (B_replace_at (F_replace_at m)) [d, enP (i :: p), x] S from rfl, runV_ex (hB.trans (sq_ex ((if_yes t).trans rfl))) rfl, pop_push_self]
      rfl
    | some a =>
      rw [h1] at t
      rw [sq (if_skip t)] at hB
      obtain ⟨m', _, ga⟩ := part_good [i] g h1
      have ih := repl_ok (p := p) (m := m) (x := x) (by omega) ga S.push
      have hs := step_ok (S := S.push) g h1
      have hcut : eSl false (eVar 1) (oSome (eC (.int 1))) oNone [some d, some (enP (i :: p)), some x, some (.int i), none] S.push = .ok (enP p) S.push := args_sl rfl
      have ec : ∀ r, F_replace_at m [a, enP p, x] S.push = r → eCall [(eBin (eVar 0) (eBin (eVar 3) (eC (.int 1)) (dAdd false)) dIx), (eSl false (eVar 1) (oSome (eC (.int 1))) oNone), (eVar 2)] [] (F_replace_at m) [some d, some (enP (i :: p)), some x, some (.int i), none] S.push = r := fun r hr => by
        simp only [x_call, x_l1, x_l0, x_bin, x_var, x_C, List.getElem?_cons_succ, List.getElem?_cons_zero, x_bind_ok, x_addI, hs, hcut, List.append_nil, hr]
      cases n with
      | zero => exact g.elim
      | succ n =>
        rcases g with ⟨s, rfl⟩ | ⟨nm, args, rfl, l, g⟩
        · cases h1
        · simp only [partO] at h1
          split at h1
          · rename_i h0
            obtain ⟨k, rfl⟩ := Int.eq_ofNat_of_zero_le h0
            simp only [Int.toNat_natCast] at h1
            cases q : args[k]? with
            | none => rw [q] at h1; cases h1
            | some a' =>
              rw [q] at h1
              cases h1
              have hk := (List.getElem?_eq_some_iff.mp q).1
              have e0 : replO ((k : Int) :: p) (.tup (.str nm :: args)) x = (replO p a x).map fun b => .tup (.str nm :: args.set k b) := by
                simp only [replO, if_pos h0, Int.toNat_natCast, q]
              cases h2 : replO p a x with
              | none =>
                rw [h2] at ih
                rw [e0, h2]
                rw [show F_replace_at (m + 1) [.tup (.str nm :: args), enP ((k : Int) :: p), x] S = runV 5 (B_replace_at (F_replace_at m)) [.tup (.str nm :: args), enP ((k : Int) :: p), x] S from rfl, runV_ex (hB.trans (sq_ex (asg_ex (ec _ ih)))) rfl, pop_push_self]
                rfl
              | some b =>
                rw [h2] at ih
                rw [e0, h2]
                refine runV_pure (hB.trans ((sq (asg_ok (ec _ ih))).trans (ret_ok ?_)))
                have c1 : cutG (D.str nm :: args) none (some ((k : Int) + 1)) = (D.str nm :: args).take (k + 1) := cut_to (i := k + 1)
                have c2 : cutG (D.str nm :: args) (some ((k : Int) + 2)) none = (D.str nm :: args).drop (k + 2) := cut_from (i := k + 2)
                have l1 : ((D.str nm :: args).take (k + 1)).length + [b].length ≤ sizeLine := by simp; omega
                have l2 : ((D.str nm :: args).take (k + 1) ++ [b]).length + ((D.str nm :: args).drop (k + 2)).length ≤ sizeLine := by simp; omega
                simp only [x_bin, x_sl, x_var, x_C, List.set_cons_succ, List.set_cons_zero, List.getElem?_cons_succ, List.getElem?_cons_zero, x_bind_ok, x_oN, x_oS, x_addI, x_intD, Option.map_some, x_of_some, x_slT, c1, c2, x_app, x_l1, x_l0, x_tup, x_addT, if_pos l1, if_pos l2, set_row hk]
          · cases h1
theorem put_ok : ∀ {p : List Int} {m n k : Nat} {d x y : D}, p.length < m → Good n d → Good k x → replO p d x = some y → ∀ S, F__law_put m [d, enP p, x] S = .ok y S
  | _, 0, _, _, _, _, _, h, _, _, _, _ => absurd h (by omega)
  | [], m + 1, n, k, d, x, y, _, g, gx, e, S => by
    cases e
    refine runV_pure ?_
    show B__law_put (F__law_put m) [some d, some (enP []), some x, none] S.push = _
    unfold B__law_put
    rw [x_seq, if_yes (S1 := S.push) (by simp [enP])]
    rfl
  | i :: p, m + 1, n, kx, d, x, y, h, g, gx, e, S => by
    have hbig := big
    simp only [List.length_cons] at h
    have gy := repl_good _ g gx e
    cases n with
    | zero => exact g.elim
    | succ n =>
      rcases g with ⟨s, rfl⟩ | ⟨nm, args, rfl, l, g⟩
      · cases e
      · simp only [replO] at e
        split at e
        · rename_i h0
          obtain ⟨k, rfl⟩ := Int.eq_ofNat_of_zero_le h0
          simp only [Int.toNat_natCast] at e
          cases q : args[k]? with
          | none => rw [q] at e; cases e
          | some a =>
            rw [q] at e
            dsimp only at e
            cases h2 : replO p a x with
            | none => rw [h2] at e; cases e
            | some b =>
              rw [h2] at e
              cases e
              have hk := (List.getElem?_eq_some_iff.mp q).1
              have hn : S.push.new = S.new := new_push
              let T := S.push.add (.lst (.str nm :: args))
              have gT : T.get S.new = some (.lst (.str nm :: args)) := by have := get_add (S := S.push) (c := .lst (.str nm :: args)); rw [hn] at this; exact this
              have ih := put_ok (p := p) (m := m) (by omega) (g a (List.mem_of_getElem? q)) gx h2 T
              have u : Up S T := Up.push.add
              have hold : T.old.length = S.new := by show (S.old ++ S.top).length = _; rw [List.length_append]; rfl
              let T' := T.set S.new (.lst (.str nm :: args.set k b))
              have u' : Up S T' := u.set (Nat.le_refl _)
              have gT' : T'.get S.new = some (.lst (.str nm :: args.set k b)) := get_set (get_lt gT)
              refine (runV_lt (S' := T') ?_ (D.lt_mono (Nat.zero_le _) _ gy.pl.2.2)).trans (by rw [u'.pop])
              show B__law_put (F__law_put m) [some (.tup (.str nm :: args)), some (enP ((k : Int) :: p)), some x, none] S.push = _
              unfold B__law_put
              rw [sq (if_skip (S1 := S.push) (by
                have hz : ¬ ((p.length : Int) + 1 = 0) := by omega
                simp [enP, hz]))]
              have a1 : sAsg (eApp [(eVar 0)] (dList true)) (gtName 3) [some (.tup (.str nm :: args)), some (enP ((k : Int) :: p)), some x, none] S.push = .nx [some (.tup (.str nm :: args)), some (enP ((k : Int) :: p)), some x, some (.ref S.new)] T := by
                rw [asg_ok (d := .ref S.new) (S1 := T)]
                · rfl
                · rw [← hn]; rfl
              rw [sq a1]
              have hcut : eSl false (eVar 1) (oSome (eC (.int 1))) oNone [some (.tup (.str nm :: args)), some (enP ((k : Int) :: p)), some x, some (.ref S.new)] T = .ok (enP p) T := args_sl rfl
              have hix : dIx (.ref S.new) (.int ((k : Int) + 1)) T = .ok a T := by
                rw [x_ixR gT, show ((k : Int) + 1) = ((k + 1 : Nat) : Int) from rfl, Mi.atI_nat]
                simp [q]
              have hp0 : dIx (enP ((k : Int) :: p)) (.int 0) T = .ok (.int (k : Int)) T := by simp [enP]
              have hset : setS T (.ref S.new) (.int ((k : Int) + 1)) b = some T' := by
                have := x_setL (v := b) (j := k + 1) gT (by simp; omega) (may_new (by rw [hold]; exact Nat.le_refl _))
                exact this
              have a2 : sSetIx (eVar 3) (eBin (eBin (eVar 1) (eC (.int 0)) dIx) (eC (.int 1)) (dAdd false)) (eCall [(eBin (eVar 3) (eBin (eBin (eVar 1) (eC (.int 0)) dIx) (eC (.int 1)) (dAdd false)) dIx), (eSl false (eVar 1) (oSome (eC (.int 1))) oNone), (eVar 2)] [] (F__law_put m)) [some (.tup (.str nm :: args)), some (enP ((k : Int) :: p)), some x, some (.ref S.new)] T = .nx [some (.tup (.str nm :: args)), some (enP ((k : Int) :: p)), some x, some (.ref S.new)] T' := by
                simp only [x_setIx, x_call, x_l1, x_l0, x_bin, x_var, x_C, List.getElem?_cons_succ, List.getElem?_cons_zero, x_bind_ok, hp0, x_addI, hix, hcut, List.append_nil, ih, x_bindS_ok, hset]
              rw [sq a2]
              refine ret_ok ?_
              have hd := Lis.dtuple (S := T') (x := .ref S.new) (.inr ⟨_, rfl, gT'⟩)
              simp only [x_app, x_l1, x_l0, x_var, List.getElem?_cons_succ, List.getElem?_cons_zero, x_bind_ok, hd]
        · cases e
end K86

/-! K86e: lists without doubles; what is refused. -/
namespace K86
open PySem PySem.Spec PyProof.Rows L2 Mi
/-- plain enough to be looked up -/
structure Pn (x : D) : Prop where
  p : Pl x = true
  d : dp x ≤ 20
  l : x.lt 0 = true
theorem Good.pn {n : Nat} {d : D} (g : Good n d) (h : n ≤ 20) : Pn d := ⟨g.pl.1, by have := g.pl.2.1; omega, g.pl.2.2⟩
theorem Pns.pl {l : List D} (h : ∀ x ∈ l, Pn x) : PlL l = true ∧ dpL l ≤ 20 ∧ D.ltL 0 l = true := ⟨PlL_all.mpr fun x hx => (h x hx).p, dpL_le.mpr fun x hx => (h x hx).d, ltL_all.mpr fun x hx => (h x hx).l⟩
theorem ins_ok {S : Sto} {L i j : Nat} {acc : List D} {x : D} {ρ : Mi.Env} (hi : ρ[i]? = some (some x)) (hj : ρ[j]? = some (some (.ref L))) (hL : S.get L = some (.lst acc)) (ho : S.old.length ≤ L) (hx : Pn x) (ha : ∀ y ∈ acc, Pn y) (hl : acc.length ≤ 500000) :
    ∃ S', sIf (eTst (eBin (eVar i) (eVar j) dNotIn)) (sExpr (eMeth (eVar j) [(eVar i)] mAppend)) sSkip ρ S = .nx ρ S' ∧ S'.get L = some (.lst (ins acc x)) ∧ S'.old.length = S.old.length ∧ S'.new = S.new ∧ (∀ n, n ≠ L → S'.get n = S.get n) ∧ ∀ S0, Up S0 S → S0.new ≤ L → Up S0 S' := by
  have hbig := big
  have e := Lis.nin (S := S) (x := .ref L) (xs := acc) (y := x) (.inr ⟨L, rfl, hL⟩) hx.p (Pns.pl ha).1 (.inl (by have := hx.d; omega))
  by_cases h : x ∈ acc
  · refine ⟨S, if_skip ?_, by unfold ins; rw [if_pos h]; exact hL, rfl, rfl, fun _ _ => rfl, fun _ u _ => u⟩
    simp [hi, hj, e, h]
  · have hL' : lstS S (.ref L) = some acc := x_lstR hL
    have ea := x_app1 (d := x) hL (by omega) (may_new ho)
    refine ⟨S.set L (.lst (acc ++ [x])), (if_yes (S1 := S) ?_).trans (expr_ok (d := .non) ?_), by unfold ins; rw [if_neg h]; exact get_set (get_lt hL), Sto.set_old _ _ _, new_set, fun n hn => get_set_ne (Ne.symm hn), fun S0 u hn => u.set hn⟩
    · simp [hi, hj, e, h]
    · simp only [x_meth, x_var, hj, x_bind_ok, hL', x_l1, x_l0, hi, ea]
theorem add_len : ∀ (l acc : List D), (add acc l).length ≤ acc.length + l.length
  | [], acc => Nat.le_refl _
  | x :: l, acc => by
    have h := add_len l (ins acc x)
    have h2 : (ins acc x).length ≤ acc.length + 1 := by
      unfold ins
      split
      · omega
      · simp
    show (add (ins acc x) l).length ≤ _
    simp only [List.length_cons]
    omega
theorem add_pn {l acc : List D} (h1 : ∀ y ∈ acc, Pn y) (h2 : ∀ y ∈ l, Pn y) : ∀ y ∈ add acc l, Pn y := fun y hy => (mem_add.mp hy).elim (h1 y) (h2 y)
theorem parts_pn {n : Nat} {d : D} (g : Good n d) (hn : n ≤ 8) : ∀ x ∈ parts n d, Pn x := fun x hx => (part_mem_good g hx).pn (by omega)
noncomputable def bPt : SM := (sSeq (sAsg (eCall [(eVar 0), (eVar 2)] [] F_part_at) (gtName 3))
  (sIf (eTst (eBin (eVar 3) (eVar 1) dNotIn)) (sExpr (eMeth (eVar 1) [(eVar 3)] mAppend)) sSkip))
theorem parts_ok {n : Nat} {d : D} (g : Good n d) (hn : n ≤ 8) (S : Sto) : F_parts_of [d] S = .ok (.ref S.new) (S.add (.lst (add [] (parts n d)))) := by
  have hS : S.push.new = S.new := new_push
  have hbig := big
  let T := S.push.add (.lst [])
  have hT : T.get S.new = some (.lst []) := by have := get_add (S := S.push) (c := .lst []); rw [hS] at this; exact this
  have nT : T.new = S.new + 1 := by show (S.push.add _).new = _; rw [new_add, hS]
  have ec := places_ok (show n ≤ 40 by omega) hn g T
  rw [nT] at ec
  let T2 := T.add (.lst ((places n d).map enP))
  have h2 : T2.get (S.new + 1) = some (.lst ((places n d).map enP)) := by have := get_add (S := T) (c := .lst ((places n d).map enP)); rw [nT] at this; exact this
  have h1 : T2.get S.new = some (.lst []) := by show (T.add _).get _ = _; rw [get_add_lt (by omega)]; exact hT
  have hpl := parts_len g
  have h48 : 4 ^ n ≤ 65536 := by
    calc 4 ^ n ≤ 4 ^ 8 := Nat.pow_le_pow_right (by decide) hn
      _ = 65536 := by decide
  have hall := part_places g
  obtain ⟨ρ', S', e, q, q', l, o2, o3, f1, f2, rfl, u, hg, hs, hl⟩ := forN_st (gt := gtName 2) (b := bPt) (src := some (S.new + 1)) (all := (places n d).map enP)
    (fun xs ρ S' => ∃ (q q' : List (List Int)) (l : List D) (o2 o3 : Option D), places n d = q ++ q' ∧ xs = q'.map enP ∧ ρ = [some d, some (.ref S.new), o2, o3] ∧ Up S S' ∧ S'.get S.new = some (.lst (add [] l)) ∧ S'.get (S.new + 1) = some (.lst ((places n d).map enP)) ∧ q.map (partO · d) = l.map some)
    (fun _ _ _ h => by obtain ⟨_, _, _, _, _, _, _, _, _, _, h, _⟩ := h; exact h) (fun y ys ρ S' h => by
      obtain ⟨q, q', l, o2, o3, f1, f2, rfl, u, hg, hs, hl⟩ := h
      cases q' with
      | nil => cases f2
      | cons p q' =>
        cases f2
        have hp : p ∈ places n d := by rw [f1]; simp
        obtain ⟨x, ex, hx⟩ := place_has g hp
        have hat := at_ok (p := p) g S'
        rw [ex] at hat
        have hll : l.length ≤ 65536 := by
          have h3 : l.length = q.length := by have := congrArg List.length hl; simpa using this.symm
          have h4 : q.length ≤ (places n d).length := by rw [f1]; simp
          have := few g hn
          omega
        have hlp : ∀ y ∈ l, Pn y := fun y hy => by
          have : some y ∈ q.map (partO · d) := by rw [hl]; exact List.mem_map_of_mem hy
          obtain ⟨p', hp', e'⟩ := List.mem_map.mp this
          obtain ⟨m, _, gy⟩ := part_good p' g e'
          exact gy.pn (by omega)
        have hold : S'.old.length = S.new := by unfold Up at u; rw [u, List.length_append]; rfl
        obtain ⟨S2, e2, g2, _, _, k2, u2⟩ := ins_ok (S := S') (L := S.new) (i := 3) (j := 1) (ρ := [some d, some (.ref S.new), some (enP p), some x]) (x := x) rfl rfl hg (by omega) ((part_mem_good g hx).pn (by omega)) (add_pn (fun _ h => by simp at h) hlp) (by have := add_len l []; simp only [List.length_nil] at this; omega)
        refine ⟨_, x_gtN, _, S2, (sq (asg_ok (d := x) (S1 := S') ?_)).trans e2, q ++ [p], q', l ++ [x], _, _, by rw [f1]; simp, rfl, rfl, u2 S u (Nat.le_refl _), by rw [g2, add_app]; rfl, (k2 _ (by omega)).trans hs, by rw [List.map_append, List.map_append, hl]; simp [ex]⟩
        simp [hat])
    ((places n d).map enP) [some d, some (.ref S.new), none, none] T2 ⟨[], places n d, [], none, none, rfl, rfl, rfl, Up.push.add.add, h1, h2, rfl⟩
  have hq : q' = [] := by cases q' with
    | nil => rfl
    | cons _ _ => cases f2
  subst hq
  rw [List.append_nil] at f1
  rw [← f1, hall] at hl
  have hl' : parts n d = l := by
    have : Function.Injective (some : D → Option D) := fun a b h => Option.some.inj h
    exact (List.map_inj_right (fun a b h => Option.some.inj h)).mp hl
  subst hl'
  refine runF_list (m := S.new) (S' := S') ?_ hg (Nat.le_refl _) (D.ltL_mono (Nat.zero_le _) _ (Pns.pl (add_pn (fun _ h => by simp at h) (parts_pn g hn))).2.2) u
  show B_parts_of [some d, none, none, none] S.push = _
  unfold B_parts_of
  have a1 : sAsg (eApp [] (dLst true)) (gtName 1) [some d, none, none, none] S.push = .nx [some d, some (.ref S.new), none, none] T := by
    rw [asg_ok (d := .ref S.new) (S1 := T)]
    · rfl
    · rw [← hS]; rfl
  refine (sq a1).trans ((sq (for_ok (xs := (places n d).map enP) (src := some (S.new + 1)) (S1 := T2) ?_ e)).trans (ret_ok (by simp)))
  · have hit : itS T2 (.ref (S.new + 1)) = some ((places n d).map enP, some (S.new + 1)) := by unfold itS; simp only [h2]
    have ec' : F_places_of 40 [d] T = .ok (.ref (S.new + 1)) T2 := ec
    simp only [x_iVal, x_call, x_l1, x_l0, x_var, List.getElem?_cons_zero, x_bind_ok, List.append_nil, ec', hit, x_of_some]
theorem unk_sub : ∀ {n : Nat} {d : D}, Good n d → n ≤ 8 → (∀ x ∈ unk n d, Pn x) ∧ (unk n d).length ≤ 65536 := fun {n d} g hn => by
  rw [unk_eq g]
  refine ⟨add_pn (fun _ h => by simp at h) fun x hx => parts_pn g hn x (List.mem_filter.mp hx).1, ?_⟩
  have h1 := add_len ((parts n d).filter isStr) []
  have h2 := List.length_filter_le isStr (parts n d)
  have h3 := few g hn
  rw [places_len g] at h3
  simp only [List.length_nil] at h1
  omega
noncomputable def bUn : SM := (sIf (eTst (eBin (eVar 3) (eVar 1) dNotIn)) (sExpr (eMeth (eVar 1) [(eVar 3)] mAppend)) sSkip)
theorem unk_ok : ∀ {n m : Nat} {d : D}, n ≤ m → n ≤ 8 → Good n d → ∀ S, F_unknowns_of m [d] S = .ok (.ref S.new) (S.add (.lst (unk n d)))
  | 0, _, _, _, _, g, _ => g.elim
  | n + 1, 0, _, h, _, _, _ => absurd h (by omega)
  | n + 1, m + 1, d, hm, hn, g, S => by
    have g0 := g
    have hS : S.push.new = S.new := new_push
    have hbig := big
    obtain ⟨up, ul⟩ := unk_sub g hn
    have t := tru_unknown (S := S.push) (ρ := [some d, none, none, none]) (i := 0) g rfl
    rcases g with ⟨s, rfl⟩ | ⟨nm, args, rfl, l, g⟩
    · let T := S.push.add (.lst [.str s])
      have hT : T.get S.new = some (.lst [.str s]) := by have := get_add (S := S.push) (c := .lst [.str s]); rw [hS] at this; exact this
      refine runF_list (m := S.new) (S' := T) ?_ hT (Nat.le_refl _) rfl Up.push.add
      show B_unknowns_of (F_unknowns_of m) [some (.str s), none, none, none] S.push = _
      unfold B_unknowns_of
      rw [x_seq, if_yes t, ← hS]
      rfl
    · let T := S.push.add (.lst [])
      have hT : T.get S.new = some (.lst []) := by have := get_add (S := S.push) (c := .lst []); rw [hS] at this; exact this
      obtain ⟨ρ', S', e, l', r, o2, o3, f1, f2, rfl, u, hg⟩ := forN_st (gt := gtName 2) (b := sFor (iVal (eCall [(eVar 2)] [] (F_unknowns_of m))) (gtName 3) bUn) (src := none) (all := args)
        (fun xs ρ S' => ∃ (l r : List D) (o2 o3 : Option D), args = l ++ r ∧ xs = r ∧ ρ = [some (.tup (.str nm :: args)), some (.ref S.new), o2, o3] ∧ Up S S' ∧ S'.get S.new = some (.lst (l.foldl (fun acc a => add acc (unk n a)) [])))
        (fun _ _ _ _ => trivial) (fun x xs ρ S' h => by
          obtain ⟨l, r, o2, o3, f1, f2, rfl, u, hg⟩ := h
          subst f2
          have ga := g x (by rw [f1]; simp)
          obtain ⟨upx, ulx⟩ := unk_sub ga (by omega)
          have ec := unk_ok (show n ≤ m by omega) (by omega) ga S'
          have hSn : S.new < S'.new := get_lt hg
          have hg1 : (S'.add (.lst (unk n x))).get S'.new = some (.lst (unk n x)) := get_add
          have hacc : (∀ y ∈ l.foldl (fun acc a => add acc (unk n a)) [], Pn y) ∧ (l.foldl (fun acc a => add acc (unk n a)) []).length ≤ l.length * 65536 := by
            have key : ∀ (l : List D) (acc : List D), (∀ a ∈ l, Good n a) → (∀ y ∈ acc, Pn y) → (∀ y ∈ l.foldl (fun acc a => add acc (unk n a)) acc, Pn y) ∧ (l.foldl (fun acc a => add acc (unk n a)) acc).length ≤ acc.length + l.length * 65536 := fun l => by
              induction l with
              | nil => exact fun acc _ h => ⟨h, by simp⟩
              | cons a l ih =>
                intro acc g h
                obtain ⟨u1, u2⟩ := unk_sub (g a List.mem_cons_self) (by omega)
                obtain ⟨i1, i2⟩ := ih (add acc (unk n a)) (fun b hb => g b (List.mem_cons_of_mem _ hb)) (add_pn h u1)
                have := add_len (unk n a) acc
                refine ⟨i1, ?_⟩
                simp only [List.foldl_cons, List.length_cons, Nat.add_mul]
                omega
            have := key l [] (fun a ha => g a (by rw [f1]; exact List.mem_append_left _ ha)) (fun _ h => by simp at h)
            simpa using this
          have hll : l.length ≤ 3 := by
            have := congrArg List.length f1
            simp at this; omega
          generalize hac : l.foldl (fun acc a => add acc (unk n a)) [] = acc at *
          obtain ⟨ρ'', S'', e, q, q', o3', h1, h2, rfl, u', hg', hs'⟩ := forN_st (gt := gtName 3) (b := bUn) (src := some S'.new) (all := unk n x)
            (fun xs ρ T => ∃ (q q' : List D) (o3 : Option D), unk n x = q ++ q' ∧ xs = q' ∧ ρ = [some (.tup (.str nm :: args)), some (.ref S.new), some x, o3] ∧ Up S T ∧ T.get S.new = some (.lst (add acc q)) ∧ T.get S'.new = some (.lst (unk n x)))
            (fun _ _ _ h => by obtain ⟨_, _, _, _, _, _, _, _, h⟩ := h; exact h) (fun y ys ρ T h => by
              obtain ⟨q, q', o3, h1, h2, rfl, u', hg', hs'⟩ := h
              subst h2
              have hy : y ∈ unk n x := by rw [h1]; simp
              have hold : T.old.length = S.new := by unfold Up at u'; rw [u', List.length_append]; rfl
              have hql : q.length ≤ (unk n x).length := by rw [h1]; simp
              have hadd := add_len q acc
              obtain ⟨S2, e2, g2, _, _, k2, u2⟩ := ins_ok (S := T) (L := S.new) (i := 3) (j := 1) (ρ := [some (.tup (.str nm :: args)), some (.ref S.new), some x, some y]) (x := y) rfl rfl hg' (by omega) (upx y hy) (add_pn hacc.1 fun z hz => upx z (by rw [h1]; exact List.mem_append_left _ hz)) (by omega)
              exact ⟨_, x_gtN, _, S2, e2, q ++ [y], ys, _, by rw [h1]; simp, rfl, rfl, u2 S u' (Nat.le_refl _), by rw [g2, add_app]; rfl, (k2 _ (by omega)).trans hs'⟩)
            (unk n x) [some (.tup (.str nm :: args)), some (.ref S.new), some x, o3] (S'.add (.lst (unk n x))) ⟨[], unk n x, o3, rfl, rfl, rfl, u.add, by rw [get_add_lt hSn, hg]; rfl, hg1⟩
          subst h2
          rw [List.append_nil] at h1
          refine ⟨_, x_gtN, _, S'', for_ok (xs := unk n x) (src := some S'.new) (S1 := S'.add (.lst (unk n x))) ?_ e, l ++ [x], xs, _, o3', by rw [f1]; simp, rfl, rfl, u', ?_⟩
          · have hit : itS (S'.add (.lst (unk n x))) (.ref S'.new) = some (unk n x, some S'.new) := by unfold itS; simp only [hg1]
            simp only [x_iVal, x_call, x_l1, x_l0, x_var, List.set_cons_succ, List.set_cons_zero, List.getElem?_cons_succ, List.getElem?_cons_zero, x_bind_ok, List.append_nil, ec, hit, x_of_some]
          · rw [hg', ← h1, List.foldl_append, hac]
            rfl)
        args [some (.tup (.str nm :: args)), some (.ref S.new), none, none] T ⟨[], args, none, none, rfl, rfl, rfl, Up.push.add, hT⟩
      subst f2
      rw [List.append_nil] at f1
      subst f1
      refine runF_list (m := S.new) (S' := S') ?_ hg (Nat.le_refl _) (D.ltL_mono (Nat.zero_le _) _ (Pns.pl up).2.2) u
      show B_unknowns_of (F_unknowns_of m) [some (.tup (.str nm :: args)), none, none, none] S.push = _
      unfold B_unknowns_of
      refine (sq (if_skip t)).trans ?_
      have a1 : sAsg (eApp [] (dLst true)) (gtName 1) [some (.tup (.str nm :: args)), none, none, none] S.push = .nx [some (.tup (.str nm :: args)), some (.ref S.new), none, none] T := by
        rw [asg_ok (d := .ref S.new) (S1 := T)]
        · rfl
        · rw [← hS]; rfl
      refine (sq a1).trans ((sq (for_ok (xs := args) (src := none) (S1 := T) ?_ e)).trans (ret_ok (by simp)))
      rw [x_iVal, args_sl (h := .str nm) (args := args) rfl]
      rfl
def exT : List (Str × Bool) := [("BadPlace", true)]
theorem refused_ok {n : Nat} {d : D} {p : List Int} (g : Good n d) (h : partO p d = none) (hp : p.length < 40) (S : Sto) : F__law_refused [d, enP p] S = .ok (.bl true) S := by
  have e1 := at_ok (p := p) g S.push
  rw [h] at e1
  have e2 := repl_ok (p := p) (m := 40) (x := .tup [.str [97]]) hp g S.push
  rw [repl_none p d _ h] at e2
  have l1 : et_WorldOrPaperError.lookup ("BadPlace" : Str) = some true := by simp [et_WorldOrPaperError, List.lookup_cons]
  have l2 : ei_BadPlace.lookup ("BadPlace" : Str) = some true := by simp [ei_BadPlace, List.lookup_cons]
  have x1 : sExpr (eCall [(eVar 0), (eVar 1)] [] F_part_at) [some d, some (enP p), none] S.push = .ex exBad [some d, some (enP p), none] S.push := expr_ex (by
    simp only [x_call, x_l1, x_l0, x_var, List.getElem?_cons_succ, List.getElem?_cons_zero, x_bind_ok, List.append_nil, e1])
  have x2 : sExpr (eCall [(eVar 0), (eVar 1), (eApp [(eC (.str [97]))] dTup)] [] (F_replace_at 40)) [some d, some (enP p), none] S.push = .ex exBad [some d, some (enP p), none] S.push := expr_ex (by
    simp only [x_call, x_l1, x_l0, x_var, List.getElem?_cons_succ, List.getElem?_cons_zero, x_bind_ok, List.append_nil, x_app, x_C, x_tup, e2])
  refine runV_pure ?_
  show B__law_refused [some d, some (enP p), none] S.push = _
  unfold B__law_refused
  have a1 : ∀ O, sTryAsE (sExpr (eCall [(eVar 0), (eVar 1)] [] F_part_at)) et_WorldOrPaperError 2 (sIf (tNotM (eTru (eExI ei_BadPlace 2))) (sRet (eC (.bl false))) sSkip) O [some d, some (enP p), none] S.push = .nx [some d, some (enP p), none] S.push := fun O => by
    unfold sTryAsE
    rw [x1]
    simp only [exBad, exIs, l1, List.set_cons_succ, List.set_cons_zero]
    rw [if_skip (S1 := S.push)]
    · rfl
    · simp [eExI, l2]
  have a2 : sTryAs (sExpr (eCall [(eVar 0), (eVar 1), (eApp [(eC (.str [97]))] dTup)] [] (F_replace_at 40))) et_WorldOrPaperError 2 (sRet (eExI ei_BadPlace 2)) [some d, some (enP p), none] S.push = .rt (.bl true) S.push := by
    unfold sTryAs
    rw [x2]
    simp only [exBad, exIs, l1, List.set_cons_succ, List.set_cons_zero]
    rw [ret_ok (d := .bl true) (S1 := S.push)]
    · rfl
    · simp [eExI, l2]
  exact (sq (a1 _)).trans (sq_rt a2)
end K86

/-! K86f: what is listed. -/
namespace K86
open PySem PySem.Spec PyProof.Rows L2 Mi
def unI : D → Int
  | .int i => i
  | _ => 0
def kp (d : D) : D → D
  | .tup l => (partO (l.map unI) d).getD .non
  | _ => .non
theorem kp_enP (d : D) (p : List Int) : kp d (enP p) = (partO p d).getD .non := by
  have : (p.map D.int).map unI = p := by
    rw [List.map_map]
    have : (unI ∘ D.int) = id := rfl
    rw [this, List.map_id]
  simp only [enP, kp, this]
theorem kp_places {n : Nat} {d : D} (g : Good n d) : ((places n d).map enP).map (kp d) = parts n d := by
  have e := part_places g
  have e2 : ((places n d).map enP).map (kp d) = ((places n d).map (partO · d)).map (·.getD .non) := by
    rw [List.map_map, List.map_map]
    exact List.map_congr_left fun p _ => kp_enP d p
  rw [e2, e, List.map_map]
  have : ((fun x : Option D => x.getD .non) ∘ some) = id := rfl
  rw [this, List.map_id]
structure In3 (S0 S T : Sto) : Prop where
  up : Up S0 T
  n : T.new = S.new + 3
  k : ∀ n, n < S.new → T.get n = S.get n
theorem told_ok {n : Nat} {d : D} {S0 S : Sto} {ρ : Mi.Env} (g : Good n d) (hn : n ≤ 8) (u : Up S0 S) (hρ : ρ[0]? = some (some d)) :
    ∃ T, eApp [(eCall [(eVar 0)] [] (F_places_of 40)), (eCall [(eVar 0)] [] F_parts_of), (eCall [(eVar 0)] [] (F_unknowns_of 40))] (dLst false) ρ S = .ok (.lst [.ref S.new, .ref (S.new + 1), .ref (S.new + 2)]) T ∧ In3 S0 S T ∧
      T.get S.new = some (.lst ((places n d).map enP)) ∧ T.get (S.new + 1) = some (.lst (add [] (parts n d))) ∧ T.get (S.new + 2) = some (.lst (unk n d)) := by
  have c1 := places_ok (show n ≤ 40 by omega) hn g S
  let S1 := S.add (.lst ((places n d).map enP))
  have n1 : S1.new = S.new + 1 := new_add
  have c2 := parts_ok g hn S1
  let S2 := S1.add (.lst (add [] (parts n d)))
  have n2 : S2.new = S.new + 2 := by show (S1.add _).new = _; rw [new_add, n1]
  have c3 := unk_ok (show n ≤ 40 by omega) hn g S2
  let S3 := S2.add (.lst (unk n d))
  have n3 : S3.new = S.new + 3 := by show (S2.add _).new = _; rw [new_add, n2]
  rw [n1] at c2
  rw [n2] at c3
  have g1 : S1.get S.new = some (.lst ((places n d).map enP)) := get_add
  have g2 : S2.get (S.new + 1) = some (.lst (add [] (parts n d))) := by have := get_add (S := S1) (c := .lst (add [] (parts n d))); rw [n1] at this; exact this
  have g3 : S3.get (S.new + 2) = some (.lst (unk n d)) := by have := get_add (S := S2) (c := .lst (unk n d)); rw [n2] at this; exact this
  have k2 : ∀ m, m < S.new + 1 → S2.get m = S1.get m := fun m hm => get_add_lt (by omega)
  have k3 : ∀ m, m < S.new + 2 → S3.get m = S2.get m := fun m hm => get_add_lt (by omega)
  refine ⟨S3, ?_, ⟨u.add.add.add, n3, fun m hm => ?_⟩, (k3 _ (by omega)).trans ((k2 _ (by omega)).trans g1), (k3 _ (by omega)).trans g2, g3⟩
  · have c1' : F_places_of 40 [d] S = .ok (.ref S.new) S1 := c1
    have c2' : F_parts_of [d] S1 = .ok (.ref (S.new + 1)) S2 := c2
    have c3' : F_unknowns_of 40 [d] S2 = .ok (.ref (S.new + 2)) S3 := c3
    simp only [x_app, x_call, x_l1, x_l0, x_var, hρ, x_bind_ok, List.append_nil, c1', c2', c3', x_lstF]
  · rw [k3 _ (by omega), k2 _ (by omega)]
    exact get_add_lt hm
theorem pn_enP {n : Nat} {d : D} : ∀ x ∈ (places n d).map enP, Pn x := fun x hx => by
  obtain ⟨p, _, rfl⟩ := List.mem_map.mp hx
  have h1 : ∀ y ∈ p.map D.int, Pl y = true ∧ dp y ≤ 0 ∧ y.lt 0 = true := fun y hy => by
    obtain ⟨i, _, rfl⟩ := List.mem_map.mp hy
    exact ⟨rfl, Nat.le_refl _, rfl⟩
  refine ⟨?_, ?_, ?_⟩
  · simp only [enP, Pl]; exact PlL_all.mpr fun y hy => (h1 y hy).1
  · simp only [enP, dp]
    have : dpL (p.map D.int) ≤ 0 := dpL_le.mpr fun y hy => (h1 y hy).2.1
    omega
  · simp only [enP, D.lt]; exact ltL_all.mpr fun y hy => (h1 y hy).2.2
theorem due_eq {n : Nat} {d : D} {T : Sto} {a b c a' b' c' : D} (g : Good n d) (hn : n ≤ 8) (h1 : Lis T a ((places n d).map enP)) (h2 : Lis T b (add [] (parts n d))) (h3 : Lis T c (unk n d)) (h1' : Lis T a' ((places n d).map enP)) (h2' : Lis T b' (add [] (parts n d))) (h3' : Lis T c' (unk n d)) :
    dEq (.lst [a, b, c]) (.lst [a', b', c']) T = .ok (.bl true) T ∧ dNe (.lst [a, b, c]) (.lst [a', b', c']) T = .ok (.bl false) T := by
  have hp := Pns.pl (pn_enP (n := n) (d := d))
  have hq := Pns.pl (add_pn (fun _ h => by simp at h) (parts_pn g hn) : ∀ y ∈ add [] (parts n d), Pn y)
  have hr := Pns.pl (unk_sub g hn).1
  have pl : PlL ([(places n d).map enP, add [] (parts n d), unk n d].map .lst) = true := by
    simp only [List.map_cons, List.map_nil, PlL, Pl, hp.1, hq.1, hr.1]
    rfl
  have dl : dpL ([(places n d).map enP, add [] (parts n d), unk n d].map .lst) ≤ 60 := by
    simp only [List.map_cons, List.map_nil, dpL, dp]
    omega
  have e := eqS_lisL (.cons h1 (.cons h2 (.cons h3 .nil))) (.cons h1' (.cons h2' (.cons h3' .nil))) pl pl dl
  rw [decide_eq_true rfl] at e
  constructor
  · unfold dEq; rw [e]
  · unfold dNe; rw [e]; rfl
noncomputable def bLi : SM := (sSeq (sIf (eTst (eBin (eVar 4) (eVar 2) dNotIn)) (sExpr (eMeth (eVar 2) [(eVar 4)] mAppend)) sSkip)
  (sIf (tAndM (eTru (eIsT "str" (eVar 4))) (eTst (eBin (eVar 4) (eVar 3) dNotIn))) (sExpr (eMeth (eVar 3) [(eVar 4)] mAppend)) sSkip))
theorem li_step {n : Nat} {x : D} {S0 S : Sto} {A B : Nat} {fa na : List D} {o0 o1 o5 o6 o7 o8 : Option D} (g : Good n x) (hn : n ≤ 8) (u : Up S0 S) (hA : S0.new ≤ A) (hB : S0.new ≤ B) (hne : A ≠ B) (gA : S.get A = some (.lst fa)) (gB : S.get B = some (.lst na)) (pA : ∀ y ∈ fa, Pn y) (pB : ∀ y ∈ na, Pn y) (lA : fa.length ≤ 400000) (lB : na.length ≤ 400000) :
    ∃ S', bLi [o0, o1, some (.ref A), some (.ref B), some x, o5, o6, o7, o8] S = .nx [o0, o1, some (.ref A), some (.ref B), some x, o5, o6, o7, o8] S' ∧ Up S0 S' ∧ S'.get A = some (.lst (ins fa x)) ∧ S'.get B = some (.lst (if isStr x = true then ins na x else na)) := by
  have hold : S.old.length = S0.new := by unfold Up at u; rw [u, List.length_append]; rfl
  obtain ⟨S1, e1, g1, l1, n1, k1, u1⟩ := ins_ok (S := S) (L := A) (i := 4) (j := 2) (ρ := [o0, o1, some (.ref A), some (.ref B), some x, o5, o6, o7, o8]) (x := x) rfl rfl gA (by omega) (g.pn (by omega)) pA (by omega)
  have hty : eTru (eIsT "str" (eVar 4)) [o0, o1, some (.ref A), some (.ref B), some x, o5, o6, o7, o8] S1 = .ok (isStr x) S1 := by
    have h1 : isTy "str" "str" = true := by decide
    have h2 : isTy "str" "tuple" = false := by decide
    cases n with
    | zero => exact g.elim
    | succ n =>
      rcases g with ⟨s, rfl⟩ | ⟨nm, args, rfl, l, g⟩
      · simp [tyS, h1, isStr]
      · simp [tyS, h2, isStr]
  have gB1 := (k1 B (Ne.symm hne)).trans gB
  unfold bLi
  rw [sq e1]
  cases q : isStr x with
  | false =>
    rw [q] at hty
    refine ⟨S1, if_skip ?_, u1 S0 u hA, g1, gB1⟩
    rw [x_and, hty]
    rfl
  | true =>
    rw [q] at hty
    obtain ⟨S2, e2, g2, l2, n2, k2, u2⟩ := ins_ok (S := S1) (L := B) (i := 4) (j := 3) (ρ := [o0, o1, some (.ref A), some (.ref B), some x, o5, o6, o7, o8]) (x := x) rfl rfl gB1 (by omega) (g.pn (by omega)) pB (by omega)
    refine ⟨S2, ?_, u2 S0 (u1 S0 u hA) hB, (k2 A hne).trans g1, by simpa using g2⟩
    rw [← e2]
    simp only [x_sif, x_and, hty, x_bind_ok, if_true]
end K86

/-! K86g: _law_listed. -/
namespace K86
open PySem PySem.Spec PyProof.Rows L2 Mi
theorem rev_ok {S : Sto} {n : Nat} {xs : List D} (h : S.get n = some (.lst xs)) (hm : S.may n (.lst xs.reverse) = true) : mReverse (.ref n) [] S = .ok .non (S.set n (.lst xs.reverse)) := by
  unfold mReverse
  simp only [h]
  unfold putL
  rw [if_pos hm]
theorem meth_ok {f : EM} {fs : List EM} {ds : List D} {G : D → List D → Sto → R D} {ρ : Mi.Env} {S S' : Sto} {n : Nat} {xs : List D} (hf : f ρ S = .ok (.ref n) S) (h : S.get n = some (.lst xs)) (ha : aList fs ρ S = .ok ds S) (hG : G (.ref n) ds S = .ok .non S') : sExpr (eMeth f fs G) ρ S = .nx ρ S' := by
  refine expr_ok (d := .non) ?_
  have hL : lstS S (.ref n) = some xs := x_lstR h
  simp only [x_meth, hf, x_bind_ok, hL, ha, hG]
theorem listed_ok {n : Nat} {d : D} (g : Good n d) (hn : n ≤ 8) (S : Sto) : F__law_listed [d] S = .ok (.bl true) S := by
  have hbig := big
  have hS : S.push.new = S.new := new_push
  have hpl : (parts n d).length ≤ 65536 := by have := few g hn; rw [places_len g] at this; exact this
  suffices h : ∃ T, B__law_listed [some d, none, none, none, none, none, none, none, none] S.push = .rt (.bl true) T ∧ Up S T by
    obtain ⟨T, h, u⟩ := h
    exact (runV_lt (S' := T) h rfl).trans (by rw [u.pop])
  unfold B__law_listed
  -- parts
  have cl := lplaces_ok (show n ≤ 40 by omega) hn g S.push
  have e1 := x_lc_map (b := false) (S := S.push) (g := eCall [(eVar 0)] [] (F__law_places 40)) (ρ := [some d, none, none, none, none, none, none, none, none]) (x := .lst ((places n d).map enP)) (gt := gtName 8) (vs := [8]) (f := eCall [(eVar 0), (eVar 8)] [] F__law_part) (k := kp d)
    .lst (by simp only [x_call, x_l1, x_l0, x_var, List.getElem?_cons_zero, x_bind_ok, List.append_nil, cl]) (by rw [List.length_map, places_len g]; omega) (fun w hw => by
      obtain ⟨p, hp, rfl⟩ := List.mem_map.mp hw
      obtain ⟨y, ey, _⟩ := place_has g hp
      have := lpart_ok g ey S.push
      exact ⟨_, x_gtN, by simp [wipeE, this, kp_enP, ey]⟩)
  rw [kp_places g, x_mkF] at e1
  let A := S.new
  let B := S.new + 1
  let T1 := S.push.add (.lst [])
  have n1 : T1.new = S.new + 1 := by show (S.push.add _).new = _; rw [new_add, hS]
  let T2 := T1.add (.lst [])
  have n2 : T2.new = S.new + 2 := by show (T1.add _).new = _; rw [new_add, n1]
  have gA : T2.get A = some (.lst []) := by
    show (T1.add _).get _ = _
    rw [get_add_lt (by rw [n1]; exact Nat.lt_succ_self _)]
    have := get_add (S := S.push) (c := .lst [])
    rw [hS] at this; exact this
  have gB : T2.get B = some (.lst []) := by have := get_add (S := T1) (c := .lst []); rw [n1] at this; exact this
  have u2 : Up S T2 := Up.push.add.add
  obtain ⟨ρ', T3, e3, l, r, o4, f1, f2, rfl, u3, gA3, gB3⟩ := forN_st (gt := gtName 4) (b := bLi) (src := none) (all := parts n d)
    (fun xs ρ T => ∃ (l r : List D) (o4 : Option D), parts n d = l ++ r ∧ xs = r ∧ ρ = [some d, some (.lst (parts n d)), some (.ref A), some (.ref B), o4, none, none, none, none] ∧ Up S T ∧ T.get A = some (.lst (add [] l)) ∧ T.get B = some (.lst (add [] (l.filter isStr))))
    (fun _ _ _ _ => trivial) (fun x xs ρ T h => by
      obtain ⟨l, r, o4, f1, f2, rfl, u, gA, gB⟩ := h
      subst f2
      have hx : x ∈ parts n d := by rw [f1]; simp
      have hll : l.length ≤ (parts n d).length := by rw [f1]; simp
      have hsub : ∀ y ∈ l, Pn y := fun y hy => parts_pn g hn y (by rw [f1]; exact List.mem_append_left _ hy)
      have a1 := add_len l []
      have a2 := add_len (l.filter isStr) []
      have a3 := List.length_filter_le isStr l
      simp only [List.length_nil] at a1 a2
      obtain ⟨T', e, u', gA', gB'⟩ := li_step (o0 := some d) (o1 := some (.lst (parts n d))) (o5 := none) (o6 := none) (o7 := none) (o8 := none) (part_mem_good g hx) hn u (Nat.le_refl _) (Nat.le_succ _) (by show S.new ≠ S.new + 1; omega) gA gB (add_pn (fun _ h => by simp at h) hsub) (add_pn (fun _ h => by simp at h) fun y hy => hsub y (List.mem_filter.mp hy).1) (by omega) (by omega)
      refine ⟨_, x_gtN, _, T', e, l ++ [x], xs, some x, by rw [f1]; simp, rfl, rfl, u', by rw [gA', add_app]; rfl, ?_⟩
      rw [gB', List.filter_append, add_app]
      cases q : isStr x <;> simp [q, add, List.filter])
    (parts n d) [some d, some (.lst (parts n d)), some (.ref A), some (.ref B), none, none, none, none, none] T2 ⟨[], parts n d, none, rfl, rfl, rfl, u2, gA, gB⟩
  subst f2
  rw [List.append_nil] at f1
  rw [← f1] at gA3 gB3
  rw [← unk_eq g] at gB3
  have es := size_ok (show n ≤ 40 by omega) g T3
  -- told
  obtain ⟨T4, e4, i4, h1, h2, h3⟩ := told_ok (ρ := [some d, some (.lst (parts n d)), some (.ref A), some (.ref B), o4, some (.int (size n d)), none, none, none]) g hn u3 rfl
  have cl4 := lplaces_ok (show n ≤ 40 by omega) hn g T4
  have hA3 : A < T3.new := get_lt gA3
  have hB3 : B < T3.new := get_lt gB3
  have gA4 : T4.get A = some (.lst (add [] (parts n d))) := (i4.k A hA3).trans gA3
  have gB4 : T4.get B = some (.lst (unk n d)) := (i4.k B hB3).trans gB3
  obtain ⟨_, q1⟩ := due_eq (T := T4) g hn (.inr ⟨_, rfl, h1⟩) (.inr ⟨_, rfl, h2⟩) (.inr ⟨_, rfl, h3⟩) (.inl rfl) (.inr ⟨A, rfl, gA4⟩) (.inr ⟨B, rfl, gB4⟩)
  -- changed
  have hold : ∀ T, Up S T → T.old.length = S.new := fun T u => by unfold Up at u; rw [u, List.length_append]; rfl
  have hm : ∀ (T : Sto) (m : Nat) (c : Cell), Up S T → S.new ≤ m → T.may m c = true := fun T m c u h => u.may h
  have hC : S.new ≤ T3.new := u3.new
  let c1 := T3.new
  let T5 := T4.set T3.new (.lst ((places n d).map enP ++ [.tup [.int 0, .int 0]]))
  have g51 : T5.get (T3.new + 1) = some (.lst (add [] (parts n d))) := (get_set_ne (by omega)).trans h2
  have u5 : Up S T5 := i4.up.set hC
  let T6 := T5.set (T3.new + 1) (.lst (add [] (parts n d)).reverse)
  have g61 : T6.get (T3.new + 1) = some (.lst (add [] (parts n d)).reverse) := get_set (get_lt g51)
  have u6 : Up S T6 := u5.set (by omega)
  let T7 := T6.set (T3.new + 1) (.lst ((add [] (parts n d)).reverse ++ [.tup [.str [97]]]))
  have g72 : T7.get (T3.new + 2) = some (.lst (unk n d)) := (get_set_ne (by omega)).trans ((get_set_ne (by omega)).trans ((get_set_ne (by omega)).trans h3))
  have u7 : Up S T7 := u6.set (by omega)
  let T8 := T7.set (T3.new + 2) (.lst (unk n d ++ [.str [122, 57]]))
  have u8 : Up S T8 := u7.set (by omega)
  have k8 : ∀ m, m < T3.new → T8.get m = T4.get m := fun m hm => (get_set_ne (by omega)).trans ((get_set_ne (by omega)).trans ((get_set_ne (by omega)).trans (get_set_ne (by omega))))
  obtain ⟨T9, e9, i9, j1, j2, j3⟩ := told_ok (ρ := [some d, some (.lst (parts n d)), some (.ref A), some (.ref B), o4, some (.int (size n d)), some (.lst [.ref T3.new, .ref (T3.new + 1), .ref (T3.new + 2)]), some (.lst [.lst ((places n d).map enP), .ref A, .ref B]), none]) g hn u8 rfl
  have n8 : T8.new = T4.new := new_set.trans (new_set.trans (new_set.trans new_set))
  have hA8 : A < T8.new := by rw [n8, i4.n]; omega
  have hB8 : B < T8.new := by rw [n8, i4.n]; omega
  have gA9 : T9.get A = some (.lst (add [] (parts n d))) := (i9.k A hA8).trans ((k8 A hA3).trans gA4)
  have gB9 : T9.get B = some (.lst (unk n d)) := (i9.k B hB8).trans ((k8 B hB3).trans gB4)
  obtain ⟨q2, _⟩ := due_eq (T := T9) g hn (.inr ⟨_, rfl, j1⟩) (.inr ⟨_, rfl, j2⟩) (.inr ⟨_, rfl, j3⟩) (.inl rfl) (.inr ⟨A, rfl, gA9⟩) (.inr ⟨B, rfl, gB9⟩)
  refine ⟨T9, ?_, i9.up⟩
  have hpe : (add [] (parts n d)).length ≤ 65536 := by have := add_len (parts n d) []; simp only [List.length_nil] at this; omega
  have hue := (unk_sub g hn).2
  have hpp := few g hn
  refine (sq (asg_ok e1)).trans ?_
  dsimp only [List.set_cons_succ, List.set_cons_zero]
  refine (sq (asg_ok (d := .ref A) (S1 := T1) ?_)).trans ?_
  · show R.ok (D.ref S.push.new) T1 = _
    rw [hS]
  dsimp only [List.set_cons_succ, List.set_cons_zero]
  refine (sq (asg_ok (d := .ref B) (S1 := T2) ?_)).trans ?_
  · show R.ok (D.ref T1.new) T2 = _
    rw [n1]
  dsimp only [List.set_cons_succ, List.set_cons_zero]
  refine (sq (for_ok (xs := parts n d) (src := none) (S1 := T2) rfl e3)).trans ?_
  refine (sq (asg_ok (d := .int (size n d)) (S1 := T3) ?_)).trans ?_
  · simp only [x_call, x_l1, x_l0, x_var, List.getElem?_cons_zero, x_bind_ok, List.append_nil, es]
  dsimp only [List.set_cons_succ, List.set_cons_zero]
  refine (sq (if_skip (S1 := T3) ?_)).trans ?_
  · have t1 : isTy "int" "int" = true := by decide
    have t2 : isTy "bool" "int" = false := by decide
    have t3 : (size n d : Int) = ((parts n d).length : Int) := by rw [size_parts g]
    simp [tyS, t1, t2, t3]
  refine (sq (asg_ok e4)).trans ?_
  dsimp only [List.set_cons_succ, List.set_cons_zero]
  refine (sq (asg_ok (d := .lst [.lst ((places n d).map enP), .ref A, .ref B]) (S1 := T4) ?_)).trans ?_
  · simp only [x_app, x_call, x_l1, x_l0, x_var, List.getElem?_cons_succ, List.getElem?_cons_zero, x_bind_ok, List.append_nil, cl4, x_lstF]
  dsimp only [List.set_cons_succ, List.set_cons_zero]
  refine (sq (if_skip (S1 := T4) ?_)).trans ?_
  · simp only [x_tst, x_bin, x_var, List.getElem?_cons_succ, List.getElem?_cons_zero, x_bind_ok, q1, x_of_some, x_blD]
  refine (sq (meth_ok (n := T3.new) (S' := T5) (by simp) h1 (by simp) (x_app1 h1 (by rw [List.length_map]; omega) (hm _ _ _ i4.up hC)))).trans ?_
  refine (sq (meth_ok (n := T3.new + 1) (S' := T6) (by simp) g51 (by simp) (rev_ok g51 (hm _ _ _ u5 (by omega))))).trans ?_
  refine (sq (meth_ok (n := T3.new + 1) (S' := T7) (by simp) g61 (by simp) (x_app1 g61 (by rw [List.length_reverse]; omega) (hm _ _ _ u6 (by omega))))).trans ?_
  refine (sq (meth_ok (n := T3.new + 2) (S' := T8) (by simp) g72 (by simp) (x_app1 g72 (by omega) (hm _ _ _ u7 (by omega))))).trans ?_
  refine ret_ok ?_
  rw [x_bin, e9, x_bind_ok]
  simp only [x_var, List.getElem?_cons_succ, List.getElem?_cons_zero, x_bind_ok, q2]
end K86

/-! K86h: the draws. -/
namespace K86
open PySem PySem.Spec PyProof.Rows L2 Mi
theorem tk {m b : Nat} {S : Sto} (many : Nat) (h : Ok m S b) (hb : b < lim) (hm : 0 < many) :
    ∃ i : Nat, i < many ∧ ∃ S', F__law_take [.ref m, .int (many : Int)] S = .ok (.int (i : Int)) S' ∧ Ok m S' (b + 1) ∧ Sam m S S' := tkN h hb hm
def leaves : List D := [.str [120], .str [121], .str [122, 57], .tup [.str [97]], .tup [.str [98]], .tup [.str [108, 111, 110, 103, 110, 97, 109, 101, 49, 50]]]
theorem leaf_good : ∀ x ∈ leaves, Good 1 x := fun x hx => by
  simp only [leaves, List.mem_cons, List.not_mem_nil, or_false] at hx
  rcases hx with rfl | rfl | rfl | rfl | rfl | rfl
  · exact .inl ⟨⟨_, by decide⟩, rfl⟩
  · exact .inl ⟨⟨_, by decide⟩, rfl⟩
  · exact .inl ⟨⟨_, by decide⟩, rfl⟩
  · exact .inr ⟨_, [], rfl, by simp, fun _ h => by simp at h⟩
  · exact .inr ⟨_, [], rfl, by simp, fun _ h => by simp at h⟩
  · exact .inr ⟨_, [], rfl, by simp, fun _ h => by simp at h⟩
/-- the draws that a term takes -/
def cost : Nat → Nat
  | 0 => 2
  | n + 1 => 2 + 3 * cost n
theorem cost_mono : ∀ n, 2 ≤ cost n
  | 0 => Nat.le_refl _
  | n + 1 => Nat.le_add_right _ _
theorem call_take {S S1 : Sto} {ρ : Mi.Env} {n : Int} {d : D} {i m : Nat} (h1 : ρ[i]? = some (some (.ref m))) (e : F__law_take [.ref m, .int n] S = .ok d S1) : eCall [(eVar i), (eC (.int n))] [] F__law_take ρ S = .ok d S1 := by
  simp only [x_call, x_l1, x_l0, x_var, h1, x_C, x_bind_ok, List.append_nil, e]
theorem term_ok : ∀ {n m : Nat}, n < m → ∀ {S : Sto} {b c : Nat}, Ok c S b → b + cost n < lim → ∃ d T, F__law_term m [.ref c, .int (n : Int)] S = .ok d T ∧ Good (n + 1) d ∧ Ok c T (b + cost n) ∧ Sam c S T
  | _, 0, h, _, _, _, _, _ => absurd h (by omega)
  | n, m + 1, h, S, b, c, o, hb => by
    have hc2 := cost_mono n
    obtain ⟨k, hk, S1, e1, o1, s1⟩ := tk 8 o.push (by omega) (by decide)
    have e1' : F__law_take [.ref c, .int 8] S.push = .ok (.int (k : Int)) S1 := e1
    suffices hh : ∃ d T, B__law_term (F__law_term m) [some (.ref c), some (.int (n : Int)), none, none] S.push = .rt d T ∧ Good (n + 1) d ∧ Ok c T (b + cost n) ∧ Sam c S.push T by
      obtain ⟨d, T, e, g, o', s'⟩ := hh
      obtain ⟨T', e2, o2, s2⟩ := drV (n := 4) (b := B__law_term (F__law_term m)) (ds := [.ref c, .int (n : Int)]) e s' o'
      exact ⟨d, T', e2, g, o2, s2⟩
    unfold B__law_term
    have a1 := asg_ok (i := 2) (call_take (ρ := [some (.ref c), some (.int (n : Int)), none, none]) (i := 0) rfl e1')
    dsimp only [List.set_cons_succ, List.set_cons_zero] at a1
    rw [sq a1]
    by_cases hz : n = 0 ∨ k < 3
    · obtain ⟨j, hj, S2, e2, o2, s2⟩ := tk 6 o1 (by omega) (by decide)
      have e2' : F__law_take [.ref c, .int 6] S1 = .ok (.int (j : Int)) S2 := e2
      have hl : leaves[j]? = some leaves[j] := List.getElem?_eq_getElem (show j < leaves.length from hj)
      refine ⟨leaves[j], S2, ?_, (leaf_good _ (List.getElem_mem _)).mono (by omega), o2.le (by omega), s1.trans s2⟩
      refine sq_rt ((if_yes (S1 := S1) ?_).trans ?_)
      · rcases hz with rfl | hz
        · simp
        · by_cases h0 : n = 0
          · subst h0; simp
          · have h0' : ¬ ((n : Int) = 0) := by omega
            have hz' : (k : Int) < 3 := by omega
            simp [h0', hz']
      · have a2 : sAsg (eApp [(eC (.str [120])), (eC (.str [121])), (eC (.str [122, 57])), (eApp [(eC (.str [97]))] dTup), (eApp [(eC (.str [98]))] dTup), (eApp [(eC (.str [108, 111, 110, 103, 110, 97, 109, 101, 49, 50]))] dTup)] (dLst false)) (gtName 3) [some (.ref c), some (.int (n : Int)), some (.int (k : Int)), none] S1 = .nx [some (.ref c), some (.int (n : Int)), some (.int (k : Int)), some (.lst leaves)] S1 := rfl
        have e3 := call_take (ρ := [some (.ref c), some (.int (n : Int)), some (.int (k : Int)), some (.lst leaves)]) (i := 0) rfl e2'
        refine (sq a2).trans (ret_ok ?_)
        have ha : atI leaves (j : Int) = some leaves[j] := by rw [Mi.atI_nat]; exact hl
        simp only [x_bin, x_var, List.getElem?_cons_succ, List.getElem?_cons_zero, x_bind_ok, e3, x_ixL, ha]
    · have hn0 : ¬ n = 0 := fun z => hz (.inl z)
      have hk3 : ¬ k < 3 := fun z => hz (.inr z)
      obtain ⟨n, rfl⟩ : ∃ q, n = q + 1 := ⟨n - 1, by omega⟩
      have hcost : cost (n + 1) = 2 + 3 * cost n := rfl
      have hn1 : ¬ ((n : Int) + 1 = 0) := by omega
      have hk3' : ¬ ((k : Int) < 3) := by omega
      have hsub : ((n + 1 : Nat) : Int) - 1 = (n : Int) := by omega
      have x0 : ∀ (Tm : Sto) (r : R D), F__law_term m [.ref c, .int (n : Int)] Tm = r → eCall [(eVar 0), (eBin (eVar 1) (eC (.int 1)) dSub)] [] (F__law_term m) [some (.ref c), some (.int ((n + 1 : Nat) : Int)), some (.int (k : Int)), none] Tm = r := fun Tm r hr => by
        simp only [x_call, x_l1, x_l0, x_bin, x_var, x_C, List.getElem?_cons_succ, List.getElem?_cons_zero, x_bind_ok, x_subI, hsub, List.append_nil, hr]
      have one : ∀ (Tm : Sto) (bb : Nat), Ok c Tm bb → bb + cost n < lim → ∃ d T, F__law_term m [.ref c, .int (n : Int)] Tm = .ok d T ∧ Good (n + 1) d ∧ Ok c T (bb + cost n) ∧ Sam c Tm T := fun Tm bb ho hbb => term_ok (n := n) (m := m) (by omega) ho hbb
      rw [sq (if_skip (S1 := S1) (by simp [hn1, hk3']))]
      obtain ⟨d1, T1, f1, g1, p1, q1⟩ := one S1 _ o1 (by omega)
      have z1 := x0 S1 _ f1
      by_cases h5 : k < 5
      · have h5' : (k : Int) < 5 := by omega
        refine ⟨.tup [.str [102], d1], T1, ?_, .inr ⟨_, [d1], rfl, by simp, fun a ha => ?_⟩, p1.le (by omega), s1.trans q1⟩
        · refine sq_rt ((if_yes (S1 := S1) (by simp [h5'])).trans (ret_ok ?_))
          simp only [x_app, x_l1, x_l0, x_C, x_bind_ok, z1, x_tup]
        · have : a = d1 := by simpa using ha
          rw [this]; exact g1
      · have h5' : ¬ ((k : Int) < 5) := by omega
        rw [sq (if_skip (S1 := S1) (by simp [h5']))]
        obtain ⟨d2, T2, f2, g2, p2, q2⟩ := one T1 _ p1 (by omega)
        have z2 := x0 T1 _ f2
        by_cases h7 : k < 7
        · have h7' : (k : Int) < 7 := by omega
          refine ⟨.tup [.str [103], d1, d2], T2, ?_, .inr ⟨_, [d1, d2], rfl, by simp, fun a ha => ?_⟩, p2.le (by omega), (s1.trans q1).trans q2⟩
          · refine sq_rt ((if_yes (S1 := S1) (by simp [h7'])).trans (ret_ok ?_))
            simp only [x_app, x_l1, x_l0, x_C, x_bind_ok, z1, z2, x_tup]
          · have : a = d1 ∨ a = d2 := by simpa using ha
            rcases this with rfl | rfl
            · exact g1
            · exact g2
        · have h7' : ¬ ((k : Int) < 7) := by omega
          rw [sq (if_skip (S1 := S1) (by simp [h7']))]
          obtain ⟨d3, T3, f3, g3, p3, q3⟩ := one T2 _ p2 (by omega)
          have z3 := x0 T2 _ f3
          refine ⟨.tup [.str [104, 50], d1, d2, d3], T3, ret_ok ?_, .inr ⟨_, [d1, d2, d3], rfl, by simp, fun a ha => ?_⟩, p3.le (by omega), ((s1.trans q1).trans q2).trans q3⟩
          · simp only [x_app, x_l1, x_l0, x_C, x_bind_ok, z1, z2, z3, x_tup]
          · have : a = d1 ∨ a = d2 ∨ a = d3 := by simpa using ha
            rcases this with rfl | rfl | rfl
            · exact g1
            · exact g2
            · exact g3
end K86

/-! K86i: the law. -/
namespace K86
open PySem PySem.Spec PyProof.Rows L2 Mi
def anames : List (List Nat) := [[81], [80], [82, 49, 50], [76, 111, 110, 103, 110, 97, 109, 101, 49, 50, 51, 65]]
theorem atom_ok {S : Sto} {b c : Nat} (o : Ok c S b) (hb : b + 1000 < lim) : ∃ d T, F__law_atom [.ref c] S = .ok d T ∧ Good 5 d ∧ Ok c T (b + 1000) ∧ Sam c S T := by
  have hbig := big
  obtain ⟨k, hk, S1, e1, o1, s1⟩ := tk 4 o.push (by omega) (by decide)
  have e1' : F__law_take [.ref c, .int 4] S.push = .ok (.int (k : Int)) S1 := e1
  suffices hh : ∃ d T, B__law_atom [some (.ref c), none, none, none] S.push = .rt d T ∧ Good 5 d ∧ Ok c T (b + 1000) ∧ Sam c S.push T by
    obtain ⟨d, T, e, g, o', s'⟩ := hh
    obtain ⟨T', e2, o2, s2⟩ := drV (n := 4) (b := B__law_atom) (ds := [.ref c]) e s' o'
    exact ⟨d, T', e2, g, o2, s2⟩
  have hc : cost 3 = 80 := rfl
  have row : ∀ (xs acc : List D) (Tm : Sto) (bb : Nat), Ok c Tm bb → bb + xs.length * 80 < lim → acc.length + xs.length ≤ 1000 →
      ∃ ys T, lcN (gtName 3) tYesM (eCall [(eVar 0), (eC (.int 3))] [] (F__law_term 40)) none (rangeL 0 k) xs acc [some (.ref c), some (.int (k : Int)), some (.lst (anames.map .str)), none] Tm = .ok (acc ++ ys) T ∧ ys.length = xs.length ∧ (∀ y ∈ ys, Good 4 y) ∧ Ok c T (bb + xs.length * 80) ∧ Sam c Tm T := fun xs => by
    induction xs with
    | nil => exact fun acc Tm bb o _ _ => ⟨[], Tm, by simp, rfl, fun _ h => by simp at h, o.le (by omega), Sam.refl⟩
    | cons x xs ih =>
      intro acc Tm bb o h1 h2
      simp only [List.length_cons, Nat.add_mul] at h1 h2
      obtain ⟨y, T1, f1, g1, p1, q1⟩ := term_ok (n := 3) (m := 40) (by omega) o (by omega)
      have f1' : F__law_term 40 [.ref c, .int 3] Tm = .ok y T1 := f1
      rw [hc] at p1
      obtain ⟨ys, T2, f2, l2, g2, p2, q2⟩ := ih (acc ++ [y]) T1 (bb + 80) p1 (by omega) (by simp; omega)
      refine ⟨y :: ys, T2, ?_, by simp [l2], fun z hz => ?_, p2.le (by simp only [List.length_cons, Nat.add_mul]; omega), q1.trans q2⟩
      · rw [List.append_assoc] at f2
        have hl : acc.length < sizeLine := by omega
        simp only [lcN_1, x_gtN, x_yes, if_true, List.set_cons_succ, List.set_cons_zero, x_call, x_l1, x_l0, x_var, x_C, List.getElem?_cons_zero, x_bind_ok, List.append_nil, f1', if_pos hl, f2]
        rfl
      · rcases List.mem_cons.mp hz with w | w
        · rw [w]; exact g1
        · exact g2 z w
  have hrl : (rangeL 0 k).length = k := rangeL_len
  have hlim : lim = 18446744073709551616 := rfl
  obtain ⟨ys, T, f, lf, gf, pf, qf⟩ := row (rangeL 0 k) [] S1 (b + 1) o1 (by rw [hrl]; omega) (by rw [hrl]; simp; omega)
  rw [hrl] at pf lf
  have hk' : k < anames.length := hk
  refine ⟨.tup (.str anames[k] :: ys), T, ?_, .inr ⟨_, ys, rfl, by omega, gf⟩, pf.le (by omega), s1.trans qf⟩
  unfold B__law_atom
  have a1 := asg_ok (i := 1) (call_take (ρ := [some (.ref c), none, none, none]) (i := 0) rfl e1')
  dsimp only [List.set_cons_succ, List.set_cons_zero] at a1
  have a2 : sAsg (eApp [(eC (.str [81])), (eC (.str [80])), (eC (.str [82, 49, 50])), (eC (.str [76, 111, 110, 103, 110, 97, 109, 101, 49, 50, 51, 65]))] (dLst false)) (gtName 2) [some (.ref c), some (.int (k : Int)), none, none] S1 = .nx [some (.ref c), some (.int (k : Int)), some (.lst (anames.map .str)), none] S1 := rfl
  have ha : atI (anames.map D.str) (k : Int) = some (.str anames[k]) := by rw [Mi.atI_nat, List.getElem?_map, List.getElem?_eq_getElem hk']; rfl
  have hk2 : -4611686018427387904 ≤ (k : Int) ∧ (k : Int) < 4611686018427387904 := by omega
  have e3 : eLc false (iRange [(eVar 1)]) (gtName 3) tYesM (eCall [(eVar 0), (eC (.int 3))] [] (F__law_term 40)) [3] [some (.ref c), some (.int (k : Int)), some (.lst (anames.map .str)), none] S1 = .ok (.lst ys) T := by
    rw [x_lc]
    have hr : iRange [(eVar 1)] [some (.ref c), some (.int (k : Int)), some (.lst (anames.map .str)), none] S1 = .ok (rangeL 0 k, none) S1 := by
      simp [hk2.1, hk2.2]
    rw [hr]
    show (match lcN _ _ _ _ _ _ _ _ S1 with
      | .ok acc S2 => mkL false acc S2
      | _ => .bad) = _
    have f' : lcN (gtName 3) tYesM (eCall [(eVar 0), (eC (.int 3))] [] (F__law_term 40)) none (rangeL 0 k) (rangeL 0 k) [] (wipeE [some (.ref c), some (.int (k : Int)), some (.lst (anames.map .str)), none] [3]) S1 = .ok ys T := f
    rw [f']
    rfl
  refine (sq a1).trans ((sq a2).trans (ret_ok ?_))
  revert e3
  generalize (eLc false (iRange [(eVar 1)]) (gtName 3) tYesM (eCall [(eVar 0), (eC (.int 3))] [] (F__law_term 40)) [3]) = G
  intro e3
  have hz : 1 + ys.length ≤ sizeLine := by omega
  simp only [x_app, x_l1, x_l0, x_bin, x_var, List.getElem?_cons_succ, List.getElem?_cons_zero, x_bind_ok, x_ixL, ha, x_lstF, e3, x_addL]
  rw [if_pos (by simpa using hz)]
  rfl
theorem cat_enP {p : List Int} {j : Int} {S : Sto} (h : p.length ≤ 1000) : dAdd false (enP p) (.tup [.int j]) S = .ok (enP (p ++ [j])) S := by
  have hbig := big
  simp only [enP, x_addT]
  rw [if_pos (by simp; omega)]
  simp
noncomputable def bEach : SM := (sIf (eTst (eBin (eCall [(eVar 1), (eVar 5)] [] F_part_at) (eCall [(eVar 1), (eVar 5)] [] F__law_part) dNe)) (sRet (eC (.bl false))) sSkip)
theorem ne_same {n : Nat} {d : D} (g : Good n d) (hn : n ≤ 20) (S : Sto) : dNe d d S = .ok (.bl false) S ∧ dEq d d S = .ok (.bl true) S := by
  have h := g.pl
  constructor
  · rw [dNe_pl h.1 h.1 (.inl (by omega))]; simp
  · rw [dEq_pl h.1 h.1 (.inl (by omega))]; simp
theorem one_ok {S : Sto} {b c n k : Nat} {d x : D} (o : Ok c S b) (hb : b + 10 < lim) (g : Good n d) (hn : n ≤ 6) (gx : Good k x) (hk : n + k ≤ 8) :
    ∃ T, F__law_one [.ref c, d, x] S = .ok (.bl true) T ∧ Ok c T (b + 4) ∧ Sam c S T := by
  have hbig := big
  suffices hh : ∃ T, B__law_one [some (.ref c), some d, some x, none, none, none, none, none, none, none, none] S.push = .rt (.bl true) T ∧ Ok c T (b + 4) ∧ Sam c S.push T by
    obtain ⟨T, e, o', s'⟩ := hh
    exact drV (n := 11) (b := B__law_one) (ds := [.ref c, d, x]) e s' o'
  have hpl := few g (by omega)
  have cl := lplaces_ok (show n ≤ 40 by omega) (by omega) g S.push
  have hpos : 0 < (places n d).length := by
    cases n with
    | zero => exact g.elim
    | succ n =>
      rcases g with ⟨s, rfl⟩ | ⟨nm, args, rfl, l, g⟩
      · exact Nat.one_pos
      · simp [places]
  -- the place
  obtain ⟨i, hi, S1, e1, o1, s1⟩ := tk (places n d).length o.push (by omega) hpos
  let p := (places n d)[i]
  have hp : p ∈ places n d := List.getElem_mem hi
  obtain ⟨old, eo, ho⟩ := place_has g hp
  obtain ⟨m0, hm0, go⟩ := part_good p g eo
  have hplen := place_len g hp
  obtain ⟨y, r1, r2, r3⟩ := repl_some p d x old eo
  have gy : Good (n + k) y := repl_good p g gx r1
  obtain ⟨o5, el⟩ : ∃ o5, sForN (gtName 5) bEach none ((places n d).map enP) ((places n d).map enP) [some (.ref c), some d, some x, some (.lst ((places n d).map enP)), some (enP p), none, none, none, none, none, none] S1 = .nx [some (.ref c), some d, some x, some (.lst ((places n d).map enP)), some (enP p), o5, none, none, none, none, none] S1 := by
    obtain ⟨ρ', S', e, o5, rfl, rfl, _⟩ := forN_st (gt := gtName 5) (b := bEach) (src := none) (all := (places n d).map enP)
      (fun xs ρ S' => ∃ o5, ρ = [some (.ref c), some d, some x, some (.lst ((places n d).map enP)), some (enP p), o5, none, none, none, none, none] ∧ S' = S1 ∧ ∀ z ∈ xs, ∃ q ∈ places n d, z = enP q)
      (fun _ _ _ _ => trivial) (fun z zs ρ S' h => by
        obtain ⟨o5, rfl, rfl, hz⟩ := h
        obtain ⟨q, hq, rfl⟩ := hz z List.mem_cons_self
        obtain ⟨w, ew, _⟩ := place_has g hq
        obtain ⟨_, _, gw⟩ := part_good q g ew
        have a1 := at_ok (p := q) g S'
        rw [ew] at a1
        have a2 := lpart_ok g ew S'
        have a3 := (ne_same gw (by omega) S').1
        refine ⟨_, x_gtN, _, S', ?_, some (enP q), rfl, rfl, fun z hz' => hz z (List.mem_cons_of_mem _ hz')⟩
        refine if_skip ?_
        simp only [x_tst, x_bin, x_call, x_l1, x_l0, x_var, List.set_cons_succ, List.set_cons_zero, List.getElem?_cons_succ, List.getElem?_cons_zero, x_bind_ok, List.append_nil, a1, a2, a3, x_of_some, x_blD])
      ((places n d).map enP) [some (.ref c), some d, some x, some (.lst ((places n d).map enP)), some (enP p), none, none, none, none, none, none] S1 ⟨none, rfl, rfl, fun z hz => by
        obtain ⟨q, hq, rfl⟩ := List.mem_map.mp hz
        exact ⟨q, hq, rfl⟩⟩
    exact ⟨o5, e⟩
  have eput := put_ok (p := p) (m := 40) (by omega) g gx r1 S1
  have erep := repl_ok (p := p) (m := 40) (x := x) (by omega) g S1
  rw [r1] at erep
  have eat := at_ok (p := p) gy S1
  rw [r2] at eat
  have elp := lpart_ok g eo S1
  have eback := repl_ok (p := p) (m := 40) (x := old) (by omega) gy S1
  rw [r3] at eback
  have ny := (ne_same gy (by omega) S1).1
  have nx := (ne_same gx (by omega) S1).1
  have nd := (ne_same g (by omega) S1).1
  -- beyond
  obtain ⟨j, S2, hj, o2, s2, eb⟩ : ∃ (j : Int) (S2 : Sto), partO [j] old = none ∧ Ok c S2 (b + 2) ∧ Sam c S1 S2 ∧
      ∀ r, (sSeq (sAsg (eBin (eVar 4) (eApp [(eBin (eApp [(eVar 8)] (b1 lenG)) (eC (.int 1)) dSub)] dTup) (dAdd false)) (gtName 9))
        (sSeq (sIf (eTru (eIsT "str" (eVar 8))) (sAsg (eBin (eVar 4) (eApp [(eCall [(eVar 0), (eC (.int 3))] [] F__law_take)] dTup) (dAdd false)) (gtName 9)) sSkip) r)) [some (.ref c), some d, some x, some (.lst ((places n d).map enP)), some (enP p), o5, some y, some y, some old, none, none] S1 = r [some (.ref c), some d, some x, some (.lst ((places n d).map enP)), some (enP p), o5, some y, some y, some old, some (enP (p ++ [j])), none] S2 := by
    have hs : p.length + 1 ≤ sizeLine := by omega
    have h1 : isTy "str" "str" = true := by decide
    have h2 : isTy "str" "tuple" = false := by decide
    cases m0 with
    | zero => exact go.elim
    | succ m0 =>
      rcases go with ⟨s, rfl⟩ | ⟨nm, args, rfl, l, g'⟩
      · obtain ⟨j, hj, S2, e2, o2, s2⟩ := tk 3 o1 (by omega) (by decide)
        have e2' : F__law_take [.ref c, .int 3] S1 = .ok (.int (j : Int)) S2 := e2
        have ec := call_take (ρ := [some (.ref c), some d, some x, some (.lst ((places n d).map enP)), some (enP p), o5, some y, some y, some (.str s.1), some (enP (p ++ [(s.1.length : Int) - 1])), none]) (i := 0) rfl e2'
        refine ⟨j, S2, rfl, o2, s2, fun r => ?_⟩
        refine (sq (asg_ok (d := enP (p ++ [(s.1.length : Int) - 1])) (S1 := S1) ?_)).trans ?_
        · have := x_lenS (S := S1) (s := s.1) (by have := s.2; omega)
          simp [-x_lenS, this, enP, hs]
        dsimp only [List.set_cons_succ, List.set_cons_zero]
        refine (sq ((if_yes (S1 := S1) ?_).trans (asg_ok (d := enP (p ++ [(j : Int)])) (S1 := S2) ?_))).trans rfl
        · simp [tyS, h1]
        · simp only [x_bin, x_var, List.getElem?_cons_succ, List.getElem?_cons_zero, x_bind_ok, x_app, x_l1, x_l0, ec, x_tup, cat_enP (show p.length ≤ 1000 by omega)]
      · refine ⟨(args.length : Int), S1, ?_, o1.le (by omega), Sam.refl, fun r => ?_⟩
        · simp [partO]
        · refine (sq (asg_ok (d := enP (p ++ [(args.length : Int)])) (S1 := S1) ?_)).trans ?_
          · simp [enP, hs]
          dsimp only [List.set_cons_succ, List.set_cons_zero]
          refine (sq (if_skip (S1 := S1) ?_)).trans rfl
          simp [tyS, h2]
  have hbad : partO (p ++ [j]) d = none := by rw [part_app, eo]; exact hj
  have hbad0 : partO (p ++ [j] ++ [0]) d = none := by rw [part_app, hbad]; rfl
  have f1 := refused_ok (p := p ++ [j]) g hbad (by simp; omega) S2
  have f2 := refused_ok (p := p ++ [j] ++ [0]) g hbad0 (by simp; omega) S2
  -- above
  obtain ⟨a, ha, S3, e3, o3, s3⟩ := tk (p.length + 1) o2 (by omega) (by omega)
  have e3' : F__law_take [.ref c, .int ((p.length : Int) + 1)] S2 = .ok (.int (a : Int)) S3 := by rw [← e3]; simp
  obtain ⟨v, hv, S4, e4, o4, s4⟩ := tk 4 o3 (by omega) (by decide)
  have e4' : F__law_take [.ref c, .int 4] S3 = .ok (.int (v : Int)) S4 := e4
  have hneg : partO (p.take a ++ [-1 - (v : Int)]) d = none := by
    rw [part_app]
    cases q : partO (p.take a) d with
    | none => rfl
    | some w =>
      show partO [-1 - (v : Int)] w = none
      cases w with
      | tup l =>
        cases l with
        | nil => rfl
        | cons h args =>
          simp only [partO]
          rw [if_neg (by omega)]
      | _ => rfl
  have f3 := refused_ok (p := p.take a ++ [-1 - (v : Int)]) g hneg (by simp; omega) S4
  have l1 := listed_ok g (by omega) S4
  have l2 := listed_ok gx (by omega) S4
  have l3 := listed_ok gy (by omega) S4
  refine ⟨S4, ?_, o4, ((s1.trans s2).trans s3).trans s4⟩
  unfold B__law_one
  refine (sq (asg_ok (d := .lst ((places n d).map enP)) (S1 := S.push) ?_)).trans ?_
  · simp only [x_call, x_l1, x_l0, x_var, List.getElem?_cons_succ, List.getElem?_cons_zero, x_bind_ok, List.append_nil, cl]
  dsimp only [List.set_cons_succ, List.set_cons_zero]
  refine (sq (asg_ok (d := enP p) (S1 := S1) ?_)).trans ?_
  · have hix : atI ((places n d).map enP) (i : Int) = some (enP p) := by
      rw [Mi.atI_nat, List.getElem?_map, List.getElem?_eq_getElem hi]; rfl
    simp only [x_bin, x_call, x_l1, x_l0, x_var, List.getElem?_cons_succ, List.getElem?_cons_zero, x_bind_ok, List.append_nil, x_app, x_b1, x_lenL, List.length_map, x_of_some, e1, x_ixL, hix]
  dsimp only [List.set_cons_succ, List.set_cons_zero]
  refine (sq (for_ok (xs := (places n d).map enP) (src := none) (S1 := S1) rfl el)).trans ?_
  refine (sq (asg_ok (d := y) (S1 := S1) ?_)).trans ?_
  · simp only [x_call, x_l1, x_l0, x_var, List.getElem?_cons_succ, List.getElem?_cons_zero, x_bind_ok, List.append_nil, eput]
  dsimp only [List.set_cons_succ, List.set_cons_zero]
  refine (sq (asg_ok (d := y) (S1 := S1) ?_)).trans ?_
  · simp only [x_call, x_l1, x_l0, x_var, List.getElem?_cons_succ, List.getElem?_cons_zero, x_bind_ok, List.append_nil, erep]
  dsimp only [List.set_cons_succ, List.set_cons_zero]
  refine (sq (if_skip (S1 := S1) ?_)).trans ?_
  · simp only [x_or, x_tst, x_bin, x_call, x_l1, x_l0, x_var, List.getElem?_cons_succ, List.getElem?_cons_zero, x_bind_ok, List.append_nil, ny, eat, nx, x_of_some, x_blD, Bool.false_eq_true, if_false]
  refine (sq (asg_ok (d := old) (S1 := S1) ?_)).trans ?_
  · simp only [x_call, x_l1, x_l0, x_var, List.getElem?_cons_succ, List.getElem?_cons_zero, x_bind_ok, List.append_nil, elp]
  dsimp only [List.set_cons_succ, List.set_cons_zero]
  refine (sq (if_skip (S1 := S1) ?_)).trans ?_
  · simp only [x_tst, x_bin, x_call, x_l1, x_l0, x_var, List.getElem?_cons_succ, List.getElem?_cons_zero, x_bind_ok, List.append_nil, eback, nd, x_of_some, x_blD]
  refine (eb _).trans ?_
  have hs1 : (p ++ [j]).length + 1 ≤ sizeLine := by simp; omega
  refine (sq (if_skip (S1 := S2) ?_)).trans ?_
  · have hcat := cat_enP (p := p ++ [j]) (j := 0) (S := S2) (by simp; omega)
    simp only [x_or, x_not, x_tru, x_call, x_l1, x_l0, x_bin, x_app, x_C, x_tup, x_var, List.getElem?_cons_succ, List.getElem?_cons_zero, x_bind_ok, List.append_nil, f1, hcat, f2, x_truB, x_of_some, Bool.not_true, Bool.false_eq_true, if_false]
  refine (sq (asg_ok (d := enP (p.take a)) (S1 := S3) ?_)).trans ?_
  · have hct : cutG (p.map D.int) none (some (a : Int)) = (p.take a).map D.int := by rw [cut_to, List.map_take]
    simp only [x_sl, enP, x_var, List.getElem?_cons_succ, List.getElem?_cons_zero, x_bind_ok, x_oN, x_oS, x_call, x_l1, x_l0, x_bin, x_app, x_b1, x_lenT, List.length_map, x_of_some, x_C, x_addI, List.append_nil, e3', x_intD, Option.map_some, x_slT, hct]
  dsimp only [List.set_cons_succ, List.set_cons_zero]
  refine (sq (if_skip (S1 := S4) ?_)).trans ?_
  · have hcat := cat_enP (p := p.take a) (j := -1 - (v : Int)) (S := S4) (by simp; omega)
    have hng : eUn (eC (.int 1)) dNeg [some (.ref c), some d, some x, some (.lst ((places n d).map enP)), some (enP p), o5, some y, some y, some old, some (enP (p ++ [j])), some (enP (p.take a))] S3 = .ok (.int (-1)) S3 := rfl
    simp only [x_not, x_tru, x_call, x_l1, x_l0, x_bin, x_app, hng, x_C, x_tup, x_var, List.getElem?_cons_succ, List.getElem?_cons_zero, x_bind_ok, List.append_nil, e4', x_subI, hcat, f3, x_truB, x_of_some, Bool.not_true]
  refine ret_ok ?_
  simp only [x_andV, x_call, x_l1, x_l0, x_var, List.getElem?_cons_succ, List.getElem?_cons_zero, x_bind_ok, List.append_nil, l1, l2, l3, x_truB]
theorem start0 {S : Sto} {ns : List Int} (hn : ns.length ≤ 63) : ∃ c, F__law_start [.frl (ns.map .int)] S = .ok (.ref S.new) (S.add c) ∧ Ok S.new (S.add c) 0 := start_ok hn
theorem main : ∀ ns : List Int, ns.length ≤ 63 → ∃ S', F_law [scr ns] .nil = .ok (.bl true) S' := fun ns hns => by
  obtain ⟨c, e0, o0⟩ := start0 (S := Sto.nil.push) hns
  have hz : Sto.nil.push.new = 0 := rfl
  rw [hz] at e0 o0
  suffices h : Tru (B_law [some (scr ns), none, none, none, none] Sto.nil.push) by
    obtain ⟨S', h⟩ := h
    exact ⟨_, runV_lt (S' := S') h rfl⟩
  revert e0 o0
  generalize Sto.nil.push.add c = S0
  intro e0 o0
  have hlim : lim = 18446744073709551616 := rfl
  have c4 : cost 4 = 242 := rfl
  have c2 : cost 2 = 26 := rfl
  obtain ⟨d, S1, e1, g1, o1, s1⟩ := term_ok (n := 4) (m := 40) (by omega) o0 (by omega)
  obtain ⟨x, S2, e2, g2, o2, s2⟩ := term_ok (n := 2) (m := 40) (by omega) o1 (by omega)
  obtain ⟨S3, e3, o3, s3⟩ := one_ok o2 (by omega) g1 (by omega) g2 (by omega)
  obtain ⟨at_, S4, e4, g4, o4, s4⟩ := atom_ok o3 (by omega)
  obtain ⟨z, S5, e5, g5, o5, s5⟩ := term_ok (n := 2) (m := 40) (by omega) o4 (by omega)
  obtain ⟨S6, e6, o6, s6⟩ := one_ok o5 (by omega) g4 (by omega) g5 (by omega)
  have e1' : F__law_term 40 [.ref 0, .int 4] S0 = .ok d S1 := e1
  have e2' : F__law_term 40 [.ref 0, .int 2] S1 = .ok x S2 := e2
  have e5' : F__law_term 40 [.ref 0, .int 2] S4 = .ok z S5 := e5
  unfold B_law
  refine sqT (asg_ok (d := .ref 0) (S1 := S0) ?_) ?_
  · simp only [x_call, x_l1, x_l0, x_var, List.getElem?_cons_succ, List.getElem?_cons_zero, x_bind_ok, List.append_nil]
    exact e0
  dsimp only [List.set_cons_succ, List.set_cons_zero]
  refine sqT (asg_ok (d := d) (S1 := S1) ?_) ?_
  · simp only [x_call, x_l1, x_l0, x_var, x_C, List.getElem?_cons_succ, List.getElem?_cons_zero, x_bind_ok, List.append_nil, e1']
  dsimp only [List.set_cons_succ, List.set_cons_zero]
  refine sqT (asg_ok (d := x) (S1 := S2) ?_) ?_
  · simp only [x_call, x_l1, x_l0, x_var, x_C, List.getElem?_cons_succ, List.getElem?_cons_zero, x_bind_ok, List.append_nil, e2']
  dsimp only [List.set_cons_succ, List.set_cons_zero]
  refine sqT (if_skip (S1 := S3) ?_) ?_
  · simp only [x_not, x_tru, x_call, x_l1, x_l0, x_var, List.getElem?_cons_succ, List.getElem?_cons_zero, x_bind_ok, List.append_nil, e3, x_truB, x_of_some, Bool.not_true]
  refine sqT (asg_ok (d := at_) (S1 := S4) ?_) ?_
  · simp only [x_call, x_l1, x_l0, x_var, x_C, List.getElem?_cons_succ, List.getElem?_cons_zero, x_bind_ok, List.append_nil, e4]
  dsimp only [List.set_cons_succ, List.set_cons_zero]
  refine ⟨S6, ret_ok ?_⟩
  simp only [x_call, x_l1, x_l0, x_var, x_C, List.getElem?_cons_succ, List.getElem?_cons_zero, x_bind_ok, List.append_nil, e5', e6]
end K86

namespace K86
open PySem PySem.Spec PyProof.Rows L2 Mi
def topS (i : Nat) : Stmt := PySem.Challenge.pw_kingsandcourts_k86_parts_and_places.main.body.getD i (.Pass ⟨0, 0, 0, 0⟩)
abbrev s_is_unknown : Stmt := topS 4
theorem sc_is_unknown : FnScope ["term"] ["term"] (defScope s_is_unknown) := ⟨rfl, rfl, rfl, by decide +kernel, rfl, by decide +kernel, by decide +kernel⟩
abbrev s_term_size : Stmt := topS 5
theorem sc_term_size : FnScope ["term", "argument"] ["term"] (defScope s_term_size) := ⟨rfl, rfl, rfl, by decide +kernel, rfl, by decide +kernel, by decide +kernel⟩
abbrev s_places_of : Stmt := topS 6
theorem sc_places_of : FnScope ["term", "found", "index", "place"] ["term"] (defScope s_places_of) := ⟨rfl, rfl, rfl, by decide +kernel, rfl, by decide +kernel, by decide +kernel⟩
abbrev s_part_at : Stmt := topS 7
theorem sc_part_at : FnScope ["term", "place", "index"] ["term", "place"] (defScope s_part_at) := ⟨rfl, rfl, rfl, by decide +kernel, rfl, by decide +kernel, by decide +kernel⟩
abbrev s_replace_at : Stmt := topS 8
theorem sc_replace_at : FnScope ["term", "place", "part", "index", "changed"] ["term", "place", "part"] (defScope s_replace_at) := ⟨rfl, rfl, rfl, by decide +kernel, rfl, by decide +kernel, by decide +kernel⟩
abbrev s_parts_of : Stmt := topS 9
theorem sc_parts_of : FnScope ["term", "found", "place", "part"] ["term"] (defScope s_parts_of) := ⟨rfl, rfl, rfl, by decide +kernel, rfl, by decide +kernel, by decide +kernel⟩
abbrev s_unknowns_of : Stmt := topS 10
theorem sc_unknowns_of : FnScope ["term", "found", "argument", "name"] ["term"] (defScope s_unknowns_of) := ⟨rfl, rfl, rfl, by decide +kernel, rfl, by decide +kernel, by decide +kernel⟩
abbrev s__law_start : Stmt := topS 12
theorem sc__law_start : FnScope ["script", "row", "seed", "k", "cell", "j", "mixed"] ["script"] (defScope s__law_start) := ⟨rfl, rfl, rfl, by decide +kernel, rfl, by decide +kernel, by decide +kernel⟩
abbrev s__law_take : Stmt := topS 13
theorem sc__law_take : FnScope ["state", "many", "at", "mixed"] ["state", "many"] (defScope s__law_take) := ⟨rfl, rfl, rfl, by decide +kernel, rfl, by decide +kernel, by decide +kernel⟩
abbrev s__law_term : Stmt := topS 14
theorem sc__law_term : FnScope ["state", "depth", "kind", "leaves"] ["state", "depth"] (defScope s__law_term) := ⟨rfl, rfl, rfl, by decide +kernel, rfl, by decide +kernel, by decide +kernel⟩
abbrev s__law_atom : Stmt := topS 15
theorem sc__law_atom : FnScope ["state", "many", "names", "k"] ["state"] (defScope s__law_atom) := ⟨rfl, rfl, rfl, by decide +kernel, rfl, by decide +kernel, by decide +kernel⟩
abbrev s__law_places : Stmt := topS 16
theorem sc__law_places : FnScope ["term", "places", "k", "place"] ["term"] (defScope s__law_places) := ⟨rfl, rfl, rfl, by decide +kernel, rfl, by decide +kernel, by decide +kernel⟩
abbrev s__law_part : Stmt := topS 17
theorem sc__law_part : FnScope ["term", "place", "k"] ["term", "place"] (defScope s__law_part) := ⟨rfl, rfl, rfl, by decide +kernel, rfl, by decide +kernel, by decide +kernel⟩
abbrev s__law_put : Stmt := topS 18
theorem sc__law_put : FnScope ["term", "place", "part", "row"] ["term", "place", "part"] (defScope s__law_put) := ⟨rfl, rfl, rfl, by decide +kernel, rfl, by decide +kernel, by decide +kernel⟩
abbrev s__law_refused : Stmt := topS 19
theorem sc__law_refused : FnScope ["term", "place", "error"] ["term", "place"] (defScope s__law_refused) := ⟨rfl, rfl, rfl, by decide +kernel, rfl, by decide +kernel, by decide +kernel⟩
abbrev s__law_listed : Stmt := topS 20
theorem sc__law_listed : FnScope ["term", "parts", "found", "names", "part", "size", "told", "due", "place"] ["term"] (defScope s__law_listed) := ⟨rfl, rfl, rfl, by decide +kernel, rfl, by decide +kernel, by decide +kernel⟩
abbrev s__law_one : Stmt := topS 21
theorem sc__law_one : FnScope ["state", "term", "part", "places", "place", "here", "due", "actual", "old", "beyond", "above"] ["state", "term", "part"] (defScope s__law_one) := ⟨rfl, rfl, rfl, by decide +kernel, rfl, by decide +kernel, by decide +kernel⟩
abbrev s_law : Stmt := topS 22
theorem sc_law : FnScope ["script", "state", "term", "part", "atom"] ["script"] (defScope s_law) := ⟨rfl, rfl, rfl, by decide +kernel, rfl, by decide +kernel, by decide +kernel⟩
structure Txt (K : PySem.W.Frag) (mg : Str → Option Value) (w : World) : Prop where
  d_is_unknown : DefAt K mg "is_unknown" "is_unknown" s_is_unknown ["term"]
  d_term_size : DefAt K mg "term_size" "term_size" s_term_size ["term"]
  d_places_of : DefAt K mg "places_of" "places_of" s_places_of ["term"]
  d_part_at : DefAt K mg "part_at" "part_at" s_part_at ["term", "place"]
  d_replace_at : DefAt K mg "replace_at" "replace_at" s_replace_at ["term", "place", "part"]
  d_parts_of : DefAt K mg "parts_of" "parts_of" s_parts_of ["term"]
  d_unknowns_of : DefAt K mg "unknowns_of" "unknowns_of" s_unknowns_of ["term"]
  d__law_start : DefAt K mg "_law_start" "_law_start" s__law_start ["script"]
  d__law_take : DefAt K mg "_law_take" "_law_take" s__law_take ["state", "many"]
  d__law_term : DefAt K mg "_law_term" "_law_term" s__law_term ["state", "depth"]
  d__law_atom : DefAt K mg "_law_atom" "_law_atom" s__law_atom ["state"]
  d__law_places : DefAt K mg "_law_places" "_law_places" s__law_places ["term"]
  d__law_part : DefAt K mg "_law_part" "_law_part" s__law_part ["term", "place"]
  d__law_put : DefAt K mg "_law_put" "_law_put" s__law_put ["term", "place", "part"]
  d__law_refused : DefAt K mg "_law_refused" "_law_refused" s__law_refused ["term", "place"]
  d__law_listed : DefAt K mg "_law_listed" "_law_listed" s__law_listed ["term"]
  d__law_one : DefAt K mg "_law_one" "_law_one" s__law_one ["state", "term", "part"]
  d_law : DefAt K mg "law" "law" s_law ["script"]
  z_abs : mg "abs" = none
  z_bool : mg "bool" = none
  z_int : mg "int" = none
  z_isinstance : mg "isinstance" = none
  z_len : mg "len" = none
  z_list : mg "list" = none
  z_range : mg "range" = none
  z_str : mg "str" = none
  z_sum : mg "sum" = none
  z_tuple : mg "tuple" = none
  x_BadPlace : ExAt K mg "BadPlace"
  t_WorldOrPaperError : ExTab K mg "WorldOrPaperError" et_WorldOrPaperError
  i_BadPlace : ExIsAt K mg "BadPlace" ei_BadPlace
theorem body_is_unknown {P : Program} {w : World} {K : PySem.W.Frag} {mg : Str → Option Value} {base : Heap} {k : Nat} (T : Txt K mg w) (hk : 0 ≤ k) : BodyOk P w K mg base ["term"] "is_unknown" s_is_unknown k (B_is_unknown) := fun f cdv A outer s H E C =>
  (dss_one (ds_ret (de_isT (Ts := "str") rfl (by decide) T.z_isinstance T.z_str (by decide +kernel) (de_v 0))))
theorem ok_is_unknown {P : Program} {w : World} {K : PySem.W.Frag} {mg : Str → Option Value} {base : Heap} (T : Txt K mg w) : CallOk P w K mg base 1 "is_unknown" 1 [] F_is_unknown := T.d_is_unknown.okV sc_is_unknown (body_is_unknown (k := 0) T (by omega))
theorem body_term_size {P : Program} {w : World} {K : PySem.W.Frag} {mg : Str → Option Value} {base : Heap} {k : Nat} {r_term_size : List D → Sto → R D} (T : Txt K mg w) (hk : 1 ≤ k) (R_term_size : CallOk P w K mg base k "term_size" 1 [] r_term_size) : BodyOk P w K mg base ["term", "argument"] "term_size" s_term_size k (B_term_size r_term_size) := fun f cdv A outer s H E C =>
  (dss_cons (ds_if (dt_val (de_call C (ok_is_unknown T) (by omega) (da_cons (de_v 0) da_nil))) (dss_one (ds_ret de_int)) dss_nil)
  (dss_one (ds_ret (de_add (c := false) de_int (de_sum C T.z_sum (da_cons (de_lc (own := [("argument", 1)]) false C sc_term_size.nd (di_val (de_sl (c := false) (de_v 0) (do_some de_int) do_none)) (blkOk_by (own := [("argument", 1)]) (by show blkC ["term", "argument"] (defScope s_term_size) _ _ = true; decide +kernel)) (fun _ _ _ _ _ => (dgw_name sc_term_size.nd)) (fun _ _ _ _ _ => dts_nil) (fun _ _ _ _ _ => (de_call (Cz.blk C) R_term_size (by omega) (da_cons (de_v 1) da_nil)))) da_nil))))))
theorem ok_all_term_size {P : Program} {w : World} {K : PySem.W.Frag} {mg : Str → Option Value} {base : Heap} (T : Txt K mg w) : ∀ n : Nat, (CallOk P w K mg base (1 + n) "term_size" 1 [] (F_term_size n))
  | 0 => by
    exact T.d_term_size.bad _
  | n + 1 => by
    obtain h_term_size := ok_all_term_size T n
    exact T.d_term_size.okV sc_term_size (body_term_size (k := 1 + n) T (by omega) h_term_size)
theorem ok_term_size {P : Program} {w : World} {K : PySem.W.Frag} {mg : Str → Option Value} {base : Heap} (T : Txt K mg w) (n : Nat) : CallOk P w K mg base (1 + n) "term_size" 1 [] (F_term_size n) := (ok_all_term_size T n)
theorem body_places_of {P : Program} {w : World} {K : PySem.W.Frag} {mg : Str → Option Value} {base : Heap} {k : Nat} {r_places_of : List D → Sto → R D} (T : Txt K mg w) (hk : 1 ≤ k) (R_places_of : CallOk P w K mg base k "places_of" 1 [] r_places_of) : BodyOk P w K mg base ["term", "found", "index", "place"] "places_of" s_places_of k (B_places_of r_places_of) := fun f cdv A outer s H E C =>
  (dss_cons (ds_set sc_places_of.nd (de_lst (c := true) (da_cons (de_tup da_nil) da_nil)))
  (dss_cons (ds_if (dt_not (dt_val (de_call C (ok_is_unknown T) (by omega) (da_cons (de_v 0) da_nil)))) (dss_one (ds_for C (di_range2 T.z_range (da_cons de_int (da_cons (de_len T.z_len (da_cons (de_v 0) da_nil)) da_nil))) (dg_name sc_places_of.nd) (dss_one (ds_for C (di_val (de_call C R_places_of (by omega) (da_cons (de_ix C (de_v 0) (de_v 2)) da_nil))) (dg_name sc_places_of.nd) (dss_one (ds_expr (de_append (de_v 1) (da_cons (de_add (c := false) (de_tup (da_cons (de_sub (de_v 2) de_int) da_nil)) (de_v 3)) da_nil)))))))) dss_nil)
  (dss_one (ds_ret (de_v 1)))))
theorem ok_all_places_of {P : Program} {w : World} {K : PySem.W.Frag} {mg : Str → Option Value} {base : Heap} (T : Txt K mg w) : ∀ n : Nat, (CallOk P w K mg base (1 + n) "places_of" 1 [] (F_places_of n))
  | 0 => by
    exact T.d_places_of.bad _
  | n + 1 => by
    obtain h_places_of := ok_all_places_of T n
    exact T.d_places_of.okF sc_places_of (body_places_of (k := 1 + n) T (by omega) h_places_of)
theorem ok_places_of {P : Program} {w : World} {K : PySem.W.Frag} {mg : Str → Option Value} {base : Heap} (T : Txt K mg w) (n : Nat) : CallOk P w K mg base (1 + n) "places_of" 1 [] (F_places_of n) := (ok_all_places_of T n)
theorem body_part_at {P : Program} {w : World} {K : PySem.W.Frag} {mg : Str → Option Value} {base : Heap} {k : Nat} (T : Txt K mg w) (hk : 1 ≤ k) : BodyOk P w K mg base ["term", "place", "index"] "part_at" s_part_at k (B_part_at) := fun f cdv A outer s H E C =>
  (dss_cons (ds_for C (di_val (de_v 1)) (dg_name sc_part_at.nd) (dss_cons (ds_if (PW.pt (dw_or (dt_val (de_call C (ok_is_unknown T) (by omega) (da_cons (de_v 0) da_nil))) (dw_or1 (dt_not (dt_chain op_leU le_ok op_ltU lt_ok de_int (de_v 2) (de_sub (de_len T.z_len (da_cons (de_v 0) da_nil)) de_int)))))) (dss_one (ds_raise C T.x_BadPlace)) dss_nil)
  (dss_one (ds_set sc_part_at.nd (de_ix C (de_v 0) (de_add (c := false) (de_v 2) de_int))))))
  (dss_one (ds_ret (de_v 0))))
theorem ok_part_at {P : Program} {w : World} {K : PySem.W.Frag} {mg : Str → Option Value} {base : Heap} (T : Txt K mg w) : CallOk P w K mg base 2 "part_at" 2 [] F_part_at := T.d_part_at.okV sc_part_at (body_part_at (k := 1) T (by omega))
theorem body_replace_at {P : Program} {w : World} {K : PySem.W.Frag} {mg : Str → Option Value} {base : Heap} {k : Nat} {r_replace_at : List D → Sto → R D} (T : Txt K mg w) (hk : 1 ≤ k) (R_replace_at : CallOk P w K mg base k "replace_at" 3 [] r_replace_at) : BodyOk P w K mg base ["term", "place", "part", "index", "changed"] "replace_at" s_replace_at k (B_replace_at r_replace_at) := fun f cdv A outer s H E C =>
  (dss_cons (ds_if (dt_not (dt_val (de_v 1))) (dss_one (ds_ret (de_v 2))) dss_nil)
  (dss_cons (ds_set sc_replace_at.nd (de_ix C (de_v 1) de_int))
  (dss_cons (ds_if (PW.pt (dw_or (dt_val (de_call C (ok_is_unknown T) (by omega) (da_cons (de_v 0) da_nil))) (dw_or1 (dt_not (dt_chain op_leU le_ok op_ltU lt_ok de_int (de_v 3) (de_sub (de_len T.z_len (da_cons (de_v 0) da_nil)) de_int)))))) (dss_one (ds_raise C T.x_BadPlace)) dss_nil)
  (dss_cons (ds_set sc_replace_at.nd (de_call C R_replace_at (by omega) (da_cons (de_ix C (de_v 0) (de_add (c := false) (de_v 3) de_int)) (da_cons (de_sl (c := false) (de_v 1) (do_some de_int) do_none) (da_cons (de_v 2) da_nil)))))
  (dss_one (ds_ret (de_add (c := false) (de_add (c := false) (de_sl (c := false) (de_v 0) do_none (do_some (de_add (c := false) (de_v 3) de_int))) (de_tup (da_cons (de_v 4) da_nil))) (de_sl (c := false) (de_v 0) (do_some (de_add (c := false) (de_v 3) de_int)) do_none))))))))
theorem ok_all_replace_at {P : Program} {w : World} {K : PySem.W.Frag} {mg : Str → Option Value} {base : Heap} (T : Txt K mg w) : ∀ n : Nat, (CallOk P w K mg base (1 + n) "replace_at" 3 [] (F_replace_at n))
  | 0 => by
    exact T.d_replace_at.bad _
  | n + 1 => by
    obtain h_replace_at := ok_all_replace_at T n
    exact T.d_replace_at.okV sc_replace_at (body_replace_at (k := 1 + n) T (by omega) h_replace_at)
theorem ok_replace_at {P : Program} {w : World} {K : PySem.W.Frag} {mg : Str → Option Value} {base : Heap} (T : Txt K mg w) (n : Nat) : CallOk P w K mg base (1 + n) "replace_at" 3 [] (F_replace_at n) := (ok_all_replace_at T n)
theorem body_parts_of {P : Program} {w : World} {K : PySem.W.Frag} {mg : Str → Option Value} {base : Heap} {k : Nat} (T : Txt K mg w) (hk : 41 ≤ k) : BodyOk P w K mg base ["term", "found", "place", "part"] "parts_of" s_parts_of k (B_parts_of) := fun f cdv A outer s H E C =>
  (dss_cons (ds_set sc_parts_of.nd (de_lst (c := true) da_nil))
  (dss_cons (ds_for C (di_val (de_call C (ok_places_of T 40) (by omega) (da_cons (de_v 0) da_nil))) (dg_name sc_parts_of.nd) (dss_cons (ds_set sc_parts_of.nd (de_call C (ok_part_at T) (by omega) (da_cons (de_v 0) (da_cons (de_v 2) da_nil))))
  (dss_one (ds_if (dt_notIn C (de_v 3) (de_v 1)) (dss_one (ds_expr (de_append (de_v 1) (da_cons (de_v 3) da_nil)))) dss_nil))))
  (dss_one (ds_ret (de_v 1)))))
theorem ok_parts_of {P : Program} {w : World} {K : PySem.W.Frag} {mg : Str → Option Value} {base : Heap} (T : Txt K mg w) : CallOk P w K mg base 42 "parts_of" 1 [] F_parts_of := T.d_parts_of.okF sc_parts_of (body_parts_of (k := 41) T (by omega))
theorem body_unknowns_of {P : Program} {w : World} {K : PySem.W.Frag} {mg : Str → Option Value} {base : Heap} {k : Nat} {r_unknowns_of : List D → Sto → R D} (T : Txt K mg w) (hk : 1 ≤ k) (R_unknowns_of : CallOk P w K mg base k "unknowns_of" 1 [] r_unknowns_of) : BodyOk P w K mg base ["term", "found", "argument", "name"] "unknowns_of" s_unknowns_of k (B_unknowns_of r_unknowns_of) := fun f cdv A outer s H E C =>
  (dss_cons (ds_if (dt_val (de_call C (ok_is_unknown T) (by omega) (da_cons (de_v 0) da_nil))) (dss_one (ds_ret (de_lst (c := true) (da_cons (de_v 0) da_nil)))) dss_nil)
  (dss_cons (ds_set sc_unknowns_of.nd (de_lst (c := true) da_nil))
  (dss_cons (ds_for C (di_val (de_sl (c := false) (de_v 0) (do_some de_int) do_none)) (dg_name sc_unknowns_of.nd) (dss_one (ds_for C (di_val (de_call C R_unknowns_of (by omega) (da_cons (de_v 2) da_nil))) (dg_name sc_unknowns_of.nd) (dss_one (ds_if (dt_notIn C (de_v 3) (de_v 1)) (dss_one (ds_expr (de_append (de_v 1) (da_cons (de_v 3) da_nil)))) dss_nil)))))
  (dss_one (ds_ret (de_v 1))))))
theorem ok_all_unknowns_of {P : Program} {w : World} {K : PySem.W.Frag} {mg : Str → Option Value} {base : Heap} (T : Txt K mg w) : ∀ n : Nat, (CallOk P w K mg base (1 + n) "unknowns_of" 1 [] (F_unknowns_of n))
  | 0 => by
    exact T.d_unknowns_of.bad _
  | n + 1 => by
    obtain h_unknowns_of := ok_all_unknowns_of T n
    exact T.d_unknowns_of.okF sc_unknowns_of (body_unknowns_of (k := 1 + n) T (by omega) h_unknowns_of)
theorem ok_unknowns_of {P : Program} {w : World} {K : PySem.W.Frag} {mg : Str → Option Value} {base : Heap} (T : Txt K mg w) (n : Nat) : CallOk P w K mg base (1 + n) "unknowns_of" 1 [] (F_unknowns_of n) := (ok_all_unknowns_of T n)
theorem body__law_start {P : Program} {w : World} {K : PySem.W.Frag} {mg : Str → Option Value} {base : Heap} {k : Nat} (T : Txt K mg w) (hk : 0 ≤ k) : BodyOk P w K mg base ["script", "row", "seed", "k", "cell", "j", "mixed"] "_law_start" s__law_start k (B__law_start) := fun f cdv A outer s H E C =>
  (dss_cons (ds_set sc__law_start.nd (de_lst (c := true) da_nil))
  (dss_cons (ds_set sc__law_start.nd de_int)
  (dss_cons (ds_for C (di_range1 T.z_range (da_cons (de_len T.z_len (da_cons (de_v 0) da_nil)) da_nil)) (dg_name sc__law_start.nd) (dss_cons (ds_set sc__law_start.nd (de_abs T.z_abs (da_cons (de_ix C (de_v 0) (de_v 3)) da_nil)))
  (dss_cons (ds_set sc__law_start.nd (de_mod (de_intc T.z_int (da_cons (de_add (c := false) (de_add (c := false) (de_mul (de_v 2) de_int) (de_v 4)) (de_v 3)) da_nil)) de_int))
  (dss_one (ds_if (dt_ge C (de_v 4) (de_pow de_int de_int)) (dss_cons (ds_set sc__law_start.nd (de_sub (de_v 4) (de_pow de_int de_int)))
  (dss_one (ds_for C (di_range1 T.z_range (da_cons de_int da_nil)) (dg_name sc__law_start.nd) (dss_one (ds_if (dt_gt C (de_v 4) de_int) (dss_cons (ds_expr (de_append (de_v 1) (da_cons (de_mod (de_intc T.z_int (da_cons (de_v 4) da_nil)) de_int) da_nil)))
  (dss_one (ds_set sc__law_start.nd (de_fdiv (de_v 4) de_int)))) dss_nil))))) (dss_cons (ds_set sc__law_start.nd (de_mod (de_intc T.z_int (da_cons (de_add (c := false) (de_mul (de_add (c := false) (de_v 4) de_int) de_int) (de_mul (de_v 3) de_int)) da_nil)) de_int))
  (dss_cons (ds_set sc__law_start.nd (de_mod (de_intc T.z_int (da_cons (de_add (c := false) (de_mul (de_v 6) de_int) de_int) da_nil)) de_int))
  (dss_one (ds_expr (de_append (de_v 1) (da_cons (de_mod (de_fdiv (de_v 6) de_int) de_int) da_nil)))))))))))
  (dss_one (ds_ret (de_lst (c := true) (da_cons (de_v 1) (da_cons de_int (da_cons (de_v 2) da_nil)))))))))
theorem ok__law_start {P : Program} {w : World} {K : PySem.W.Frag} {mg : Str → Option Value} {base : Heap} (T : Txt K mg w) : CallOk P w K mg base 1 "_law_start" 1 [] F__law_start := T.d__law_start.okF sc__law_start (body__law_start (k := 0) T (by omega))
theorem body__law_take {P : Program} {w : World} {K : PySem.W.Frag} {mg : Str → Option Value} {base : Heap} {k : Nat} (T : Txt K mg w) (hk : 0 ≤ k) : BodyOk P w K mg base ["state", "many", "at", "mixed"] "_law_take" s__law_take k (B__law_take) := fun f cdv A outer s H E C =>
  (dss_cons (ds_set sc__law_take.nd (de_ix C (de_v 0) de_int))
  (dss_cons (ds_setIx C (de_v 0) de_int (de_add (c := false) (de_v 2) de_int))
  (dss_cons (ds_if (dt_lt C (de_v 2) (de_len T.z_len (da_cons (de_ix C (de_v 0) de_int) da_nil))) (dss_one (ds_ret (de_mod (de_intc T.z_int (da_cons (de_ix C (de_ix C (de_v 0) de_int) (de_v 2)) da_nil)) (de_v 1)))) dss_nil)
  (dss_cons (ds_set sc__law_take.nd (de_mod (de_intc T.z_int (da_cons (de_mul (de_add (c := false) (de_ix C (de_v 0) de_int) (de_mul (de_v 2) de_int)) de_int) da_nil)) de_int))
  (dss_cons (ds_set sc__law_take.nd (de_mod (de_intc T.z_int (da_cons (de_add (c := false) (de_mul (de_v 3) de_int) (de_mul (de_v 2) (de_v 2))) da_nil)) de_int))
  (dss_one (ds_ret (de_mod (de_fdiv (de_v 3) de_int) (de_v 1)))))))))
theorem ok__law_take {P : Program} {w : World} {K : PySem.W.Frag} {mg : Str → Option Value} {base : Heap} (T : Txt K mg w) : CallOk P w K mg base 1 "_law_take" 2 [] F__law_take := T.d__law_take.okV sc__law_take (body__law_take (k := 0) T (by omega))
theorem body__law_term {P : Program} {w : World} {K : PySem.W.Frag} {mg : Str → Option Value} {base : Heap} {k : Nat} {r__law_term : List D → Sto → R D} (T : Txt K mg w) (hk : 1 ≤ k) (R__law_term : CallOk P w K mg base k "_law_term" 2 [] r__law_term) : BodyOk P w K mg base ["state", "depth", "kind", "leaves"] "_law_term" s__law_term k (B__law_term r__law_term) := fun f cdv A outer s H E C =>
  (dss_cons (ds_set sc__law_term.nd (de_call C (ok__law_take T) (by omega) (da_cons (de_v 0) (da_cons de_int da_nil))))
  (dss_cons (ds_if (PW.pt (dw_or (dt_eq C (de_v 1) de_int) (dw_or1 (dt_lt C (de_v 2) de_int)))) (dss_cons (ds_set sc__law_term.nd (de_lst (c := false) (da_cons (de_strL (l := [120])) (da_cons (de_strL (l := [121])) (da_cons (de_strL (l := [122, 57])) (da_cons (de_tup (da_cons (de_strL (l := [97])) da_nil)) (da_cons (de_tup (da_cons (de_strL (l := [98])) da_nil)) (da_cons (de_tup (da_cons (de_strL (l := [108, 111, 110, 103, 110, 97, 109, 101, 49, 50])) da_nil)) da_nil))))))))
  (dss_one (ds_ret (de_ix C (de_v 3) (de_call C (ok__law_take T) (by omega) (da_cons (de_v 0) (da_cons de_int da_nil))))))) dss_nil)
  (dss_cons (ds_if (dt_lt C (de_v 2) de_int) (dss_one (ds_ret (de_tup (da_cons (de_strL (l := [102])) (da_cons (de_call C R__law_term (by omega) (da_cons (de_v 0) (da_cons (de_sub (de_v 1) de_int) da_nil))) da_nil))))) dss_nil)
  (dss_cons (ds_if (dt_lt C (de_v 2) de_int) (dss_one (ds_ret (de_tup (da_cons (de_strL (l := [103])) (da_cons (de_call C R__law_term (by omega) (da_cons (de_v 0) (da_cons (de_sub (de_v 1) de_int) da_nil))) (da_cons (de_call C R__law_term (by omega) (da_cons (de_v 0) (da_cons (de_sub (de_v 1) de_int) da_nil))) da_nil)))))) dss_nil)
  (dss_one (ds_ret (de_tup (da_cons (de_strL (l := [104, 50])) (da_cons (de_call C R__law_term (by omega) (da_cons (de_v 0) (da_cons (de_sub (de_v 1) de_int) da_nil))) (da_cons (de_call C R__law_term (by omega) (da_cons (de_v 0) (da_cons (de_sub (de_v 1) de_int) da_nil))) (da_cons (de_call C R__law_term (by omega) (da_cons (de_v 0) (da_cons (de_sub (de_v 1) de_int) da_nil))) da_nil)))))))))))
theorem ok_all__law_term {P : Program} {w : World} {K : PySem.W.Frag} {mg : Str → Option Value} {base : Heap} (T : Txt K mg w) : ∀ n : Nat, (CallOk P w K mg base (1 + n) "_law_term" 2 [] (F__law_term n))
  | 0 => by
    exact T.d__law_term.bad _
  | n + 1 => by
    obtain h__law_term := ok_all__law_term T n
    exact T.d__law_term.okV sc__law_term (body__law_term (k := 1 + n) T (by omega) h__law_term)
theorem ok__law_term {P : Program} {w : World} {K : PySem.W.Frag} {mg : Str → Option Value} {base : Heap} (T : Txt K mg w) (n : Nat) : CallOk P w K mg base (1 + n) "_law_term" 2 [] (F__law_term n) := (ok_all__law_term T n)
theorem body__law_atom {P : Program} {w : World} {K : PySem.W.Frag} {mg : Str → Option Value} {base : Heap} {k : Nat} (T : Txt K mg w) (hk : 41 ≤ k) : BodyOk P w K mg base ["state", "many", "names", "k"] "_law_atom" s__law_atom k (B__law_atom) := fun f cdv A outer s H E C =>
  (dss_cons (ds_set sc__law_atom.nd (de_call C (ok__law_take T) (by omega) (da_cons (de_v 0) (da_cons de_int da_nil))))
  (dss_cons (ds_set sc__law_atom.nd (de_lst (c := false) (da_cons (de_strL (l := [81])) (da_cons (de_strL (l := [80])) (da_cons (de_strL (l := [82, 49, 50])) (da_cons (de_strL (l := [76, 111, 110, 103, 110, 97, 109, 101, 49, 50, 51, 65])) da_nil))))))
  (dss_one (ds_ret (de_tuple T.z_tuple (da_cons (de_add (c := false) (de_lst (c := false) (da_cons (de_ix C (de_v 2) (de_v 1)) da_nil)) (de_lc (own := [("k", 3)]) false C sc__law_atom.nd (di_range1 T.z_range (da_cons (de_v 1) da_nil)) (blkOk_by (own := [("k", 3)]) (by show blkC ["state", "many", "names", "k"] (defScope s__law_atom) _ _ = true; decide +kernel)) (fun _ _ _ _ _ => (dgw_name sc__law_atom.nd)) (fun _ _ _ _ _ => dts_nil) (fun _ _ _ _ _ => (de_call (Cz.blk C) (ok__law_term T 40) (by omega) (da_cons (de_v 0) (da_cons de_int da_nil)))))) da_nil))))))
theorem ok__law_atom {P : Program} {w : World} {K : PySem.W.Frag} {mg : Str → Option Value} {base : Heap} (T : Txt K mg w) : CallOk P w K mg base 42 "_law_atom" 1 [] F__law_atom := T.d__law_atom.okV sc__law_atom (body__law_atom (k := 41) T (by omega))
theorem body__law_places {P : Program} {w : World} {K : PySem.W.Frag} {mg : Str → Option Value} {base : Heap} {k : Nat} {r__law_places : List D → Sto → R D} (T : Txt K mg w) (hk : 0 ≤ k) (R__law_places : CallOk P w K mg base k "_law_places" 1 [] r__law_places) : BodyOk P w K mg base ["term", "places", "k", "place"] "_law_places" s__law_places k (B__law_places r__law_places) := fun f cdv A outer s H E C =>
  (dss_cons (ds_set sc__law_places.nd (de_lst (c := false) (da_cons (de_tup da_nil) da_nil)))
  (dss_cons (ds_if (dt_not (dt_val (de_isT (Ts := "str") rfl (by decide) T.z_isinstance T.z_str (by decide +kernel) (de_v 0)))) (dss_one (ds_for C (di_range2 T.z_range (da_cons de_int (da_cons (de_len T.z_len (da_cons (de_v 0) da_nil)) da_nil))) (dg_name sc__law_places.nd) (dss_one (ds_set sc__law_places.nd (de_add (c := false) (de_v 1) (de_lc (own := [("place", 3)]) false C sc__law_places.nd (di_val (de_call C R__law_places (by omega) (da_cons (de_ix C (de_v 0) (de_v 2)) da_nil))) (blkOk_by (own := [("place", 3)]) (by show blkC ["term", "places", "k", "place"] (defScope s__law_places) _ _ = true; decide +kernel)) (fun _ _ _ _ _ => (dgw_name sc__law_places.nd)) (fun _ _ _ _ _ => dts_nil) (fun _ _ _ _ _ => (de_add (c := false) (de_tup (da_cons (de_sub (de_v 2) de_int) da_nil)) (de_v 3))))))))) dss_nil)
  (dss_one (ds_ret (de_v 1)))))
theorem ok_all__law_places {P : Program} {w : World} {K : PySem.W.Frag} {mg : Str → Option Value} {base : Heap} (T : Txt K mg w) : ∀ n : Nat, (CallOk P w K mg base (0 + n) "_law_places" 1 [] (F__law_places n))
  | 0 => by
    exact T.d__law_places.bad _
  | n + 1 => by
    obtain h__law_places := ok_all__law_places T n
    exact T.d__law_places.okV sc__law_places (body__law_places (k := 0 + n) T (by omega) h__law_places)
theorem ok__law_places {P : Program} {w : World} {K : PySem.W.Frag} {mg : Str → Option Value} {base : Heap} (T : Txt K mg w) (n : Nat) : CallOk P w K mg base (0 + n) "_law_places" 1 [] (F__law_places n) := (ok_all__law_places T n)
theorem body__law_part {P : Program} {w : World} {K : PySem.W.Frag} {mg : Str → Option Value} {base : Heap} {k : Nat} (T : Txt K mg w) (hk : 0 ≤ k) : BodyOk P w K mg base ["term", "place", "k"] "_law_part" s__law_part k (B__law_part) := fun f cdv A outer s H E C =>
  (dss_cons (ds_for C (di_val (de_v 1)) (dg_name sc__law_part.nd) (dss_one (ds_set sc__law_part.nd (de_ix C (de_v 0) (de_add (c := false) (de_v 2) de_int)))))
  (dss_one (ds_ret (de_v 0))))
theorem ok__law_part {P : Program} {w : World} {K : PySem.W.Frag} {mg : Str → Option Value} {base : Heap} (T : Txt K mg w) : CallOk P w K mg base 1 "_law_part" 2 [] F__law_part := T.d__law_part.okV sc__law_part (body__law_part (k := 0) T (by omega))
theorem body__law_put {P : Program} {w : World} {K : PySem.W.Frag} {mg : Str → Option Value} {base : Heap} {k : Nat} {r__law_put : List D → Sto → R D} (T : Txt K mg w) (hk : 0 ≤ k) (R__law_put : CallOk P w K mg base k "_law_put" 3 [] r__law_put) : BodyOk P w K mg base ["term", "place", "part", "row"] "_law_put" s__law_put k (B__law_put r__law_put) := fun f cdv A outer s H E C =>
  (dss_cons (ds_if (dt_eq C (de_len T.z_len (da_cons (de_v 1) da_nil)) de_int) (dss_one (ds_ret (de_v 2))) dss_nil)
  (dss_cons (ds_set sc__law_put.nd (de_list (c := true) T.z_list (da_cons (de_v 0) da_nil)))
  (dss_cons (ds_setIx C (de_v 3) (de_add (c := false) (de_ix C (de_v 1) de_int) de_int) (de_call C R__law_put (by omega) (da_cons (de_ix C (de_v 3) (de_add (c := false) (de_ix C (de_v 1) de_int) de_int)) (da_cons (de_sl (c := false) (de_v 1) (do_some de_int) do_none) (da_cons (de_v 2) da_nil)))))
  (dss_one (ds_ret (de_tuple T.z_tuple (da_cons (de_v 3) da_nil)))))))
theorem ok_all__law_put {P : Program} {w : World} {K : PySem.W.Frag} {mg : Str → Option Value} {base : Heap} (T : Txt K mg w) : ∀ n : Nat, (CallOk P w K mg base (0 + n) "_law_put" 3 [] (F__law_put n))
  | 0 => by
    exact T.d__law_put.bad _
  | n + 1 => by
    obtain h__law_put := ok_all__law_put T n
    exact T.d__law_put.okV sc__law_put (body__law_put (k := 0 + n) T (by omega) h__law_put)
theorem ok__law_put {P : Program} {w : World} {K : PySem.W.Frag} {mg : Str → Option Value} {base : Heap} (T : Txt K mg w) (n : Nat) : CallOk P w K mg base (0 + n) "_law_put" 3 [] (F__law_put n) := (ok_all__law_put T n)
theorem body__law_refused {P : Program} {w : World} {K : PySem.W.Frag} {mg : Str → Option Value} {base : Heap} {k : Nat} (T : Txt K mg w) (hk : 41 ≤ k) : BodyOk P w K mg base ["term", "place", "error"] "_law_refused" s__law_refused k (B__law_refused) := fun f cdv A outer s H E C =>
  (dss_cons (ds_tryAsE C sc__law_refused.nd T.t_WorldOrPaperError (fun _ _ _ C => (dss_one (ds_expr (de_call C (ok_part_at T) (by omega) (da_cons (de_v 0) (da_cons (de_v 1) da_nil)))))) (fun _ _ _ => (dss_one (ds_if (dt_not (dt_val (de_exI sc__law_refused.nd T.i_BadPlace T.z_isinstance))) (dss_one (ds_ret de_bl)) dss_nil))) (dss_one (ds_ret de_bl)))
  (dss_cons (ds_tryAs C sc__law_refused.nd T.t_WorldOrPaperError (fun _ _ _ C => (dss_one (ds_expr (de_call C (ok_replace_at T 40) (by omega) (da_cons (de_v 0) (da_cons (de_v 1) (da_cons (de_tup (da_cons (de_strL (l := [97])) da_nil)) da_nil))))))) (fun _ _ _ => (dss_one (ds_ret (de_exI sc__law_refused.nd T.i_BadPlace T.z_isinstance)))))
  (dss_one (ds_ret de_bl))))
theorem ok__law_refused {P : Program} {w : World} {K : PySem.W.Frag} {mg : Str → Option Value} {base : Heap} (T : Txt K mg w) : CallOk P w K mg base 42 "_law_refused" 2 [] F__law_refused := T.d__law_refused.okV sc__law_refused (body__law_refused (k := 41) T (by omega))
theorem body__law_listed {P : Program} {w : World} {K : PySem.W.Frag} {mg : Str → Option Value} {base : Heap} {k : Nat} (T : Txt K mg w) (hk : 42 ≤ k) : BodyOk P w K mg base ["term", "parts", "found", "names", "part", "size", "told", "due", "place"] "_law_listed" s__law_listed k (B__law_listed) := fun f cdv A outer s H E C =>
  (dss_cons (ds_setLc (own := [("place", 8)]) false C sc__law_listed.nd (sw_true rfl rfl rfl (by decide +kernel)) (di_val (de_call C (ok__law_places T 40) (by omega) (da_cons (de_v 0) da_nil))) (blkOk_by (own := [("place", 8)]) (by show blkC ["term", "parts", "found", "names", "part", "size", "told", "due", "place"] (defScope s__law_listed) _ _ = true; decide +kernel)) (fun _ _ _ _ _ => (dgw_name sc__law_listed.nd)) (fun _ _ _ _ _ => dts_nil) (fun _ _ _ _ _ => (de_call (Cz.blk C) (ok__law_part T) (by omega) (da_cons (de_v 0) (da_cons (de_v 8) da_nil)))))
  (dss_cons (ds_set sc__law_listed.nd (de_lst (c := true) da_nil))
  (dss_cons (ds_set sc__law_listed.nd (de_lst (c := true) da_nil))
  (dss_cons (ds_for C (di_val (de_v 1)) (dg_name sc__law_listed.nd) (dss_cons (ds_if (dt_notIn C (de_v 4) (de_v 2)) (dss_one (ds_expr (de_append (de_v 2) (da_cons (de_v 4) da_nil)))) dss_nil)
  (dss_one (ds_if (PW.pt (dw_and (dt_val (de_isT (Ts := "str") rfl (by decide) T.z_isinstance T.z_str (by decide +kernel) (de_v 4))) (dw_and1 (dt_notIn C (de_v 4) (de_v 3))))) (dss_one (ds_expr (de_append (de_v 3) (da_cons (de_v 4) da_nil)))) dss_nil))))
  (dss_cons (ds_set sc__law_listed.nd (de_call C (ok_term_size T 40) (by omega) (da_cons (de_v 0) da_nil)))
  (dss_cons (ds_if (PW.pt (dw_or (dt_not (dt_val (de_isT (Ts := "int") rfl (by decide) T.z_isinstance T.z_int (by decide +kernel) (de_v 5)))) (dw_or (dt_val (de_isT (Ts := "bool") rfl (by decide) T.z_isinstance T.z_bool (by decide +kernel) (de_v 5))) (dw_or1 (dt_ne C (de_v 5) (de_len T.z_len (da_cons (de_v 1) da_nil))))))) (dss_one (ds_ret de_bl)) dss_nil)
  (dss_cons (ds_set sc__law_listed.nd (de_lst (c := false) (da_cons (de_call C (ok_places_of T 40) (by omega) (da_cons (de_v 0) da_nil)) (da_cons (de_call C (ok_parts_of T) (by omega) (da_cons (de_v 0) da_nil)) (da_cons (de_call C (ok_unknowns_of T 40) (by omega) (da_cons (de_v 0) da_nil)) da_nil)))))
  (dss_cons (ds_set sc__law_listed.nd (de_lst (c := false) (da_cons (de_call C (ok__law_places T 40) (by omega) (da_cons (de_v 0) da_nil)) (da_cons (de_v 2) (da_cons (de_v 3) da_nil)))))
  (dss_cons (ds_if (dt_ne C (de_v 6) (de_v 7)) (dss_one (ds_ret de_bl)) dss_nil)
  (dss_cons (ds_expr (de_append (de_ix C (de_v 6) de_int) (da_cons (de_tup (da_cons de_int (da_cons de_int da_nil))) da_nil)))
  (dss_cons (ds_expr (de_reverse (de_ix C (de_v 6) de_int)))
  (dss_cons (ds_expr (de_append (de_ix C (de_v 6) de_int) (da_cons (de_tup (da_cons (de_strL (l := [97])) da_nil)) da_nil)))
  (dss_cons (ds_expr (de_append (de_ix C (de_v 6) de_int) (da_cons (de_strL (l := [122, 57])) da_nil)))
  (dss_one (ds_ret (de_eq C (de_lst (c := false) (da_cons (de_call C (ok_places_of T 40) (by omega) (da_cons (de_v 0) da_nil)) (da_cons (de_call C (ok_parts_of T) (by omega) (da_cons (de_v 0) da_nil)) (da_cons (de_call C (ok_unknowns_of T 40) (by omega) (da_cons (de_v 0) da_nil)) da_nil)))) (de_v 7)))))))))))))))))
theorem ok__law_listed {P : Program} {w : World} {K : PySem.W.Frag} {mg : Str → Option Value} {base : Heap} (T : Txt K mg w) : CallOk P w K mg base 43 "_law_listed" 1 [] F__law_listed := T.d__law_listed.okV sc__law_listed (body__law_listed (k := 42) T (by omega))
theorem body__law_one {P : Program} {w : World} {K : PySem.W.Frag} {mg : Str → Option Value} {base : Heap} {k : Nat} (T : Txt K mg w) (hk : 43 ≤ k) : BodyOk P w K mg base ["state", "term", "part", "places", "place", "here", "due", "actual", "old", "beyond", "above"] "_law_one" s__law_one k (B__law_one) := fun f cdv A outer s H E C =>
  (dss_cons (ds_set sc__law_one.nd (de_call C (ok__law_places T 40) (by omega) (da_cons (de_v 1) da_nil)))
  (dss_cons (ds_set sc__law_one.nd (de_ix C (de_v 3) (de_call C (ok__law_take T) (by omega) (da_cons (de_v 0) (da_cons (de_len T.z_len (da_cons (de_v 3) da_nil)) da_nil)))))
  (dss_cons (ds_for C (di_val (de_v 3)) (dg_name sc__law_one.nd) (dss_one (ds_if (dt_ne C (de_call C (ok_part_at T) (by omega) (da_cons (de_v 1) (da_cons (de_v 5) da_nil))) (de_call C (ok__law_part T) (by omega) (da_cons (de_v 1) (da_cons (de_v 5) da_nil)))) (dss_one (ds_ret de_bl)) dss_nil)))
  (dss_cons (ds_set sc__law_one.nd (de_call C (ok__law_put T 40) (by omega) (da_cons (de_v 1) (da_cons (de_v 4) (da_cons (de_v 2) da_nil)))))
  (dss_cons (ds_set sc__law_one.nd (de_call C (ok_replace_at T 40) (by omega) (da_cons (de_v 1) (da_cons (de_v 4) (da_cons (de_v 2) da_nil)))))
  (dss_cons (ds_if (PW.pt (dw_or (dt_ne C (de_v 7) (de_v 6)) (dw_or1 (dt_ne C (de_call C (ok_part_at T) (by omega) (da_cons (de_v 7) (da_cons (de_v 4) da_nil))) (de_v 2))))) (dss_one (ds_ret de_bl)) dss_nil)
  (dss_cons (ds_set sc__law_one.nd (de_call C (ok__law_part T) (by omega) (da_cons (de_v 1) (da_cons (de_v 4) da_nil))))
  (dss_cons (ds_if (dt_ne C (de_call C (ok_replace_at T 40) (by omega) (da_cons (de_v 7) (da_cons (de_v 4) (da_cons (de_v 8) da_nil)))) (de_v 1)) (dss_one (ds_ret de_bl)) dss_nil)
  (dss_cons (ds_set sc__law_one.nd (de_add (c := false) (de_v 4) (de_tup (da_cons (de_sub (de_len T.z_len (da_cons (de_v 8) da_nil)) de_int) da_nil))))
  (dss_cons (ds_if (dt_val (de_isT (Ts := "str") rfl (by decide) T.z_isinstance T.z_str (by decide +kernel) (de_v 8))) (dss_one (ds_set sc__law_one.nd (de_add (c := false) (de_v 4) (de_tup (da_cons (de_call C (ok__law_take T) (by omega) (da_cons (de_v 0) (da_cons de_int da_nil))) da_nil))))) dss_nil)
  (dss_cons (ds_if (PW.pt (dw_or (dt_not (dt_val (de_call C (ok__law_refused T) (by omega) (da_cons (de_v 1) (da_cons (de_v 9) da_nil))))) (dw_or1 (dt_not (dt_val (de_call C (ok__law_refused T) (by omega) (da_cons (de_v 1) (da_cons (de_add (c := false) (de_v 9) (de_tup (da_cons de_int da_nil))) da_nil)))))))) (dss_one (ds_ret de_bl)) dss_nil)
  (dss_cons (ds_set sc__law_one.nd (de_sl (c := false) (de_v 4) do_none (do_some (de_call C (ok__law_take T) (by omega) (da_cons (de_v 0) (da_cons (de_add (c := false) (de_len T.z_len (da_cons (de_v 4) da_nil)) de_int) da_nil))))))
  (dss_cons (ds_if (dt_not (dt_val (de_call C (ok__law_refused T) (by omega) (da_cons (de_v 1) (da_cons (de_add (c := false) (de_v 10) (de_tup (da_cons (de_sub (de_neg de_int) (de_call C (ok__law_take T) (by omega) (da_cons (de_v 0) (da_cons de_int da_nil)))) da_nil))) da_nil))))) (dss_one (ds_ret de_bl)) dss_nil)
  (dss_one (ds_ret (de_and (de_call C (ok__law_listed T) (by omega) (da_cons (de_v 1) da_nil)) (de_and (de_call C (ok__law_listed T) (by omega) (da_cons (de_v 2) da_nil)) (de_one (de_call C (ok__law_listed T) (by omega) (da_cons (de_v 6) da_nil))))))))))))))))))))
theorem ok__law_one {P : Program} {w : World} {K : PySem.W.Frag} {mg : Str → Option Value} {base : Heap} (T : Txt K mg w) : CallOk P w K mg base 44 "_law_one" 3 [] F__law_one := T.d__law_one.okV sc__law_one (body__law_one (k := 43) T (by omega))
theorem body_law {P : Program} {w : World} {K : PySem.W.Frag} {mg : Str → Option Value} {base : Heap} {k : Nat} (T : Txt K mg w) (hk : 44 ≤ k) : BodyOk P w K mg base ["script", "state", "term", "part", "atom"] "law" s_law k (B_law) := fun f cdv A outer s H E C =>
  (dss_cons (ds_set sc_law.nd (de_call C (ok__law_start T) (by omega) (da_cons (de_v 0) da_nil)))
  (dss_cons (ds_set sc_law.nd (de_call C (ok__law_term T 40) (by omega) (da_cons (de_v 1) (da_cons de_int da_nil))))
  (dss_cons (ds_set sc_law.nd (de_call C (ok__law_term T 40) (by omega) (da_cons (de_v 1) (da_cons de_int da_nil))))
  (dss_cons (ds_if (dt_not (dt_val (de_call C (ok__law_one T) (by omega) (da_cons (de_v 1) (da_cons (de_v 2) (da_cons (de_v 3) da_nil)))))) (dss_one (ds_ret de_bl)) dss_nil)
  (dss_cons (ds_set sc_law.nd (de_call C (ok__law_atom T) (by omega) (da_cons (de_v 1) da_nil)))
  (dss_one (ds_ret (de_call C (ok__law_one T) (by omega) (da_cons (de_v 1) (da_cons (de_v 4) (da_cons (de_call C (ok__law_term T 40) (by omega) (da_cons (de_v 1) (da_cons de_int da_nil))) da_nil)))))))))))
theorem ok_law {P : Program} {w : World} {K : PySem.W.Frag} {mg : Str → Option Value} {base : Heap} (T : Txt K mg w) : CallOk P w K mg base 45 "law" 1 [] F_law := T.d_law.okV sc_law (body_law (k := 44) T (by omega))
theorem law_base {l : PySem.W.OpenLaw} {w : World} {K : PySem.W.Frag} {h : Heap} {mg : Str → Option Value} {fa : Addr} {f_is_unknown f_term_size f_places_of f_part_at f_replace_at f_parts_of f_unknowns_of f__law_start f__law_take f__law_term f__law_atom f__law_places f__law_part f__law_put f__law_refused f__law_listed f__law_one f_law : Addr} {od_is_unknown an_is_unknown od_term_size an_term_size od_places_of an_places_of od_part_at an_part_at od_replace_at an_replace_at od_parts_of an_parts_of od_unknowns_of an_unknowns_of od__law_start an__law_start od__law_take an__law_take od__law_term an__law_term od__law_atom an__law_atom od__law_places an__law_places od__law_part an__law_part od__law_put an__law_put od__law_refused an__law_refused od__law_listed an__law_listed od__law_one an__law_one od_law an_law : Option Addr} {sl_is_unknown sl_term_size sl_places_of sl_part_at sl_replace_at sl_parts_of sl_unknowns_of sl__law_start sl__law_take sl__law_term sl__law_atom sl__law_places sl__law_part sl__law_put sl__law_refused sl__law_listed sl__law_one sl_law : Array (Option Value)} {oc_is_unknown kV_is_unknown dc_is_unknown pm_is_unknown cd_is_unknown ct_is_unknown oc_term_size kV_term_size dc_term_size pm_term_size cd_term_size ct_term_size oc_places_of kV_places_of dc_places_of pm_places_of cd_places_of ct_places_of oc_part_at kV_part_at dc_part_at pm_part_at cd_part_at ct_part_at oc_replace_at kV_replace_at dc_replace_at pm_replace_at cd_replace_at ct_replace_at oc_parts_of kV_parts_of dc_parts_of pm_parts_of cd_parts_of ct_parts_of oc_unknowns_of kV_unknowns_of dc_unknowns_of pm_unknowns_of cd_unknowns_of ct_unknowns_of oc__law_start kV__law_start dc__law_start pm__law_start cd__law_start ct__law_start oc__law_take kV__law_take dc__law_take pm__law_take cd__law_take ct__law_take oc__law_term kV__law_term dc__law_term pm__law_term cd__law_term ct__law_term oc__law_atom kV__law_atom dc__law_atom pm__law_atom cd__law_atom ct__law_atom oc__law_places kV__law_places dc__law_places pm__law_places cd__law_places ct__law_places oc__law_part kV__law_part dc__law_part pm__law_part cd__law_part ct__law_part oc__law_put kV__law_put dc__law_put pm__law_put cd__law_put ct__law_put oc__law_refused kV__law_refused dc__law_refused pm__law_refused cd__law_refused ct__law_refused oc__law_listed kV__law_listed dc__law_listed pm__law_listed cd__law_listed ct__law_listed oc__law_one kV__law_one dc__law_one pm__law_one cd__law_one ct__law_one oc_law kV_law dc_law pm_law cd_law ct_law : Value} {C_BadPlace : Addr} {C_WorldOrPaperError : Addr} (X : K.In h) (G : h.Ns mainGlobals mg) (hfa : mg "law" = some (.ref fa))
    (a_BadPlace : PySem.W.nsIn K mainGlobals "BadPlace" = some (some (.ref C_BadPlace)))
    (a_WorldOrPaperError : PySem.W.nsIn K mainGlobals "WorldOrPaperError" = some (some (.ref C_WorldOrPaperError)))
    (a_is_unknown : PySem.W.nsIn K mainGlobals "is_unknown" = some (some (.ref f_is_unknown)))
    (l_is_unknown : K.lookup f_is_unknown = some ⟨oc_is_unknown, od_is_unknown, .func (PySem.W.fnOf "is_unknown" "is_unknown" (defArgs s_is_unknown) (defBody s_is_unknown) (defScope s_is_unknown) .none kV_is_unknown dc_is_unknown pm_is_unknown an_is_unknown cd_is_unknown ct_is_unknown), sl_is_unknown⟩) (e_is_unknown : PySem.W.codeIn K cd_is_unknown "is_unknown" = true) (k_is_unknown : PySem.W.keepIn K (.ref f_is_unknown) = true)
    (a_term_size : PySem.W.nsIn K mainGlobals "term_size" = some (some (.ref f_term_size)))
    (l_term_size : K.lookup f_term_size = some ⟨oc_term_size, od_term_size, .func (PySem.W.fnOf "term_size" "term_size" (defArgs s_term_size) (defBody s_term_size) (defScope s_term_size) .none kV_term_size dc_term_size pm_term_size an_term_size cd_term_size ct_term_size), sl_term_size⟩) (e_term_size : PySem.W.codeIn K cd_term_size "term_size" = true) (k_term_size : PySem.W.keepIn K (.ref f_term_size) = true)
    (a_places_of : PySem.W.nsIn K mainGlobals "places_of" = some (some (.ref f_places_of)))
    (l_places_of : K.lookup f_places_of = some ⟨oc_places_of, od_places_of, .func (PySem.W.fnOf "places_of" "places_of" (defArgs s_places_of) (defBody s_places_of) (defScope s_places_of) .none kV_places_of dc_places_of pm_places_of an_places_of cd_places_of ct_places_of), sl_places_of⟩) (e_places_of : PySem.W.codeIn K cd_places_of "places_of" = true) (k_places_of : PySem.W.keepIn K (.ref f_places_of) = true)
    (a_part_at : PySem.W.nsIn K mainGlobals "part_at" = some (some (.ref f_part_at)))
    (l_part_at : K.lookup f_part_at = some ⟨oc_part_at, od_part_at, .func (PySem.W.fnOf "part_at" "part_at" (defArgs s_part_at) (defBody s_part_at) (defScope s_part_at) .none kV_part_at dc_part_at pm_part_at an_part_at cd_part_at ct_part_at), sl_part_at⟩) (e_part_at : PySem.W.codeIn K cd_part_at "part_at" = true) (k_part_at : PySem.W.keepIn K (.ref f_part_at) = true)
    (a_replace_at : PySem.W.nsIn K mainGlobals "replace_at" = some (some (.ref f_replace_at)))
    (l_replace_at : K.lookup f_replace_at = some ⟨oc_replace_at, od_replace_at, .func (PySem.W.fnOf "replace_at" "replace_at" (defArgs s_replace_at) (defBody s_replace_at) (defScope s_replace_at) .none kV_replace_at dc_replace_at pm_replace_at an_replace_at cd_replace_at ct_replace_at), sl_replace_at⟩) (e_replace_at : PySem.W.codeIn K cd_replace_at "replace_at" = true) (k_replace_at : PySem.W.keepIn K (.ref f_replace_at) = true)
    (a_parts_of : PySem.W.nsIn K mainGlobals "parts_of" = some (some (.ref f_parts_of)))
    (l_parts_of : K.lookup f_parts_of = some ⟨oc_parts_of, od_parts_of, .func (PySem.W.fnOf "parts_of" "parts_of" (defArgs s_parts_of) (defBody s_parts_of) (defScope s_parts_of) .none kV_parts_of dc_parts_of pm_parts_of an_parts_of cd_parts_of ct_parts_of), sl_parts_of⟩) (e_parts_of : PySem.W.codeIn K cd_parts_of "parts_of" = true) (k_parts_of : PySem.W.keepIn K (.ref f_parts_of) = true)
    (a_unknowns_of : PySem.W.nsIn K mainGlobals "unknowns_of" = some (some (.ref f_unknowns_of)))
    (l_unknowns_of : K.lookup f_unknowns_of = some ⟨oc_unknowns_of, od_unknowns_of, .func (PySem.W.fnOf "unknowns_of" "unknowns_of" (defArgs s_unknowns_of) (defBody s_unknowns_of) (defScope s_unknowns_of) .none kV_unknowns_of dc_unknowns_of pm_unknowns_of an_unknowns_of cd_unknowns_of ct_unknowns_of), sl_unknowns_of⟩) (e_unknowns_of : PySem.W.codeIn K cd_unknowns_of "unknowns_of" = true) (k_unknowns_of : PySem.W.keepIn K (.ref f_unknowns_of) = true)
    (a__law_start : PySem.W.nsIn K mainGlobals "_law_start" = some (some (.ref f__law_start)))
    (l__law_start : K.lookup f__law_start = some ⟨oc__law_start, od__law_start, .func (PySem.W.fnOf "_law_start" "_law_start" (defArgs s__law_start) (defBody s__law_start) (defScope s__law_start) .none kV__law_start dc__law_start pm__law_start an__law_start cd__law_start ct__law_start), sl__law_start⟩) (e__law_start : PySem.W.codeIn K cd__law_start "_law_start" = true) (k__law_start : PySem.W.keepIn K (.ref f__law_start) = true)
    (a__law_take : PySem.W.nsIn K mainGlobals "_law_take" = some (some (.ref f__law_take)))
    (l__law_take : K.lookup f__law_take = some ⟨oc__law_take, od__law_take, .func (PySem.W.fnOf "_law_take" "_law_take" (defArgs s__law_take) (defBody s__law_take) (defScope s__law_take) .none kV__law_take dc__law_take pm__law_take an__law_take cd__law_take ct__law_take), sl__law_take⟩) (e__law_take : PySem.W.codeIn K cd__law_take "_law_take" = true) (k__law_take : PySem.W.keepIn K (.ref f__law_take) = true)
    (a__law_term : PySem.W.nsIn K mainGlobals "_law_term" = some (some (.ref f__law_term)))
    (l__law_term : K.lookup f__law_term = some ⟨oc__law_term, od__law_term, .func (PySem.W.fnOf "_law_term" "_law_term" (defArgs s__law_term) (defBody s__law_term) (defScope s__law_term) .none kV__law_term dc__law_term pm__law_term an__law_term cd__law_term ct__law_term), sl__law_term⟩) (e__law_term : PySem.W.codeIn K cd__law_term "_law_term" = true) (k__law_term : PySem.W.keepIn K (.ref f__law_term) = true)
    (a__law_atom : PySem.W.nsIn K mainGlobals "_law_atom" = some (some (.ref f__law_atom)))
    (l__law_atom : K.lookup f__law_atom = some ⟨oc__law_atom, od__law_atom, .func (PySem.W.fnOf "_law_atom" "_law_atom" (defArgs s__law_atom) (defBody s__law_atom) (defScope s__law_atom) .none kV__law_atom dc__law_atom pm__law_atom an__law_atom cd__law_atom ct__law_atom), sl__law_atom⟩) (e__law_atom : PySem.W.codeIn K cd__law_atom "_law_atom" = true) (k__law_atom : PySem.W.keepIn K (.ref f__law_atom) = true)
    (a__law_places : PySem.W.nsIn K mainGlobals "_law_places" = some (some (.ref f__law_places)))
    (l__law_places : K.lookup f__law_places = some ⟨oc__law_places, od__law_places, .func (PySem.W.fnOf "_law_places" "_law_places" (defArgs s__law_places) (defBody s__law_places) (defScope s__law_places) .none kV__law_places dc__law_places pm__law_places an__law_places cd__law_places ct__law_places), sl__law_places⟩) (e__law_places : PySem.W.codeIn K cd__law_places "_law_places" = true) (k__law_places : PySem.W.keepIn K (.ref f__law_places) = true)
    (a__law_part : PySem.W.nsIn K mainGlobals "_law_part" = some (some (.ref f__law_part)))
    (l__law_part : K.lookup f__law_part = some ⟨oc__law_part, od__law_part, .func (PySem.W.fnOf "_law_part" "_law_part" (defArgs s__law_part) (defBody s__law_part) (defScope s__law_part) .none kV__law_part dc__law_part pm__law_part an__law_part cd__law_part ct__law_part), sl__law_part⟩) (e__law_part : PySem.W.codeIn K cd__law_part "_law_part" = true) (k__law_part : PySem.W.keepIn K (.ref f__law_part) = true)
    (a__law_put : PySem.W.nsIn K mainGlobals "_law_put" = some (some (.ref f__law_put)))
    (l__law_put : K.lookup f__law_put = some ⟨oc__law_put, od__law_put, .func (PySem.W.fnOf "_law_put" "_law_put" (defArgs s__law_put) (defBody s__law_put) (defScope s__law_put) .none kV__law_put dc__law_put pm__law_put an__law_put cd__law_put ct__law_put), sl__law_put⟩) (e__law_put : PySem.W.codeIn K cd__law_put "_law_put" = true) (k__law_put : PySem.W.keepIn K (.ref f__law_put) = true)
    (a__law_refused : PySem.W.nsIn K mainGlobals "_law_refused" = some (some (.ref f__law_refused)))
    (l__law_refused : K.lookup f__law_refused = some ⟨oc__law_refused, od__law_refused, .func (PySem.W.fnOf "_law_refused" "_law_refused" (defArgs s__law_refused) (defBody s__law_refused) (defScope s__law_refused) .none kV__law_refused dc__law_refused pm__law_refused an__law_refused cd__law_refused ct__law_refused), sl__law_refused⟩) (e__law_refused : PySem.W.codeIn K cd__law_refused "_law_refused" = true) (k__law_refused : PySem.W.keepIn K (.ref f__law_refused) = true)
    (a__law_listed : PySem.W.nsIn K mainGlobals "_law_listed" = some (some (.ref f__law_listed)))
    (l__law_listed : K.lookup f__law_listed = some ⟨oc__law_listed, od__law_listed, .func (PySem.W.fnOf "_law_listed" "_law_listed" (defArgs s__law_listed) (defBody s__law_listed) (defScope s__law_listed) .none kV__law_listed dc__law_listed pm__law_listed an__law_listed cd__law_listed ct__law_listed), sl__law_listed⟩) (e__law_listed : PySem.W.codeIn K cd__law_listed "_law_listed" = true) (k__law_listed : PySem.W.keepIn K (.ref f__law_listed) = true)
    (a__law_one : PySem.W.nsIn K mainGlobals "_law_one" = some (some (.ref f__law_one)))
    (l__law_one : K.lookup f__law_one = some ⟨oc__law_one, od__law_one, .func (PySem.W.fnOf "_law_one" "_law_one" (defArgs s__law_one) (defBody s__law_one) (defScope s__law_one) .none kV__law_one dc__law_one pm__law_one an__law_one cd__law_one ct__law_one), sl__law_one⟩) (e__law_one : PySem.W.codeIn K cd__law_one "_law_one" = true) (k__law_one : PySem.W.keepIn K (.ref f__law_one) = true)
    (a_law : PySem.W.nsIn K mainGlobals "law" = some (some (.ref f_law)))
    (l_law : K.lookup f_law = some ⟨oc_law, od_law, .func (PySem.W.fnOf "law" "law" (defArgs s_law) (defBody s_law) (defScope s_law) .none kV_law dc_law pm_law an_law cd_law ct_law), sl_law⟩) (e_law : PySem.W.codeIn K cd_law "law" = true) (k_law : PySem.W.keepIn K (.ref f_law) = true)
    (z_abs : PySem.W.nsIn K mainGlobals "abs" = some none)
    (z_bool : PySem.W.nsIn K mainGlobals "bool" = some none)
    (z_int : PySem.W.nsIn K mainGlobals "int" = some none)
    (z_isinstance : PySem.W.nsIn K mainGlobals "isinstance" = some none)
    (z_len : PySem.W.nsIn K mainGlobals "len" = some none)
    (z_list : PySem.W.nsIn K mainGlobals "list" = some none)
    (z_range : PySem.W.nsIn K mainGlobals "range" = some none)
    (z_str : PySem.W.nsIn K mainGlobals "str" = some none)
    (z_sum : PySem.W.nsIn K mainGlobals "sum" = some none)
    (z_tuple : PySem.W.nsIn K mainGlobals "tuple" = some none)
    (xe_BadPlace : PySem.W.excIn K C_BadPlace [.type "ValueError", .type "Exception", .type "BaseException", .type "object"] "ValueError.__new__" = true) (xk_BadPlace : PySem.W.keepIn K (.ref C_BadPlace) = true) (xs_BadPlace : PySem.W.subIn K (.ref C_BadPlace) (.type "BaseException") = some true) (xt_BadPlace : PySem.W.typeIn K (.ref C_BadPlace) = some (.type "type"))
    (xs_WorldOrPaperError : PySem.W.subIn K (.ref C_WorldOrPaperError) (.type "BaseException") = some true) (xt_WorldOrPaperError : PySem.W.typeIn K (.ref C_WorldOrPaperError) = some (.type "type"))
    (xd_WorldOrPaperError : PySem.W.hasDictIn K C_WorldOrPaperError = true)
    (sb_BadPlace_WorldOrPaperError : PySem.W.subIn K (.ref C_BadPlace) (.ref C_WorldOrPaperError) = some true)
    (kt_BadPlace_BadPlace : PySem.W.kitOne K (.ref C_BadPlace) (.ref C_BadPlace) = some true)
    (xc_BadPlace : L2.ExcC K C_BadPlace)
    (main : ∀ ns : List Int, ns.length ≤ 63 → ∃ S', F_law [scr ns] .nil = .ok (.bl true) S') :
    ∃ fd : FuncData, (∀ (s : Shared) (v : Value), BindsTo s fd ⟨[v], []⟩ [("script", v)]) ∧ ∀ base : Heap, K.In base → base.Ns mainGlobals mg → FnOk l.prog w K mg base (L2.CX l.prog w) 45 fa fd ["script"] (spLaw K) := by
  have e := hfa.symm.trans (PySem.W.mg_of X G a_law)
  cases e
  have T : Txt K mg w := {
    d_is_unknown := defAt_mk X G a_is_unknown l_is_unknown e_is_unknown k_is_unknown fun _ _ _ _ _ _ us hl => match us, hl with | [_], _ => rfl,
    d_term_size := defAt_mk X G a_term_size l_term_size e_term_size k_term_size fun _ _ _ _ _ _ us hl => match us, hl with | [_], _ => rfl,
    d_places_of := defAt_mk X G a_places_of l_places_of e_places_of k_places_of fun _ _ _ _ _ _ us hl => match us, hl with | [_], _ => rfl,
    d_part_at := defAt_mk X G a_part_at l_part_at e_part_at k_part_at fun _ _ _ _ _ _ us hl => match us, hl with | [_, _], _ => rfl,
    d_replace_at := defAt_mk X G a_replace_at l_replace_at e_replace_at k_replace_at fun _ _ _ _ _ _ us hl => match us, hl with | [_, _, _], _ => rfl,
    d_parts_of := defAt_mk X G a_parts_of l_parts_of e_parts_of k_parts_of fun _ _ _ _ _ _ us hl => match us, hl with | [_], _ => rfl,
    d_unknowns_of := defAt_mk X G a_unknowns_of l_unknowns_of e_unknowns_of k_unknowns_of fun _ _ _ _ _ _ us hl => match us, hl with | [_], _ => rfl,
    d__law_start := defAt_mk X G a__law_start l__law_start e__law_start k__law_start fun _ _ _ _ _ _ us hl => match us, hl with | [_], _ => rfl,
    d__law_take := defAt_mk X G a__law_take l__law_take e__law_take k__law_take fun _ _ _ _ _ _ us hl => match us, hl with | [_, _], _ => rfl,
    d__law_term := defAt_mk X G a__law_term l__law_term e__law_term k__law_term fun _ _ _ _ _ _ us hl => match us, hl with | [_, _], _ => rfl,
    d__law_atom := defAt_mk X G a__law_atom l__law_atom e__law_atom k__law_atom fun _ _ _ _ _ _ us hl => match us, hl with | [_], _ => rfl,
    d__law_places := defAt_mk X G a__law_places l__law_places e__law_places k__law_places fun _ _ _ _ _ _ us hl => match us, hl with | [_], _ => rfl,
    d__law_part := defAt_mk X G a__law_part l__law_part e__law_part k__law_part fun _ _ _ _ _ _ us hl => match us, hl with | [_, _], _ => rfl,
    d__law_put := defAt_mk X G a__law_put l__law_put e__law_put k__law_put fun _ _ _ _ _ _ us hl => match us, hl with | [_, _, _], _ => rfl,
    d__law_refused := defAt_mk X G a__law_refused l__law_refused e__law_refused k__law_refused fun _ _ _ _ _ _ us hl => match us, hl with | [_, _], _ => rfl,
    d__law_listed := defAt_mk X G a__law_listed l__law_listed e__law_listed k__law_listed fun _ _ _ _ _ _ us hl => match us, hl with | [_], _ => rfl,
    d__law_one := defAt_mk X G a__law_one l__law_one e__law_one k__law_one fun _ _ _ _ _ _ us hl => match us, hl with | [_, _, _], _ => rfl,
    d_law := defAt_mk X G a_law l_law e_law k_law fun _ _ _ _ _ _ us hl => match us, hl with | [_], _ => rfl,
    z_abs := PySem.W.mg_none_of X G z_abs,
    z_bool := PySem.W.mg_none_of X G z_bool,
    z_int := PySem.W.mg_none_of X G z_int,
    z_isinstance := PySem.W.mg_none_of X G z_isinstance,
    z_len := PySem.W.mg_none_of X G z_len,
    z_list := PySem.W.mg_none_of X G z_list,
    z_range := PySem.W.mg_none_of X G z_range,
    z_str := PySem.W.mg_none_of X G z_str,
    z_sum := PySem.W.mg_none_of X G z_sum,
    z_tuple := PySem.W.mg_none_of X G z_tuple,
    x_BadPlace := ⟨C_BadPlace, PySem.W.mg_of X G a_BadPlace, xe_BadPlace, xk_BadPlace, xs_BadPlace, xt_BadPlace⟩,
    t_WorldOrPaperError := ⟨C_WorldOrPaperError, PySem.W.mg_of X G a_WorldOrPaperError, fun p hp D hD => by
      simp only [et_WorldOrPaperError, List.mem_cons, List.not_mem_nil, or_false] at hp
      rcases hp with rfl
      · have e := hD.symm.trans (PySem.W.mg_of X G a_BadPlace); cases e; exact PySem.W.exm_ref xs_WorldOrPaperError xd_WorldOrPaperError xt_WorldOrPaperError sb_BadPlace_WorldOrPaperError⟩,
    i_BadPlace := ⟨C_BadPlace, PySem.W.mg_of X G a_BadPlace, fun p hp D hD => by
      simp only [ei_BadPlace, List.mem_cons, List.not_mem_nil, or_false] at hp
      rcases hp with rfl
      · have e := hD.symm.trans (PySem.W.mg_of X G a_BadPlace); cases e; exact ⟨xc_BadPlace, kt_BadPlace_BadPlace⟩⟩ }
  have F := fun_mk (st := s_law) l_law e_law k_law
  exact ⟨PySem.W.fnOf "law" "law" (defArgs s_law) (defBody s_law) (defScope s_law) .none kV_law dc_law pm_law an_law cd_law ct_law, fun s v => .of_eq rfl, fun base _ _ => DefAt.law F sc_law (body_law (k := 44) T (by omega)) main⟩
end K86

open PySem PySem.W PyProof.Rows
set_option maxHeartbeats 0 in
theorem PySem.Challenge.cw_kingsandcourts_k86_parts_and_places_holds : PySem.Challenge.rw_kingsandcourts_k86_parts_and_places.Holds := by
  w_on; o_law; k_head; (case hw => w_witness2)
  k_fill
  refine L2.walk_of (l := PySem.Challenge.rw_kingsandcourts_k86_parts_and_places) (n := 63) (k := 45) (x := "script") (CX := fun w => L2.CX PySem.Challenge.pw_kingsandcourts_k86_parts_and_places w) (sp := fun w => Mi.spLaw _) rfl (by decide) rfl ⟨rfl, by decide, by decide⟩ (fun w h Y => PySem.W.kIn_of Y) ?F (fun _ _ a ns hl hO hS => ⟨a, ns, rfl, hS, hl, hO, fun _ => rfl⟩) (fun w H s e s' h => by obtain ⟨_, _, _, _, _, _, _, _, _, _, _, _, z⟩ := h; exact z)
  case F =>
    intro w mg fa h KX G hmg
    refine' K86.law_base KX G hmg ?a_BadPlace ?a_WorldOrPaperError ?a_is_unknown ?l_is_unknown ?e_is_unknown ?k_is_unknown ?a_term_size ?l_term_size ?e_term_size ?k_term_size ?a_places_of ?l_places_of ?e_places_of ?k_places_of ?a_part_at ?l_part_at ?e_part_at ?k_part_at ?a_replace_at ?l_replace_at ?e_replace_at ?k_replace_at ?a_parts_of ?l_parts_of ?e_parts_of ?k_parts_of ?a_unknowns_of ?l_unknowns_of ?e_unknowns_of ?k_unknowns_of ?a__law_start ?l__law_start ?e__law_start ?k__law_start ?a__law_take ?l__law_take ?e__law_take ?k__law_take ?a__law_term ?l__law_term ?e__law_term ?k__law_term ?a__law_atom ?l__law_atom ?e__law_atom ?k__law_atom ?a__law_places ?l__law_places ?e__law_places ?k__law_places ?a__law_part ?l__law_part ?e__law_part ?k__law_part ?a__law_put ?l__law_put ?e__law_put ?k__law_put ?a__law_refused ?l__law_refused ?e__law_refused ?k__law_refused ?a__law_listed ?l__law_listed ?e__law_listed ?k__law_listed ?a__law_one ?l__law_one ?e__law_one ?k__law_one ?a_law ?l_law ?e_law ?k_law ?z_abs ?z_bool ?z_int ?z_isinstance ?z_len ?z_list ?z_range ?z_str ?z_sum ?z_tuple ?xe_BadPlace ?xk_BadPlace ?xs_BadPlace ?xt_BadPlace ?xs_WorldOrPaperError ?xt_WorldOrPaperError ?xd_WorldOrPaperError ?sb_BadPlace_WorldOrPaperError ?kt_BadPlace_BadPlace ?xc_BadPlace K86.main
    (case a_BadPlace => k_is); (case a_WorldOrPaperError => k_is); (case a_is_unknown => k_is); (case l_is_unknown => k_is); (case e_is_unknown => k_is); (case k_is_unknown => k_is)
    (case a_term_size => k_is); (case l_term_size => k_is); (case e_term_size => k_is); (case k_term_size => k_is); (case a_places_of => k_is); (case l_places_of => k_is)
    (case e_places_of => k_is); (case k_places_of => k_is); (case a_part_at => k_is); (case l_part_at => k_is); (case e_part_at => k_is); (case k_part_at => k_is)
    (case a_replace_at => k_is); (case l_replace_at => k_is); (case e_replace_at => k_is); (case k_replace_at => k_is); (case a_parts_of => k_is); (case l_parts_of => k_is)
    (case e_parts_of => k_is); (case k_parts_of => k_is); (case a_unknowns_of => k_is); (case l_unknowns_of => k_is); (case e_unknowns_of => k_is); (case k_unknowns_of => k_is)
    (case a__law_start => k_is); (case l__law_start => k_is); (case e__law_start => k_is); (case k__law_start => k_is); (case a__law_take => k_is); (case l__law_take => k_is)
    (case e__law_take => k_is); (case k__law_take => k_is); (case a__law_term => k_is); (case l__law_term => k_is); (case e__law_term => k_is); (case k__law_term => k_is)
    (case a__law_atom => k_is); (case l__law_atom => k_is); (case e__law_atom => k_is); (case k__law_atom => k_is); (case a__law_places => k_is); (case l__law_places => k_is)
    (case e__law_places => k_is); (case k__law_places => k_is); (case a__law_part => k_is); (case l__law_part => k_is); (case e__law_part => k_is); (case k__law_part => k_is)
    (case a__law_put => k_is); (case l__law_put => k_is); (case e__law_put => k_is); (case k__law_put => k_is); (case a__law_refused => k_is); (case l__law_refused => k_is)
    (case e__law_refused => k_is); (case k__law_refused => k_is); (case a__law_listed => k_is); (case l__law_listed => k_is); (case e__law_listed => k_is); (case k__law_listed => k_is)
    (case a__law_one => k_is); (case l__law_one => k_is); (case e__law_one => k_is); (case k__law_one => k_is); (case a_law => k_is); (case l_law => k_is)
    (case e_law => k_is); (case k_law => k_is); (case z_abs => k_is); (case z_bool => k_is); (case z_int => k_is); (case z_isinstance => k_is)
    (case z_len => k_is); (case z_list => k_is); (case z_range => k_is); (case z_str => k_is); (case z_sum => k_is); (case z_tuple => k_is)
    (case xe_BadPlace => k_exc); (case xk_BadPlace => k_is); (case xs_BadPlace => k_is); (case xt_BadPlace => k_is); (case xs_WorldOrPaperError => k_is); (case xt_WorldOrPaperError => k_is)
    (case xd_WorldOrPaperError => k_is); (case sb_BadPlace_WorldOrPaperError => first | rfl | k_is); (case kt_BadPlace_BadPlace => first | rfl | k_is); (case xc_BadPlace => (refine ⟨?_, ?_, ?_, ?_, ?_, ?_, ?_, ?_⟩ <;> k_is))
