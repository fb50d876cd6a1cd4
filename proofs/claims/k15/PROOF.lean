import PyProof.Rows.All
import Wide.All
import OpenK.AllK
import Wide.FinOn
import HandS.ForMost
import HandS.ForExc
import HandS.ForSpec
import HandS.TupAny
import HandS.Deep
import HandS.IsInst
import HandS.Flow
import HandS.More
import HandS.WordsDict
import HandS.CallSlots
import PySem.Challenge.RW_kingsandcourts_k15_negation_form_says_th
set_option Elab.async false
set_option linter.all false
set_option maxRecDepth 100000
/-! Mi: a plain store-passing meaning for the text's defs, and its truth over the layer. -/
namespace Mi
open PySem PySem.Spec PyProof.Rows L2

inductive D where
  | non | bl (b : Bool) | int (i : Int) | str (s : List Nat)
  | tup (xs : List D) | lst (xs : List D)
  | dic (kvs : List (Key × D))
  | obj (c : Str) (fs : List (Str × D))
  | ref (n : Nat)
  /-- a list that stays as it is for good (the script) -/
  | frl (xs : List D)

mutual
def D.lt (b : Nat) : D → Bool
  | .non => true | .bl _ => true | .int _ => true | .str _ => true
  | .tup xs => D.ltL b xs
  | .lst xs => D.ltL b xs
  | .dic kvs => D.ltK b kvs
  | .obj _ fs => D.ltF b fs
  | .ref n => decide (n < b)
  | .frl xs => D.ltL b xs
def D.ltL (b : Nat) : List D → Bool
  | [] => true
  | x :: xs => D.lt b x && D.ltL b xs
def D.ltK (b : Nat) : List (Key × D) → Bool
  | [] => true
  | (_, x) :: xs => D.lt b x && D.ltK b xs
def D.ltF (b : Nat) : List (Str × D) → Bool
  | [] => true
  | (_, x) :: xs => D.lt b x && D.ltF b xs
end

inductive Cell where
  | lst (xs : List D)
  | dic (kvs : List (Key × D))
  | ins (c : Str) (fs : List (Str × D))
def Cell.lt (b : Nat) : Cell → Bool
  | .lst xs => D.ltL b xs
  | .dic kvs => D.ltK b kvs
  | .ins _ fs => D.ltF b fs

/-- the cells' addresses; others that nothing reaches -/
structure Ph where
  c : List Addr
  h : List Addr
def Ph.has (φ : Ph) (a : Addr) : Prop := a ∈ φ.c ∨ a ∈ φ.h
def Ph.add (φ : Ph) (a : Addr) : Ph := ⟨φ.c ++ [a], φ.h⟩
def Ph.hide (φ : Ph) (a : Addr) : Ph := ⟨φ.c, a :: φ.h⟩
structure Sto where
  old : List Cell
  top : List Cell
def Sto.all (S : Sto) : List Cell := S.old ++ S.top
def Sto.get (S : Sto) (n : Nat) : Option Cell := if n < S.old.length then S.old[n]? else S.top[n - S.old.length]?
def Sto.set (S : Sto) (n : Nat) (c : Cell) : Sto := if n < S.old.length then ⟨S.old.set n c, S.top⟩ else ⟨S.old, S.top.set (n - S.old.length) c⟩
def Sto.add (S : Sto) (c : Cell) : Sto := ⟨S.old, S.top ++ [c]⟩
def Sto.new (S : Sto) : Nat := S.old.length + S.top.length
def Sto.push (S : Sto) : Sto := ⟨S.old ++ S.top, []⟩
/-- back to the frames of S -/
def Sto.pop (S S' : Sto) : Sto := ⟨S'.old.take S.old.length, S'.old.drop S.old.length⟩
/-- may the cell be written so -/
def Sto.may (S : Sto) (n : Nat) (c : Cell) : Bool := decide (S.old.length ≤ n) || c.lt 0

inductive R (α : Type) where
  | ok (a : α) (S : Sto) | ex (e : D) (S : Sto) | bad
def R.bind {α β : Type} (r : R α) (k : α → Sto → R β) : R β := match r with
  | .ok a S => k a S
  | .ex e S => .ex e S
  | .bad => .bad
abbrev Env := List (Option D)
inductive SR where
  | nx (ρ : Env) (S : Sto) | rt (d : D) (S : Sto) | bk (ρ : Env) (S : Sto) | ct (ρ : Env) (S : Sto) | ex (e : D) (ρ : Env) (S : Sto) | bad
abbrev EM := Env → Sto → R D
abbrev AM := Env → Sto → R (List D)
abbrev TM := Env → Sto → R Bool
abbrev SM := Env → Sto → SR

/-- code points -/
def goodS (s : List Nat) : Bool := s.all fun c => decide (c < 1114112)
section
variable (K : PySem.W.Frag) (mg : Str → Option Value)
def FzL (H : Hp) (a : Addr) (vs : List V) : Prop :=
  (∃ o, H a = some (.frz o (.lst vs))) ∨
    ∃ (o : Obj) (its : Array Value) (n : Nat), K.lookup a = some o ∧ o.cls = .type "list" ∧ o.dict = none ∧ o.data = .seq its n ∧ its.size ≤ sizeLine ∧ Vals vs its.toList
mutual
inductive Rep (H : Hp) (φ : Ph) : D → V → Prop
  | non : Rep H φ .non .non
  | bl (b : Bool) : Rep H φ (.bl b) (.bl b)
  | int (i : Int) : Rep H φ (.int i) (.int i)
  | str (s : List Nat) (g : goodS s = true) : Rep H φ (.str s) (.str ⟨s.toArray⟩)
  | tup {a : Addr} {ds : List D} {vs : List V} : SqT K H a vs → RepL H φ ds vs → Rep H φ (.tup ds) (.ref a)
  | lst {a : Addr} {ds : List D} {vs : List V} : H a = some (.lst vs) → ¬ φ.has a → RepL H φ ds vs → Rep H φ (.lst ds) (.ref a)
  | frl {a : Addr} {ds : List D} {vs : List V} : FzL K H a vs → RepL H φ ds vs → Rep H φ (.frl ds) (.ref a)
  | dic {a : Addr} {ds : List (Key × D)} {vs : List (Key × V)} : Rd H a (.dK vs) → ¬ φ.has a → RepK H φ ds vs → Rep H φ (.dic ds) (.ref a)
  | obj {a C dx : Addr} {c : Str} {fs : List (Str × D)} {vs : List (Str × V)} : mg c = some (.ref C) → H a = some (.ins C dx vs) → ¬ φ.has a → RepF H φ fs vs → Rep H φ (.obj c fs) (.ref a)
  | ref {n : Nat} {a : Addr} : φ.c[n]? = some a → Rep H φ (.ref n) (.ref a)
inductive RepL (H : Hp) (φ : Ph) : List D → List V → Prop
  | nil : RepL H φ [] []
  | cons {d : D} {ds : List D} {v : V} {vs : List V} : Rep H φ d v → RepL H φ ds vs → RepL H φ (d :: ds) (v :: vs)
inductive RepK (H : Hp) (φ : Ph) : List (Key × D) → List (Key × V) → Prop
  | nil : RepK H φ [] []
  | cons {k : Key} {d : D} {ds : List (Key × D)} {v : V} {vs : List (Key × V)} : Rep H φ d v → RepK H φ ds vs → RepK H φ ((k, d) :: ds) ((k, v) :: vs)
inductive RepF (H : Hp) (φ : Ph) : List (Str × D) → List (Str × V) → Prop
  | nil : RepF H φ [] []
  | cons {k : Str} {d : D} {ds : List (Str × D)} {v : V} {vs : List (Str × V)} : Rep H φ d v → RepF H φ ds vs → RepF H φ ((k, d) :: ds) ((k, v) :: vs)
end
def CellOk (H : Hp) (φ : Ph) (a : Addr) : Cell → Prop
  | .lst ds => ∃ vs, H a = some (.lst vs) ∧ RepL K mg H φ ds vs
  | .dic ds => ∃ vs, H a = some (.dK vs) ∧ RepK K mg H φ ds vs
  | .ins c fs => ∃ C dx vs, mg c = some (.ref C) ∧ H a = some (.ins C dx vs) ∧ RepF K mg H φ fs vs
/-- what a hidden thing is -/
def Hdn (o : Option HO) : Prop := (∃ xs, o = some (.lst xs)) ∨ ∃ kvs, o = some (.dK kvs)
theorem Hdn.some {o : Option HO} (h : Hdn o) : ∃ u, o = some u := by
  rcases h with ⟨_, e⟩ | ⟨_, e⟩ <;> exact ⟨_, e⟩
structure Sim (H : Hp) (φ : Ph) (bs : List Nat) (S : Sto) : Prop where
  len : φ.c.length = S.all.length
  nd : φ.c.Nodup
  dis : ∀ a ∈ φ.c, a ∉ φ.h
  hid : ∀ a ∈ φ.h, Hdn (H a)
  cell : ∀ (n : Nat) (a : Addr) (c : Cell), φ.c[n]? = some a → S.all[n]? = some c → CellOk K mg H φ a c
  hd : bs.head? = some S.old.length
  cl : ∀ b ∈ bs, b ≤ S.old.length ∧ ∀ (n : Nat) (c : Cell), n < b → S.all[n]? = some c → c.lt b = true
end
/-- what may have become of heap and cells -/
structure Ext (H : Hp) (φ : Ph) (H' : Hp) (φ' : Ph) : Prop where
  pre : ∃ ψ, φ'.c = φ.c ++ ψ ∧ ∀ b ∈ ψ, H b = none
  hsame : φ'.h = φ.h
  hk : ∀ b ∈ φ.h, H' b = H b
  keep : ∀ b o, H b = some o → ¬ φ.has b → H' b = some o
  there : ∀ b o, H b = some o → ∃ o', H' b = some o'
theorem Ext.refl (H : Hp) (φ : Ph) : Ext H φ H φ := ⟨⟨[], by simp, fun _ h => by simp at h⟩, rfl, fun _ _ => rfl, fun _ _ h _ => h, fun _ o h => ⟨o, h⟩⟩
theorem Ext.nin {H H' : Hp} {φ φ' : Ph} (x : Ext H φ H' φ') {a : Addr} {o : HO} (h : H a = some o) (hn : ¬ φ.has a) : ¬ φ'.has a := fun hm => by
  obtain ⟨ψ, e, f⟩ := x.pre
  rcases hm with z | z
  · rw [e] at z
    rcases List.mem_append.mp z with z | z
    · exact hn (.inl z)
    · rw [f a z] at h; cases h
  · rw [x.hsame] at z; exact hn (.inr z)
theorem Ext.trans {H H1 H2 : Hp} {φ φ1 φ2 : Ph} (x : Ext H φ H1 φ1) (y : Ext H1 φ1 H2 φ2) : Ext H φ H2 φ2 := by
  obtain ⟨ψ, e1, f1⟩ := x.pre
  obtain ⟨ψ2, e2, f2⟩ := y.pre
  refine ⟨⟨ψ ++ ψ2, by rw [e2, e1, List.append_assoc], fun b hb => ?_⟩, y.hsame.trans x.hsame, fun b hb => (y.hk b (by rw [x.hsame]; exact hb)).trans (x.hk b hb), fun b o h hn => ?_, fun b o h => ?_⟩
  · rcases List.mem_append.mp hb with h | h
    · exact f1 b h
    · cases q : H b with
      | none => rfl
      | some o =>
        obtain ⟨o', e⟩ := x.there b o q
        rw [f2 b h] at e; cases e
  · exact y.keep b o (x.keep b o h hn) (x.nin h hn)
  · obtain ⟨o', e⟩ := x.there b o h
    exact y.there b o' e
/-- no cell holds a tuple or a locked thing -/
def Cells (H : Hp) (φ : Ph) : Prop := ∀ a, φ.has a → (∃ xs, H a = some (.lst xs)) ∨ (∃ kvs, H a = some (.dK kvs)) ∨ ∃ C dx fs, H a = some (.ins C dx fs)
section
variable {K : PySem.W.Frag} {mg : Str → Option Value} {H H' : Hp} {φ φ' : Ph} {bs : List Nat} {S : Sto}
theorem Sim.cells (s : Sim K mg H φ bs S) : Cells H φ := fun a ha => by
  rcases ha with ha | ha
  · obtain ⟨n, hn, e⟩ := List.getElem_of_mem ha
    have h1 : φ.c[n]? = some a := by rw [List.getElem?_eq_getElem hn, e]
    have h2 : n < S.all.length := by rw [← s.len]; exact hn
    have h3 := s.cell n a S.all[n] h1 (List.getElem?_eq_getElem h2)
    revert h3
    cases S.all[n] with
    | lst ds => rintro ⟨vs, e, _⟩; exact .inl ⟨_, e⟩
    | dic ds => rintro ⟨vs, e, _⟩; exact .inr (.inl ⟨_, e⟩)
    | ins c fs => rintro ⟨C, dx, vs, _, e, _⟩; exact .inr (.inr ⟨_, _, _, e⟩)
  · rcases s.hid a ha with z | z
    · exact .inl z
    · exact .inr (.inl z)
theorem Cells.tup (c : Cells H φ) {a : Addr} {xs : List V} (h : H a = some (.tup xs)) : ¬ φ.has a := fun ha => by
  rcases c _ ha with ⟨_, e⟩ | ⟨_, e⟩ | ⟨_, _, _, e⟩ <;> (rw [h] at e; cases e)
theorem Cells.frz (c : Cells H φ) {a : Addr} {o : Obj} {u : HO} (h : H a = some (.frz o u)) : ¬ φ.has a := fun ha => by
  rcases c _ ha with ⟨_, e⟩ | ⟨_, e⟩ | ⟨_, _, _, e⟩ <;> (rw [h] at e; cases e)
/-- what a value's meaning leans on stays -/
structure Keeps (H : Hp) (φ : Ph) (H' : Hp) (φ' : Ph) : Prop where
  at' : ∀ a o, H a = some o → ¬ φ.has a → H' a = some o ∧ ¬ φ'.has a
  cell : ∀ (n : Nat) (a : Addr), φ.c[n]? = some a → φ'.c[n]? = some a
theorem Ext.get (x : Ext H φ H' φ') {n : Nat} {a : Addr} (h : φ.c[n]? = some a) : φ'.c[n]? = some a := by
  obtain ⟨ψ, e, f⟩ := x.pre
  rw [e, List.getElem?_append_left (List.getElem?_eq_some_iff.mp h).1]
  exact h
theorem Ext.keeps (x : Ext H φ H' φ') : Keeps H φ H' φ' := ⟨fun a o h n => ⟨x.keep a o h n, x.nin h n⟩, fun _ _ h => x.get h⟩
theorem Keeps.trans {H2 : Hp} {φ2 : Ph} (x : Keeps H φ H' φ') (y : Keeps H' φ' H2 φ2) : Keeps H φ H2 φ2 := ⟨fun a o e n => y.at' a o (x.at' a o e n).1 (x.at' a o e n).2, fun n a e => y.cell n a (x.cell n a e)⟩
theorem Keeps.rd (x : Keeps H φ H' φ') {a : Addr} {u : HO} (h : Rd H a u) (hn : ¬ φ.has a) : Rd H' a u ∧ ¬ φ'.has a := by
  rcases h with h | ⟨o, h⟩
  · exact ⟨.inl (x.at' _ _ h hn).1, (x.at' _ _ h hn).2⟩
  · exact ⟨.inr ⟨o, (x.at' _ _ h hn).1⟩, (x.at' _ _ h hn).2⟩
theorem Keeps.sqt (x : Keeps H φ H' φ') (c : Cells H φ) {a : Addr} {vs : List V} (h : SqT K H a vs) : SqT K H' a vs := by
  rcases h with (h | ⟨o, h⟩) | h
  · exact .inl (.inl (x.at' _ _ h (c.tup h)).1)
  · exact .inl (.inr ⟨o, (x.at' _ _ h (c.frz h)).1⟩)
  · exact .inr h
theorem Ext.sqt (x : Ext H φ H' φ') (c : Cells H φ) {a : Addr} {vs : List V} (h : SqT K H a vs) : SqT K H' a vs := x.keeps.sqt c h
mutual
theorem Rep.kp (x : Keeps H φ H' φ') (c : Cells H φ) : ∀ {d : D} {v : V}, Rep K mg H φ d v → Rep K mg H' φ' d v
  | _, _, .non => .non
  | _, _, .bl b => .bl b
  | _, _, .int i => .int i
  | _, _, .str s g => .str s g
  | _, _, .tup h hl => .tup (x.sqt c h) (RepL.kp x c hl)
  | _, _, .lst h n hl => .lst (x.at' _ _ h n).1 (x.at' _ _ h n).2 (RepL.kp x c hl)
  | _, _, .frl h hl => .frl (by
      rcases h with ⟨o, h⟩ | h
      · exact .inl ⟨o, (x.at' _ _ h (c.frz h)).1⟩
      · exact .inr h) (RepL.kp x c hl)
  | _, _, .dic h n hl => .dic (x.rd h n).1 (x.rd h n).2 (RepK.kp x c hl)
  | _, _, .obj hm h n hl => .obj hm (x.at' _ _ h n).1 (x.at' _ _ h n).2 (RepF.kp x c hl)
  | _, _, .ref h => .ref (x.cell _ _ h)
theorem RepL.kp (x : Keeps H φ H' φ') (c : Cells H φ) : ∀ {d : List D} {v : List V}, RepL K mg H φ d v → RepL K mg H' φ' d v
  | _, _, .nil => .nil
  | _, _, .cons h t => .cons (Rep.kp x c h) (RepL.kp x c t)
theorem RepK.kp (x : Keeps H φ H' φ') (c : Cells H φ) : ∀ {d : List (Key × D)} {v : List (Key × V)}, RepK K mg H φ d v → RepK K mg H' φ' d v
  | _, _, .nil => .nil
  | _, _, .cons h t => .cons (Rep.kp x c h) (RepK.kp x c t)
theorem RepF.kp (x : Keeps H φ H' φ') (c : Cells H φ) : ∀ {d : List (Str × D)} {v : List (Str × V)}, RepF K mg H φ d v → RepF K mg H' φ' d v
  | _, _, .nil => .nil
  | _, _, .cons h t => .cons (Rep.kp x c h) (RepF.kp x c t)
end
theorem Rep.ext (x : Ext H φ H' φ') (c : Cells H φ) {d : D} {v : V} (h : Rep K mg H φ d v) : Rep K mg H' φ' d v := h.kp x.keeps c
theorem RepL.ext (x : Ext H φ H' φ') (c : Cells H φ) {d : List D} {v : List V} (h : RepL K mg H φ d v) : RepL K mg H' φ' d v := h.kp x.keeps c
theorem RepK.ext (x : Ext H φ H' φ') (c : Cells H φ) {d : List (Key × D)} {v : List (Key × V)} (h : RepK K mg H φ d v) : RepK K mg H' φ' d v := h.kp x.keeps c
theorem RepF.ext (x : Ext H φ H' φ') (c : Cells H φ) {d : List (Str × D)} {v : List (Str × V)} (h : RepF K mg H φ d v) : RepF K mg H' φ' d v := h.kp x.keeps c
theorem RepL.length : ∀ {ds : List D} {vs : List V}, RepL K mg H φ ds vs → ds.length = vs.length
  | _, _, .nil => rfl
  | _, _, .cons _ t => by simp [RepL.length t]
theorem RepL.get : ∀ {ds : List D} {vs : List V} {i : Nat} {d : D}, RepL K mg H φ ds vs → ds[i]? = some d → ∃ v, vs[i]? = some v ∧ Rep K mg H φ d v
  | _, _, i, d, .nil, e => by simp at e
  | _, _, 0, d, .cons h t, e => by simp at e; subst e; exact ⟨_, rfl, h⟩
  | _, _, i + 1, d, .cons h t, e => by
    obtain ⟨u, h1, h2⟩ := RepL.get (i := i) (d := d) t (by simpa using e)
    exact ⟨u, by simpa using h1, h2⟩
theorem RepL.get' : ∀ {ds : List D} {vs : List V} {i : Nat} {v : V}, RepL K mg H φ ds vs → vs[i]? = some v → ∃ d, ds[i]? = some d ∧ Rep K mg H φ d v
  | _, _, i, d, .nil, e => by simp at e
  | _, _, 0, d, .cons h t, e => by simp at e; subst e; exact ⟨_, rfl, h⟩
  | _, _, i + 1, d, .cons h t, e => by
    obtain ⟨u, h1, h2⟩ := RepL.get' (i := i) (v := d) t (by simpa using e)
    exact ⟨u, by simpa using h1, h2⟩
theorem RepL.append : ∀ {ds es : List D} {vs ws : List V}, RepL K mg H φ ds vs → RepL K mg H φ es ws → RepL K mg H φ (ds ++ es) (vs ++ ws)
  | _, _, _, _, .nil, s => s
  | _, _, _, _, .cons h t, s => .cons h (RepL.append t s)
theorem RepL.take : ∀ {ds : List D} {vs : List V} (n : Nat), RepL K mg H φ ds vs → RepL K mg H φ (ds.take n) (vs.take n)
  | _, _, 0, _ => .nil
  | _, _, _ + 1, .nil => .nil
  | _, _, n + 1, .cons r t => .cons r (RepL.take n t)
theorem RepL.drop : ∀ {ds : List D} {vs : List V} (n : Nat), RepL K mg H φ ds vs → RepL K mg H φ (ds.drop n) (vs.drop n)
  | _, _, 0, r => r
  | _, _, _ + 1, .nil => .nil
  | _, _, n + 1, .cons _ t => RepL.drop n t
theorem RepL.set {d : D} {v : V} (r : Rep K mg H φ d v) : ∀ {ds : List D} {vs : List V} (i : Nat), RepL K mg H φ ds vs → RepL K mg H φ (ds.set i d) (vs.set i v)
  | _, _, _, .nil => .nil
  | _, _, 0, .cons _ t => .cons r t
  | _, _, i + 1, .cons q t => .cons q (RepL.set r i t)
theorem RepL.reverse : ∀ {ds : List D} {vs : List V}, RepL K mg H φ ds vs → RepL K mg H φ ds.reverse vs.reverse
  | _, _, .nil => .nil
  | _, _, .cons r t => by
    rw [List.reverse_cons, List.reverse_cons]
    exact (RepL.reverse t).append (.cons r .nil)

/-- the slots -/
def EnvR (K : PySem.W.Frag) (mg : Str → Option Value) (H : Hp) (φ : Ph) (ρ : Env) (σ : L2.St) : Prop :=
  ρ.length = σ.length ∧ ∀ (i : Nat) (d : D), ρ[i]? = some (some d) → ∃ v, σ[i]? = some (some v) ∧ Rep K mg H φ d v
theorem EnvR.kp {ρ : Env} {σ : L2.St} (x : Keeps H φ H' φ') (c : Cells H φ) (e : EnvR K mg H φ ρ σ) : EnvR K mg H' φ' ρ σ :=
  ⟨e.1, fun i d h => let ⟨v, h1, h2⟩ := e.2 i d h; ⟨v, h1, h2.kp x c⟩⟩
theorem EnvR.ext {ρ : Env} {σ : L2.St} (x : Ext H φ H' φ') (c : Cells H φ) (e : EnvR K mg H φ ρ σ) : EnvR K mg H' φ' ρ σ := e.kp x.keeps c
theorem EnvR.set {ρ : Env} {σ : L2.St} {d : D} {v : V} (e : EnvR K mg H φ ρ σ) (r : Rep K mg H φ d v) (i : Nat) : EnvR K mg H φ (ρ.set i (some d)) (σ.set i (some v)) := by
  refine ⟨by simp [e.1], fun j u h => ?_⟩
  by_cases hj : i = j
  · subst hj
    have hl : i < ρ.length := by
      have := (List.getElem?_eq_some_iff.mp h).1
      simpa using this
    rw [List.getElem?_set_self hl] at h
    have hl2 : i < σ.length := by rw [← e.1]; exact hl
    rw [List.getElem?_set_self hl2]
    cases h
    exact ⟨v, rfl, r⟩
  · rw [List.getElem?_set_ne hj] at h ⊢
    exact e.2 j u h
theorem EnvR.unset {ρ : Env} {σ : L2.St} (e : EnvR K mg H φ ρ σ) (i : Nat) (o : Option V) : EnvR K mg H φ (ρ.set i none) (σ.set i o) := by
  refine ⟨by simp [e.1], fun j u h => ?_⟩
  by_cases hj : i = j
  · subst hj
    have hl : i < ρ.length := by
      have := (List.getElem?_eq_some_iff.mp h).1
      simpa using this
    rw [List.getElem?_set_self hl] at h
    cases h
  · rw [List.getElem?_set_ne hj] at h ⊢
    exact e.2 j u h
end
/-- an exception's own: its class, its dict -/
def ExR (K : PySem.W.Frag) (mg : Str → Option Value) (H : Hp) (φ : Ph) (e : D) (cls : Value) (d : Option Addr) : Prop :=
  ∃ (c : Str) (fs : List (Str × D)) (C : Addr), e = .obj c fs ∧ mg c = some (.ref C) ∧ cls = .ref C ∧
    (fs ≠ [] → ∃ (a : Addr) (vs : List (Str × V)), d = some a ∧ H a = some (.xd vs) ∧ RepF K mg H φ fs vs)
/-- what a value's meaning may stand for -/
abbrev Rel (β γ : Type) := PySem.W.Frag → (Str → Option Value) → Hp → Ph → β → γ → Prop
def RelB : Rel Bool Bool := fun _ _ _ _ b c => c = b
section
variable (K : PySem.W.Frag) (mg : Str → Option Value) (W : WX)
def PostG {β γ : Type} (rel : Rel β γ) (bs : List Nat) (σ : L2.St) (H : Hp) (φ : Ph) (r : R β) (Q : γ → Hp → Prop) : Prop := match r with
  | .ok d S' => ∀ v H' φ', Ext H φ H' φ' → Sim K mg H' φ' bs S' → rel K mg H' φ' d v → Q v H'
  | .ex e S' => ∀ cls dx H' φ', Ext H φ H' φ' → Sim K mg H' φ' bs S' → ExR K mg H' φ' e cls dx → W cls dx σ H'
  | .bad => False
def PostS (bs : List Nat) (H : Hp) (φ : Ph) (r : SR) (E : Ends) : Prop := match r with
  | .nx ρ S' => ∀ σ H' φ', Ext H φ H' φ' → Sim K mg H' φ' bs S' → EnvR K mg H' φ' ρ σ → E.nx σ H'
  | .bk ρ S' => ∀ σ H' φ', Ext H φ H' φ' → Sim K mg H' φ' bs S' → EnvR K mg H' φ' ρ σ → E.bk σ H'
  | .ct ρ S' => ∀ σ H' φ', Ext H φ H' φ' → Sim K mg H' φ' bs S' → EnvR K mg H' φ' ρ σ → E.ct σ H'
  | .rt d S' => ∀ v H' φ', Ext H φ H' φ' → Sim K mg H' φ' bs S' → Rep K mg H' φ' d v → E.rt v H'
  | .ex e ρ S' => ∀ cls dx σ H' φ', Ext H φ H' φ' → Sim K mg H' φ' bs S' → EnvR K mg H' φ' ρ σ → ExR K mg H' φ' e cls dx → W cls dx σ H'
  | .bad => False
end
section
variable (X : Cx) (W : WX)
abbrev Post := PostG X.K X.mg W Rep
abbrev PostL := PostG X.K X.mg W RepL
abbrev PostB := PostG X.K X.mg W RelB
def tG {β γ : Type} (rel : Rel β γ) (f : Env → Sto → R β) : L2.St → Hp → (γ → Hp → Prop) → Prop := fun σ H Q => ∃ φ bs ρ S, Sim X.K X.mg H φ bs S ∧ EnvR X.K X.mg H φ ρ σ ∧ PostG X.K X.mg W rel bs σ H φ (f ρ S) Q
abbrev tE (f : EM) : TE := tG X W Rep f
abbrev tA (f : AM) : TA := tG X W RepL f
abbrev tT (f : TM) : TT := tG X W RelB f
def tS (f : SM) : TS := fun E σ H => ∃ φ bs ρ S, Sim X.K X.mg H φ bs S ∧ EnvR X.K X.mg H φ ρ σ ∧ PostS X.K X.mg W bs H φ (f ρ S) E
abbrev DE (e : Expr) (f : EM) : Prop := PE X e (tE X W f)
abbrev DT (e : Expr) (f : TM) : Prop := PT X e (tT X W f)
abbrev DW (e : Expr) (f : TM) : Prop := PW X e (tT X W f)
abbrev DA (es : List Expr) (f : AM) : Prop := PA X es (tA X W f)
abbrev DS (st : Stmt) (f : SM) : Prop := PS X st (tS X W f)
abbrev DSs (st : List Stmt) (f : SM) : Prop := PSs X st (tS X W f)
end
theorem _root_.L2.PE.wk {X : Cx} {e : Expr} {t t' : TE} (h : PE X e t) (w : ∀ σ H Q, t' σ H Q → t σ H Q) : PE X e t' := ⟨fun pins s σ H Q I q => h.run pins s σ H Q I (w _ _ _ q)⟩
theorem _root_.L2.PT.wk {X : Cx} {e : Expr} {t t' : TT} (h : PT X e t) (w : ∀ σ H Q, t' σ H Q → t σ H Q) : PT X e t' := ⟨fun pins s σ H Q I q => h.run pins s σ H Q I (w _ _ _ q)⟩
theorem _root_.L2.PW.wk {X : Cx} {e : Expr} {t t' : TT} (h : PW X e t) (w : ∀ σ H Q, t' σ H Q → t σ H Q) : PW X e t' := ⟨fun wh pins s σ H Q I q => h.run wh pins s σ H Q I (w _ _ _ q)⟩
theorem _root_.L2.PA.wk {X : Cx} {e : List Expr} {t t' : TA} (h : PA X e t) (w : ∀ σ H Q, t' σ H Q → t σ H Q) : PA X e t' := ⟨fun pos pins s σ H Q I q => h.run pos pins s σ H Q I (w _ _ _ q)⟩
theorem _root_.L2.PS.wk {X : Cx} {e : Stmt} {t t' : TS} (h : PS X e t) (w : ∀ D σ H, t' D σ H → t D σ H) : PS X e t' := ⟨fun pins s σ H D I q => h.run pins s σ H D I (w _ _ _ q)⟩
theorem _root_.L2.PSs.wk {X : Cx} {e : List Stmt} {t t' : TS} (h : PSs X e t) (w : ∀ D σ H, t' D σ H → t D σ H) : PSs X e t' := ⟨fun pins s σ H D I q => h.run pins s σ H D I (w _ _ _ q)⟩
theorem _root_.L2.PE.or {X : Cx} {e : Expr} {t t' : TE} (h : PE X e t) (h' : PE X e t') : PE X e (fun σ H Q => t σ H Q ∨ t' σ H Q) :=
  ⟨fun pins s σ H Q I q => q.elim (h.run pins s σ H Q I) (h'.run pins s σ H Q I)⟩
theorem _root_.L2.PI.or {X : Cx} {tg e : Expr} {t t' : TI} (h : PI X tg e t) (h' : PI X tg e t') : PI X tg e (fun σ H Q => t σ H Q ∨ t' σ H Q) :=
  ⟨fun pins s σ H Q I q => q.elim (h.run pins s σ H Q I) (h'.run pins s σ H Q I)⟩
section
variable {X : Cx} {K : PySem.W.Frag} {mg : Str → Option Value} {W : WX} {bs : List Nat} {σ : L2.St} {H H1 : Hp} {φ φ1 : Ph} {ρ : Env} {S : Sto}
theorem PostG.shift {β γ : Type} {rel : Rel β γ} {r : R β} {Q : γ → Hp → Prop} (x : Ext H φ H1 φ1) (h : PostG K mg W rel bs σ H φ r Q) : PostG K mg W rel bs σ H1 φ1 r Q := by
  cases r with
  | ok d S' => exact fun v H' φ' y => h v H' φ' (x.trans y)
  | ex e S' => exact fun c d H' φ' y => h c d H' φ' (x.trans y)
  | bad => exact h
theorem PostS.shift {r : SR} {E : Ends} (x : Ext H φ H1 φ1) (h : PostS K mg W bs H φ r E) : PostS K mg W bs H1 φ1 r E := by
  cases r with
  | nx d S' => exact fun v H' φ' y => h v H' φ' (x.trans y)
  | rt d S' => exact fun v H' φ' y => h v H' φ' (x.trans y)
  | bk d S' => exact fun v H' φ' y => h v H' φ' (x.trans y)
  | ct d S' => exact fun v H' φ' y => h v H' φ' (x.trans y)
  | ex e ρ S' => exact fun c d σ H' φ' y => h c d σ H' φ' (x.trans y)
  | bad => exact h
theorem PostG.done {β γ : Type} {rel : Rel β γ} {d : β} {v : γ} {Q : γ → Hp → Prop} (s : Sim K mg H φ bs S) (r : rel K mg H φ d v) (h : PostG K mg W rel bs σ H φ (.ok d S) Q) : Q v H := h v H φ (.refl _ _) s r
/-- first f, then what k makes of its value -/
theorem tG_then {β γ β' γ' : Type} {rel : Rel β γ} {rel' : Rel β' γ'} {f : Env → Sto → R β} {k : β → Sto → R β'} {Q : γ' → Hp → Prop} {Q1 : γ → Hp → Prop} (s : Sim X.K X.mg H φ bs S) (e : EnvR X.K X.mg H φ ρ σ)
    (h : PostG X.K X.mg W rel' bs σ H φ ((f ρ S).bind k) Q)
    (g : ∀ d S1 v H1 φ1, Ext H φ H1 φ1 → Sim X.K X.mg H1 φ1 bs S1 → EnvR X.K X.mg H1 φ1 ρ σ → rel X.K X.mg H1 φ1 d v → PostG X.K X.mg W rel' bs σ H1 φ1 (k d S1) Q → Q1 v H1) : tG X W rel f σ H Q1 := by
  refine ⟨φ, bs, ρ, S, s, e, ?_⟩
  revert h
  cases f ρ S with
  | ok d S1 => exact fun h v H1 φ1 x s1 r => g d S1 v H1 φ1 x s1 (e.ext x s.cells) r (PostG.shift x h)
  | ex d S1 => exact fun h => h
  | bad => exact fun h => h
/-- .. in a statement -/
def R.bindS {α : Type} (ρ : Env) (r : R α) (k : α → Sto → SR) : SR := match r with
  | .ok a S => k a S
  | .ex e S => .ex e ρ S
  | .bad => .bad
theorem tG_thenS {β γ : Type} {rel : Rel β γ} {f : Env → Sto → R β} {k : β → Sto → SR} {E : Ends} {Q1 : γ → Hp → Prop} (s : Sim X.K X.mg H φ bs S) (e : EnvR X.K X.mg H φ ρ σ)
    (h : PostS X.K X.mg W bs H φ (R.bindS ρ (f ρ S) k) E)
    (g : ∀ d S1 v H1 φ1, Ext H φ H1 φ1 → Sim X.K X.mg H1 φ1 bs S1 → EnvR X.K X.mg H1 φ1 ρ σ → rel X.K X.mg H1 φ1 d v → PostS X.K X.mg W bs H1 φ1 (k d S1) E → Q1 v H1) : tG X W rel f σ H Q1 := by
  refine ⟨φ, bs, ρ, S, s, e, ?_⟩
  revert h
  cases f ρ S with
  | ok d S1 => exact fun h v H1 φ1 x s1 r => g d S1 v H1 φ1 x s1 (e.ext x s.cells) r (PostS.shift x h)
  | ex d S1 => exact fun h c dx H' φ' x s1 r => h c dx σ H' φ' x s1 (e.ext x s.cells) r
  | bad => exact fun h => h
end
end Mi

namespace Mi
open PySem PySem.Spec PyProof.Rows L2

/-! ### cells and heaps -/
theorem Sto.get_all (S : Sto) (n : Nat) : S.get n = S.all[n]? := by
  unfold Sto.get Sto.all
  by_cases h : n < S.old.length
  · rw [if_pos h, List.getElem?_append_left h]
  · rw [if_neg h, List.getElem?_append_right (by omega)]
theorem Sto.set_all (S : Sto) (n : Nat) (c : Cell) : (S.set n c).all = S.all.set n c := by
  unfold Sto.set Sto.all
  by_cases h : n < S.old.length
  · rw [if_pos h, List.set_append_left _ _ h]
  · rw [if_neg h, List.set_append_right _ _ (by omega)]
theorem Sto.set_old (S : Sto) (n : Nat) (c : Cell) : (S.set n c).old.length = S.old.length := by
  unfold Sto.set
  split
  · exact List.length_set
  · rfl
theorem Sto.add_all (S : Sto) (c : Cell) : (S.add c).all = S.all ++ [c] := by
  unfold Sto.add Sto.all
  rw [List.append_assoc]
theorem Sto.new_all (S : Sto) : S.new = S.all.length := by
  unfold Sto.new Sto.all
  rw [List.length_append]
section
variable {K : PySem.W.Frag} {mg : Str → Option Value} {H H' : Hp} {φ φ' : Ph} {bs : List Nat} {S : Sto} {p : Addr} {o : HO}
theorem CellOk.kp {a : Addr} {c : Cell} (x : Keeps H φ H' φ') (cs : Cells H φ) (e : H' a = H a) (h : CellOk K mg H φ a c) : CellOk K mg H' φ' a c := by
  cases c with
  | lst ds => obtain ⟨vs, h1, h2⟩ := h; exact ⟨vs, e.trans h1, h2.kp x cs⟩
  | dic ds => obtain ⟨vs, h1, h2⟩ := h; exact ⟨vs, e.trans h1, h2.kp x cs⟩
  | ins c fs => obtain ⟨C, dx, vs, h0, h1, h2⟩ := h; exact ⟨C, dx, vs, h0, e.trans h1, h2.kp x cs⟩
theorem CellOk.ext {a : Addr} {c : Cell} (x : Ext H φ H' φ') (cs : Cells H φ) (e : H' a = H a) (h : CellOk K mg H φ a c) : CellOk K mg H' φ' a c := h.kp x.keeps cs e
theorem Sim.fresh (s : Sim K mg H φ bs S) (hp : H p = none) : ¬ φ.has p := fun hm => by
  rcases s.cells p hm with ⟨_, e⟩ | ⟨_, e⟩ | ⟨_, _, _, e⟩ <;> (rw [hp] at e; cases e)
theorem Ext.new (s : Sim K mg H φ bs S) (hp : H p = none) : Ext H φ (upd H p o) φ := by
  refine ⟨⟨[], by simp, fun _ h => by simp at h⟩, rfl, fun b hb => upd_ne fun e => s.fresh hp (.inr (e ▸ hb)), fun b u h _ => ?_, fun b u h => ⟨u, ?_⟩⟩
  · rw [upd_ne (ne_of_none h hp)]; exact h
  · rw [upd_ne (ne_of_none h hp)]; exact h
theorem Sim.new (s : Sim K mg H φ bs S) (hp : H p = none) : Sim K mg (upd H p o) φ bs S := by
  refine ⟨s.len, s.nd, s.dis, fun a ha => ?_, fun n a c h1 h2 => ?_, s.hd, s.cl⟩
  · obtain ⟨u, e⟩ := (s.hid a ha).some
    rw [upd_ne (ne_of_none e hp)]; exact s.hid a ha
  · have ha : φ.has a := .inl (List.mem_of_getElem? h1)
    exact (s.cell n a c h1 h2).ext (Ext.new s hp) s.cells (upd_ne fun e => s.fresh hp (e ▸ ha))
theorem Ext.newCell (s : Sim K mg H φ bs S) (hp : H p = none) : Ext H φ (upd H p o) (φ.add p) := by
  have x := Ext.new (o := o) s hp
  refine ⟨⟨[p], rfl, fun b hb => ?_⟩, rfl, x.hk, x.keep, x.there⟩
  have e : b = p := by simpa using hb
  rw [e]; exact hp
/-- a new cell, its address laid already -/
theorem Sim.adopt {c : Cell} {H0 : Hp} (s : Sim K mg H0 φ bs S) (hc : φ'.c = φ.c ++ [p]) (hp : p ∉ φ.c) (hd : ∀ a ∈ φ'.c, a ∉ φ'.h) (hh : ∀ a ∈ φ'.h, Hdn (H a)) (x : Keeps H0 φ H φ') (hs : ∀ a ∈ φ.c, H a = H0 a) (h : CellOk K mg H φ' p c) : Sim K mg H φ' bs (S.add c) := by
  have hnd : (φ.c ++ [p]).Nodup := by
    rw [List.nodup_append]
    refine ⟨s.nd, by simp, fun a ha b hb => ?_⟩
    have e : b = p := by simpa using hb
    subst e
    intro e2; subst e2; exact hp ha
  refine ⟨by rw [Sto.add_all, hc, List.length_append, List.length_append, s.len]; rfl, by rw [hc]; exact hnd, hd, hh, fun n a d h1 h2 => ?_, s.hd, fun b hb => ?_⟩
  · rw [hc] at h1
    rw [Sto.add_all] at h2
    by_cases hn : n < φ.c.length
    · rw [List.getElem?_append_left hn] at h1
      rw [List.getElem?_append_left (by rw [← s.len]; exact hn)] at h2
      exact (s.cell n a d h1 h2).kp x s.cells (hs a (List.mem_of_getElem? h1))
    · have h1' := h1
      have h2' := h2
      rw [List.getElem?_append_right (by omega)] at h1'
      rw [List.getElem?_append_right (by rw [← s.len]; omega), ← s.len] at h2'
      have hz : n - φ.c.length = 0 := by
        have := (List.getElem?_eq_some_iff.mp h1').1
        simp at this; omega
      rw [hz] at h1' h2'
      simp at h1' h2'
      subst h1' h2'
      exact h
  · obtain ⟨h1, h2⟩ := s.cl b hb
    refine ⟨h1, fun n d hn e => ?_⟩
    rw [Sto.add_all] at e
    have : n < S.all.length := by
      unfold Sto.all; rw [List.length_append]; omega
    rw [List.getElem?_append_left this] at e
    exact h2 n d hn e
theorem Sim.newCell {c : Cell} (s : Sim K mg H φ bs S) (hp : H p = none) (h : CellOk K mg (upd H p o) (φ.add p) p c) : Sim K mg (upd H p o) (φ.add p) bs (S.add c) := by
  refine s.adopt rfl (fun q => s.fresh hp (.inl q)) (fun a ha => ?_) (fun a ha => ?_) (Ext.newCell s hp).keeps (fun a ha => upd_ne fun e => s.fresh hp (.inl (e ▸ ha))) h
  · have ha' : a ∈ φ.c ++ [p] := ha
    show a ∉ φ.h
    rcases List.mem_append.mp ha' with z | z
    · exact s.dis a z
    · have e : a = p := by simpa using z
      rw [e]; exact fun q => s.fresh hp (.inr q)
  · obtain ⟨u, e⟩ := (s.hid a ha).some
    rw [upd_ne (ne_of_none e hp)]; exact s.hid a ha
theorem Ext.wr {n : Nat} {a : Addr} (s : Sim K mg H φ bs S) (ha : φ.c[n]? = some a) : Ext H φ (upd H a o) φ := by
  have hm : φ.has a := .inl (List.mem_of_getElem? ha)
  refine ⟨⟨[], by simp, fun _ h => by simp at h⟩, rfl, fun b hb => upd_ne fun e => s.dis a (List.mem_of_getElem? ha) (e ▸ hb), fun b u h hn => ?_, fun b u h => ?_⟩
  · rw [upd_ne (show b ≠ a from fun e => hn (e ▸ hm))]; exact h
  · by_cases e : b = a
    · exact ⟨o, by rw [e, upd_same]⟩
    · exact ⟨u, by rw [upd_ne e]; exact h⟩
mutual
theorem D.lt_mono {a b : Nat} (h : a ≤ b) : ∀ d : D, d.lt a = true → d.lt b = true
  | .non, _ => rfl
  | .bl _, _ => rfl
  | .int _, _ => rfl
  | .str _, _ => rfl
  | .tup xs, q => D.ltL_mono h xs q
  | .lst xs, q => D.ltL_mono h xs q
  | .frl xs, q => D.ltL_mono h xs q
  | .dic kvs, q => D.ltK_mono h kvs q
  | .obj _ fs, q => D.ltF_mono h fs q
  | .ref n, q => by
    have q' : decide (n < a) = true := q
    show decide (n < b) = true
    simp only [decide_eq_true_eq] at q' ⊢
    omega
theorem D.ltL_mono {a b : Nat} (h : a ≤ b) : ∀ d : List D, D.ltL a d = true → D.ltL b d = true
  | [], _ => rfl
  | x :: xs, q => by
    have q' : (D.lt a x && D.ltL a xs) = true := q
    show (D.lt b x && D.ltL b xs) = true
    rw [Bool.and_eq_true] at q' ⊢
    exact ⟨D.lt_mono h x q'.1, D.ltL_mono h xs q'.2⟩
theorem D.ltK_mono {a b : Nat} (h : a ≤ b) : ∀ d : List (Key × D), D.ltK a d = true → D.ltK b d = true
  | [], _ => rfl
  | (_, x) :: xs, q => by
    have q' : (D.lt a x && D.ltK a xs) = true := q
    show (D.lt b x && D.ltK b xs) = true
    rw [Bool.and_eq_true] at q' ⊢
    exact ⟨D.lt_mono h x q'.1, D.ltK_mono h xs q'.2⟩
theorem D.ltF_mono {a b : Nat} (h : a ≤ b) : ∀ d : List (Str × D), D.ltF a d = true → D.ltF b d = true
  | [], _ => rfl
  | (_, x) :: xs, q => by
    have q' : (D.lt a x && D.ltF a xs) = true := q
    show (D.lt b x && D.ltF b xs) = true
    rw [Bool.and_eq_true] at q' ⊢
    exact ⟨D.lt_mono h x q'.1, D.ltF_mono h xs q'.2⟩
end
theorem Cell.lt_mono {a b : Nat} (h : a ≤ b) : ∀ c : Cell, c.lt a = true → c.lt b = true
  | .lst xs, q => D.ltL_mono h xs q
  | .dic xs, q => D.ltK_mono h xs q
  | .ins _ xs, q => D.ltF_mono h xs q
/-- a cell is written -/
theorem Sim.wr {n : Nat} {a : Addr} {c : Cell} (s : Sim K mg H φ bs S) (ha : φ.c[n]? = some a) (may : S.may n c = true) (h : CellOk K mg (upd H a o) φ a c) : Sim K mg (upd H a o) φ bs (S.set n c) := by
  refine ⟨by rw [Sto.set_all, List.length_set]; exact s.len, s.nd, s.dis, fun b hb => ?_, fun m b d h1 h2 => ?_, by rw [Sto.set_old]; exact s.hd, fun b hb => ?_⟩
  · rw [upd_ne (show b ≠ a from fun z => s.dis a (List.mem_of_getElem? ha) (by rw [← z]; exact hb))]; exact s.hid b hb
  · rw [Sto.set_all] at h2
    by_cases hm : n = m
    · subst hm
      rw [ha] at h1; cases h1
      have hl : n < S.all.length := by
        have := (List.getElem?_eq_some_iff.mp h2).1
        simpa using this
      rw [List.getElem?_set_self hl] at h2
      cases h2
      exact h
    · rw [List.getElem?_set_ne hm] at h2
      refine (s.cell m b d h1 h2).ext (Ext.wr s ha) s.cells (upd_ne fun e => ?_)
      subst e
      obtain ⟨l1, e1⟩ := List.getElem?_eq_some_iff.mp ha
      obtain ⟨l2, e2⟩ := List.getElem?_eq_some_iff.mp h1
      exact hm ((List.getElem_inj s.nd).mp (e1.trans e2.symm))
  · obtain ⟨h1, h2⟩ := s.cl b hb
    refine ⟨by rw [Sto.set_old]; exact h1, fun m d hm e => ?_⟩
    rw [Sto.set_all] at e
    by_cases hn : n = m
    · subst hn
      have hl : n < S.all.length := by
        have := (List.getElem?_eq_some_iff.mp e).1
        simpa using this
      rw [List.getElem?_set_self hl] at e
      cases e
      unfold Sto.may at may
      rw [Bool.or_eq_true] at may
      rcases may with q | q
      · have q' := of_decide_eq_true q
        omega
      · exact Cell.lt_mono (Nat.zero_le _) _ q
    · rw [List.getElem?_set_ne hn] at e
      exact h2 m d hm e
/-- the cell that a reference means -/
theorem Sim.at {n : Nat} {c : Cell} {v : V} (s : Sim K mg H φ bs S) (r : Rep K mg H φ (.ref n) v) (e : S.get n = some c) : ∃ a, v = .ref a ∧ φ.c[n]? = some a ∧ CellOk K mg H φ a c := by
  cases r with
  | ref h => exact ⟨_, rfl, h, s.cell n _ c h (by rw [← Sto.get_all]; exact e)⟩
end

/-! ### what a new list is taken for: a value that stays (false), a cell (true) -/
def mkL (c : Bool) (xs : List D) (S : Sto) : R D := if c then .ok (.ref S.new) (S.add (.lst xs)) else .ok (.lst xs) S
def mkD (c : Bool) (xs : List (Key × D)) (S : Sto) : R D := if c then .ok (.ref S.new) (S.add (.dic xs)) else .ok (.dic xs) S
section
variable {X : Cx} {W : WX} {bs : List Nat} {σ : L2.St} {H : Hp} {φ : Ph} {S : Sto} {Q : VK} {p : Addr}
theorem mkL_ok {c : Bool} {ds : List D} {vs : List V} (s : Sim X.K X.mg H φ bs S) (r : RepL X.K X.mg H φ ds vs) (hp : H p = none) (h : Post X W bs σ H φ (mkL c ds S) Q) : Q (.ref p) (upd H p (.lst vs)) := by
  cases c with
  | false =>
    have x : Ext H φ (upd H p (.lst vs)) φ := Ext.new s hp
    exact h _ _ _ x (s.new hp) (.lst upd_same (s.fresh hp) (r.ext x s.cells))
  | true =>
    have x : Ext H φ (upd H p (.lst vs)) (φ.add p) := Ext.newCell s hp
    refine h _ _ _ x (s.newCell hp ⟨vs, upd_same, r.ext x s.cells⟩) (.ref ?_)
    show (φ.c ++ [p])[S.new]? = some p
    rw [Sto.new_all, ← s.len, List.getElem?_append_right (Nat.le_refl _)]
    simp
theorem mkD_ok {c : Bool} {ds : List (Key × D)} {vs : List (Key × V)} (s : Sim X.K X.mg H φ bs S) (r : RepK X.K X.mg H φ ds vs) (hp : H p = none) (h : Post X W bs σ H φ (mkD c ds S) Q) : Q (.ref p) (upd H p (.dK vs)) := by
  cases c with
  | false =>
    have x : Ext H φ (upd H p (.dK vs)) φ := Ext.new s hp
    exact h _ _ _ x (s.new hp) (.dic (.inl upd_same) (s.fresh hp) (r.ext x s.cells))
  | true =>
    have x : Ext H φ (upd H p (.dK vs)) (φ.add p) := Ext.newCell s hp
    refine h _ _ _ x (s.newCell hp ⟨vs, upd_same, r.ext x s.cells⟩) (.ref ?_)
    show (φ.c ++ [p])[S.new]? = some p
    rw [Sto.new_all, ← s.len, List.getElem?_append_right (Nat.le_refl _)]
    simp
theorem tup_ok {ds : List D} {vs : List V} (s : Sim X.K X.mg H φ bs S) (r : RepL X.K X.mg H φ ds vs) (hp : H p = none) (h : Post X W bs σ H φ (.ok (.tup ds) S) Q) : Q (.ref p) (upd H p (.tup vs)) := by
  have x : Ext H φ (upd H p (.tup vs)) φ := Ext.new s hp
  exact h _ _ _ x (s.new hp) (.tup (.of upd_same) (r.ext x s.cells))
end

/-! ### names and constants -/
def eVar (i : Nat) : EM := fun ρ S => match ρ[i]? with
  | some (some d) => .ok d S
  | _ => .bad
def eC (d : D) : EM := fun _ S => .ok d S
section
variable {X : Cx} {W : WX}
theorem tVar_wk {i : Nat} (σ : L2.St) (H : Hp) (Q : VK) (h : tE X W (eVar i) σ H Q) : tVar i σ H Q := by
  obtain ⟨φ, bs, ρ, S, s, e, h⟩ := h
  unfold eVar at h
  split at h
  · rename_i d hd
    obtain ⟨v, h1, h2⟩ := e.2 i d hd
    exact ⟨v, h1, PostG.done s h2 h⟩
  · exact h.elim
theorem de_v (i : Nat) {x : Str} {pos : Pos} (hN : X.N[i]? = some x := by rfl) (hv : Vis X.env.scope x := by first | exact Or.inl rfl | exact Or.inr (Or.inl rfl) | exact Or.inr (Or.inr rfl)) (hd : (x == ("__debug__" : Str)) = false := by decide)
    (hcd : (x == ("__classdict__" : Str)) = false := by decide) : DE X W (.Name x pos) (eVar i) := (pv i hN hv hd hcd).wk tVar_wk
theorem tC_wk {d : D} {v : V} (r : ∀ H φ, Rep X.K X.mg H φ d v) (σ : L2.St) (H : Hp) (Q : VK) (h : tE X W (eC d) σ H Q) : tC v σ H Q := by
  obtain ⟨φ, bs, ρ, S, s, e, h⟩ := h
  exact PostG.done s (r H φ) h
theorem de_int {i j pos} : DE X W (.Constant (.int i) j pos) (eC (.int i)) := pe_int.wk (tC_wk fun _ _ => .int i)
theorem de_bl {i j pos} : DE X W (.Constant (.bool i) j pos) (eC (.bl i)) := pe_bl.wk (tC_wk fun _ _ => .bl i)
theorem de_non {j pos} : DE X W (.Constant .none j pos) (eC .non) := pe_non.wk (tC_wk fun _ _ => .non)
theorem Rep.strOf {K : PySem.W.Frag} {mg : Str → Option Value} {H : Hp} {φ : Ph} (x : Str) (g : goodS x.cps.toList = true) : Rep K mg H φ (.str x.cps.toList) (.str x) := by
  have h := Rep.str (K := K) (mg := mg) (H := H) (φ := φ) x.cps.toList g
  rwa [Array.toArray_toList] at h
theorem de_str {x j pos} (g : goodS x.cps.toList = true := by decide +kernel) : DE X W (.Constant (.str x) j pos) (eC (.str x.cps.toList)) := pe_str.wk (tC_wk fun _ _ => .strOf x g)
theorem good_append {a b : List Nat} (h : goodS a = true) (h' : goodS b = true) : goodS (a ++ b) = true := by
  unfold goodS at *
  rw [List.all_append, h, h'] <;> rfl
theorem good_mem {a : List Nat} : goodS a = true ↔ ∀ c ∈ a, c < 1114112 := by
  unfold goodS
  rw [List.all_eq_true]
  constructor
  · exact fun h c hc => of_decide_eq_true (h c hc)
  · exact fun h c hc => decide_eq_true (h c hc)
/-- a name of the module: its value -/
def Glob (K : PySem.W.Frag) (mg : Str → Option Value) (x : Str) (d : D) : Prop := ∃ (v : V) (u : Value), mg x = some u ∧ RelV v u ∧ ∀ H φ, Rep K mg H φ d v
theorem de_g {x : Str} {d : D} {pos : Pos} (h : Glob X.K X.mg x d) (hg : Gl X x := by rfl) (hd : (x == ("__debug__" : Str)) = false := by decide) : DE X W (.Name x pos) (eC d) := by
  obtain ⟨v, u, hm, r, q⟩ := h
  exact (pe_glob hg hm r hd).wk (tC_wk q)

/-! ### operators -/
def eBin (f g : EM) (k : D → D → Sto → R D) : EM := fun ρ S => (f ρ S).bind fun x S1 => (g ρ S1).bind fun y S2 => k x y S2
def eUn (f : EM) (k : D → Sto → R D) : EM := fun ρ S => (f ρ S).bind k
/-- what an operation does, by values -/
def OpD (X : Cx) (W : WX) (r : R2) (k : D → D → Sto → R D) : Prop := ∀ bs σ H φ S dx dy x y Q, Sim X.K X.mg H φ bs S → Rep X.K X.mg H φ dx x → Rep X.K X.mg H φ dy y → Post X W bs σ H φ (k dx dy S) Q → r x y H Q
theorem tOp_wk {f g : EM} {k : D → D → Sto → R D} {r : R2} (hk : OpD X W r k) (σ : L2.St) (H : Hp) (Q : VK) (h : tE X W (eBin f g k) σ H Q) : tOp r (tE X W f) (tE X W g) σ H Q := by
  obtain ⟨φ, bs, ρ, S, s, e, h⟩ := h
  refine tG_then s e h fun dx S1 x H1 φ1 x1 s1 e1 r1 h1 => ?_
  refine tG_then s1 e1 h1 fun dy S2 y H2 φ2 x2 s2 e2 r2 h2 => ?_
  exact hk _ _ _ _ _ _ _ _ _ _ s2 (r1.ext x2 s1.cells) r2 h2
variable {a b : Expr} {f g : EM} {pos : Pos}
theorem de_bin {op : Operator} {r : R2} {k : D → D → Sto → R D} (ho : OpR X (binaryOp op) r) (hk : OpD X W r k) (ha : DE X W a f) (hb : DE X W b g) : DE X W (.BinOp a op b pos) (eBin f g k) := (pe_op ho ha hb).wk (tOp_wk hk)

def dAdd (c : Bool) : D → D → Sto → R D
  | .int i, .int j, S => .ok (.int (i + j)) S
  | .str x, .str y, S => if x.length + y.length ≤ sizeLine then .ok (.str (x ++ y)) S else .bad
  | .tup xs, .tup ys, S => if xs.length + ys.length ≤ sizeLine then .ok (.tup (xs ++ ys)) S else .bad
  | .lst xs, .lst ys, S => if xs.length + ys.length ≤ sizeLine then mkL c (xs ++ ys) S else .bad
  | .ref n, .lst ys, S => match S.get n with
    | some (.lst xs) => if xs.length + ys.length ≤ sizeLine then mkL c (xs ++ ys) S else .bad
    | _ => .bad
  | .lst xs, .ref n, S => match S.get n with
    | some (.lst ys) => if xs.length + ys.length ≤ sizeLine then mkL c (xs ++ ys) S else .bad
    | _ => .bad
  | .ref m, .ref n, S => match S.get m, S.get n with
    | some (.lst xs), some (.lst ys) => if xs.length + ys.length ≤ sizeLine then mkL c (xs ++ ys) S else .bad
    | _, _ => .bad
  | _, _, _ => .bad
def rAddU (K : PySem.W.Frag) : R2 := fun x y H Q => (rI0 (fun i j => .int (i + j)) x y H Q ∨ (∃ i j : Str, x = .str i ∧ y = .str j ∧ i.length + j.length ≤ sizeLine ∧ Q (.str (i ++ j)) H)) ∨ (rCatA K x y H Q ∨ rCat x y H Q)
theorem str_app (x y : List Nat) : (⟨x.toArray⟩ : Str) ++ (⟨y.toArray⟩ : Str) = ⟨(x ++ y).toArray⟩ := by
  show (⟨x.toArray ++ y.toArray⟩ : Str) = _
  simp
theorem op_addU : OpR X (binaryOp .Add) (rAddU X.K) := OpR.or (OpR.or op_add op_add_str) (OpR.or op_catA op_cat)
theorem if_bad {α : Type} {c : Prop} [Decidable c] {r : R α} {P : R α → Prop} (h : P (if c then r else .bad)) (hb : P .bad → False) : c ∧ P r := by
  by_cases q : c
  · rw [if_pos q] at h; exact ⟨q, h⟩
  · rw [if_neg q] at h; exact (hb h).elim
theorem add_ok {c : Bool} : OpD X W (rAddU X.K) (dAdd c) := by
  intro bs σ H φ S dx dy x y Q s rx ry h
  have lists : ∀ {xs ys : List D} {vs ws : List V} {p q : Addr}, H p = some (.lst vs) → H q = some (.lst ws) → RepL X.K X.mg H φ xs vs → RepL X.K X.mg H φ ys ws →
      Post X W bs σ H φ (if xs.length + ys.length ≤ sizeLine then mkL c (xs ++ ys) S else .bad) Q → rAddU X.K (.ref p) (.ref q) H Q := fun {xs ys vs ws p q} h1 h2 r1 r2 h => by
    obtain ⟨hl, h⟩ := if_bad (P := fun r => Post X W bs σ H φ r Q) h fun z => z
    exact .inr (.inr ⟨_, _, _, _, rfl, rfl, h1, h2, by rw [← r1.length, ← r2.length]; exact hl, fun p hp => mkL_ok s (r1.append r2) hp h⟩)
  cases rx with
  | int i =>
    cases ry with
    | int j => exact .inl (.inl ⟨i, j, rfl, rfl, PostG.done s (.int (i + j)) h⟩)
    | _ => exact h.elim
  | str i gi =>
    cases ry with
    | str j gj =>
      obtain ⟨hl, h⟩ := if_bad (P := fun r => Post X W bs σ H φ r Q) h fun z => z
      exact .inl (.inr ⟨_, _, rfl, rfl, by simpa [Str.length] using hl, by rw [str_app]; exact PostG.done s (.str (i ++ j) (good_append gi gj)) h⟩)
    | _ => exact h.elim
  | tup hx lx =>
    cases ry with
    | tup hy ly =>
      obtain ⟨hl, h⟩ := if_bad (P := fun r => Post X W bs σ H φ r Q) h fun z => z
      refine .inr (.inl ⟨_, _, _, _, rfl, rfl, hx, hy, by rw [← lx.length, ← ly.length]; exact hl, fun e => ?_, fun e1 e2 => ?_, fun e1 e2 p hp => ?_⟩)
      · subst e; cases lx; exact PostG.done s (.tup hy ly) h
      · subst e2
        cases ly
        rw [List.append_nil] at h
        exact PostG.done s (.tup hx lx) h
      · exact tup_ok s (lx.append ly) hp h
    | _ => exact h.elim
  | lst hx _ lx =>
    cases ry with
    | lst hy _ ly => exact lists hx hy lx ly h
    | @ref n b hb =>
      simp only [dAdd] at h
      split at h
      · rename_i ys e
        obtain ⟨_, ev, _, vs, hv, lv⟩ := s.at (.ref hb) e
        cases ev
        exact lists hx hv lx lv h
      · exact h.elim
    | _ => exact h.elim
  | @ref m a ha =>
    cases ry with
    | lst hy _ ly =>
      simp only [dAdd] at h
      split at h
      · rename_i ys e
        obtain ⟨_, ev, _, vs, hv, lv⟩ := s.at (.ref ha) e
        cases ev
        exact lists hv hy lv ly h
      · exact h.elim
    | @ref n b hb =>
      simp only [dAdd] at h
      split at h
      · rename_i xs ys e e'
        obtain ⟨_, ev, _, vs, hv, lv⟩ := s.at (.ref ha) e
        cases ev
        obtain ⟨_, ev, _, ws, hw, lw⟩ := s.at (.ref hb) e'
        cases ev
        exact lists hv hw lv lw h
      · exact h.elim
    | _ => exact h.elim
  | _ => exact h.elim
theorem de_add {c : Bool} (ha : DE X W a f) (hb : DE X W b g) : DE X W (.BinOp a .Add b pos) (eBin f g (dAdd c)) := de_bin op_addU add_ok ha hb
/-- two ints under C -/
def dI (C : Int → Int → Prop) [∀ i j, Decidable (C i j)] (k : Int → Int → Int) : D → D → Sto → R D
  | .int i, .int j, S => if C i j then .ok (.int (k i j)) S else .bad
  | _, _, _ => .bad
theorem dI_ok {C : Int → Int → Prop} [∀ i j, Decidable (C i j)] {k : Int → Int → Int} : OpD X W (rI C fun i j => .int (k i j)) (dI C k) := by
  intro bs σ H φ S dx dy x y Q s rx ry h
  cases rx with
  | int i =>
    cases ry with
    | int j =>
      obtain ⟨hl, h⟩ := if_bad (P := fun r => Post X W bs σ H φ r Q) h fun z => z
      exact ⟨i, j, rfl, rfl, hl, PostG.done s (.int _) h⟩
    | _ => exact h.elim
  | _ => exact h.elim
def dSub : D → D → Sto → R D
  | .int i, .int j, S => .ok (.int (i - j)) S
  | _, _, _ => .bad
theorem de_sub (ha : DE X W a f) (hb : DE X W b g) : DE X W (.BinOp a .Sub b pos) (eBin f g dSub) := de_bin op_sub (fun bs σ H φ S dx dy x y Q s rx ry h => by
  cases rx with
  | int i =>
    cases ry with
    | int j => exact ⟨i, j, rfl, rfl, PostG.done s (.int _) h⟩
    | _ => exact h.elim
  | _ => exact h.elim) ha hb
instance (i j : Int) : Decidable (CDivN i j) := by unfold CDivN; infer_instance
instance (i j : Int) : Decidable (CDiv i j) := by unfold CDiv; infer_instance
instance (i j : Int) : Decidable (CMul i j) := by unfold CMul; infer_instance
instance (i j : Int) : Decidable (CPow i j) := by unfold CPow; infer_instance
abbrev dMod := dI (fun _ j => 0 < j) fun i j => i % j
abbrev dDiv := dI CDiv fun i j => i / j
abbrev dPow := dI CPow fun i j => i ^ j.toNat
theorem de_mod (ha : DE X W a f) (hb : DE X W b g) : DE X W (.BinOp a .Mod b pos) (eBin f g dMod) := de_bin op_mod dI_ok ha hb
theorem de_fdiv (ha : DE X W a f) (hb : DE X W b g) : DE X W (.BinOp a .FloorDiv b pos) (eBin f g dDiv) := de_bin op_fdiv dI_ok ha hb
theorem de_pow (ha : DE X W a f) (hb : DE X W b g) : DE X W (.BinOp a .Pow b pos) (eBin f g dPow) := de_bin op_pow dI_ok ha hb
end
end Mi

namespace Mi
open PySem PySem.Spec PyProof.Rows L2

/-! ### data -/
mutual
def pyD : D → Option PyData
  | .non => some .none
  | .bl b => some (.bool b)
  | .int i => some (.int i)
  | .str s => some (.str ⟨s.toArray⟩)
  | .tup xs => (pyL xs).map .tuple
  | .lst xs => (pyL xs).map .list
  | .frl xs => (pyL xs).map .list
  | .dic _ => none
  | .obj _ _ => none
  | .ref _ => none
def pyL : List D → Option (List PyData)
  | [] => some []
  | x :: xs => match pyD x, pyL xs with
    | some a, some as => some (a :: as)
    | _, _ => none
end
def pyS (S : Sto) : D → Option PyData
  | .ref n => match S.get n with
    | some (.lst xs) => (pyL xs).map .list
    | _ => none
  | d => pyD d
/-- the items of a list -/
def lstS (S : Sto) : D → Option (List D)
  | .lst xs => some xs
  | .frl xs => some xs
  | .ref n => match S.get n with
    | some (.lst xs) => some xs
    | _ => none
  | _ => none
/-- the items of a list or a tuple -/
def seqS (S : Sto) : D → Option (List D)
  | .tup xs => some xs
  | d => lstS S d
def dicS (S : Sto) : D → Option (List (Key × D))
  | .dic xs => some xs
  | .ref n => match S.get n with
    | some (.dic xs) => some xs
    | _ => none
  | _ => none
def keyD : D → Option Key
  | .int i => some (.inl i)
  | .str s => some (.inr ⟨s.toArray⟩)
  | _ => none
section
variable {K : PySem.W.Frag} {mg : Str → Option Value} {H : Hp} {φ : Ph} {bs : List Nat} {S : Sto}
theorem FzL.sq {a : Addr} {vs : List V} (h : FzL K H a vs) : SqL K H a vs := by
  rcases h with ⟨o, h⟩ | h
  · exact .inl (.inr ⟨o, h⟩)
  · exact .inr h
theorem good_ok {s : List Nat} (h : goodS s = true) : PyData.canLay0 (.str ⟨s.toArray⟩) = true := by
  show PyData.strOk ⟨s.toArray⟩ = true
  unfold PyData.strOk
  show s.toArray.all _ = true
  rw [← Array.all_toList]
  exact h
mutual
theorem Rep.dp : ∀ {d : D} {v : V} {p : PyData}, Rep K mg H φ d v → pyD d = some p → Dp K H v p ∧ p.canLay0 = true
  | _, _, _, .non, e => by cases e; exact ⟨.non, rfl⟩
  | _, _, _, .bl b, e => by cases e; exact ⟨.bl b, rfl⟩
  | _, _, _, .int i, e => by cases e; exact ⟨.int i, rfl⟩
  | _, _, _, .str s g, e => by cases e; exact ⟨.str _, good_ok g⟩
  | _, _, p, .tup (ds := ds) h hl, e => by
    have e' : (pyL ds).map PyData.tuple = some p := e
    cases q : pyL ds with
    | none => rw [q] at e'; cases e'
    | some ps =>
      rw [q] at e'; cases e'
      obtain ⟨h1, h2⟩ := RepL.dp hl q
      exact ⟨.tup h h1, h2⟩
  | _, _, p, .lst (ds := ds) h _ hl, e => by
    have e' : (pyL ds).map PyData.list = some p := e
    cases q : pyL ds with
    | none => rw [q] at e'; cases e'
    | some ps =>
      rw [q] at e'; cases e'
      obtain ⟨h1, h2⟩ := RepL.dp hl q
      exact ⟨.lst (.of h) h1, h2⟩
  | _, _, p, .frl (ds := ds) h hl, e => by
    have e' : (pyL ds).map PyData.list = some p := e
    cases q : pyL ds with
    | none => rw [q] at e'; cases e'
    | some ps =>
      rw [q] at e'; cases e'
      obtain ⟨h1, h2⟩ := RepL.dp hl q
      exact ⟨.lst h.sq h1, h2⟩
  | _, _, _, .dic _ _ _, e => by cases e
  | _, _, _, .obj _ _ _ _, e => by cases e
  | _, _, _, .ref _, e => by cases e
theorem RepL.dp : ∀ {ds : List D} {vs : List V} {ps : List PyData}, RepL K mg H φ ds vs → pyL ds = some ps → DpAll K H vs ps ∧ PyData.canLayAll0 ps = true
  | _, _, _, .nil, e => by cases e; exact ⟨.nil, rfl⟩
  | _, _, ps, .cons (d := d) (ds := ds) h hl, e => by
    cases q1 : pyD d with
    | none => simp [pyL, q1] at e
    | some a =>
      cases q2 : pyL ds with
      | none => simp [pyL, q1, q2] at e
      | some as =>
        have e' : some (a :: as) = some ps := by
          simpa [pyL, q1, q2] using e
        cases e'
        obtain ⟨h1, h2⟩ := Rep.dp h q1
        obtain ⟨h3, h4⟩ := RepL.dp hl q2
        refine ⟨.cons h1 h3, ?_⟩
        show (a.canLay0 && PyData.canLayAll0 as) = true
        rw [h2, h4] <;> rfl
end
theorem Sim.dp (s : Sim K mg H φ bs S) {d : D} {v : V} {p : PyData} (r : Rep K mg H φ d v) (e : pyS S d = some p) : Dp K H v p ∧ p.canLay0 = true := by
  cases d with
  | ref n =>
    simp only [pyS] at e
    split at e
    · rename_i xs q
      obtain ⟨a, rfl, _, vs, hv, lv⟩ := s.at r q
      cases q2 : pyL xs with
      | none => rw [q2] at e; cases e
      | some ps =>
        rw [q2] at e; cases e
        obtain ⟨h1, h2⟩ := RepL.dp lv q2
        exact ⟨.lst (.of hv) h1, h2⟩
    · cases e
  | _ => exact r.dp e
theorem Sim.lst (s : Sim K mg H φ bs S) {d : D} {v : V} {xs : List D} (r : Rep K mg H φ d v) (e : lstS S d = some xs) : ∃ a vs, v = .ref a ∧ SqL K H a vs ∧ RepL K mg H φ xs vs := by
  cases r with
  | lst h _ hl => cases e; exact ⟨_, _, rfl, .of h, hl⟩
  | frl h hl => cases e; exact ⟨_, _, rfl, h.sq, hl⟩
  | @ref n a h =>
    simp only [lstS] at e
    split at e
    · rename_i ys q
      cases e
      obtain ⟨a', e', _, vs, hv, lv⟩ := s.at (.ref h) q
      cases e'
      exact ⟨_, _, rfl, .of hv, lv⟩
    · cases e
  | _ => cases e
theorem Sim.seq (s : Sim K mg H φ bs S) {d : D} {v : V} {xs : List D} (r : Rep K mg H φ d v) (e : seqS S d = some xs) : ∃ a vs, v = .ref a ∧ (SqL K H a vs ∨ SqT K H a vs) ∧ RepL K mg H φ xs vs := by
  by_cases ht : ∃ ys, d = .tup ys
  · obtain ⟨ys, rfl⟩ := ht
    cases e
    cases r with
    | tup h hl => exact ⟨_, _, rfl, .inr h, hl⟩
  · have e' : lstS S d = some xs := by
      cases d with
      | tup ys => exact absurd ⟨_, rfl⟩ ht
      | _ => exact e
    obtain ⟨a, vs, h1, h2, h3⟩ := s.lst r e'
    exact ⟨a, vs, h1, .inl h2, h3⟩
theorem Sim.dic (s : Sim K mg H φ bs S) {d : D} {v : V} {xs : List (Key × D)} (r : Rep K mg H φ d v) (e : dicS S d = some xs) : ∃ a vs, v = .ref a ∧ Rd H a (.dK vs) ∧ RepK K mg H φ xs vs := by
  cases r with
  | dic h _ hl => cases e; exact ⟨_, _, rfl, h, hl⟩
  | @ref n a h =>
    simp only [dicS] at e
    split at e
    · rename_i ys q
      cases e
      obtain ⟨a', e', _, vs, hv, lv⟩ := s.at (.ref h) q
      cases e'
      exact ⟨_, _, rfl, .inl hv, lv⟩
    · cases e
  | _ => cases e
theorem Rep.key {d : D} {v : V} {k : Key} (r : Rep K mg H φ d v) (e : keyD d = some k) : v = kV k := by
  cases r <;> cases e <;> rfl
def valD (kvs : List (Key × D)) (k : Key) : Option D := (kvs.find? fun kv => decide (kv.1 = k)).map (·.2)
theorem RepK.val {k : Key} : ∀ {ds : List (Key × D)} {vs : List (Key × V)}, RepK K mg H φ ds vs → (valD ds k = none ∧ valV vs k = none) ∨ ∃ d v, valD ds k = some d ∧ valV vs k = some v ∧ Rep K mg H φ d v
  | _, _, .nil => .inl ⟨rfl, rfl⟩
  | _, _, .cons (k := k') (d := d) (ds := ds) (v := v) (vs := vs) h t => by
    unfold valD valV
    rw [List.find?_cons, List.find?_cons]
    by_cases q : k' = k
    · subst q
      simp only [decide_true]
      exact .inr ⟨d, v, rfl, rfl, h⟩
    · simp only [decide_eq_false q]
      exact RepK.val t
end

/-! ### tests -/
/-- a value's truth -/
def truS (S : Sto) : D → Option Bool
  | .non => some false
  | .bl b => some b
  | .int i => some (i != 0)
  | .str s => if s.length ≤ sizeLine then some ((s.length : Int) != 0) else none
  | .tup xs => some (!xs.isEmpty)
  | .lst xs => some (!xs.isEmpty)
  | .frl xs => some (!xs.isEmpty)
  | .ref n => match S.get n with
    | some (.lst xs) => some (!xs.isEmpty)
    | some (.dic xs) => some (!xs.isEmpty)
    | _ => none
  | _ => none
/-- an answer that may lack -/
def R.of {α : Type} (S : Sto) : Option α → R α
  | some a => .ok a S
  | none => .bad
def eTru (f : EM) : TM := fun ρ S => (f ρ S).bind fun d S1 => .of S1 (truS S1 d)
/-- a bool's truth -/
def blD : D → Option Bool
  | .bl b => some b
  | _ => none
def eTst (f : EM) : TM := fun ρ S => (f ρ S).bind fun d S1 => .of S1 (blD d)
section
variable {X : Cx} {W : WX} {bs : List Nat} {σ : L2.St} {H : Hp} {φ : Ph} {S : Sto} {Q : Bool → Hp → Prop}
theorem isEmpty_repL {K : PySem.W.Frag} {mg : Str → Option Value} {ds : List D} {vs : List V} (r : RepL K mg H φ ds vs) : (!ds.isEmpty) = !vs.isEmpty := by
  cases r <;> rfl
theorem isEmpty_repK {K : PySem.W.Frag} {mg : Str → Option Value} {ds : List (Key × D)} {vs : List (Key × V)} (r : RepK K mg H φ ds vs) : (!ds.isEmpty) = !vs.isEmpty := by
  cases r <;> rfl
theorem of_post {α γ : Type} {K : PySem.W.Frag} {mg : Str → Option Value} {rel : Rel α γ} {o : Option α} {Q : γ → Hp → Prop} (h : PostG K mg W rel bs σ H φ (.of S o) Q) : ∃ a, o = some a ∧ PostG K mg W rel bs σ H φ (.ok a S) Q := by
  cases o with
  | some a => exact ⟨a, rfl, h⟩
  | none => exact h.elim
theorem Sim.tru {K : PySem.W.Frag} {mg : Str → Option Value} {d : D} {v : V} {b : Bool} (s : Sim K mg H φ bs S) (r : Rep K mg H φ d v) (h : truS S d = some b) : TruV K v H b := by
  cases r with
  | non => cases h; exact rfl
  | bl b => cases h; exact rfl
  | int i => cases h; exact rfl
  | str z g =>
    have h' : (if z.length ≤ sizeLine then some ((z.length : Int) != 0) else none) = some b := h
    by_cases q : z.length ≤ sizeLine
    · rw [if_pos q] at h'
      cases h'
      exact ⟨by simpa [Str.length] using q, by simp [Str.length]⟩
    · rw [if_neg q] at h'; cases h'
  | tup h1 h2 => cases h; exact .inr (.inl ⟨_, h1, isEmpty_repL h2⟩)
  | lst h1 _ h2 => cases h; exact .inl ⟨_, .of h1, isEmpty_repL h2⟩
  | frl h1 h2 => cases h; exact .inl ⟨_, h1.sq, isEmpty_repL h2⟩
  | dic _ _ _ => cases h
  | obj _ _ _ _ => cases h
  | @ref n a h1 =>
    simp only [truS] at h
    split at h
    · rename_i xs e
      cases h
      obtain ⟨a', ev, _, vs, hv, lv⟩ := s.at (.ref h1) e
      cases ev
      exact .inl ⟨_, .of hv, isEmpty_repL lv⟩
    · rename_i xs e
      cases h
      obtain ⟨a', ev, _, vs, hv, lv⟩ := s.at (.ref h1) e
      cases ev
      exact .inr (.inr ⟨_, hv, isEmpty_repK lv⟩)
    · cases h
theorem Rep.bl' {K : PySem.W.Frag} {mg : Str → Option Value} {d : D} {v : V} {b : Bool} (r : Rep K mg H φ d v) (h : blD d = some b) : v = .bl b := by
  cases r <;> cases h <;> rfl
variable {a b c : Expr} {f g : EM} {t u : TM} {pos : Pos} {rest : List Expr}
theorem dt_val (ha : DE X W a f) (he : ∀ whole, isTrue a X.env whole = (do let v ← whole; standAt a.pos; holding [v] (truthy v)) := by intro _; rfl) : DT X W a (eTru f) := by
  refine (pt_truth ha he).wk fun σ H Q h => ?_
  obtain ⟨φ, bs, ρ, S, s, e, h⟩ := h
  refine tG_then s e h fun d S1 v H1 φ1 x1 s1 e1 r1 h1 => ?_
  obtain ⟨b, e2, h2⟩ := of_post h1
  exact ⟨b, s1.tru r1 e2, PostG.done (rel := RelB) s1 rfl h2⟩
theorem dt_cmp {op : CmpOp} {r : R2} {k : D → D → Sto → R D} (ho : OpR X (compareOp op) r) (hk : OpD X W r k) (ha : DE X W a f) (hb : DE X W b g) (hm : behindInMarks op b = false) : DT X W (.Compare a [op] [b] pos) (eTst (eBin f g k)) := by
  refine (pt_cmpR ho ha hb hm).wk fun σ H Q h => ?_
  obtain ⟨φ, bs, ρ, S, s, e, h⟩ := h
  refine tOp_wk (W := W) hk σ H _ ?_
  refine tG_then s e h fun d S1 v H1 φ1 x1 s1 e1 r1 h1 => ?_
  obtain ⟨b, e2, h2⟩ := of_post h1
  exact ⟨b, r1.bl' e2, PostG.done (rel := RelB) s1 rfl h2⟩
theorem de_cmp {op : CmpOp} {r : R2} {k : D → D → Sto → R D} (ho : OpR X (compareOp op) r) (hk : OpD X W r k) (ha : DE X W a f) (hb : DE X W b g) (hm : behindInMarks op b = false) : DE X W (.Compare a [op] [b] pos) (eBin f g k) :=
  (pe_cmpR ho ha hb hm).wk (tOp_wk hk)
def tNotM (t : TM) : TM := fun ρ S => (t ρ S).bind fun b S1 => .ok (!b) S1
def tAndM (t u : TM) : TM := fun ρ S => (t ρ S).bind fun b S1 => if b = true then u ρ S1 else .ok false S1
def tOrM (t u : TM) : TM := fun ρ S => (t ρ S).bind fun b S1 => if b = true then .ok true S1 else u ρ S1
theorem dt_not (h : DT X W a t) : DT X W (.UnaryOp .Not a pos) (tNotM t) := by
  refine (pt_not h).wk fun σ H Q h => ?_
  obtain ⟨φ, bs, ρ, S, s, e, h⟩ := h
  exact tG_then s e h fun d S1 v H1 φ1 x1 s1 e1 r1 h1 => by
    have r1' : v = d := r1
    subst r1'
    exact PostG.done (rel := RelB) s1 rfl h1
theorem dw_and (ha : DT X W a t) (hb : DW X W (.BoolOp .And (b :: rest) pos) u) : DW X W (.BoolOp .And (a :: b :: rest) pos) (tAndM t u) := by
  refine (pw_and ha hb).wk fun σ H Q h => ?_
  obtain ⟨φ, bs, ρ, S, s, e, h⟩ := h
  exact tG_then s e h fun d S1 v H1 φ1 x1 s1 e1 r1 h1 => by
    have r1' : v = d := r1
    subst r1'
    cases v with
    | true => exact iteT ⟨φ1, bs, ρ, S1, s1, e1, h1⟩
    | false => exact iteF (PostG.done (rel := RelB) s1 rfl h1)
theorem dw_or (ha : DT X W a t) (hb : DW X W (.BoolOp .Or (b :: rest) pos) u) : DW X W (.BoolOp .Or (a :: b :: rest) pos) (tOrM t u) := by
  refine (pw_or ha hb).wk fun σ H Q h => ?_
  obtain ⟨φ, bs, ρ, S, s, e, h⟩ := h
  exact tG_then s e h fun d S1 v H1 φ1 x1 s1 e1 r1 h1 => by
    have r1' : v = d := r1
    subst r1'
    cases v with
    | true => exact iteT (PostG.done (rel := RelB) s1 rfl h1)
    | false => exact iteF ⟨φ1, bs, ρ, S1, s1, e1, h1⟩
theorem dw_and1 (ha : DT X W a t) : DW X W (.BoolOp .And [a] pos) t := pw_and1 ha
theorem dw_or1 (ha : DT X W a t) : DW X W (.BoolOp .Or [a] pos) t := pw_or1 ha
/-- and, or, not as values, by truth -/
def eOrV (f g : EM) : EM := fun ρ S => (f ρ S).bind fun d S1 => match truS S1 d with
  | some true => .ok d S1
  | some false => g ρ S1
  | none => .bad
def eAndV (f g : EM) : EM := fun ρ S => (f ρ S).bind fun d S1 => match truS S1 d with
  | some true => g ρ S1
  | some false => .ok d S1
  | none => .bad
def eNotV (f : EM) : EM := fun ρ S => (f ρ S).bind fun d S1 => match truS S1 d with
  | some k => .ok (.bl (!k)) S1
  | none => .bad
theorem de_or (ha : DE X W a f) (hb : DE X W (.BoolOp .Or (b :: rest) pos) g) : DE X W (.BoolOp .Or (a :: b :: rest) pos) (eOrV f g) := by
  refine (pe_orT ha hb).wk fun σ H Q h => ?_
  obtain ⟨φ, bs, ρ, S, s, e, h⟩ := h
  refine tG_then s e h fun d S1 v H1 φ1 x1 s1 e1 r1 h1 => ?_
  split at h1
  · rename_i e2; exact ⟨true, s1.tru r1 e2, iteT (PostG.done s1 r1 h1)⟩
  · rename_i e2; exact ⟨false, s1.tru r1 e2, iteF ⟨φ1, bs, ρ, S1, s1, e1, h1⟩⟩
  · exact h1.elim
theorem de_and (ha : DE X W a f) (hb : DE X W (.BoolOp .And (b :: rest) pos) g) : DE X W (.BoolOp .And (a :: b :: rest) pos) (eAndV f g) := by
  refine (pe_andT ha hb).wk fun σ H Q h => ?_
  obtain ⟨φ, bs, ρ, S, s, e, h⟩ := h
  refine tG_then s e h fun d S1 v H1 φ1 x1 s1 e1 r1 h1 => ?_
  split at h1
  · rename_i e2; exact ⟨true, s1.tru r1 e2, iteT ⟨φ1, bs, ρ, S1, s1, e1, h1⟩⟩
  · rename_i e2; exact ⟨false, s1.tru r1 e2, iteF (PostG.done s1 r1 h1)⟩
  · exact h1.elim
theorem de_one {op} (ha : DE X W a f) : DE X W (.BoolOp op [a] pos) f := pe_one ha
theorem de_not (ha : DE X W a f) : DE X W (.UnaryOp .Not a pos) (eNotV f) := by
  refine (pe_notT ha).wk fun σ H Q h => ?_
  obtain ⟨φ, bs, ρ, S, s, e, h⟩ := h
  refine tG_then s e h fun d S1 v H1 φ1 x1 s1 e1 r1 h1 => ?_
  split at h1
  · rename_i k e2; exact ⟨k, s1.tru r1 e2, PostG.done s1 (.bl _) h1⟩
  · exact h1.elim
def eIf (t : TM) (f g : EM) : EM := fun ρ S => (t ρ S).bind fun b S1 => if b = true then f ρ S1 else g ρ S1
theorem de_if (hc : DT X W c t) (ha : DE X W a f) (hb : DE X W b g) : DE X W (.IfExp c a b pos) (eIf t f g) := by
  refine (pe_ifExp hc ha hb).wk fun σ H Q h => ?_
  obtain ⟨φ, bs, ρ, S, s, e, h⟩ := h
  refine tG_then s e h fun d S1 v H1 φ1 x1 s1 e1 r1 h1 => ?_
  have r1' : v = d := r1
  subst r1'
  cases v with
  | true => exact iteT ⟨φ1, bs, ρ, S1, s1, e1, h1⟩
  | false => exact iteF ⟨φ1, bs, ρ, S1, s1, e1, h1⟩
/-- a comparison of two (of three) -/
def eChain (f g h : EM) (k k' : D → D → Sto → R D) : EM := fun ρ S => (f ρ S).bind fun x S1 => (g ρ S1).bind fun y S2 => (k x y S2).bind fun z S3 => match blD z with
  | some true => (h ρ S3).bind fun w S4 => k' y w S4
  | some false => .ok (.bl false) S3
  | none => .bad
theorem tChain_wk {f g h : EM} {k k' : D → D → Sto → R D} {r r' : R2} (hk : OpD X W r k) (hk' : OpD X W r' k') (σ : L2.St) (H : Hp) (Q : VK) (hh : tE X W (eChain f g h k k') σ H Q) : tChain r r' (tE X W f) (tE X W g) (tE X W h) σ H Q := by
  obtain ⟨φ, bs, ρ, S, s, e, hh⟩ := hh
  refine tG_then s e hh fun dx S1 x H1 φ1 x1 s1 e1 r1 h1 => ?_
  refine tG_then s1 e1 h1 fun dy S2 y H2 φ2 x2 s2 e2 r2 h2 => ?_
  have r1' := r1.ext x2 s1.cells
  refine hk bs σ _ _ _ _ _ _ _ _ s2 r1' r2 ?_
  revert h2
  cases k dx dy S2 with
  | bad => exact fun h2 => h2
  | ex d S3 => exact fun h2 => h2
  | ok z S3 =>
    intro h2 vz H3 φ3 x3 s3 r3
    have h3 := PostG.shift x3 h2
    dsimp only [R.bind] at h3
    split at h3
    · rename_i e4
      refine ⟨true, r3.bl' e4, iteT ?_⟩
      refine tG_then s3 (e2.ext x3 s2.cells) h3 fun dw S4 w H4 φ4 x4 s4 e5 r4 h4 => ?_
      exact hk' bs σ _ _ _ _ _ _ _ _ s4 ((r2.ext x3 s2.cells).ext x4 s3.cells) r4 h4
    · rename_i e4
      exact ⟨false, r3.bl' e4, iteF (PostG.done s3 (.bl false) h3)⟩
    · exact h3.elim
theorem de_chain {op op' : CmpOp} {r r' : R2} {h : EM} {k k' : D → D → Sto → R D} (ho : OpR X (compareOp op) r) (hk : OpD X W r k) (ho' : OpR X (compareOp op') r') (hk' : OpD X W r' k') (ha : DE X W a f) (hb : DE X W b g) (hc : DE X W c h)
    (hm : lastMarks [op, op'] [b, c] = false := by with_unfolding_all rfl) : DE X W (.Compare a [op, op'] [b, c] pos) (eChain f g h k k') := (pe_chain ho ho' ha hb hc hm).wk (tChain_wk hk hk')
theorem dt_chain {op op' : CmpOp} {r r' : R2} {h : EM} {k k' : D → D → Sto → R D} (ho : OpR X (compareOp op) r) (hk : OpD X W r k) (ho' : OpR X (compareOp op') r') (hk' : OpD X W r' k') (ha : DE X W a f) (hb : DE X W b g) (hc : DE X W c h)
    (hm : lastMarks [op, op'] [b, c] = false := by with_unfolding_all rfl) : DT X W (.Compare a [op, op'] [b, c] pos) (eTst (eChain f g h k k')) := by
  refine (pt_chain ho ho' ha hb hc hm).wk fun σ H Q h => ?_
  obtain ⟨φ, bs, ρ, S, s, e, h⟩ := h
  refine tChain_wk (W := W) hk hk' σ H _ ?_
  refine tG_then s e h fun d S1 v H1 φ1 x1 s1 e1 r1 h1 => ?_
  obtain ⟨b, e2, h2⟩ := of_post h1
  exact ⟨b, r1.bl' e2, PostG.done (rel := RelB) s1 rfl h2⟩
end
end Mi

namespace Mi
open PySem PySem.Spec PyProof.Rows L2

/-! ### what the def's body stands in -/
structure Cz (X : Cx) (W : WX) (k : Nat) : Prop where
  hr : Room k X.A
  tk : Takes X W
  po : PassesOwn (model X.prog X.w) X.A X.env X.xe
  calm : X.calm = true

/-! ### == and in -/
def eqS (S : Sto) (x y : D) : Option Bool := match pyS S x, pyS S y with
  | some a, some b => if min a.depth b.depth ≤ 64 then some (PyData.eqv a b) else none
  | _, _ => none
def dEq (x y : D) (S : Sto) : R D := match eqS S x y with
  | some b => .ok (.bl b) S
  | none => .bad
def dNe (x y : D) (S : Sto) : R D := match eqS S x y with
  | some b => .ok (.bl (!b)) S
  | none => .bad
def rEqU (K : PySem.W.Frag) (neg : Bool) : R2 := fun x y H Q => ∃ d e, Dp K H x d ∧ Dp K H y e ∧ d.canLay0 = true ∧ e.canLay0 = true ∧ min d.depth e.depth ≤ 64 ∧ Q (.bl (if neg then !PyData.eqv d e else PyData.eqv d e)) H
section
variable {X : Cx} {W : WX}
theorem op_eqU (hu : X.A.units + 64 < cLine) : OpR X (compareOp .Eq) (rEqU X.K false) := by
  intro pins s σ H x y v u Q I rx ry h
  obtain ⟨d, e, hd, he, sd, se, hm, q⟩ := h
  obtain ⟨as, r1⟩ := Dp.reads I d x v hd rx
  obtain ⟨bs, r2⟩ := Dp.reads I e y u he ry
  exact SeqAt.compareEq_reads r1 r2 sd se (by omega) ⟨.bl _, H, I, rfl, q⟩
theorem op_neU (hu : X.A.units + 64 < cLine) : OpR X (compareOp .NotEq) (rEqU X.K true) := by
  intro pins s σ H x y v u Q I rx ry h
  obtain ⟨d, e, hd, he, sd, se, hm, q⟩ := h
  obtain ⟨as, r1⟩ := Dp.reads I d x v hd rx
  obtain ⟨bs, r2⟩ := Dp.reads I e y u he ry
  exact SeqAt.compareNe_reads r1 r2 sd se (by omega) ⟨.bl _, H, I, rfl, q⟩
theorem eqS_of {S : Sto} {x y : D} {b : Bool} (h : eqS S x y = some b) : ∃ p q, pyS S x = some p ∧ pyS S y = some q ∧ min p.depth q.depth ≤ 64 ∧ PyData.eqv p q = b := by
  unfold eqS at h
  split at h
  · rename_i p q h1 h2
    by_cases hm : min p.depth q.depth ≤ 64
    · rw [if_pos hm] at h; cases h; exact ⟨p, q, h1, h2, hm, rfl⟩
    · rw [if_neg hm] at h; cases h
  · cases h
theorem eq_ok : OpD X W (rEqU X.K false) dEq := by
  intro bs σ H φ S dx dy x y Q s rx ry h
  unfold dEq at h
  split at h
  · rename_i b e
    obtain ⟨p, q, h1, h2, hm, rfl⟩ := eqS_of e
    obtain ⟨a1, a2⟩ := s.dp rx h1
    obtain ⟨b1, b2⟩ := s.dp ry h2
    exact ⟨p, q, a1, b1, a2, b2, hm, PostG.done s (.bl _) h⟩
  · exact h.elim
theorem ne_ok : OpD X W (rEqU X.K true) dNe := by
  intro bs σ H φ S dx dy x y Q s rx ry h
  unfold dNe at h
  split at h
  · rename_i b e
    obtain ⟨p, q, h1, h2, hm, rfl⟩ := eqS_of e
    obtain ⟨a1, a2⟩ := s.dp rx h1
    obtain ⟨b1, b2⟩ := s.dp ry h2
    exact ⟨p, q, a1, b1, a2, b2, hm, PostG.done s (.bl _) h⟩
  · exact h.elim
end
/-- a text in a text -/
def inStr (s t : List Nat) : Bool := match s with
  | [c] => decide (c ∈ t)
  | s => !(Builtin.Str.occurrences ⟨t.toArray⟩ ⟨s.toArray⟩ 0 t.length 1).isEmpty
/-- x in y -/
def inS (S : Sto) (x y : D) : Option Bool := match y with
  | .str t => match x with
    | .str s => some (inStr s t)
    | _ => none
  | y => match dicS S y with
    | some kvs => match keyD x with
      | some k => some (valD kvs k).isSome
      | none => none
    | none => match seqS S y with
      | some ys => match pyS S x, pyL ys with
        | some p, some ps => if min (PyData.depthAll ps) p.depth ≤ 64 then some (ps.any fun q => PyData.eqv q p) else none
        | _, _ => none
      | none => none
def dIn (x y : D) (S : Sto) : R D := match inS S x y with
  | some b => .ok (.bl b) S
  | none => .bad
def dNotIn (x y : D) (S : Sto) : R D := match inS S x y with
  | some b => .ok (.bl (!b)) S
  | none => .bad
/-- the answer b of x in y, read -/
def RIn (K : PySem.W.Frag) (x y : V) (H : Hp) (b : Bool) : Prop :=
  (∃ (c : Nat) (z : Str), x = .str ⟨#[c]⟩ ∧ y = .str z ∧ b = decide (c ∈ z.cps.toList)) ∨ (∃ i j, x = .str i ∧ y = .str j ∧ b = !(Builtin.Str.occurrences j i 0 j.length 1).isEmpty) ∨
  (∃ (p : Addr) (xs : List V) (ds : List PyData) (d : PyData), y = .ref p ∧ (SqL K H p xs ∨ SqT K H p xs) ∧ DpAll K H xs ds ∧ Dp K H x d ∧ PyData.canLayAll0 ds = true ∧ d.canLay0 = true ∧ min (PyData.depthAll ds) d.depth ≤ 64 ∧ b = ds.any fun q => PyData.eqv q d) ∨
  (∃ (a : Addr) (o : Option V), y = .ref a ∧ DGet H a x o ∧ b = o.isSome)
section
variable {X : Cx} {W : WX}
theorem op_inU (hu : X.A.units + 65 < cLine) : OpR X (compareOp .In) (fun x y H Q => ∃ b, RIn X.K x y H b ∧ Q (.bl b) H) := by
  intro pins s σ H x y v u Q I rx ry h
  obtain ⟨b, h, q⟩ := h
  rcases h with ⟨c, z, e1, e2, rfl⟩ | ⟨i, j, e1, e2, rfl⟩ | ⟨p, xs, ds, d, rfl, hq, hds, hd, c1, c2, hm, rfl⟩ | ⟨a, o, rfl, hg, rfl⟩
  · exact op_in_sign pins s σ H x y v u Q I rx ry ⟨c, z, e1, e2, q⟩
  · exact op_in_str pins s σ H x y v u Q I rx ry ⟨i, j, e1, e2, q⟩
  · obtain ⟨as, r1⟩ := Dp.reads I d x v hd rx
    rcases hq with hq | hq
    · obtain ⟨bs, r2⟩ := Dp.reads I (.list ds) _ u (.lst hq hds) ry
      exact SeqAt.in_list_reads r2 r1 c1 c2 (by omega) ⟨.bl _, H, I, rfl, q⟩
    · obtain ⟨bs, r2⟩ := Dp.reads I (.tuple ds) _ u (.tup hq hds) ry
      exact SeqAt.in_tuple_reads r2 r1 c1 c2 (by omega) ⟨.bl _, H, I, rfl, q⟩
  · cases ry
    exact d_in (by omega) I hg rx fun s3 I3 => ⟨.bl _, H, I3, rfl, q⟩
theorem op_notInU (hu : X.A.units + 65 < cLine) : OpR X (compareOp .NotIn) (fun x y H Q => ∃ b, RIn X.K x y H b ∧ Q (.bl (!b)) H) := by
  intro pins s σ H x y v u Q I rx ry h
  obtain ⟨b, h, q⟩ := h
  rcases h with ⟨c, z, e1, e2, rfl⟩ | ⟨i, j, e1, e2, rfl⟩ | ⟨p, xs, ds, d, rfl, hq, hds, hd, c1, c2, hm, rfl⟩ | ⟨a, o, rfl, hg, rfl⟩
  · exact op_notIn_sign pins s σ H x y v u Q I rx ry ⟨c, z, e1, e2, q⟩
  · exact op_notin_str pins s σ H x y v u Q I rx ry ⟨i, j, e1, e2, q⟩
  · obtain ⟨as, r1⟩ := Dp.reads I d x v hd rx
    rcases hq with hq | hq
    · obtain ⟨bs, r2⟩ := Dp.reads I (.list ds) _ u (.lst hq hds) ry
      exact SeqAt.notIn_list_reads r2 r1 c1 c2 (by omega) ⟨.bl _, H, I, rfl, q⟩
    · obtain ⟨bs, r2⟩ := Dp.reads I (.tuple ds) _ u (.tup hq hds) ry
      exact SeqAt.notIn_tuple_reads r2 r1 c1 c2 (by omega) ⟨.bl _, H, I, rfl, q⟩
  · cases ry
    exact d_notIn (by omega) I hg rx fun s3 I3 => ⟨.bl _, H, I3, rfl, q⟩
theorem inStr_of {K : PySem.W.Frag} {H : Hp} (s t : List Nat) : RIn K (.str ⟨s.toArray⟩) (.str ⟨t.toArray⟩) H (inStr s t) := by
  unfold inStr
  split
  · rename_i c
    exact .inl ⟨c, _, rfl, rfl, by simp⟩
  · exact .inr (.inl ⟨_, _, rfl, rfl, by simp [Str.length]⟩)
/-- the ways of an answer -/
theorem Sim.in_of {K : PySem.W.Frag} {mg : Str → Option Value} {H : Hp} {φ : Ph} {bs : List Nat} {S : Sto} {dx dy : D} {x y : V} {b : Bool} (s : Sim K mg H φ bs S) (rx : Rep K mg H φ dx x) (ry : Rep K mg H φ dy y) (h : inS S dx dy = some b) :
    RIn K x y H b := by
  have main : (match dicS S dy with
      | some kvs => match keyD dx with
        | some k => some (valD kvs k).isSome
        | none => none
      | none => match seqS S dy with
        | some ys => match pyS S dx, pyL ys with
          | some p, some ps => if min (PyData.depthAll ps) p.depth ≤ 64 then some (ps.any fun q => PyData.eqv q p) else none
          | _, _ => none
        | none => none) = some b → RIn K x y H b := fun h2 => by
    split at h2
    · rename_i kvs e
      split at h2
      · rename_i k ek
        cases h2
        obtain ⟨a, vs, rfl, hr, lr⟩ := s.dic ry e
        have hx := rx.key ek
        subst hx
        refine .inr (.inr (.inr ⟨a, valV vs k, rfl, .inl ⟨vs, k, hr, rfl, rfl⟩, ?_⟩))
        rcases lr.val (k := k) with ⟨e1, e2⟩ | ⟨d, v, e1, e2, _⟩ <;> rw [e1, e2] <;> rfl
      · cases h2
    · split at h2
      · rename_i ys e
        split at h2
        · rename_i p ps e1 e2
          by_cases hm : min (PyData.depthAll ps) p.depth ≤ 64
          · rw [if_pos hm] at h2
            cases h2
            obtain ⟨a, vs, rfl, hq, lr⟩ := s.seq ry e
            obtain ⟨c1, c2⟩ := s.dp rx e1
            obtain ⟨d1, d2⟩ := lr.dp e2
            exact .inr (.inr (.inl ⟨a, vs, ps, p, rfl, hq, d1, c1, d2, c2, hm, rfl⟩))
          · rw [if_neg hm] at h2; cases h2
        · cases h2
      · cases h2
  cases dy with
  | str t =>
    cases ry
    cases rx with
    | str z g => cases h; exact inStr_of z t
    | _ => cases h
  | _ => exact main h
theorem in_ok : OpD X W (fun x y H Q => ∃ b, RIn X.K x y H b ∧ Q (.bl b) H) dIn := by
  intro bs σ H φ S dx dy x y Q s rx ry h
  unfold dIn at h
  split at h
  · rename_i b e
    exact ⟨b, s.in_of rx ry e, PostG.done s (.bl _) h⟩
  · exact h.elim
theorem notIn_ok : OpD X W (fun x y H Q => ∃ b, RIn X.K x y H b ∧ Q (.bl (!b)) H) dNotIn := by
  intro bs σ H φ S dx dy x y Q s rx ry h
  unfold dNotIn at h
  split at h
  · rename_i b e
    exact ⟨b, s.in_of rx ry e, PostG.done s (.bl _) h⟩
  · exact h.elim
/-! ### < <= > >= -/
def ltS (x y : D) : Option Bool := match x, y with
  | .int i, .int j => some (decide (i < j))
  | .str s, .str t => some (decide (s < t))
  | _, _ => none
def dLt (x y : D) (S : Sto) : R D := match ltS x y with
  | some b => .ok (.bl b) S
  | none => .bad
def dGt (x y : D) (S : Sto) : R D := dLt y x S
def dLe (x y : D) (S : Sto) : R D := match ltS y x with
  | some b => .ok (.bl (!b)) S
  | none => .bad
def dGe (x y : D) (S : Sto) : R D := dLe y x S
def RLt (x y : V) (b : Bool) : Prop := (∃ i j, x = .int i ∧ y = .int j ∧ b = decide (i < j)) ∨ ∃ i j, x = .str i ∧ y = .str j ∧ b = decide (i.cps.toList < j.cps.toList)
theorem ltS_of {K : PySem.W.Frag} {mg : Str → Option Value} {H : Hp} {φ : Ph} {dx dy : D} {x y : V} {b : Bool} (rx : Rep K mg H φ dx x) (ry : Rep K mg H φ dy y) (h : ltS dx dy = some b) : RLt x y b := by
  cases rx with
  | int i =>
    cases ry with
    | int j => cases h; exact .inl ⟨i, j, rfl, rfl, rfl⟩
    | _ => cases h
  | str i g =>
    cases ry with
    | str j g' => cases h; exact .inr ⟨_, _, rfl, rfl, by simp⟩
    | _ => cases h
  | _ => cases h
theorem op_ltU : OpR X (compareOp .Lt) (fun x y H Q => ∃ b, RLt x y b ∧ Q (.bl b) H) := by
  intro pins s σ H x y v u Q I rx ry ⟨b, h, q⟩
  rcases h with ⟨i, j, e1, e2, rfl⟩ | ⟨i, j, e1, e2, rfl⟩
  · exact op_lt pins s σ H x y v u Q I rx ry ⟨i, j, e1, e2, q⟩
  · exact op_lt_str pins s σ H x y v u Q I rx ry ⟨i, j, e1, e2, q⟩
theorem op_gtU : OpR X (compareOp .Gt) (fun x y H Q => ∃ b, RLt y x b ∧ Q (.bl b) H) := by
  intro pins s σ H x y v u Q I rx ry ⟨b, h, q⟩
  rcases h with ⟨i, j, e1, e2, rfl⟩ | ⟨i, j, e1, e2, rfl⟩
  · exact op_gt pins s σ H x y v u Q I rx ry ⟨j, i, e2, e1, q⟩
  · exact op_gt_str pins s σ H x y v u Q I rx ry ⟨j, i, e2, e1, q⟩
theorem not_lt_le (i j : Int) : (!decide (j < i)) = decide (i ≤ j) := by
  by_cases h : j < i
  · rw [decide_eq_true h, decide_eq_false (by omega)] <;> rfl
  · rw [decide_eq_false h, decide_eq_true (by omega)] <;> rfl
theorem op_leU : OpR X (compareOp .LtE) (fun x y H Q => ∃ b, RLt y x b ∧ Q (.bl (!b)) H) := by
  intro pins s σ H x y v u Q I rx ry ⟨b, h, q⟩
  rcases h with ⟨i, j, e1, e2, rfl⟩ | ⟨i, j, e1, e2, rfl⟩
  · exact op_le pins s σ H x y v u Q I rx ry ⟨j, i, e2, e1, by rw [not_lt_le] at q; exact q⟩
  · exact op_le_str pins s σ H x y v u Q I rx ry ⟨j, i, e2, e1, q⟩
theorem op_geU : OpR X (compareOp .GtE) (fun x y H Q => ∃ b, RLt x y b ∧ Q (.bl (!b)) H) := by
  intro pins s σ H x y v u Q I rx ry ⟨b, h, q⟩
  rcases h with ⟨i, j, e1, e2, rfl⟩ | ⟨i, j, e1, e2, rfl⟩
  · exact op_ge pins s σ H x y v u Q I rx ry ⟨i, j, e1, e2, by rw [not_lt_le] at q; exact q⟩
  · exact op_ge_str pins s σ H x y v u Q I rx ry ⟨i, j, e1, e2, q⟩
theorem lt_ok : OpD X W (fun x y H Q => ∃ b, RLt x y b ∧ Q (.bl b) H) dLt := by
  intro bs σ H φ S dx dy x y Q s rx ry h
  unfold dLt at h
  split at h
  · rename_i b e; exact ⟨b, ltS_of rx ry e, PostG.done s (.bl _) h⟩
  · exact h.elim
theorem gt_ok : OpD X W (fun x y H Q => ∃ b, RLt y x b ∧ Q (.bl b) H) dGt := by
  intro bs σ H φ S dx dy x y Q s rx ry h
  unfold dGt dLt at h
  split at h
  · rename_i b e; exact ⟨b, ltS_of ry rx e, PostG.done s (.bl _) h⟩
  · exact h.elim
theorem le_ok : OpD X W (fun x y H Q => ∃ b, RLt y x b ∧ Q (.bl (!b)) H) dLe := by
  intro bs σ H φ S dx dy x y Q s rx ry h
  unfold dLe at h
  split at h
  · rename_i b e; exact ⟨b, ltS_of ry rx e, PostG.done s (.bl _) h⟩
  · exact h.elim
theorem ge_ok : OpD X W (fun x y H Q => ∃ b, RLt x y b ∧ Q (.bl (!b)) H) dGe := by
  intro bs σ H φ S dx dy x y Q s rx ry h
  unfold dGe dLe at h
  split at h
  · rename_i b e; exact ⟨b, ltS_of rx ry e, PostG.done s (.bl _) h⟩
  · exact h.elim
/-! ### is None -/
def isN : D → Bool
  | .non => true
  | _ => false
def dIsN (x y : D) (S : Sto) : R D := match y with
  | .non => .ok (.bl (isN x)) S
  | _ => .bad
def dNotN (x y : D) (S : Sto) : R D := match y with
  | .non => .ok (.bl (!isN x)) S
  | _ => .bad
theorem Rep.isN {K : PySem.W.Frag} {mg : Str → Option Value} {H : Hp} {φ : Ph} {d : D} {v : V} (r : Rep K mg H φ d v) : decide (v = .non) = isN d := by
  cases r <;> simp [Mi.isN]
theorem isN_ok : OpD X W (fun x y H Q => y = .non ∧ Q (.bl (decide (x = .non))) H) dIsN := by
  intro bs σ H φ S dx dy x y Q s rx ry h
  cases ry with
  | non => exact ⟨rfl, by rw [rx.isN]; exact PostG.done s (.bl _) h⟩
  | _ => exact h.elim
theorem notN_ok : OpD X W (fun x y H Q => y = .non ∧ Q (.bl (!decide (x = .non))) H) dNotN := by
  intro bs σ H φ S dx dy x y Q s rx ry h
  cases ry with
  | non => exact ⟨rfl, by rw [rx.isN]; exact PostG.done s (.bl _) h⟩
  | _ => exact h.elim
/-! the comparisons in short: a value (de), a test (dt) -/
variable {a b : Expr} {f g : EM} {pos : Pos} {k : Nat}
theorem Cz.u65 (C : Cz X W k) : X.A.units + 65 < cLine := by have := C.hr.un; omega
theorem Cz.u64 (C : Cz X W k) : X.A.units + 64 < cLine := by have := C.hr.un; omega
theorem Cz.u1 (C : Cz X W k) : X.A.units + 1 < cLine := by have := C.hr.un; omega
theorem de_eq (C : Cz X W k) (ha : DE X W a f) (hb : DE X W b g) : DE X W (.Compare a [.Eq] [b] pos) (eBin f g dEq) := de_cmp (op_eqU C.u64) eq_ok ha hb (nomark _)
theorem de_ne (C : Cz X W k) (ha : DE X W a f) (hb : DE X W b g) : DE X W (.Compare a [.NotEq] [b] pos) (eBin f g dNe) := de_cmp (op_neU C.u64) ne_ok ha hb (nomark _)
theorem de_lt (C : Cz X W k) (ha : DE X W a f) (hb : DE X W b g) : DE X W (.Compare a [.Lt] [b] pos) (eBin f g dLt) := de_cmp op_ltU lt_ok ha hb (nomark _)
theorem de_gt (C : Cz X W k) (ha : DE X W a f) (hb : DE X W b g) : DE X W (.Compare a [.Gt] [b] pos) (eBin f g dGt) := de_cmp op_gtU gt_ok ha hb (nomark _)
theorem de_le (C : Cz X W k) (ha : DE X W a f) (hb : DE X W b g) : DE X W (.Compare a [.LtE] [b] pos) (eBin f g dLe) := de_cmp op_leU le_ok ha hb (nomark _)
theorem de_ge (C : Cz X W k) (ha : DE X W a f) (hb : DE X W b g) : DE X W (.Compare a [.GtE] [b] pos) (eBin f g dGe) := de_cmp op_geU ge_ok ha hb (nomark _)
theorem de_in (C : Cz X W k) (ha : DE X W a f) (hb : DE X W b g) (h1 : behindInMarks .In b = false := by rfl) : DE X W (.Compare a [.In] [b] pos) (eBin f g dIn) := de_cmp (op_inU C.u65) in_ok ha hb h1
theorem de_notIn (C : Cz X W k) (ha : DE X W a f) (hb : DE X W b g) (h1 : behindInMarks .NotIn b = false := by rfl) : DE X W (.Compare a [.NotIn] [b] pos) (eBin f g dNotIn) := de_cmp (op_notInU C.u65) notIn_ok ha hb h1
theorem de_isN (C : Cz X W k) (ha : DE X W a f) (hb : DE X W b g) : DE X W (.Compare a [.Is] [b] pos) (eBin f g dIsN) := de_cmp op_isN isN_ok ha hb (nomark _)
theorem de_notN (C : Cz X W k) (ha : DE X W a f) (hb : DE X W b g) : DE X W (.Compare a [.IsNot] [b] pos) (eBin f g dNotN) := de_cmp op_notN notN_ok ha hb (nomark _)
theorem dt_eq (C : Cz X W k) (ha : DE X W a f) (hb : DE X W b g) : DT X W (.Compare a [.Eq] [b] pos) (eTst (eBin f g dEq)) := dt_cmp (op_eqU C.u64) eq_ok ha hb (nomark _)
theorem dt_ne (C : Cz X W k) (ha : DE X W a f) (hb : DE X W b g) : DT X W (.Compare a [.NotEq] [b] pos) (eTst (eBin f g dNe)) := dt_cmp (op_neU C.u64) ne_ok ha hb (nomark _)
theorem dt_lt (C : Cz X W k) (ha : DE X W a f) (hb : DE X W b g) : DT X W (.Compare a [.Lt] [b] pos) (eTst (eBin f g dLt)) := dt_cmp op_ltU lt_ok ha hb (nomark _)
theorem dt_gt (C : Cz X W k) (ha : DE X W a f) (hb : DE X W b g) : DT X W (.Compare a [.Gt] [b] pos) (eTst (eBin f g dGt)) := dt_cmp op_gtU gt_ok ha hb (nomark _)
theorem dt_le (C : Cz X W k) (ha : DE X W a f) (hb : DE X W b g) : DT X W (.Compare a [.LtE] [b] pos) (eTst (eBin f g dLe)) := dt_cmp op_leU le_ok ha hb (nomark _)
theorem dt_ge (C : Cz X W k) (ha : DE X W a f) (hb : DE X W b g) : DT X W (.Compare a [.GtE] [b] pos) (eTst (eBin f g dGe)) := dt_cmp op_geU ge_ok ha hb (nomark _)
theorem dt_in (C : Cz X W k) (ha : DE X W a f) (hb : DE X W b g) (h1 : behindInMarks .In b = false := by rfl) : DT X W (.Compare a [.In] [b] pos) (eTst (eBin f g dIn)) := dt_cmp (op_inU C.u65) in_ok ha hb h1
theorem dt_notIn (C : Cz X W k) (ha : DE X W a f) (hb : DE X W b g) (h1 : behindInMarks .NotIn b = false := by rfl) : DT X W (.Compare a [.NotIn] [b] pos) (eTst (eBin f g dNotIn)) := dt_cmp (op_notInU C.u65) notIn_ok ha hb h1
theorem dt_isN (C : Cz X W k) (ha : DE X W a f) (hb : DE X W b g) : DT X W (.Compare a [.Is] [b] pos) (eTst (eBin f g dIsN)) := dt_cmp op_isN isN_ok ha hb (nomark _)
theorem dt_notN (C : Cz X W k) (ha : DE X W a f) (hb : DE X W b g) : DT X W (.Compare a [.IsNot] [b] pos) (eTst (eBin f g dNotN)) := dt_cmp op_notN notN_ok ha hb (nomark _)
end
end Mi

namespace Mi
open PySem PySem.Spec PyProof.Rows L2

/-! ### argument lists -/
def aList : List EM → AM
  | [] => fun _ S => .ok [] S
  | f :: fs => fun ρ S => (f ρ S).bind fun x S1 => (aList fs ρ S1).bind fun xs S2 => .ok (x :: xs) S2
section
variable {X : Cx} {W : WX} {e : Expr} {es : List Expr} {f : EM} {fs : List EM} {pos : Pos}
theorem da_nil : DA X W [] (aList []) := pa_nil.wk fun σ H Q h => by
  obtain ⟨φ, bs, ρ, S, s, en, h⟩ := h
  exact PostG.done (rel := RepL) s .nil h
theorem da_cons (ha : DE X W e f) (hr : DA X W es (aList fs)) (hs : starEach (e :: es) X.env = (false, eval e X.env) :: starEach es X.env := by rfl) : DA X W (e :: es) (aList (f :: fs)) := (pa_cons ha hr hs).wk fun σ H Q h => by
  obtain ⟨φ, bs, ρ, S, s, en, h⟩ := h
  refine tG_then s en h fun d S1 v H1 φ1 x1 s1 e1 r1 h1 => ?_
  refine tG_then s1 e1 h1 fun ds S2 vs H2 φ2 x2 s2 e2 r2 h2 => ?_
  exact PostG.done (rel := RepL) s2 (.cons (r1.ext x2 s1.cells) r2) h2
theorem aList_len : ∀ {fs : List EM} {ρ : Env} {S S' : Sto} {ds : List D}, aList fs ρ S = .ok ds S' → ds.length = fs.length
  | [], ρ, S, S', ds, h => by
    have h' : R.ok ([] : List D) S = .ok ds S' := h
    cases h'; rfl
  | f :: fs, ρ, S, S', ds, h => by
    have h' : ((f ρ S).bind fun x S1 => (aList fs ρ S1).bind fun xs S2 => R.ok (x :: xs) S2) = .ok ds S' := h
    cases e1 : f ρ S with
    | ok x S1 =>
      rw [e1] at h'
      have h2 : ((aList fs ρ S1).bind fun xs S2 => R.ok (x :: xs) S2) = .ok ds S' := h'
      cases e2 : aList fs ρ S1 with
      | ok xs S2 =>
        rw [e2] at h2
        have h3 : R.ok (x :: xs) S2 = .ok ds S' := h2
        cases h3
        rw [List.length_cons, List.length_cons, aList_len e2]
      | ex _ _ => rw [e2] at h2; cases h2
      | bad => rw [e2] at h2; cases h2
    | ex _ _ => rw [e1] at h'; cases h'
    | bad => rw [e1] at h'; cases h'
/-- a call by values, over the arguments -/
def eApp (fs : List EM) (g : List D → Sto → R D) : EM := fun ρ S => (aList fs ρ S).bind g
/-- what is asked of the values -/
def CallD (X : Cx) (W : WX) (n : Nat) (r : List V → Hp → VK → Prop) (g : List D → Sto → R D) : Prop := ∀ bs σ H φ S ds vs Q, Sim X.K X.mg H φ bs S → RepL X.K X.mg H φ ds vs → ds.length = n → Post X W bs σ H φ (g ds S) Q → r vs H Q
theorem tCB_wk {g : List D → Sto → R D} {r : List V → Hp → VK → Prop} (hk : CallD X W fs.length r g) (σ : L2.St) (H : Hp) (Q : VK) (h : tE X W (eApp fs g) σ H Q) : tCB r (tA X W (aList fs)) σ H Q := by
  obtain ⟨φ, bs, ρ, S, s, en, h⟩ := h
  have hl : ∀ ds S', aList fs ρ S = .ok ds S' → ds.length = fs.length := fun _ _ q => aList_len q
  refine ⟨φ, bs, ρ, S, s, en, ?_⟩
  revert hl h
  unfold eApp
  cases aList fs ρ S with
  | ok ds S1 => exact fun h hl v H1 φ1 x s1 r1 => hk bs σ H1 φ1 S1 ds v Q s1 r1 (hl _ _ rfl) (PostG.shift x h)
  | ex d S1 => exact fun h _ => h
  | bad => exact fun h _ => h
/-! ### displays -/
def dTup (ds : List D) (S : Sto) : R D := .ok (.tup ds) S
theorem de_tup {x1} (h : DA X W es (aList fs)) (hn : fs.length ≤ 1000 := by exact Nat.le_of_ble_eq_true rfl) : DE X W (.Tuple es x1 pos) (eApp fs dTup) := by
  refine (pe_tup h).wk fun σ H Q h => ?_
  refine tCB_wk (r := fun vs H Q => vs.length ≤ sizeLine ∧ ∀ p, H p = none → Q (.ref p) (upd H p (.tup vs))) (fun bs σ H φ S ds vs Q s r hl h => ?_) σ H Q h
  exact ⟨by rw [← r.length, hl]; exact Nat.le_trans hn (by decide), fun p hp => tup_ok s r hp h⟩
def dLst (c : Bool) (ds : List D) (S : Sto) : R D := mkL c ds S
theorem de_lst {c : Bool} (h : DA X W es (aList fs)) (hn : fs.length ≤ 1000 := by exact Nat.le_of_ble_eq_true rfl) : DE X W (.List es pos) (eApp fs (dLst c)) := by
  refine (pe_lst h).wk fun σ H Q h => ?_
  refine tCB_wk (r := fun vs H Q => vs.length ≤ sizeLine ∧ ∀ p, H p = none → Q (.ref p) (upd H p (.lst vs))) (fun bs σ H φ S ds vs Q s r hl h => ?_) σ H Q h
  exact ⟨by rw [← r.length, hl]; exact Nat.le_trans hn (by decide), fun p hp => mkL_ok s r hp h⟩

/-! ### subscripts -/
def intD : D → Option Int
  | .int i => some i
  | _ => none
theorem Rep.int' {K : PySem.W.Frag} {mg : Str → Option Value} {H : Hp} {φ : Ph} {d : D} {v : V} {i : Int} (r : Rep K mg H φ d v) (h : intD d = some i) : v = .int i := by
  cases r <;> cases h <;> rfl
def ixS (S : Sto) (x i : D) : Option D := match x with
  | .str s => match i with
    | .int n => if s.length ≤ sizeLine then (atI s n).map fun c => .str [c] else none
    | _ => none
  | x => match dicS S x with
    | some kvs => match keyD i with
      | some k => valD kvs k
      | none => none
    | none => match seqS S x with
      | some xs => match intD i with
        | some n => atI xs n
        | none => none
      | none => none
def dIx (x i : D) (S : Sto) : R D := match ixS S x i with
  | some d => .ok d S
  | none => .bad
theorem RepL.atI {K : PySem.W.Frag} {mg : Str → Option Value} {H : Hp} {φ : Ph} {ds : List D} {vs : List V} {n : Int} {d : D} (r : RepL K mg H φ ds vs) (h : L2.atI ds n = some d) : ∃ v, L2.atI vs n = some v ∧ Rep K mg H φ d v := by
  unfold L2.atI at *
  rw [← r.length]
  cases q : ixN ds.length n with
  | none => rw [q] at h; cases h
  | some j =>
    rw [q] at h
    exact r.get h
theorem ix_dict (hu : X.A.units + 1 < cLine) : IxR X (fun x y H Q => ∃ a v, x = .ref a ∧ DGet H a y (some v) ∧ Q v H) := by
  intro value slice pins s σ H x y v u Q I rx ry h hs
  obtain ⟨a, w, rfl, g, q⟩ := h
  cases rx
  have hT := dict_typeIs I g
  unfold subscriptTail
  refine wpAny_bind (by
    rw [getitemInPython_of_ne hT.not_modules]
    refine wpAny_bind (wpAny_specialOf hT PySem.F.slot_dict_getitem.lookup ?_)
    have fin : wpAny (model X.prog X.w) X.A (subscripted slice false (.ref a) u) (fun r s3 => wpAny (model X.prog X.w) X.A (letTemporaryGo value (.ref a) r >>= fun _ => pure r) (EP X pins σ Q) X.xe s3) X.xe s := by
      rw [hs]
      exact wpAny_operating (d_getItem hu I g ry fun w' s3 I3 rw' => wpAny_bind (wpAny_letTemporaryGo (wpAny_pure ⟨w, H, I3, rw', q⟩)))
    first
      | exact wpAny_pure (wpAny_bind fin)
      | exact wpAny_bind (wpAny_pure (wpAny_bind fin))
      | exact wpAny_bind fin)
theorem good_one {c : Nat} {s : List Nat} (g : goodS s = true) (h : c ∈ s) : goodS [c] = true := good_mem.mpr fun x hx => by
  have e : x = c := by simpa using hx
  rw [e]; exact good_mem.mp g c h
def rIxU (K : PySem.W.Frag) : R2 := fun x y H Q => rIx K x y H Q ∨ ∃ a v, x = .ref a ∧ DGet H a y (some v) ∧ Q v H
theorem atI_mem {α : Type} {xs : List α} {n : Int} {d : α} (h : L2.atI xs n = some d) : d ∈ xs := by
  obtain ⟨j, _, h2, _⟩ := atI_get h
  exact List.mem_of_getElem? h2
theorem ix_ok : OpD X W (rIxU X.K) dIx := by
  intro bs σ H φ S dx dy x y Q s rx ry h
  unfold dIx at h
  split at h
  · rename_i d e
    have main : (match dicS S dx with
      | some kvs => match keyD dy with
        | some k => valD kvs k
        | none => none
      | none => match seqS S dx with
        | some xs => match intD dy with
          | some n => L2.atI xs n
          | none => none
        | none => none) = some d → rIxU X.K x y H Q := fun h2 => by
      split at h2
      · rename_i kvs ek
        split at h2
        · rename_i k ey
          obtain ⟨a, vs, rfl, hr, lr⟩ := s.dic rx ek
          have hy := ry.key ey
          subst hy
          rcases lr.val (k := k) with ⟨e1, e2⟩ | ⟨d', v, e1, e2, r⟩
          · rw [h2] at e1; cases e1
          · rw [h2] at e1; cases e1
            exact .inr ⟨a, v, rfl, .inl ⟨vs, k, hr, rfl, e2.symm⟩, PostG.done s r h⟩
        · cases h2
      · split at h2
        · rename_i xs ex
          split at h2
          · rename_i n en
            obtain ⟨a, vs, rfl, hq, lr⟩ := s.seq rx ex
            obtain ⟨v, hv, r⟩ := lr.atI h2
            have hy := ry.int' en
            subst hy
            rcases hq with hq | hq
            · exact .inl (.inl ⟨a, vs, n, v, rfl, rfl, hq, hv, PostG.done s r h⟩)
            · exact .inl (.inr (.inl ⟨a, vs, n, v, rfl, rfl, hq, hv, PostG.done s r h⟩))
          · cases h2
        · cases h2
    cases dx with
    | str z =>
      cases rx with
      | str z g =>
        cases dy with
        | int n =>
          cases ry
          have e' : (if z.length ≤ sizeLine then (L2.atI z n).map fun c => D.str [c] else none) = some d := e
          by_cases hz : z.length ≤ sizeLine
          · rw [if_pos hz] at e'
            cases q : L2.atI z n with
            | none => rw [q] at e'; cases e'
            | some c =>
              rw [q] at e'
              cases e'
              exact .inl (.inr (.inr ⟨_, n, c, rfl, rfl, by simpa [Str.length] using hz, by simpa using q, PostG.done s (.str [c] (good_one g (atI_mem q))) h⟩))
          · rw [if_neg hz] at e'; cases e'
        | _ => cases e
    | _ => exact main e
  · exact h.elim
variable {a b : Expr} {g : EM} {k : Nat}
theorem de_ix (C : Cz X W k) (ha : DE X W a f) (hb : DE X W b g) (hs : PlainIx b := by exact fun _ _ => rfl) : DE X W (.Subscript a b pos) (eBin f g dIx) :=
  (pe_ix (IxR.or ix_seq (ix_dict C.u1)) ha hb hs).wk (tOp_wk ix_ok)
/-! ### slices -/
def oNone : Env → Sto → R (Option Int) := fun _ S => .ok none S
def oSome (f : EM) : Env → Sto → R (Option Int) := fun ρ S => (f ρ S).bind fun d S1 => .of S1 ((intD d).map some)
def RelI : Rel (Option Int) (Option Int) := fun _ _ _ _ b c => c = b
abbrev DO (X : Cx) (W : WX) (e : Option Expr) (o : Env → Sto → R (Option Int)) : Prop := PO X e (tG X W RelI o)
theorem PO.wk {X : Cx} {e : Option Expr} {t t' : TO} (h : PO X e t) (w : ∀ σ H Q, t' σ H Q → t σ H Q) : PO X e t' := ⟨fun pins s σ H Q I q => h.run pins s σ H Q I (w _ _ _ q)⟩
theorem do_none : DO X W none oNone := PO.wk po_none fun σ H Q h => by
  obtain ⟨φ, bs, ρ, S, s, en, h⟩ := h
  exact PostG.done (rel := RelI) s rfl h
theorem do_some (he : DE X W e f) : DO X W (some e) (oSome f) := PO.wk (po_some he) fun σ H Q h => by
  obtain ⟨φ, bs, ρ, S, s, en, h⟩ := h
  refine tG_then s en h fun d S1 v H1 φ1 x1 s1 e1 r1 h1 => ?_
  obtain ⟨o, e2, h2⟩ := of_post h1
  cases q : intD d with
  | none => rw [q] at e2; cases e2
  | some i =>
    rw [q] at e2
    cases e2
    exact ⟨i, r1.int' q, PostG.done (rel := RelI) s1 rfl h2⟩
def cutG {α : Type} (xs : List α) (lo hi : Option Int) : List α := (xs.drop (HT.sIx xs.length 0 lo)).take (HT.sIx xs.length xs.length hi - HT.sIx xs.length 0 lo)
def dSl (c : Bool) (x : D) (lo hi : Option Int) (S : Sto) : R D := match x with
  | .str s => if s.length ≤ sizeLine then .ok (.str (cutG s lo hi)) S else .bad
  | .tup xs => .ok (.tup (cutG xs lo hi)) S
  | x => match lstS S x with
    | some xs => mkL c (cutG xs lo hi) S
    | none => .bad
def eSl (c : Bool) (f : EM) (lo hi : Env → Sto → R (Option Int)) : EM := fun ρ S => (f ρ S).bind fun x S1 => (lo ρ S1).bind fun l S2 => (hi ρ S2).bind fun h S3 => dSl c x l h S3
theorem RepL.cut {K : PySem.W.Frag} {mg : Str → Option Value} {H : Hp} {φ : Ph} {ds : List D} {vs : List V} {lo hi : Option Int} (r : RepL K mg H φ ds vs) : RepL K mg H φ (cutG ds lo hi) (cutV vs lo hi) := by
  unfold cutG cutV
  rw [r.length]
  exact (r.drop _).take _
theorem cutG_good {s : List Nat} {lo hi : Option Int} (g : goodS s = true) : goodS (cutG s lo hi) = true := good_mem.mpr fun c hc => good_mem.mp g c (List.mem_of_mem_drop (List.mem_of_mem_take hc))
theorem cutG_all {α : Type} {xs : List α} {lo hi : Option Int} (h : HT.sIx xs.length 0 lo = 0 ∧ HT.sIx xs.length xs.length hi = xs.length) : cutG xs lo hi = xs := by
  unfold cutG
  rw [h.1, h.2]
  simp
theorem sl_ok {c : Bool} {bs : List Nat} {σ : L2.St} {H : Hp} {φ : Ph} {S : Sto} {d : D} {v : V} {lo hi : Option Int} {Q : VK} (s : Sim X.K X.mg H φ bs S) (r : Rep X.K X.mg H φ d v) (h : Post X W bs σ H φ (dSl c d lo hi S) Q) :
    (rSlS v lo hi H Q ∨ rSlA X.K v lo hi H Q) ∨ rSlL X.K v lo hi H Q := by
  have seq : ∀ {xs : List D}, lstS S d = some xs → Post X W bs σ H φ (mkL c (cutG xs lo hi) S) Q → rSlL X.K v lo hi H Q := fun {xs} e h => by
    obtain ⟨a, vs, rfl, hq, lr⟩ := s.lst r e
    exact ⟨a, vs, rfl, hq, fun p hp => mkL_ok s lr.cut hp h⟩
  have rest : Post X W bs σ H φ (match lstS S d with
      | some xs => mkL c (cutG xs lo hi) S
      | none => .bad) Q → rSlL X.K v lo hi H Q := fun h => by
    split at h
    · rename_i xs e; exact seq e h
    · exact h.elim
  cases r with
  | str z g =>
    obtain ⟨hz, h⟩ := if_bad (P := fun r => Post X W bs σ H φ r Q) h fun z => z
    refine .inl (.inl ⟨_, rfl, by simpa [Str.length] using hz, ?_⟩)
    have e : cutS ⟨z.toArray⟩ lo hi = ⟨(cutG z lo hi).toArray⟩ := by
      unfold cutS cutG
      simp [Str.length]
    rw [e]
    exact PostG.done s (.str _ (cutG_good g)) h
  | tup h1 h2 =>
    rename_i a ds vs
    refine .inl (.inr ⟨_, _, rfl, h1, fun hw => ?_, fun hw p hp => tup_ok s h2.cut hp h⟩)
    rw [← h2.length] at hw
    have h' : Post X W bs σ H φ (.ok (.tup (cutG ds lo hi)) S) Q := h
    rw [cutG_all hw] at h'
    exact PostG.done s (.tup h1 h2) h'
  | lst _ _ _ => exact .inr (rest h)
  | frl _ _ => exact .inr (rest h)
  | ref _ => exact .inr (rest h)
  | non => exact .inr (rest h)
  | bl _ => exact .inr (rest h)
  | int _ => exact .inr (rest h)
  | dic _ _ _ => exact .inr (rest h)
  | obj _ _ _ _ => exact .inr (rest h)
theorem de_sl {c : Bool} {lo hi : Option Expr} {l u : Env → Sto → R (Option Int)} {p2 : Pos} (he : DE X W e f) (hl : DO X W lo l) (hu : DO X W hi u) : DE X W (.Subscript e (.Slice lo hi none p2) pos) (eSl c f l u) := by
  refine (pe_slice (SlR.or (SlR.or sl_str sl_tupA) sl_list) he hl hu).wk fun σ H Q h => ?_
  obtain ⟨φ, bs, ρ, S, s, en, h⟩ := h
  refine tG_then s en h fun d S1 v H1 φ1 x1 s1 e1 r1 h1 => ?_
  refine tG_then s1 e1 h1 fun l S2 vl H2 φ2 x2 s2 e2 r2 h2 => ?_
  refine tG_then s2 e2 h2 fun u S3 vu H3 φ3 x3 s3 e3 r3 h3 => ?_
  have q2 : vl = l := r2
  have q3 : vu = u := r3
  subst q2 q3
  exact sl_ok s3 ((r1.ext x2 s1.cells).ext x3 s2.cells) h3
end
end Mi

namespace Mi
open PySem PySem.Spec PyProof.Rows L2

/-! ### calls of own defs -/
/-- a def's promise, from its meaning -/
def spOf (K : PySem.W.Frag) (mg : Str → Option Value) (n : Nat) (G : List D → Sto → R D) : Sp := fun vs H Q E =>
  vs.length = n ∧ ∃ φ bs ds S, Sim K mg H φ bs S ∧ RepL K mg H φ ds vs ∧ PostG K mg (fun cls d _ H' => E cls d H') Rep bs [] H φ (G ds S) Q
/-- the def named x, given n arguments (dds: its defaults that fill up), means G, by at most level k -/
structure CallOk (P : Program) (w : World) (K : PySem.W.Frag) (mg : Str → Option Value) (base : Heap) (k : Nat) (x : Str) (n : Nat) (dds : List D) (G : List D → Sto → R D) : Prop where
  ex : ∃ (f : Addr) (fd : FuncData) (ps : List Str) (dvs : List V) (ds : List Value), mg x = some (.ref f) ∧ PySem.W.keepIn K (.ref f) = true ∧ Binds K fd ps ds ∧ Vals dvs ds ∧ (∀ H φ, RepL K mg H φ dds dvs) ∧
    FnOk P w K mg base (L2.CX P w) k f fd ps (spOf K mg (n + dds.length) G)
theorem CallOk.mono {P : Program} {w : World} {K : PySem.W.Frag} {mg : Str → Option Value} {base : Heap} {j k : Nat} {x : Str} {n : Nat} {dds : List D} {G : List D → Sto → R D} (F : CallOk P w K mg base j x n dds G) (h : j ≤ k) : CallOk P w K mg base k x n dds G := by
  obtain ⟨f, fd, ps, dvs, ds, h1, h2, h3, h4, h5, h6⟩ := F.ex
  exact ⟨f, fd, ps, dvs, ds, h1, h2, h3, h4, h5, h6.mono h⟩
section
variable {X : Cx} {W : WX} {e : Expr} {es : List Expr} {f : EM} {fs : List EM} {pos p : Pos} {k j : Nat} {x : Str} {G : List D → Sto → R D}
theorem PostG.chg {α γ : Type} {K : PySem.W.Frag} {mg : Str → Option Value} {W W' : WX} {rel : Rel α γ} {bs : List Nat} {σ σ' : L2.St} {H : Hp} {φ : Ph} {r : R α} {Q : γ → Hp → Prop} (h : PostG K mg W rel bs σ H φ r Q)
    (hw : ∀ c d H, W c d σ H → W' c d σ' H) : PostG K mg W' rel bs σ' H φ r Q := by
  cases r with
  | ok a S => exact h
  | ex e S => exact fun c d H' φ' x s r => hw _ _ _ (h c d H' φ' x s r)
  | bad => exact h
theorem tApp {α γ : Type} {rel : Rel α γ} {g : List D → Sto → R α} {σ : L2.St} {H : Hp} {Q : γ → Hp → Prop} {T : List V → Hp → Prop} (h : tG X W rel (fun ρ S => (aList fs ρ S).bind g) σ H Q)
    (hk : ∀ bs H φ S ds vs, Sim X.K X.mg H φ bs S → RepL X.K X.mg H φ ds vs → ds.length = fs.length → PostG X.K X.mg W rel bs σ H φ (g ds S) Q → T vs H) : tA X W (aList fs) σ H T := by
  obtain ⟨φ, bs, ρ, S, s, en, h⟩ := h
  have hl : ∀ ds S', aList fs ρ S = .ok ds S' → ds.length = fs.length := fun _ _ q => aList_len q
  refine ⟨φ, bs, ρ, S, s, en, ?_⟩
  have h : PostG X.K X.mg W rel bs σ H φ ((aList fs ρ S).bind g) Q := h
  revert h hl
  cases aList fs ρ S with
  | ok ds S1 => exact fun hl h v H1 φ1 x s1 r1 => hk bs H1 φ1 S1 ds v s1 r1 (hl _ _ rfl) (PostG.shift x h)
  | ex d S1 => exact fun _ h => h
  | bad => exact fun _ h => h
theorem sp_of {dds : List D} {dvs : List V} {σ : L2.St} {Q : VK} {bs : List Nat} {H : Hp} {φ : Ph} {S : Sto} {ds : List D} {vs : List V} {n : Nat} (hd : ∀ H φ, RepL X.K X.mg H φ dds dvs) (s : Sim X.K X.mg H φ bs S) (r : RepL X.K X.mg H φ ds vs) (hl : ds.length = n)
    (h : PostG X.K X.mg W Rep bs σ H φ (G (ds ++ dds) S) Q) : spOf X.K X.mg (n + dds.length) G (vs ++ dvs) H Q (WE W σ) := by
  refine ⟨?_, φ, bs, ds ++ dds, S, s, r.append (hd _ _), PostG.chg h fun _ _ _ z => z⟩
  rw [List.length_append, ← r.length, ← (hd H φ).length, hl]
/-- f(a, ..) -/
def eCall (fs : List EM) (dds : List D) (G : List D → Sto → R D) : EM := fun ρ S => (aList fs ρ S).bind fun ds S1 => G (ds ++ dds) S1
theorem de_call {dds : List D} (C : Cz X W k) (F : CallOk X.prog X.w X.K X.mg X.base j x fs.length dds G) (hj : j ≤ k) (ha : DA X W (e :: es) (aList fs)) (hg : Gl X x := by rfl) (hdb : (x == ("__debug__" : Str)) = false := by decide)
    (he : starEach (e :: es) X.env = (false, eval e X.env) :: starEach es X.env := by rfl) (hpl : (backTo pos (starEach es X.env)).any (·.1) = false := by rfl) : DE X W (.Call (.Name x p) (e :: es) [] pos) (eCall fs dds G) := by
  obtain ⟨f, fd, ps, dvs, dus, hm, hk, hb, hv, hd, F⟩ := F.ex
  exact (pe_callSD (F.mono hj) C.hr hg hm hk hb hv (fun σ => passAt C.tk σ) ha hdb he hpl).wk fun σ H Q h => tApp h fun bs H φ S ds vs s r hl h => sp_of hd s r hl h

/-! ### built-in functions -/
/-- len -/
def lenS (S : Sto) : D → Option Nat
  | .str s => if s.length ≤ sizeLine then some s.length else none
  | .tup xs => some xs.length
  | .lst xs => some xs.length
  | .frl xs => some xs.length
  | .ref n => match S.get n with
    | some (.lst xs) => some xs.length
    | some (.dic kvs) => some kvs.length
    | _ => none
  | _ => none
def b1 (g : Sto → D → Option D) (ds : List D) (S : Sto) : R D := match ds with
  | [d] => .of S (g S d)
  | _ => .bad
def lenG (S : Sto) (d : D) : Option D := (lenS S d).map fun n => .int n
theorem RepK.length {K : PySem.W.Frag} {mg : Str → Option Value} {H : Hp} {φ : Ph} : ∀ {ds : List (Key × D)} {vs : List (Key × V)}, RepK K mg H φ ds vs → ds.length = vs.length
  | _, _, .nil => rfl
  | _, _, .cons _ t => by simp [RepK.length t]
/-- one argument -/
theorem b1_of {n : Nat} {g : Sto → D → Option D} {bs : List Nat} {σ : L2.St} {H : Hp} {φ : Ph} {S : Sto} {ds : List D} {vs : List V} {Q : VK} (s : Sim X.K X.mg H φ bs S) (r : RepL X.K X.mg H φ ds vs) (h : Post X W bs σ H φ (b1 g ds S) Q) :
    ∃ d v d', vs = [v] ∧ Rep X.K X.mg H φ d v ∧ g S d = some d' ∧ Post X W bs σ H φ (.ok d' S) Q := by
  cases r with
  | nil => exact h.elim
  | cons r t =>
    cases t with
    | cons _ _ => exact h.elim
    | nil =>
      obtain ⟨d', e, h⟩ := of_post h
      exact ⟨_, _, d', rfl, r, e, h⟩
theorem len_ok {n : Nat} : CallD X W n (fun xs H Q => (∃ x n, xs = [x] ∧ LenV X.K x H n ∧ Q (.int n) H) ∨ (∃ a kvs, xs = [V.ref a] ∧ H a = some (.dK kvs) ∧ Q (.int kvs.length) H)) (b1 lenG) := by
  intro bs σ H φ S ds vs Q s r hl h
  obtain ⟨d, v, d', rfl, r, e, h⟩ := b1_of (n := n) s r h
  unfold lenG at e
  cases r with
  | str z g =>
    have e' : (if z.length ≤ sizeLine then some z.length else none).map (fun n => D.int n) = some d' := e
    by_cases hz : z.length ≤ sizeLine
    · rw [if_pos hz] at e'
      cases e'
      exact .inl ⟨_, z.length, rfl, ⟨by simpa [Str.length] using hz, by simp [Str.length]⟩, PostG.done s (.int _) h⟩
    · rw [if_neg hz] at e'; cases e'
  | tup h1 h2 =>
    cases e
    exact .inl ⟨_, _, rfl, .inr ⟨_, h1, h2.length⟩, PostG.done s (.int _) h⟩
  | lst h1 _ h2 =>
    cases e
    exact .inl ⟨_, _, rfl, .inl ⟨_, .of h1, h2.length⟩, PostG.done s (.int _) h⟩
  | frl h1 h2 =>
    cases e
    exact .inl ⟨_, _, rfl, .inl ⟨_, h1.sq, h2.length⟩, PostG.done s (.int _) h⟩
  | @ref n a h1 =>
    simp only [lenS] at e
    split at e
    · rename_i xs q
      cases e
      obtain ⟨a', ev, _, vs, hv, lv⟩ := s.at (.ref h1) q
      cases ev
      exact .inl ⟨_, _, rfl, .inl ⟨_, .of hv, lv.length⟩, PostG.done s (.int _) h⟩
    · rename_i xs q
      cases e
      obtain ⟨a', ev, _, vs, hv, lv⟩ := s.at (.ref h1) q
      cases ev
      exact .inr ⟨_, _, rfl, hv, by rw [← lv.length]; exact PostG.done s (.int _) h⟩
    · cases e
  | _ => cases e
theorem de_len (hm : X.mg "len" = none) (ha : DA X W (e :: es) (aList fs)) (hg : Gl X "len" := by rfl) (he : starEach (e :: es) X.env = (false, eval e X.env) :: starEach es X.env := by rfl) (hpl : (backTo pos (starEach es X.env)).any (·.1) = false := by rfl) :
    DE X W (.Call (.Name "len" p) (e :: es) [] pos) (eApp fs (b1 lenG)) := (pe_callB (CallR.or call_len call_lenD) hg hm boot_len ha (by decide) (by decide) he hpl).wk (tCB_wk len_ok)
/-- int(n), int(True) -/
def intG (_ : Sto) : D → Option D
  | .int i => some (.int i)
  | .bl b => some (.int (if b then 1 else 0))
  | _ => none
theorem int_ok {n : Nat} : CallD X W n (fun xs H Q => (∃ i, xs = [.int i] ∧ Q (.int i) H) ∨ ∃ k, xs = [.bl k] ∧ Q (.int (if k then 1 else 0)) H) (b1 intG) := by
  intro bs σ H φ S ds vs Q s r hl h
  obtain ⟨d, v, d', rfl, r, e, h⟩ := b1_of (n := n) s r h
  cases r with
  | int i => cases e; exact .inl ⟨i, rfl, PostG.done s (.int _) h⟩
  | bl b => cases e; exact .inr ⟨b, rfl, PostG.done s (.int _) h⟩
  | _ => cases e
theorem de_intc (hm : X.mg "int" = none) (ha : DA X W (e :: es) (aList fs)) (hg : Gl X "int" := by rfl) (he : starEach (e :: es) X.env = (false, eval e X.env) :: starEach es X.env := by rfl) (hpl : (backTo pos (starEach es X.env)).any (·.1) = false := by rfl) :
    DE X W (.Call (.Name "int" p) (e :: es) [] pos) (eApp fs (b1 intG)) := (pe_callTy call_int1 hg hm (by decide +kernel) ha (by decide) (by decide) he hpl).wk (tCB_wk int_ok)
/-- abs(n) -/
def absG (_ : Sto) : D → Option D
  | .int i => some (.int (if i < 0 then -i else i))
  | _ => none
theorem abs_ok {n : Nat} : CallD X W n (fun xs H Q => ∃ i, xs = [.int i] ∧ Q (.int (if i < 0 then -i else i)) H) (b1 absG) := by
  intro bs σ H φ S ds vs Q s r hl h
  obtain ⟨d, v, d', rfl, r, e, h⟩ := b1_of (n := n) s r h
  cases r with
  | int i => cases e; exact ⟨i, rfl, PostG.done s (.int _) h⟩
  | _ => cases e
theorem de_abs (hm : X.mg "abs" = none) (ha : DA X W (e :: es) (aList fs)) (hg : Gl X "abs" := by rfl) (he : starEach (e :: es) X.env = (false, eval e X.env) :: starEach es X.env := by rfl) (hpl : (backTo pos (starEach es X.env)).any (·.1) = false := by rfl) :
    DE X W (.Call (.Name "abs" p) (e :: es) [] pos) (eApp fs (b1 absG)) := (pe_callB call_abs hg hm (by decide +kernel) ha (by decide) (by decide) he hpl).wk (tCB_wk abs_ok)
/-- list(x) of a list or a tuple -/
def dList (c : Bool) (ds : List D) (S : Sto) : R D := match ds with
  | [d] => match seqS S d with
    | some xs => mkL c xs S
    | none => .bad
  | _ => .bad
theorem list_ok {n : Nat} {c : Bool} : CallD X W n (fun xs H Q => ∃ p ys, xs = [.ref p] ∧ (SqL X.K H p ys ∨ SqT X.K H p ys) ∧ ∀ l, H l = none → Q (.ref l) (upd H l (.lst ys))) (dList c) := by
  intro bs σ H φ S ds vs Q s r hl h
  cases r with
  | nil => exact h.elim
  | cons r t =>
    cases t with
    | cons _ _ => exact h.elim
    | nil =>
      simp only [dList] at h
      split at h
      · rename_i xs e
        obtain ⟨a, vs, rfl, hq, lr⟩ := s.seq r e
        exact ⟨a, vs, rfl, hq, fun p hp => mkL_ok s lr hp h⟩
      · exact h.elim
theorem de_list {c : Bool} (hm : X.mg "list" = none) (ha : DA X W (e :: es) (aList fs)) (hg : Gl X "list" := by rfl) (he : starEach (e :: es) X.env = (false, eval e X.env) :: starEach es X.env := by rfl) (hpl : (backTo pos (starEach es X.env)).any (·.1) = false := by rfl) :
    DE X W (.Call (.Name "list" p) (e :: es) [] pos) (eApp fs (dList c)) := (pe_callTy call_list_of hg hm (by decide +kernel) ha (by decide) (by decide) he hpl).wk (tCB_wk list_ok)
/-- tuple(x) of a list or a tuple -/
def dTuple (ds : List D) (S : Sto) : R D := match ds with
  | [d] => match seqS S d with
    | some xs => .ok (.tup xs) S
    | none => .bad
  | _ => .bad
theorem tuple_ok {n : Nat} : CallD X W n (fun xs H Q => ∃ p ys, xs = [.ref p] ∧ ((SqL X.K H p ys ∧ ∀ l, H l = none → Q (.ref l) (upd H l (.tup ys))) ∨ (SqT X.K H p ys ∧ Q (.ref p) H))) dTuple := by
  intro bs σ H φ S ds vs Q s r hl h
  cases r with
  | nil => exact h.elim
  | cons r t =>
    cases t with
    | cons _ _ => exact h.elim
    | nil =>
      simp only [dTuple] at h
      split at h
      · rename_i xs e
        obtain ⟨a, vs, rfl, hq, lr⟩ := s.seq r e
        refine ⟨a, vs, rfl, ?_⟩
        rcases hq with hq | hq
        · exact .inl ⟨hq, fun p hp => tup_ok s lr hp h⟩
        · exact .inr ⟨hq, PostG.done s (.tup hq lr) h⟩
      · exact h.elim
theorem de_tuple (hm : X.mg "tuple" = none) (ha : DA X W (e :: es) (aList fs)) (hg : Gl X "tuple" := by rfl) (he : starEach (e :: es) X.env = (false, eval e X.env) :: starEach es X.env := by rfl) (hpl : (backTo pos (starEach es X.env)).any (·.1) = false := by rfl) :
    DE X W (.Call (.Name "tuple" p) (e :: es) [] pos) (eApp fs dTuple) := (pe_callTy call_tuple_of hg hm (by decide +kernel) ha (by decide) (by decide) he hpl).wk (tCB_wk tuple_ok)
/-- dict(d): a copy -/
def dDict (c : Bool) (ds : List D) (S : Sto) : R D := match ds with
  | [d] => match dicS S d with
    | some kvs => mkD c kvs S
    | none => .bad
  | _ => .bad
theorem dict_ok {n : Nat} {c : Bool} : CallD X W n (fun xs H Q => ∃ (a : Addr) (kvs : List (Key × V)), xs = [.ref a] ∧ Rd H a (.dK kvs) ∧ ∀ p, H p = none → Q (.ref p) (upd H p (.dK kvs))) (dDict c) := by
  intro bs σ H φ S ds vs Q s r hl h
  cases r with
  | nil => exact h.elim
  | cons r t =>
    cases t with
    | cons _ _ => exact h.elim
    | nil =>
      simp only [dDict] at h
      split at h
      · rename_i xs e
        obtain ⟨a, vs, rfl, hq, lr⟩ := s.dic r e
        exact ⟨a, vs, rfl, hq, fun p hp => mkD_ok s lr hp h⟩
      · exact h.elim
theorem de_dictc {c : Bool} (hm : X.mg "dict" = none) (ha : DA X W (e :: es) (aList fs)) (hg : Gl X "dict" := by rfl) (he : starEach (e :: es) X.env = (false, eval e X.env) :: starEach es X.env := by rfl) (hpl : (backTo pos (starEach es X.env)).any (·.1) = false := by rfl) :
    DE X W (.Call (.Name "dict" p) (e :: es) [] pos) (eApp fs (dDict c)) := (pe_callTy call_dictD hg hm (by decide +kernel) ha (by decide) (by decide) he hpl).wk (tCB_wk dict_ok)
/-- isinstance(x, T), T a built-in type -/
def tyS (S : Sto) : D → Option String
  | .non => some "NoneType"
  | .bl _ => some "bool"
  | .int _ => some "int"
  | .str _ => some "str"
  | .tup _ => some "tuple"
  | .lst _ => some "list"
  | .frl _ => some "list"
  | .dic _ => some "dict"
  | .ref n => match S.get n with
    | some (.lst _) => some "list"
    | some (.dic _) => some "dict"
    | _ => none
  | _ => none
def isTy (T t : String) : Bool := t == T || (t == "bool" && T == "int")
def eIsT (T : String) (f : EM) : EM := fun ρ S => (f ρ S).bind fun d S1 => match tyS S1 d with
  | some t => .ok (.bl (isTy T t)) S1
  | none => .bad
theorem kit_tab : ∀ T ∈ ["str", "int", "bool", "list", "tuple", "dict"], ∀ t ∈ ["NoneType", "bool", "int", "str", "tuple", "list", "dict"], kitB t T = some (isTy T t) := by decide +kernel
theorem Sim.ty {K : PySem.W.Frag} {mg : Str → Option Value} {H : Hp} {φ : Ph} {bs : List Nat} {S : Sto} {d : D} {v : V} {t : String} (s : Sim K mg H φ bs S) (r : Rep K mg H φ d v) (e : tyS S d = some t) :
    TyX K H v (.type t) ∧ t ∈ ["NoneType", "bool", "int", "str", "tuple", "list", "dict"] := by
  cases r with
  | non => cases e; exact ⟨.base .non, by decide⟩
  | bl b => cases e; exact ⟨.base (.bl b), by decide⟩
  | int i => cases e; exact ⟨.base (.int i), by decide⟩
  | str z g => cases e; exact ⟨.base (.str _), by decide⟩
  | tup h _ =>
    cases e
    refine ⟨?_, by decide⟩
    rcases h with (h | ⟨o, h⟩) | ⟨o, its, n, hk, hc, _⟩
    · exact .base (.tup h)
    · exact .fTuple h
    · exact .kTuple hk hc
  | lst h _ _ => cases e; exact ⟨.base (.lst h), by decide⟩
  | frl h _ =>
    cases e
    refine ⟨?_, by decide⟩
    rcases h with ⟨o, h⟩ | ⟨o, its, n, hk, hc, _⟩
    · exact .base (.frz h)
    · exact .kList hk hc
  | dic h _ _ =>
    cases e
    refine ⟨?_, by decide⟩
    rcases h with h | ⟨o, h⟩
    · exact .base (.dK h)
    · exact .fDict h
  | obj _ _ _ _ => cases e
  | @ref n a h1 =>
    simp only [tyS] at e
    split at e
    · rename_i xs q
      cases e
      obtain ⟨a', ev, _, vs, hv, lv⟩ := s.at (.ref h1) q
      cases ev
      exact ⟨.base (.lst hv), by decide⟩
    · rename_i xs q
      cases e
      obtain ⟨a', ev, _, vs, hv, lv⟩ := s.at (.ref h1) q
      cases ev
      exact ⟨.base (.dK hv), by decide⟩
    · cases e
theorem de_isT {T : Str} {Ts : String} {p2 : Pos} (hT : T = Str.ofString Ts) (hIn : Ts ∈ ["str", "int", "bool", "list", "tuple", "dict"]) (hm : X.mg "isinstance" = none) (hmT : X.mg T = none) (hb : bootBuiltins T = some (.type Ts)) (ha : DE X W e f)
    (hg : Gl X "isinstance" := by rfl) (hgT : Gl X T := by rfl) (hn : T ≠ "__name__" := by decide) (hd : (T == ("__debug__" : Str)) = false := by decide)
    (he : starEach [e, .Name T p2] X.env = (false, eval e X.env) :: starEach [.Name T p2] X.env := by rfl) (he2 : starEach [.Name T p2] X.env = (false, eval (.Name T p2) X.env) :: starEach [] X.env := by rfl) (hpl : (backTo pos (starEach [.Name T p2] X.env)).any (·.1) = false := by rfl) :
    DE X W (.Call (.Name "isinstance" p) [e, .Name T p2] [] pos) (eIsT Ts f) := by
  refine (pe_callB call_isi hg hm (by decide +kernel) (pa_cons ha (pa_cons (pe_bltn (v := .ty Ts) hgT hmT hb rfl hn hd) pa_nil he2) he) (by decide) (by decide) he hpl).wk fun σ H Q h => ?_
  obtain ⟨φ, bs, ρ, S, s, en, h⟩ := h
  refine tG_then s en h fun d S1 v H1 φ1 x1 s1 e1 r1 h1 => ?_
  split at h1
  · rename_i t et
    obtain ⟨ty, hin⟩ := s1.ty r1 et
    exact ⟨v, .ty Ts, .type t, .type Ts, isTy Ts t, rfl, .ty Ts, ty, kit_ty (kit_tab Ts hIn t hin), PostG.done s1 (.bl _) h1⟩
  · exact h1.elim
end
end Mi

namespace Mi
open PySem PySem.Spec PyProof.Rows L2

/-! ### blocks -/
def sSkip : SM := fun ρ S => .nx ρ S
def sSeq (f g : SM) : SM := fun ρ S => match f ρ S with
  | .nx ρ' S' => g ρ' S'
  | r => r
section
variable {X : Cx} {W : WX} {st : Stmt} {sts : List Stmt} {f g : SM} {e : Expr} {fe : EM} {pos : Pos} {k : Nat}
theorem dss_nil : DSs X W [] sSkip := pss_nil.wk fun D σ H h => by
  obtain ⟨φ, bs, ρ, S, s, en, h⟩ := h
  exact h σ H φ (.refl _ _) s en
theorem tSeq_wk (D : Ends) (σ : L2.St) (H : Hp) (h : tS X W (sSeq f g) D σ H) : tSeq (tS X W f) (tS X W g) D σ H := by
  obtain ⟨φ, bs, ρ, S, s, en, h⟩ := h
  refine ⟨φ, bs, ρ, S, s, en, ?_⟩
  have h' : PostS X.K X.mg W bs H φ (match f ρ S with
    | .nx ρ' S' => g ρ' S'
    | r => r) D := h
  revert h'
  cases f ρ S with
  | nx ρ' S' => exact fun h' σ' H' φ' x s' e' => ⟨φ', bs, ρ', S', s', e', PostS.shift x h'⟩
  | rt d S' => exact fun h' => h'
  | bk d S' => exact fun h' => h'
  | ct d S' => exact fun h' => h'
  | ex d r S' => exact fun h' => h'
  | bad => exact fun h' => h'
theorem dss_cons (h1 : DS X W st f) (h2 : DSs X W sts g) : DSs X W (st :: sts) (sSeq f g) := (pss_cons h1 h2).wk tSeq_wk
theorem dss_one (h1 : DS X W st f) : DSs X W [st] f := pss_one h1
/-- the text from the i-th to the j-th statement, joined -/
theorem ds_pass : DS X W (.Pass pos) sSkip := ps_pass.wk fun D σ H h => by
  obtain ⟨φ, bs, ρ, S, s, en, h⟩ := h
  exact h σ H φ (.refl _ _) s en
def sBreak : SM := fun ρ S => .bk ρ S
def sCont : SM := fun ρ S => .ct ρ S
theorem ds_break : DS X W (.Break pos) sBreak := ps_break.wk fun D σ H h => by
  obtain ⟨φ, bs, ρ, S, s, en, h⟩ := h
  exact h σ H φ (.refl _ _) s en
theorem ds_cont : DS X W (.Continue pos) sCont := ps_continue.wk fun D σ H h => by
  obtain ⟨φ, bs, ρ, S, s, en, h⟩ := h
  exact h σ H φ (.refl _ _) s en
theorem ds_doc {x j pos pos'} : DS X W (.Expr (.Constant (.str x) j pos) pos') sSkip := ps_doc.wk fun D σ H h => by
  obtain ⟨φ, bs, ρ, S, s, en, h⟩ := h
  exact h σ H φ (.refl _ _) s en
/-- what the proof never comes to -/
def sNever : SM := fun _ _ => .bad
theorem ds_never : DS X W st sNever := ps_never.wk fun D σ H h => by
  obtain ⟨φ, bs, ρ, S, s, en, h⟩ := h
  exact h
theorem dss_never : DSs X W sts sNever := pss_never.wk fun D σ H h => by
  obtain ⟨φ, bs, ρ, S, s, en, h⟩ := h
  exact h
def sExpr (f : EM) : SM := fun ρ S => (f ρ S).bindS ρ fun _ S1 => .nx ρ S1
theorem ds_expr (he : DE X W e fe) (hs : swapsWith e none pos.line X.env = pure false := by rfl) : DS X W (.Expr e pos) (sExpr fe) := (ps_expr he hs).wk fun D σ H h => by
  obtain ⟨φ, bs, ρ, S, s, en, h⟩ := h
  exact tG_thenS s en h fun d S1 v H1 φ1 x1 s1 e1 r1 h1 => h1 σ H1 φ1 (.refl _ _) s1 e1
def sRet (f : EM) : SM := fun ρ S => (f ρ S).bindS ρ fun d S1 => .rt d S1
theorem ds_ret (he : DE X W e fe) : DS X W (.Return (some e) pos) (sRet fe) := (ps_ret he).wk fun D σ H h => by
  obtain ⟨φ, bs, ρ, S, s, en, h⟩ := h
  exact tG_thenS s en h fun d S1 v H1 φ1 x1 s1 e1 r1 h1 => h1 v H1 φ1 (.refl _ _) s1 r1
def sRetN : SM := fun _ S => .rt .non S
theorem ds_retN : DS X W (.Return none pos) sRetN := ps_retN.wk fun D σ H h => by
  obtain ⟨φ, bs, ρ, S, s, en, h⟩ := h
  exact h .non H φ (.refl _ _) s .non
def sIf (t : TM) (f g : SM) : SM := fun ρ S => (t ρ S).bindS ρ fun b S1 => if b = true then f ρ S1 else g ρ S1
theorem ds_if {c : Expr} {t : TM} {as bs' : List Stmt} (hc : DT X W c t) (ha : DSs X W as f) (hb : DSs X W bs' g) : DS X W (.If c as bs' pos) (sIf t f g) := (ps_if hc ha hb).wk fun D σ H h => by
  obtain ⟨φ, bs, ρ, S, s, en, h⟩ := h
  refine tG_thenS s en h fun d S1 v H1 φ1 x1 s1 e1 r1 h1 => ?_
  have r1' : v = d := r1
  subst r1'
  cases v with
  | true => exact iteT ⟨φ1, bs, ρ, S1, s1, e1, h1⟩
  | false => exact iteF ⟨φ1, bs, ρ, S1, s1, e1, h1⟩

/-! ### targets -/
abbrev GM := D → Env → Sto → Option Env
def tGt (X : Cx) (t : GM) : TG := fun v σ H Q => ∃ φ bs ρ S d, Sim X.K X.mg H φ bs S ∧ EnvR X.K X.mg H φ ρ σ ∧ Rep X.K X.mg H φ d v ∧ ∃ ρ', t d ρ S = some ρ' ∧ ∀ σ', EnvR X.K X.mg H φ ρ' σ' → Q σ' H
abbrev DG (X : Cx) (tg : Expr) (t : GM) : Prop := PG X tg (tGt X t)
theorem PG.wk {tg : Expr} {t t' : TG} (h : PG X tg t) (w : ∀ v σ H Q, t' v σ H Q → t v σ H Q) : PG X tg t' := ⟨fun pins s σ H v u Q I r q => h.run pins s σ H v u Q I r (w _ _ _ _ q)⟩
def gtName (i : Nat) : GM := fun d ρ _ => some (ρ.set i (some d))
theorem dg_name {i : Nat} {x : Str} (hN : X.N.Nodup) (hi : X.N[i]? = some x := by rfl) (hx : Loc X.env.scope x := by first | exact Or.inl rfl | exact Or.inr rfl) (hf : X.fn x = true ∨ X.env.scope.names.lookup x = some .local := by first | exact .inl rfl | exact .inr rfl | assumption) : DG X (.Name x pos) (gtName i) :=
  PG.wk (pg_name hN hi hx hf) fun v σ H Q h => by
    obtain ⟨φ, bs, ρ, S, d, s, en, r, ρ', e, q⟩ := h
    cases e
    exact q _ (en.set r i)
/-- several, from the items -/
def gtAll : List GM → List D → Env → Sto → Option Env
  | [], [], ρ, _ => some ρ
  | t :: ts, d :: ds, ρ, S => match t d ρ S with
    | some ρ' => gtAll ts ds ρ' S
    | none => none
  | _, _, _, _ => none
def tGts (X : Cx) (ts : List GM) : TGs := fun vs σ H Q => ∃ φ bs ρ S ds, Sim X.K X.mg H φ bs S ∧ EnvR X.K X.mg H φ ρ σ ∧ RepL X.K X.mg H φ ds vs ∧ ∃ ρ', gtAll ts ds ρ S = some ρ' ∧ ∀ σ', EnvR X.K X.mg H φ ρ' σ' → Q σ' H
abbrev DGs (X : Cx) (tgs : List Expr) (ts : List GM) : Prop := PGs X tgs (tGts X ts)
theorem PGs.wk {tg : List Expr} {t t' : TGs} (h : PGs X tg t) (w : ∀ v σ H Q, t' v σ H Q → t v σ H Q) : PGs X tg t' := ⟨fun pins s σ H v u Q I r q => h.run pins s σ H v u Q I r (w _ _ _ _ q)⟩
theorem dgs_nil : DGs X [] [] := PGs.wk pgs_nil fun vs σ H Q h => by
  obtain ⟨φ, bs, ρ, S, ds, s, en, r, ρ', e, q⟩ := h
  cases r with
  | nil => cases e; exact ⟨rfl, q _ en⟩
  | cons _ _ => cases e
theorem dgs_cons {es : List Expr} {t : GM} {ts : List GM} (h1 : DG X e t) (h2 : DGs X es ts) (hs : (assignEach (e :: es) X.env).map (·.2) = assign e X.env :: (assignEach es X.env).map (·.2) := by rfl) : DGs X (e :: es) (t :: ts) := PGs.wk (pgs_cons h1 h2 hs) fun vs σ H Q h => by
  obtain ⟨φ, bs, ρ, S, ds, s, en, r, ρ', e, q⟩ := h
  cases r with
  | nil => cases e
  | cons r t' =>
    simp only [gtAll] at e
    split at e
    · rename_i ρ1 e1
      exact ⟨_, _, rfl, φ, bs, ρ, S, _, s, en, r, ρ1, e1, fun σ1 en1 => ⟨φ, bs, ρ1, S, _, s, en1, t', ρ', e, q⟩⟩
    · cases e
def gtTup (ts : List GM) : GM := fun d ρ S => match seqS S d with
  | some ds => gtAll ts ds ρ S
  | none => none
theorem gtAll_len : ∀ {ts : List GM} {ds : List D} {ρ ρ' : Env} {S : Sto}, gtAll ts ds ρ S = some ρ' → ds.length = ts.length
  | [], [], _, _, _, _ => rfl
  | [], _ :: _, _, _, _, h => by cases h
  | _ :: _, [], _, _, _, h => by cases h
  | t :: ts, d :: ds, ρ, ρ', S, h => by
    simp only [gtAll] at h
    split at h
    · rw [List.length_cons, List.length_cons, gtAll_len h]
    · cases h
theorem PG.or {tg : Expr} {t t' : TG} (h : PG X tg t) (h' : PG X tg t') : PG X tg (fun v σ H Q => t v σ H Q ∨ t' v σ H Q) :=
  ⟨fun pins s σ H v u Q I r q => q.elim (h.run pins s σ H v u Q I r) (h'.run pins s σ H v u Q I r)⟩
theorem dg_tup {es : List Expr} {n : Nat} {ts : List GM} (C : Cz X W k) (h : DGs X es ts) (hn : (assignEach es X.env).length = ts.length := by rfl) (hst : (assignEach es X.env).findIdx? (·.1) = none := by rfl) : DG X (.Tuple es n pos) (gtTup ts) := by
  refine PG.wk (PG.or (pg_tup C.calm h hn hst) (pg_lst C.calm h hn hst)) fun v σ H Q h => ?_
  obtain ⟨φ, bs, ρ, S, d, s, en, r, ρ', e, q⟩ := h
  simp only [gtTup] at e
  split at e
  · rename_i ds ed
    obtain ⟨a, vs, rfl, hq, lr⟩ := s.seq r ed
    have hl : vs.length = ts.length := by rw [← lr.length]; exact gtAll_len e
    rcases hq with hq | hq
    · exact .inr ⟨a, vs, rfl, hq, hl, φ, bs, ρ, S, ds, s, en, lr, ρ', e, q⟩
    · exact .inl ⟨a, vs, rfl, hq, hl, φ, bs, ρ, S, ds, s, en, lr, ρ', e, q⟩
  · cases e
/-! ### assignments -/
def sAsg (f : EM) (t : GM) : SM := fun ρ S => (f ρ S).bindS ρ fun d S1 => match t d ρ S1 with
  | some ρ' => .nx ρ' S1
  | none => .bad
theorem tAsg_wk {t : GM} (D : Ends) (σ : L2.St) (H : Hp) (h : tS X W (sAsg fe t) D σ H) : tAsg (tE X W fe) (tGt X t) D σ H := by
  obtain ⟨φ, bs, ρ, S, s, en, h⟩ := h
  refine tG_thenS s en h fun d S1 v H1 φ1 x1 s1 e1 r1 h1 => ?_
  split at h1
  · rename_i ρ' et
    exact ⟨φ1, bs, ρ, S1, d, s1, e1, r1, ρ', et, fun σ' en' => h1 σ' H1 φ1 (.refl _ _) s1 en'⟩
  · exact h1.elim
theorem ds_asg {tg : Expr} {t : GM} (he : DE X W e fe) (hg : DG X tg t) (hs : swapsWithSole [tg] e pos.line X.env = pure false := by rfl) (hw : swappedStores [tg] e X.env = pure none := by rfl) (h1 : (assignEach [tg] X.env).map (·.2) = [assign tg X.env] := by rfl) :
    DS X W (.Assign [tg] e pos) (sAsg fe t) := (ps_asg he hg hs hw h1).wk tAsg_wk
theorem ds_set {i : Nat} {x : Str} {pos' : Pos} (hN : X.N.Nodup) (he : DE X W e fe) (hi : X.N[i]? = some x := by rfl) (hx : Loc X.env.scope x := by first | exact Or.inl rfl | exact Or.inr rfl) (hs : swapsWith e (some (.Name x pos')) pos.line X.env = pure false := by rfl)
    (hf : X.fn x = true ∨ X.env.scope.names.lookup x = some .local := by first | exact .inl rfl | exact .inr rfl | assumption) : DS X W (.Assign [.Name x pos'] e pos) (sAsg fe (gtName i)) := by
  refine (ps_set hN hi hx he hs hf).wk fun D σ H h => ?_
  obtain ⟨φ, bs, ρ, S, s, en, h⟩ := h
  refine tG_thenS s en h fun d S1 v H1 φ1 x1 s1 e1 r1 h1 => ?_
  exact h1 _ H1 φ1 (.refl _ _) s1 (e1.set r1 i)
/-- a, b = x, y -/
def sPar (i j : Nat) (fs : List EM) : SM := fun ρ S => (aList fs ρ S).bindS ρ fun ds S1 => match ds with
  | [d, d'] => .nx ((ρ.set i (some d)).set j (some d')) S1
  | _ => .bad
theorem ds_par {i j : Nat} {x y : Str} {a b : Expr} {fs : List EM} {px py pt : Pos} {kt k2 pt2} (C : Cz X W k) (hN : X.N.Nodup) (ha : DA X W [a, b] (aList fs)) (hi : X.N[i]? = some x := by rfl) (hj : X.N[j]? = some y := by rfl) (hij : i ≠ j := by decide)
    (hx : X.env.scope.names.lookup x = some .local := by rfl) (hy : X.env.scope.names.lookup y = some .local := by rfl)
    (hw : swappedStores [.Tuple [.Name x px, .Name y py] kt pt] (.Tuple [a, b] k2 pt2) X.env = pure (some [x, y]) := by rfl)
    (hs : swapsWithSole [.Tuple [.Name x px, .Name y py] kt pt] (.Tuple [a, b] k2 pt2) pos.line X.env = pure false := by rfl) :
    DS X W (.Assign [.Tuple [.Name x px, .Name y py] kt pt] (.Tuple [a, b] k2 pt2) pos) (sPar i j fs) := by
  refine (ps_par C.calm hN hi hj hij hx hy ha hw hs).wk fun D σ H h => ?_
  obtain ⟨φ, bs, ρ, S, s, en, h⟩ := h
  refine tG_thenS (rel := RepL) s en h fun ds S1 vs H1 φ1 x1 s1 e1 r1 h1 => ?_
  cases r1 with
  | nil => exact h1.elim
  | cons r1 t =>
    cases t with
    | nil => exact h1.elim
    | cons r2 t =>
      cases t with
      | cons _ _ => exact h1.elim
      | nil => exact ⟨_, _, rfl, h1 _ H1 φ1 (.refl _ _) s1 ((e1.set r1 i).set r2 j)⟩
/-- o[i] = e -/
def ixI (n : Nat) (i : Int) : Option Nat := ixN n i
def putD (kvs : List (Key × D)) (k : Key) (v : D) : List (Key × D) := if (kvs.any fun kv => decide (kv.1 = k)) = true then kvs.map (fun kv => if kv.1 = k then (kv.1, v) else kv) else kvs ++ [(k, v)]
def setS (S : Sto) (o i v : D) : Option Sto := match o with
  | .ref n => match S.get n with
    | some (.lst xs) => match intD i with
      | some z => match ixN xs.length z with
        | some j => if S.may n (.lst (xs.set j v)) = true then some (S.set n (.lst (xs.set j v))) else none
        | none => none
      | none => none
    | some (.dic kvs) => match keyD i with
      | some q => if kvs.length < sizeLine ∧ S.may n (.dic (putD kvs q v)) = true then some (S.set n (.dic (putD kvs q v))) else none
      | none => none
    | _ => none
  | _ => none
def sSetIx (fo fi fv : EM) : SM := fun ρ S => (fv ρ S).bindS ρ fun v S1 => (fo ρ S1).bindS ρ fun o S2 => (fi ρ S2).bindS ρ fun i S3 => match setS S3 o i v with
  | some S4 => .nx ρ S4
  | none => .bad
def rSetU : V → V → V → Hp → (Hp → Prop) → Prop := fun o i v H Q => rSetL o i v H Q ∨ ∃ a H', o = .ref a ∧ DPut H a i v H' ∧ Q H'
theorem set_dict (hu : X.A.units + 1 < cLine) : PSet X rSetU := by
  intro pins s σ H o i v ov iv u Q I ro ri rv h
  rcases h with h | ⟨a, H', rfl, g, q⟩
  · exact set_list pins s σ H o i v ov iv u Q I ro ri rv h
  · cases ro
    exact d_setItem hu I g ri rv fun s4 I4 => ⟨H', I4, q⟩
theorem RepK.any {K : PySem.W.Frag} {mg : Str → Option Value} {H : Hp} {φ : Ph} {kk : Key} : ∀ {ds : List (Key × D)} {vs : List (Key × V)}, RepK K mg H φ ds vs → (vs.any fun kv => decide (kv.1 = kk)) = ds.any fun kv => decide (kv.1 = kk)
  | _, _, .nil => rfl
  | _, _, .cons _ t => by rw [List.any_cons, List.any_cons, RepK.any t]
theorem RepK.mapPut {K : PySem.W.Frag} {mg : Str → Option Value} {H : Hp} {φ : Ph} {kk : Key} {d : D} {v : V} (r : Rep K mg H φ d v) : ∀ {ds : List (Key × D)} {vs : List (Key × V)}, RepK K mg H φ ds vs →
    RepK K mg H φ (ds.map fun kv => if kv.1 = kk then (kv.1, d) else kv) (vs.map fun kv => if kv.1 = kk then (kv.1, v) else kv)
  | _, _, .nil => .nil
  | _, _, .cons (k := k') q t => by
    rw [List.map_cons, List.map_cons]
    by_cases e : k' = kk
    · rw [if_pos e, if_pos e]; exact .cons r (RepK.mapPut r t)
    · rw [if_neg e, if_neg e]; exact .cons q (RepK.mapPut r t)
theorem RepK.append {K : PySem.W.Frag} {mg : Str → Option Value} {H : Hp} {φ : Ph} : ∀ {ds es : List (Key × D)} {vs ws : List (Key × V)}, RepK K mg H φ ds vs → RepK K mg H φ es ws → RepK K mg H φ (ds ++ es) (vs ++ ws)
  | _, _, _, _, .nil, s => s
  | _, _, _, _, .cons h t, s => .cons h (RepK.append t s)
theorem RepK.put {K : PySem.W.Frag} {mg : Str → Option Value} {H : Hp} {φ : Ph} {kk : Key} {d : D} {v : V} (r : Rep K mg H φ d v) {ds : List (Key × D)} {vs : List (Key × V)} (h : RepK K mg H φ ds vs) : RepK K mg H φ (putD ds kk d) (putK vs kk v) := by
  unfold putD putK
  rw [h.any]
  by_cases e : (ds.any fun kv => decide (kv.1 = kk)) = true
  · rw [if_pos e, if_pos e]; exact h.mapPut r
  · rw [if_neg e, if_neg e]; exact h.append (.cons r .nil)
theorem set_ok {bs : List Nat} {H : Hp} {φ : Ph} {S S' : Sto} {o i v : D} {ov iv vv : V} {Q : Hp → Prop} (s : Sim X.K X.mg H φ bs S) (ro : Rep X.K X.mg H φ o ov) (ri : Rep X.K X.mg H φ i iv) (rv : Rep X.K X.mg H φ v vv) (h : setS S o i v = some S')
    (q : ∀ H', Ext H φ H' φ → Sim X.K X.mg H' φ bs S' → Q H') : rSetU ov iv vv H Q := by
  cases ro with
  | @ref n a ha =>
    simp only [setS] at h
    split at h
    · rename_i xs e
      obtain ⟨a', ev, _, vs, hv, lv⟩ := s.at (.ref ha) e
      cases ev
      split at h
      · rename_i z ez
        have hi := ri.int' ez
        subst hi
        split at h
        · rename_i j ej
          by_cases hm : S.may n (.lst (xs.set j v)) = true
          · rw [if_pos hm] at h
            cases h
            have x : Ext H φ (upd H a (.lst (vs.set j vv))) φ := Ext.wr s ha
            exact .inl ⟨a, vs, z, j, rfl, rfl, hv, by rw [← lv.length]; exact ej, q _ x (s.wr ha hm ⟨_, upd_same, (lv.set rv j).ext x s.cells⟩)⟩
          · rw [if_neg hm] at h; cases h
        · cases h
      · cases h
    · rename_i kvs e
      obtain ⟨a', ev, _, vs, hv, lv⟩ := s.at (.ref ha) e
      cases ev
      split at h
      · rename_i z ez
        have hi := ri.key ez
        subst hi
        by_cases hm : kvs.length < sizeLine ∧ S.may n (.dic (putD kvs z v)) = true
        · rw [if_pos hm] at h
          cases h
          have x : Ext H φ (upd H a (.dK (putK vs z vv))) φ := Ext.wr s ha
          exact .inr ⟨a, _, rfl, .inl ⟨vs, z, hv, rfl, by rw [← lv.length]; exact hm.1, rfl⟩, q _ x (s.wr ha hm.2 ⟨_, upd_same, (lv.put rv).ext x s.cells⟩)⟩
        · rw [if_neg hm] at h; cases h
      · cases h
    · cases h
  | _ => cases h
theorem ds_setIx {eo ei ev : Expr} {fo fi fv : EM} {pos' : Pos} (C : Cz X W k) (ho : DE X W eo fo) (hi : DE X W ei fi) (hv : DE X W ev fv)
    (ha : ∀ v, assign (.Subscript eo ei pos') X.env v = (do
      let ov ← holding [v] (eval eo X.env)
      let iv ← holding [v, ov] (eval ei X.env)
      standAt pos'
      holding [v, ov, iv] (setItem ov iv v)
      release [v, ov, iv] []) := by intro _; rfl)
    (hs : swapsWithSole [.Subscript eo ei pos'] ev pos.line X.env = pure false := by rfl) (hw : swappedStores [.Subscript eo ei pos'] ev X.env = pure none := by rfl)
    (h1 : (assignEach [.Subscript eo ei pos'] X.env).map (·.2) = [assign (.Subscript eo ei pos') X.env] := by rfl) :
    DS X W (.Assign [.Subscript eo ei pos'] ev pos) (sSetIx fo fi fv) := by
  refine (ps_asg hv (pg_sub ho hi (set_dict C.u1) ha) hs hw h1).wk fun D σ H h => ?_
  obtain ⟨φ, bs, ρ, S, s, en, h⟩ := h
  refine tG_thenS s en h fun dv S1 vv H1 φ1 x1 s1 e1 r1 h1 => ?_
  refine tG_thenS s1 e1 h1 fun d2 S2 v2 H2 φ2 x2 s2 e2 r2 h2 => ?_
  refine tG_thenS s2 e2 h2 fun d3 S3 v3 H3 φ3 x3 s3 e3 r3 h3 => ?_
  split at h3
  · rename_i S4 e4
    exact set_ok s3 (r2.ext x3 s2.cells) r3 ((r1.ext x2 s1.cells).ext x3 s2.cells) e4 fun H4 x4 s4 => h3 σ H4 φ3 x4 s4 (e3.ext x4 s3.cells)
  · exact h3.elim
/-- name op= e -/
def sAug (i : Nat) (f : EM) (g : D → D → Sto → R D) : SM := fun ρ S => match ρ[i]? with
  | some (some x) => (f ρ S).bindS ρ fun y S1 => (g x y S1).bindS ρ fun z S2 => .nx (ρ.set i (some z)) S2
  | _ => .bad
theorem ds_aug {i : Nat} {x : Str} {op : Operator} {r : TIp} {g : D → D → Sto → R D} {pos' : Pos} (ho : PIp X op r) (hk : OpD X W r g) (hN : X.N.Nodup) (he : DE X W e fe) (hi : X.N[i]? = some x := by rfl) (hx : Loc X.env.scope x := by first | exact Or.inl rfl | exact Or.inr rfl)
    (hf : X.fn x = true ∨ X.env.scope.names.lookup x = some .local := by first | exact .inl rfl | exact .inr rfl | assumption) : DS X W (.AugAssign (.Name x pos') op e pos) (sAug i fe g) := by
  refine (ps_aug hN hi hx he ho hf).wk fun D σ H h => ?_
  obtain ⟨φ, bs, ρ, S, s, en, h⟩ := h
  unfold sAug at h
  split at h
  · rename_i d ed
    obtain ⟨v, h1, h2⟩ := en.2 i d ed
    refine ⟨v, h1, ?_⟩
    refine tG_thenS s en h fun dy S1 y H1 φ1 x1 s1 e1 r1 h1 => ?_
    refine hk bs σ H1 φ1 S1 d dy v y _ s1 (h2.ext x1 s.cells) r1 ?_
    revert h1
    cases g d dy S1 with
    | ok z S2 => exact fun h1 vz H2 φ2 x2 s2 r2 => h1 _ H2 φ2 x2 s2 ((e1.ext x2 s1.cells).set r2 i)
    | ex z S2 => exact fun h1 c dx H2 φ2 x2 s2 r2 => h1 c dx σ H2 φ2 x2 s2 (e1.ext x2 s1.cells) r2
    | bad => exact fun h1 => h1
  · exact h.elim
def dAddI : D → D → Sto → R D
  | .int i, .int j, S => .ok (.int (i + j)) S
  | _, _, _ => .bad
theorem addI_ok : OpD X W (ipI fun i j => i + j) dAddI := by
  intro bs σ H φ S dx dy x y Q s rx ry h
  cases rx with
  | int i =>
    cases ry with
    | int j => exact ⟨i, j, rfl, rfl, PostG.done s (.int _) h⟩
    | _ => exact h.elim
  | _ => exact h.elim
theorem ds_augAdd {i : Nat} {x : Str} {pos' : Pos} (hN : X.N.Nodup) (he : DE X W e fe) (hi : X.N[i]? = some x := by rfl) (hx : Loc X.env.scope x := by first | exact Or.inl rfl | exact Or.inr rfl)
    (hf : X.fn x = true ∨ X.env.scope.names.lookup x = some .local := by first | exact .inl rfl | exact .inr rfl | assumption) : DS X W (.AugAssign (.Name x pos') .Add e pos) (sAug i fe dAddI) := ds_aug ip_add addI_ok hN he hi hx hf
/-! ### loops -/
/-- the rounds that a while may take here -/
def lots : Nat := 1099511627776
def sWhileN (t : TM) (f : SM) : Nat → SM
  | 0 => fun _ _ => .bad
  | n + 1 => fun ρ S => (t ρ S).bindS ρ fun b S1 => if b = true then match f ρ S1 with
      | .nx ρ' S' => sWhileN t f n ρ' S'
      | .ct ρ' S' => sWhileN t f n ρ' S'
      | .bk ρ' S' => .nx ρ' S'
      | r => r
    else .nx ρ S1
def sWhile (t : TM) (f : SM) : SM := sWhileN t f lots
theorem ds_while {c : Expr} {t : TM} {body : List Stmt} (C : Cz X W k) (hc : DT X W c t) (hb : DSs X W body f) : DS X W (.While c body [] pos) (sWhile t f) := by
  refine (ps_while C.po hc hb).wk fun D σ H h => ?_
  refine ⟨fun m σ H => ∃ φ bs ρ S, Sim X.K X.mg H φ bs S ∧ EnvR X.K X.mg H φ ρ σ ∧ PostS X.K X.mg W bs H φ (sWhileN t f m ρ S) D, ⟨lots, h⟩, fun m σ H hw => ?_⟩
  obtain ⟨φ, bs, ρ, S, s, en, h⟩ := hw
  cases m with
  | zero => exact h.elim
  | succ m =>
    refine tG_thenS s en h fun d S1 v H1 φ1 x1 s1 e1 r1 h1 => ?_
    have r1' : v = d := r1
    subst r1'
    cases v with
    | false => exact iteF (h1 σ H1 φ1 (.refl _ _) s1 e1)
    | true =>
      refine iteT ⟨fun σ' H' => ∃ φ bs ρ S, Sim X.K X.mg H' φ bs S ∧ EnvR X.K X.mg H' φ ρ σ' ∧ PostS X.K X.mg W bs H' φ (sWhileN t f m ρ S) D, fun σ' H' hn => ⟨m, Nat.lt_succ_self m, hn⟩, φ1, bs, ρ, S1, s1, e1, ?_⟩
      rw [if_pos rfl] at h1
      revert h1
      cases f ρ S1 with
      | nx ρ' S' => exact fun h1 σ' H' φ' x s' e' => ⟨φ', bs, ρ', S', s', e', PostS.shift x h1⟩
      | ct ρ' S' => exact fun h1 σ' H' φ' x s' e' => ⟨φ', bs, ρ', S', s', e', PostS.shift x h1⟩
      | bk ρ' S' => exact fun h1 => h1
      | rt d S' => exact fun h1 => h1
      | ex d r S' => exact fun h1 => h1
      | bad => exact fun h1 => h1
end
end Mi

namespace Mi
open PySem PySem.Spec PyProof.Rows L2

/-! ### what is walked -/
/-- the items; the cell that is watched -/
abbrev Wk := List D × Option Nat
abbrev IM := Env → Sto → R Wk
def okSrc (src : Option Nat) (all : List D) (S : Sto) : Prop := match src with
  | none => True
  | some n => S.get n = some (.lst all)
noncomputable instance (src : Option Nat) (all : List D) (S : Sto) : Decidable (okSrc src all S) := Classical.propDecidable _
def JOk (K : PySem.W.Frag) (mg : Str → Option Value) (J : It) (all : List D) (src : Option Nat) (bs : List Nat) (H : Hp) (φ : Ph) : Prop :=
  ∀ H' φ' S', Keeps H φ H' φ' → Sim K mg H' φ' bs S' → okSrc src all S' →
    (∀ (i : Nat) (d : D), all[i]? = some d → J.go i H' ∧ ∀ x H2, J.yld i H' x H2 → H2 = H' ∧ Rep K mg H' φ' d x) ∧ ∀ i : Nat, all.length ≤ i → J.stop i H'
theorem JOk.ext {K : PySem.W.Frag} {mg : Str → Option Value} {J : It} {all : List D} {src : Option Nat} {bs : List Nat} {H H' : Hp} {φ φ' : Ph} (h : JOk K mg J all src bs H φ) (x : Ext H φ H' φ') : JOk K mg J all src bs H' φ' :=
  fun H2 φ2 S2 y s o => h H2 φ2 S2 (x.keeps.trans y) s o
def tI (X : Cx) (W : WX) (im : IM) : TI := fun σ H T => ∃ φ bs ρ S, Sim X.K X.mg H φ bs S ∧ EnvR X.K X.mg H φ ρ σ ∧ (match im ρ S with
  | .ok (all, src) S' => ∀ H' φ' J, Ext H φ H' φ' → Sim X.K X.mg H' φ' bs S' → okSrc src all S' → JOk X.K X.mg J all src bs H' φ' → T J H'
  | .ex e S' => ∀ cls dx H' φ', Ext H φ H' φ' → Sim X.K X.mg H' φ' bs S' → ExR X.K X.mg H' φ' e cls dx → W cls dx σ H'
  | .bad => False)
abbrev DI (X : Cx) (W : WX) (tg e : Expr) (im : IM) : Prop := PI X tg e (tI X W im)
theorem _root_.L2.PI.wk {X : Cx} {tg e : Expr} {t t' : TI} (h : PI X tg e t) (w : ∀ σ H T, t' σ H T → t σ H T) : PI X tg e t' := ⟨fun pins s σ H T I q => h.run pins s σ H T I (w _ _ _ q)⟩
def itS (S : Sto) : D → Option Wk
  | .str s => some (s.map fun c => .str [c], none)
  | .tup xs => some (xs, none)
  | .lst xs => some (xs, none)
  | .frl xs => some (xs, none)
  | .ref n => match S.get n with
    | some (.lst xs) => some (xs, some n)
    | _ => none
  | _ => none
def iVal (f : EM) : IM := fun ρ S => (f ρ S).bind fun d S1 => .of S1 (itS S1 d)
section
variable {X : Cx} {W : WX} {tg e : Expr} {f : EM} {k : Nat} {pos p : Pos}
theorem j_list {bs : List Nat} {H : Hp} {φ : Ph} {a : Addr} {ds : List D} {src : Option Nat} (hl : ∀ H' φ' S', Keeps H φ H' φ' → Sim X.K X.mg H' φ' bs S' → okSrc src ds S' → ∃ vs, SqL X.K H' a vs ∧ RepL X.K X.mg H' φ' ds vs) : JOk X.K X.mg (Itl X.K a) ds src bs H φ := by
  intro H' φ' S' x s o
  obtain ⟨vs, h1, h2⟩ := hl H' φ' S' x s o
  refine ⟨fun i d e => ?_, fun i hi => ⟨vs, h1, by rw [← h2.length]; exact hi⟩⟩
  obtain ⟨v, hv, r⟩ := h2.get e
  refine ⟨⟨vs, v, h1, hv⟩, fun y H2 hy => ?_⟩
  obtain ⟨e1, e2⟩ := hy
  have e3 := e2 vs h1
  rw [hv] at e3
  cases e3
  exact ⟨e1, r⟩
theorem j_tup {bs : List Nat} {H : Hp} {φ : Ph} {a : Addr} {ds : List D} {vs : List V} {S : Sto} (s : Sim X.K X.mg H φ bs S) (h1 : SqT X.K H a vs) (h2 : RepL X.K X.mg H φ ds vs) : JOk X.K X.mg (Itt X.K a) ds none bs H φ := by
  intro H' φ' S' x s' o
  have h1' := x.sqt s.cells h1
  have h2' := h2.kp x s.cells
  refine ⟨fun i d e => ?_, fun i hi => ⟨vs, h1', by rw [← h2'.length]; exact hi⟩⟩
  obtain ⟨v, hv, r⟩ := h2'.get e
  refine ⟨⟨vs, v, h1', hv⟩, fun y H2 hy => ?_⟩
  obtain ⟨e1, e2⟩ := hy
  have e3 := e2 vs h1'
  rw [hv] at e3
  cases e3
  exact ⟨e1, r⟩
theorem its_stop {s : List Nat} {i : Nat} {H : Hp} : (Its ⟨s.toArray⟩).stop i H ↔ s.length ≤ i := by
  show s.toArray.size ≤ i ↔ _
  simp
theorem its_go {s : List Nat} {i : Nat} {H : Hp} : (Its ⟨s.toArray⟩).go i H ↔ i < s.length := by
  show i < s.toArray.size ↔ _
  simp
theorem j_str {bs : List Nat} {H : Hp} {φ : Ph} {s : List Nat} (g : goodS s = true) : JOk X.K X.mg (Its ⟨s.toArray⟩) (s.map fun c => .str [c]) none bs H φ := by
  intro H' φ' S' x s' o
  refine ⟨fun i d e => ?_, fun i hi => its_stop.mpr (by simpa using hi)⟩
  rw [List.getElem?_map] at e
  cases q : s[i]? with
  | none => rw [q] at e; cases e
  | some c =>
    rw [q] at e
    cases e
    have hi : i < s.length := (List.getElem?_eq_some_iff.mp q).1
    refine ⟨its_go.mpr hi, fun y H2 hy => ?_⟩
    obtain ⟨e1, c', e2, e3⟩ := hy
    have e4 : s[i]? = some c' := by simpa using e2
    rw [q] at e4
    cases e4
    subst e3
    exact ⟨e1, .str [c] (good_one g (List.mem_of_getElem? q))⟩
theorem di_val (he : DE X W e f) : DI X W tg e (iVal f) := by
  refine (PI.or (PI.or (pi_list he) (pi_tup he)) (pi_str he)).wk fun σ H T h => ?_
  obtain ⟨φ, bs, ρ, S, s, en, h⟩ := h
  unfold iVal at h
  cases q : f ρ S with
  | bad => rw [q] at h; exact h.elim
  | ex d S1 =>
    rw [q] at h
    refine .inl (.inl ⟨φ, bs, ρ, S, s, en, ?_⟩)
    rw [q]
    exact h
  | ok d S1 =>
    rw [q] at h
    dsimp only [R.bind] at h
    cases q2 : itS S1 d with
    | none => rw [q2] at h; exact h.elim
    | some w =>
      rw [q2] at h
      obtain ⟨all, src⟩ := w
      dsimp only [R.of] at h
      have lists : (∀ ys, d ≠ .tup ys) → (∀ z, d ≠ .str z) → iList X.K (tE X W f) σ H T := fun n1 n2 => by
        refine ⟨φ, bs, ρ, S, s, en, ?_⟩
        rw [q]
        intro v H' φ' x s' r
        cases r with
        | lst h1 h2 h3 =>
          cases q2
          exact ⟨_, rfl, ⟨_, .of h1⟩, h H' φ' _ x s' True.intro (j_list fun H2 φ2 S2 y s2 _ => ⟨_, .of (y.at' _ _ h1 h2).1, h3.kp y s'.cells⟩)⟩
        | frl h1 h3 =>
          cases q2
          refine ⟨_, rfl, ⟨_, h1.sq⟩, h H' φ' _ x s' True.intro (j_list fun H2 φ2 S2 y s2 _ => ⟨_, ?_, h3.kp y s'.cells⟩)⟩
          rcases h1 with ⟨o, h1⟩ | h1
          · exact .inl (.inr ⟨o, (y.at' _ _ h1 (s'.cells.frz h1)).1⟩)
          · exact .inr h1
        | @ref n a h1 =>
          simp only [itS] at q2
          split at q2
          · rename_i xs e1
            cases q2
            obtain ⟨a', ev, _, vs, hv, lv⟩ := s'.at (.ref h1) e1
            cases ev
            refine ⟨_, rfl, ⟨_, .of hv⟩, h H' φ' _ x s' e1 (j_list fun H2 φ2 S2 y s2 o2 => ?_)⟩
            obtain ⟨a', ev, _, vs2, hv2, lv2⟩ := s2.at (.ref (y.cell _ _ h1)) o2
            cases ev
            exact ⟨vs2, .of hv2, lv2⟩
          · cases q2
        | tup _ _ => exact absurd rfl (n1 _)
        | str _ _ => exact absurd rfl (n2 _)
        | _ => cases q2
      by_cases ht : ∃ ys, d = .tup ys
      · obtain ⟨ys, rfl⟩ := ht
        cases q2
        refine .inl (.inr ⟨φ, bs, ρ, S, s, en, ?_⟩)
        rw [q]
        intro v H' φ' x s' r
        cases r with
        | tup h1 h2 => exact ⟨_, rfl, ⟨_, h1⟩, h H' φ' _ x s' True.intro (j_tup s' h1 h2)⟩
      · by_cases hz : ∃ z, d = .str z
        · obtain ⟨z, rfl⟩ := hz
          cases q2
          refine .inr ⟨φ, bs, ρ, S, s, en, ?_⟩
          rw [q]
          intro v H' φ' x s' r
          cases r with
          | str z g => exact ⟨_, rfl, h H' φ' _ x s' True.intro (j_str g)⟩
        · exact .inl (.inl (lists (fun ys e => ht ⟨ys, e⟩) fun z e => hz ⟨z, e⟩))
def rangeL (lo : Int) (n : Nat) : List D := (List.range n).map fun i => .int (lo + (i : Nat))
theorem j_range {bs : List Nat} {H : Hp} {φ : Ph} {lo : Int} {n : Nat} : JOk X.K X.mg (Itr lo n) (rangeL lo n) none bs H φ := by
  intro H' φ' S' x s' o
  unfold rangeL
  refine ⟨fun i d e => ?_, fun i hi => by
    have q : n ≤ i := by simpa using hi
    exact q⟩
  rw [List.getElem?_map] at e
  cases q : (List.range n)[i]? with
  | none => rw [q] at e; cases e
  | some j =>
    rw [q] at e
    cases e
    obtain ⟨h1, h2⟩ := List.getElem?_eq_some_iff.mp q
    have hj : j = i := by simpa using h2.symm
    subst hj
    refine ⟨(show j < n by simpa using h1), fun y H2 hy => ?_⟩
    obtain ⟨e1, e2⟩ := hy
    subst e2
    exact ⟨e1, .int _⟩
/-- range(n), range(a, b) -/
def iRange (fs : List EM) : IM := fun ρ S => (aList fs ρ S).bind fun ds S1 => match ds with
  | [.int j] => if -(2 ^ 62) ≤ j ∧ j < 2 ^ 62 then .ok (rangeL 0 j.toNat, none) S1 else .bad
  | [.int i, .int j] => if -(2 ^ 62) ≤ i ∧ i < 2 ^ 62 ∧ -(2 ^ 62) ≤ j ∧ j < 2 ^ 62 then .ok (rangeL i (j - i).toNat, none) S1 else .bad
  | _ => .bad
theorem tA_I {fs : List EM} {g : List D → Sto → R Wk} {σ : L2.St} {H : Hp} {T : It → Hp → Prop} {U : List V → Hp → Prop} (h : tI X W (fun ρ S => (aList fs ρ S).bind g) σ H T)
    (hk : ∀ bs H φ S ds vs, Sim X.K X.mg H φ bs S → RepL X.K X.mg H φ ds vs → ds.length = fs.length → (match g ds S with
      | .ok (all, src) S' => ∀ H' φ' J, Ext H φ H' φ' → Sim X.K X.mg H' φ' bs S' → okSrc src all S' → JOk X.K X.mg J all src bs H' φ' → T J H'
      | .ex e S' => ∀ cls dx H' φ', Ext H φ H' φ' → Sim X.K X.mg H' φ' bs S' → ExR X.K X.mg H' φ' e cls dx → W cls dx σ H'
      | .bad => False) → U vs H) : tA X W (aList fs) σ H U := by
  obtain ⟨φ, bs, ρ, S, s, en, h⟩ := h
  have hl : ∀ ds S', aList fs ρ S = .ok ds S' → ds.length = fs.length := fun _ _ q => aList_len q
  refine ⟨φ, bs, ρ, S, s, en, ?_⟩
  dsimp only at h
  cases q : aList fs ρ S with
  | ok ds S1 =>
    rw [q] at h
    dsimp only [R.bind] at h
    intro v H1 φ1 x s1 r1
    refine hk bs H1 φ1 S1 ds v s1 r1 (hl _ _ q) ?_
    cases q2 : g ds S1 with
    | ok w S2 =>
      rw [q2] at h
      obtain ⟨all, src⟩ := w
      exact fun H' φ' J y s2 o j => h H' φ' J (x.trans y) s2 o j
    | ex d S2 => rw [q2] at h; exact fun c dx H' φ' y s2 r => h c dx H' φ' (x.trans y) s2 r
    | bad => rw [q2] at h; exact h
  | ex d S1 => rw [q] at h; exact h
  | bad => rw [q] at h; exact h
theorem di_range1 {a : Expr} {fa : EM} (hm : X.mg "range" = none) (ha : DA X W [a] (aList [fa])) (hg : Gl X "range" := by rfl) (hs : starEach [a] X.env = [(false, eval a X.env)] := by rfl) : DI X W tg (.Call (.Name "range" p) [a] [] pos) (iRange [fa]) := by
  refine (pi_range1 hg hm ha hs).wk fun σ H T h => ?_
  refine tA_I h fun bs H φ S ds vs s r hl h => ?_
  split at h
  · rename_i all src S' e
    cases r with
    | nil => cases hl
    | cons r t =>
      cases t with
      | cons _ _ => cases hl
      | nil =>
        cases r with
        | int j =>
          simp only at e
          by_cases hj : -(2 ^ 62) ≤ j ∧ j < 2 ^ 62
          · rw [if_pos hj] at e
            cases e
            exact ⟨j, rfl, hj.1, hj.2, h H φ _ (.refl _ _) s True.intro j_range⟩
          · rw [if_neg hj] at e; cases e
        | _ => cases e
  · rename_i d S' e
    cases r with
    | nil => cases hl
    | cons r t =>
      cases t with
      | cons _ _ => cases hl
      | nil =>
        cases r with
        | int j =>
          simp only at e
          by_cases hj : -(2 ^ 62) ≤ j ∧ j < 2 ^ 62
          · rw [if_pos hj] at e; cases e
          · rw [if_neg hj] at e; cases e
        | _ => cases e
  · exact h.elim
theorem di_range2 {a b : Expr} {fa fb : EM} (hm : X.mg "range" = none) (ha : DA X W [a, b] (aList [fa, fb])) (hg : Gl X "range" := by rfl) (hs : starEach [a, b] X.env = [(false, eval a X.env), (false, eval b X.env)] := by rfl) (hs2 : starEach [b] X.env = [(false, eval b X.env)] := by rfl) :
    DI X W tg (.Call (.Name "range" p) [a, b] [] pos) (iRange [fa, fb]) := by
  refine (pi_range2 hg hm ha hs hs2).wk fun σ H T h => ?_
  refine tA_I h fun bs H φ S ds vs s r hl h => ?_
  cases r with
  | nil => cases hl
  | cons r t =>
    cases t with
    | nil => cases hl
    | cons r2 t =>
      cases t with
      | cons _ _ => cases hl
      | nil =>
        cases r with
        | int i =>
          cases r2 with
          | int j =>
            dsimp only at h
            by_cases hj : -(2 ^ 62) ≤ i ∧ i < 2 ^ 62 ∧ -(2 ^ 62) ≤ j ∧ j < 2 ^ 62
            · rw [if_pos hj] at h
              exact ⟨i, j, rfl, hj, h H φ _ (.refl _ _) s True.intro j_range⟩
            · rw [if_neg hj] at h; exact h.elim
          | _ => exact h.elim
        | _ => exact h.elim
/-! ### for -/
noncomputable def sForN (g : GM) (f : SM) (src : Option Nat) (all : List D) : List D → SM
  | [] => fun ρ S => if okSrc src all S then .nx ρ S else .bad
  | x :: xs => fun ρ S => if okSrc src all S then match g x ρ S with
      | some ρ1 => match f ρ1 S with
        | .nx ρ' S' => sForN g f src all xs ρ' S'
        | .ct ρ' S' => sForN g f src all xs ρ' S'
        | .bk ρ' S' => .nx ρ' S'
        | r => r
      | none => .bad
    else .bad
noncomputable def sFor (im : IM) (g : GM) (f : SM) : SM := fun ρ S => (im ρ S).bindS ρ fun w S1 => sForN g f w.2 w.1 w.1 ρ S1
theorem sFor_if {c : Prop} [Decidable c] {r : SR} {P : SR → Prop} (h : P (if c then r else .bad)) (hb : P .bad → False) : c ∧ P r := by
  by_cases q : c
  · rw [if_pos q] at h; exact ⟨q, h⟩
  · rw [if_neg q] at h; exact (hb h).elim
theorem ds_for {body : List Stmt} {im : IM} {g : GM} {fb : SM} (C : Cz X W k) (hi : DI X W tg e im) (hg : DG X tg g) (hb : DSs X W body fb) (hs : ∀ x, foldedSetIterable e X.env x = pure x := by intro _; rfl) :
    DS X W (.For tg e body [] pos) (sFor im g fb) := by
  refine (ps_for C.po C.calm hi hg hb hs).wk fun D σ H h => ?_
  obtain ⟨φ, bs, ρ, S, s, en, h⟩ := h
  refine ⟨φ, bs, ρ, S, s, en, ?_⟩
  unfold sFor at h
  cases q : im ρ S with
  | bad => rw [q] at h; exact h
  | ex d S1 =>
    rw [q] at h
    exact fun c dx H' φ' x s' r => h c dx σ H' φ' x s' (en.ext x s.cells) r
  | ok w S1 =>
    rw [q] at h
    obtain ⟨all, src⟩ := w
    intro H1 φ1 J x1 s1 o1 j1
    have h1 : PostS X.K X.mg W bs H1 φ1 (sForN g fb src all all ρ S1) D := PostS.shift x1 h
    refine ⟨fun i m σ H => ∃ φ ρ S, m = all.length - i ∧ i ≤ all.length ∧ Sim X.K X.mg H φ bs S ∧ EnvR X.K X.mg H φ ρ σ ∧ JOk X.K X.mg J all src bs H φ ∧ PostS X.K X.mg W bs H φ (sForN g fb src all (all.drop i) ρ S) D,
      ⟨all.length, φ1, ρ, S1, rfl, Nat.zero_le _, s1, en.ext x1 s.cells, j1, h1⟩, fun i m σ H hw => ?_⟩
    obtain ⟨φ, ρ, S, rfl, hi, s, en, j, h⟩ := hw
    by_cases hlt : i < all.length
    · rw [List.drop_eq_getElem_cons hlt] at h
      unfold sForN at h
      obtain ⟨ho, h⟩ := sFor_if (P := fun r => PostS X.K X.mg W bs H φ r D) h fun z => z
      obtain ⟨hgo, hy⟩ := (j H φ S (Ext.refl _ _).keeps s ho).1 i all[i] (List.getElem?_eq_getElem hlt)
      refine .inr ⟨hgo, fun σ' H' => ∃ φ ρ S, i + 1 ≤ all.length ∧ Sim X.K X.mg H' φ bs S ∧ EnvR X.K X.mg H' φ ρ σ' ∧ JOk X.K X.mg J all src bs H' φ ∧ PostS X.K X.mg W bs H' φ (sForN g fb src all (all.drop (i + 1)) ρ S) D,
        fun σ' H' hn => ?_, fun v H' hv => ?_⟩
      · obtain ⟨φ', ρ', S', h1, h2, h3, h4, h5⟩ := hn
        exact ⟨all.length - (i + 1), by omega, φ', ρ', S', rfl, h1, h2, h3, h4, h5⟩
      · obtain ⟨e1, r⟩ := hy v H' hv
        subst e1
        split at h
        · rename_i ρ1 eg
          refine ⟨φ, bs, ρ, S, all[i], s, en, r, ρ1, eg, fun σ1 en1 => ⟨φ, bs, ρ1, S, s, en1, ?_⟩⟩
          revert h
          cases fb ρ1 S with
          | nx ρ' S' => exact fun h σ' H2 φ' x s' e' => ⟨φ', ρ', S', by omega, s', e', j.ext x, PostS.shift x h⟩
          | ct ρ' S' => exact fun h σ' H2 φ' x s' e' => ⟨φ', ρ', S', by omega, s', e', j.ext x, PostS.shift x h⟩
          | bk ρ' S' => exact fun h => h
          | rt d S' => exact fun h => h
          | ex d r S' => exact fun h => h
          | bad => exact fun h => h
        · exact h.elim
    · have hi2 : i = all.length := by omega
      rw [List.drop_eq_nil_of_le (by omega)] at h
      unfold sForN at h
      obtain ⟨ho, h⟩ := sFor_if (P := fun r => PostS X.K X.mg W bs H φ r D) h fun z => z
      exact .inl ⟨(j H φ S (Ext.refl _ _).keeps s ho).2 i (by omega), h σ H φ (.refl _ _) s en⟩
end
end Mi

namespace Mi
open PySem PySem.Spec PyProof.Rows L2

/-! ### list comprehensions -/
def wipeE (ρ : Env) : List Nat → Env
  | [] => ρ
  | v :: vs => (wipeE ρ vs).set v none
def tGw (X : Cx) (vs : List Nat) (t : GM) : TG := fun v σ H Q => ∃ φ bs ρ S d, Sim X.K X.mg H φ bs S ∧ EnvR X.K X.mg H φ ρ σ ∧ Rep X.K X.mg H φ d v ∧ ∃ ρ', t d ρ S = some ρ' ∧ ∀ σ', EnvR X.K X.mg H φ ρ' σ' → wipe σ' vs = wipe σ vs → Q σ' H
def tGws (X : Cx) (ws : List Nat) (ts : List GM) : TGs := fun vs σ H Q => ∃ φ bs ρ S ds, Sim X.K X.mg H φ bs S ∧ EnvR X.K X.mg H φ ρ σ ∧ RepL X.K X.mg H φ ds vs ∧ ∃ ρ', gtAll ts ds ρ S = some ρ' ∧ ∀ σ', EnvR X.K X.mg H φ ρ' σ' → wipe σ' ws = wipe σ ws → Q σ' H
theorem wipe_in {σ : L2.St} {i : Nat} {x : Option V} : ∀ {vs : List Nat}, (i ∈ vs → wipe (σ.set i x) vs = wipe σ vs) ∧ (i ∉ vs → wipe (σ.set i x) vs = (wipe σ vs).set i x)
  | [] => ⟨fun h => by simp at h, fun _ => rfl⟩
  | v :: vs => by
    obtain ⟨h1, h2⟩ := wipe_in (σ := σ) (i := i) (x := x) (vs := vs)
    constructor
    · intro h
      show (wipe (σ.set i x) vs).set v none = (wipe σ vs).set v none
      by_cases hi : i ∈ vs
      · rw [h1 hi]
      · have e : i = v := by
          rcases List.mem_cons.mp h with e | e
          · exact e
          · exact absurd e hi
        subst e
        rw [h2 hi, List.set_set]
    · intro h
      have hv : i ≠ v := fun e => h (by rw [e]; exact List.mem_cons_self)
      have hi : i ∉ vs := fun e => h (List.mem_cons_of_mem _ e)
      show (wipe (σ.set i x) vs).set v none = ((wipe σ vs).set v none).set i x
      rw [h2 hi, List.set_comm _ _ hv]
theorem wipe_idem {σ : L2.St} : ∀ {vs us : List Nat}, (∀ i ∈ us, i ∈ vs) → wipe (wipe σ us) vs = wipe σ vs
  | vs, [], _ => rfl
  | vs, u :: us, h => by
    show wipe ((wipe σ us).set u none) vs = _
    rw [(wipe_in (x := none)).1 (h u List.mem_cons_self)]
    exact wipe_idem fun i hi => h i (List.mem_cons_of_mem _ hi)
theorem wipe_wipe (σ : L2.St) (vs : List Nat) : wipe (wipe σ vs) vs = wipe σ vs := wipe_idem fun _ h => h
section
variable {X : Cx} {W : WX} {tg e elt : Expr} {f : EM} {k : Nat} {pos p : Pos}
theorem dgw_name {i : Nat} {x : Str} {vs : List Nat} (hN : X.N.Nodup) (hv : i ∈ vs := by decide) (hi : X.N[i]? = some x := by rfl) (hx : Loc X.env.scope x := by first | exact Or.inl rfl | exact Or.inr rfl) (hf : X.fn x = true ∨ X.env.scope.names.lookup x = some .local := by first | exact .inl rfl | exact .inr rfl | assumption) : PG X (.Name x pos) (tGw X vs (gtName i)) :=
  PG.wk (pg_name hN hi hx hf) fun v σ H Q h => by
    obtain ⟨φ, bs, ρ, S, d, s, en, r, ρ', e, q⟩ := h
    cases e
    exact q _ (en.set r i) ((wipe_in (x := some v)).1 hv)
theorem dgws_nil {vs : List Nat} : PGs X [] (tGws X vs []) := PGs.wk pgs_nil fun ws σ H Q h => by
  obtain ⟨φ, bs, ρ, S, ds, s, en, r, ρ', e, q⟩ := h
  cases r with
  | nil => cases e; exact ⟨rfl, q _ en rfl⟩
  | cons _ _ => cases e
theorem dgws_cons {vs : List Nat} {es : List Expr} {t : GM} {ts : List GM} (h1 : PG X e (tGw X vs t)) (h2 : PGs X es (tGws X vs ts)) (hs : (assignEach (e :: es) X.env).map (·.2) = assign e X.env :: (assignEach es X.env).map (·.2) := by rfl) : PGs X (e :: es) (tGws X vs (t :: ts)) := PGs.wk (pgs_cons h1 h2 hs) fun ws σ H Q h => by
  obtain ⟨φ, bs, ρ, S, ds, s, en, r, ρ', e, q⟩ := h
  cases r with
  | nil => cases e
  | cons r t' =>
    simp only [gtAll] at e
    split at e
    · rename_i ρ1 e1
      exact ⟨_, _, rfl, φ, bs, ρ, S, _, s, en, r, ρ1, e1, fun σ1 en1 w1 => ⟨φ, bs, ρ1, S, _, s, en1, t', ρ', e, fun σ2 en2 w2 => q σ2 en2 (w2.trans w1)⟩⟩
    · cases e
theorem dgw_tup {vs : List Nat} {es : List Expr} {n : Nat} {ts : List GM} (hc : X.calm = true) (h : PGs X es (tGws X vs ts)) (hn : (assignEach es X.env).length = ts.length := by rfl) (hst : (assignEach es X.env).findIdx? (·.1) = none := by rfl) : PG X (.Tuple es n pos) (tGw X vs (gtTup ts)) := by
  refine PG.wk (PG.or (pg_tup hc h hn hst) (pg_lst hc h hn hst)) fun v σ H Q h => ?_
  obtain ⟨φ, bs, ρ, S, d, s, en, r, ρ', e, q⟩ := h
  simp only [gtTup] at e
  split at e
  · rename_i ds ed
    obtain ⟨a, ws, rfl, hq, lr⟩ := s.seq r ed
    have hl : ws.length = ts.length := by rw [← lr.length]; exact gtAll_len e
    rcases hq with hq | hq
    · exact .inr ⟨a, ws, rfl, hq, hl, φ, bs, ρ, S, ds, s, en, lr, ρ', e, q⟩
    · exact .inl ⟨a, ws, rfl, hq, hl, φ, bs, ρ, S, ds, s, en, lr, ρ', e, q⟩
  · cases e
theorem EnvR.wipe {K : PySem.W.Frag} {mg : Str → Option Value} {H : Hp} {φ : Ph} {ρ : Env} {σ : L2.St} (e : EnvR K mg H φ ρ σ) : ∀ vs : List Nat, EnvR K mg H φ (wipeE ρ vs) (L2.wipe σ vs)
  | [] => e
  | v :: vs => (EnvR.wipe e vs).unset v none
/-- the tests of a clause -/
abbrev W0 : WX := fun _ _ _ _ => False
def tYesM : TM := fun _ S => .ok true S
theorem dts_nil : PTs X [] (tT X W tYesM) := ⟨fun pins s σ H Q I h => pts_nil.run pins s σ H Q I (by
  obtain ⟨φ, bs, ρ, S, s, en, h⟩ := h
  exact PostG.done (rel := RelB) s rfl h)⟩
theorem dts_one {c : Expr} {t : TM} (h : DT X W c t) : PTs X [c] (tT X W t) := pts_one h
theorem Cz.blk {s : Shared} {H : Hp} {scope : Scope} {cenv : PySem.Env} {fp : List Addr} (C : Cz X W k) : Cz (X.blk s H scope cenv fp) W0 k := ⟨C.hr, takes0, PassesOwn.never, C.calm⟩
noncomputable def lcN (g : GM) (t : TM) (f : EM) (src : Option Nat) (all : List D) : List D → List D → Env → Sto → R (List D)
  | [], acc => fun _ S => if okSrc src all S then .ok acc S else .bad
  | x :: xs, acc => fun ρ S => if okSrc src all S then match g x ρ S with
      | some ρ1 => match t ρ1 S with
        | .ok b S1 => if b = true then match f ρ1 S1 with
            | .ok y S2 => if acc.length < sizeLine then lcN g t f src all xs (acc ++ [y]) ρ S2 else .bad
            | _ => .bad
          else lcN g t f src all xs acc ρ S1
        | _ => .bad
      | none => .bad
    else .bad
noncomputable def eLc (c : Bool) (im : IM) (g : GM) (t : TM) (f : EM) (vs : List Nat) : EM := fun ρ S => (im ρ S).bind fun w S1 => match lcN g t f w.2 w.1 w.1 [] (wipeE ρ vs) S1 with
  | .ok acc S2 => mkL c acc S2
  | _ => .bad
/-- what a finished list is wished to be -/
def Fin (X : Cx) (W : WX) (bs : List Nat) (σ : L2.St) (H : Hp) (φ : Ph) (c : Bool) (Q : VK) (r : R (List D)) : Prop := match r with
  | .ok acc S2 => Post X W bs σ H φ (mkL c acc S2) Q
  | _ => False
/-- the loop's own list at Da: hidden -/
structure Hid (H1 : Hp) (φ1 : Ph) (Da : Addr) (H : Hp) (φ : Ph) : Prop where
  hh : φ.h = Da :: φ1.h
  ex : Ext H1 φ1 H ⟨φ.c, φ1.h⟩
theorem Hid.keeps {H1 H : Hp} {φ1 φ : Ph} {Da : Addr} (y : Hid H1 φ1 Da H φ) (hDa : H1 Da = none) : Keeps H1 φ1 H φ := by
  refine ⟨fun a o e n => ?_, fun n a e => y.ex.get e⟩
  obtain ⟨e1, n1⟩ := y.ex.keeps.at' a o e n
  refine ⟨e1, fun z => ?_⟩
  rcases z with z | z
  · exact n1 (.inl z)
  · rw [y.hh] at z
    rcases List.mem_cons.mp z with z | z
    · rw [z, hDa] at e; cases e
    · exact n1 (.inr z)
theorem Hid.step {H1 H H' : Hp} {φ1 φ φ' : Ph} {Da : Addr} {o : HO} (y : Hid H1 φ1 Da H φ) (x : Ext H φ H' φ') (eD : H Da = some o) : Hid H1 φ1 Da H' φ' ∧ H' Da = some o := by
  have hD : H' Da = H Da := x.hk Da (by rw [y.hh]; exact List.mem_cons_self)
  refine ⟨⟨x.hsame.trans y.hh, y.ex.trans ⟨x.pre, rfl, fun b hb => x.hk b (by rw [y.hh]; exact List.mem_cons_of_mem _ hb), fun b o e n => ?_, x.there⟩⟩, hD.trans eD⟩
  by_cases eb : b = Da
  · rw [eb] at e ⊢
    exact hD.trans e
  · refine x.keep b o e fun z => ?_
    rcases z with z | z
    · exact n (.inl z)
    · rw [y.hh] at z
      rcases List.mem_cons.mp z with z | z
      · exact eb z
      · exact n (.inr z)
theorem Hid.put {H1 H : Hp} {φ1 φ : Ph} {Da : Addr} {o : HO} (y : Hid H1 φ1 Da H φ) (hDa : H1 Da = none) (n1 : Da ∉ φ1.h) : Hid H1 φ1 Da (upd H Da o) φ := by
  refine ⟨y.hh, y.ex.pre, rfl, fun b hb => ?_, fun b u e n => ?_, fun b u e => ?_⟩
  · rw [upd_ne (show b ≠ Da from fun z => n1 (z ▸ hb))]; exact y.ex.hk b hb
  · rw [upd_ne (ne_of_none e hDa)]; exact y.ex.keep b u e n
  · rw [upd_ne (ne_of_none e hDa)]; exact y.ex.there b u e
theorem Keeps.put {H : Hp} {φ : Ph} {Da : Addr} {o : HO} (h : Da ∈ φ.h) : Keeps H φ (upd H Da o) φ :=
  ⟨fun a u e n => ⟨by rw [upd_ne (show a ≠ Da from fun z => n (.inr (z ▸ h)))]; exact e, n⟩, fun _ _ e => e⟩
theorem Sim.put {K : PySem.W.Frag} {mg : Str → Option Value} {H : Hp} {φ : Ph} {bs : List Nat} {S : Sto} {Da : Addr} {o : HO} (s : Sim K mg H φ bs S) (h : Da ∈ φ.h) (ho : Hdn (some o)) : Sim K mg (upd H Da o) φ bs S := by
  refine ⟨s.len, s.nd, s.dis, fun a ha => ?_, fun n a c h1 h2 => ?_, s.hd, s.cl⟩
  · by_cases ea : a = Da
    · rw [ea, upd_same]; exact ho
    · rw [upd_ne ea]; exact s.hid a ha
  · exact (s.cell n a c h1 h2).kp (Keeps.put h) s.cells (upd_ne fun e => s.dis a (List.mem_of_getElem? h1) (e ▸ h))
/-- a hidden thing is laid -/
theorem Sim.lay {K : PySem.W.Frag} {mg : Str → Option Value} {H1 : Hp} {φ1 : Ph} {bs : List Nat} {S : Sto} {Da : Addr} {o : HO} (s1 : Sim K mg H1 φ1 bs S) (hDa : H1 Da = none) (ho : Hdn (some o)) :
    Hid H1 φ1 Da (upd H1 Da o) (φ1.hide Da) ∧ Sim K mg (upd H1 Da o) (φ1.hide Da) bs S := by
  have nD : ¬ φ1.has Da := s1.fresh hDa
  have y0 : Hid H1 φ1 Da (upd H1 Da o) (φ1.hide Da) := ⟨rfl, Ext.new s1 hDa⟩
  have kp0 := y0.keeps hDa
  refine ⟨y0, s1.len, s1.nd, fun a ha z => ?_, fun a ha => ?_, fun n a c h1 h2 => ?_, s1.hd, s1.cl⟩
  · rcases List.mem_cons.mp z with z | z
    · rw [z] at ha; exact nD (.inl ha)
    · exact s1.dis a ha z
  · by_cases ea : a = Da
    · rw [ea, upd_same]; exact ho
    · rcases List.mem_cons.mp ha with z | z
      · exact absurd z ea
      · rw [upd_ne ea]; exact s1.hid a z
  · exact (s1.cell n a c h1 h2).kp kp0 s1.cells (upd_ne fun e => nD (.inl (e ▸ List.mem_of_getElem? h1)))
/-- .. and becomes a value -/
theorem Hid.val {K : PySem.W.Frag} {mg : Str → Option Value} {H1 H : Hp} {φ1 φ : Ph} {bs : List Nat} {S : Sto} {Da : Addr} (y : Hid H1 φ1 Da H φ) (n1 : Da ∉ φ1.h) (s : Sim K mg H φ bs S) :
    Sim K mg H ⟨φ.c, φ1.h⟩ bs S ∧ Keeps H φ H ⟨φ.c, φ1.h⟩ ∧ ¬ (Ph.mk φ.c φ1.h).has Da := by
  have k3 : Keeps H φ H ⟨φ.c, φ1.h⟩ := ⟨fun a o e n => ⟨e, fun z => n (by
    rcases z with z | z
    · exact .inl z
    · exact .inr (by rw [y.hh]; exact List.mem_cons_of_mem _ z))⟩, fun _ _ e => e⟩
  refine ⟨⟨s.len, s.nd, fun a ha z => s.dis a ha (by rw [y.hh]; exact List.mem_cons_of_mem _ z), fun a ha => s.hid a (by rw [y.hh]; exact List.mem_cons_of_mem _ ha), fun n a c h1 h2 => (s.cell n a c h1 h2).kp k3 s.cells rfl, s.hd, s.cl⟩, k3, fun z => ?_⟩
  rcases z with z | z
  · exact s.dis Da z (by rw [y.hh]; exact List.mem_cons_self)
  · exact n1 z
/-- .. or a cell -/
theorem Hid.cell {K : PySem.W.Frag} {mg : Str → Option Value} {H1 H : Hp} {φ1 φ : Ph} {bs : List Nat} {S : Sto} {Da : Addr} {c : Cell} (y : Hid H1 φ1 Da H φ) (hDa : H1 Da = none) (n1 : Da ∉ φ1.h) (s : Sim K mg H φ bs S) (hc : Keeps H φ H ⟨φ.c ++ [Da], φ1.h⟩ → CellOk K mg H ⟨φ.c ++ [Da], φ1.h⟩ Da c) :
    Ext H1 φ1 H ⟨φ.c ++ [Da], φ1.h⟩ ∧ Sim K mg H ⟨φ.c ++ [Da], φ1.h⟩ bs (S.add c) ∧ (φ.c ++ [Da])[S.new]? = some Da := by
  have hDm : Da ∈ φ.h := by rw [y.hh]; exact List.mem_cons_self
  have nc : Da ∉ φ.c := fun z => s.dis Da z hDm
  have kp : Keeps H φ H ⟨φ.c ++ [Da], φ1.h⟩ := ⟨fun a o e n => ⟨e, fun z => by
    rcases z with z | z
    · rcases List.mem_append.mp z with z' | z'
      · exact n (.inl z')
      · have ea : a = Da := by simpa using z'
        exact n (.inr (by rw [ea]; exact hDm))
    · exact n (.inr (by rw [y.hh]; exact List.mem_cons_of_mem _ z))⟩, fun n a e => by
    show (φ.c ++ [Da])[n]? = some a
    rw [List.getElem?_append_left (List.getElem?_eq_some_iff.mp e).1]
    exact e⟩
  refine ⟨?_, ?_, ?_⟩
  · obtain ⟨ψ, e, fr⟩ := y.ex.pre
    refine ⟨⟨ψ ++ [Da], by show φ.c ++ [Da] = _; rw [show φ.c = φ1.c ++ ψ from e, List.append_assoc], fun b hb => ?_⟩, rfl, y.ex.hk, y.ex.keep, y.ex.there⟩
    rcases List.mem_append.mp hb with z | z
    · exact fr b z
    · have eb : b = Da := by simpa using z
      rw [eb]; exact hDa
  · refine s.adopt (p := Da) rfl nc (fun a ha => ?_) (fun a ha => ?_) kp (fun _ _ => rfl) (hc kp)
    · have ha' : a ∈ φ.c ++ [Da] := ha
      show a ∉ φ1.h
      rcases List.mem_append.mp ha' with z | z
      · exact fun q => s.dis a z (by rw [y.hh]; exact List.mem_cons_of_mem _ q)
      · have ea : a = Da := by simpa using z
        rw [ea]; exact n1
    · exact s.hid a (by rw [y.hh]; exact List.mem_cons_of_mem _ ha)
  · rw [Sto.new_all, ← s.len, List.getElem?_append_right (Nat.le_refl _)]
    simp
theorem tLc_wk {im : IM} {g : GM} {t : TM} {f : EM} {vs : List Nat} {c : Bool} (σ : L2.St) (H : Hp) (Q : VK) (h : tE X W (eLc c im g t f vs) σ H Q) : tLc (tI X W im) (tGw X vs g) (tT X W0 t) (tE X W0 f) vs σ H Q := by
  obtain ⟨φ, bs, ρ, S, s, en, h⟩ := h
  refine ⟨φ, bs, ρ, S, s, en, ?_⟩
  unfold eLc at h
  cases q : im ρ S with
  | bad => rw [q] at h; exact h
  | ex d S1 => rw [q] at h; exact h
  | ok w S1 =>
    rw [q] at h
    obtain ⟨all, src⟩ := w
    intro H1 φ1 J x1 s1 o1 j1 Da hDa
    have en1 := en.ext x1 s.cells
    have h1 : Fin X W bs σ H1 φ1 c Q (lcN g t f src all all [] (wipeE ρ vs) S1) := by
      have h' := PostG.shift x1 h
      revert h'
      dsimp only [R.bind]
      cases lcN g t f src all all [] (wipeE ρ vs) S1 with
      | ok acc S2 => exact fun h' => h'
      | ex _ _ => exact fun h' => h'
      | bad => exact fun h' => h'
    have nD : ¬ φ1.has Da := s1.fresh hDa
    have n1 : Da ∉ φ1.h := fun z => nD (.inr z)
    obtain ⟨y0, sD⟩ := s1.lay (o := .lst []) hDa (.inl ⟨[], rfl⟩)
    refine ⟨fun i m H => ∃ φ S acc ws, m = all.length - i ∧ i ≤ all.length ∧ Hid H1 φ1 Da H φ ∧ Sim X.K X.mg H φ bs S ∧ H Da = some (.lst ws) ∧ RepL X.K X.mg H φ acc ws ∧ Fin X W bs σ H1 φ1 c Q (lcN g t f src all (all.drop i) acc (wipeE ρ vs) S),
      ⟨all.length, φ1.hide Da, S1, [], [], rfl, Nat.zero_le _, y0, sD, upd_same, .nil, h1⟩, fun i m H hw => ?_⟩
    obtain ⟨φ, S, acc, ws, rfl, hi, y, s, eD, lr, h⟩ := hw
    have hDm : Da ∈ φ.h := by rw [y.hh]; exact List.mem_cons_self
    by_cases hlt : i < all.length
    · rw [List.drop_eq_getElem_cons hlt] at h
      unfold lcN at h
      by_cases ho : okSrc src all S
      · rw [if_pos ho] at h
        obtain ⟨hgo, hy⟩ := (j1 H φ S (y.keeps hDa) s ho).1 i all[i] (List.getElem?_eq_getElem hlt)
        refine .inr ⟨hgo, fun H' => ∃ φ S acc ws, i + 1 ≤ all.length ∧ Hid H1 φ1 Da H' φ ∧ Sim X.K X.mg H' φ bs S ∧ H' Da = some (.lst ws) ∧ RepL X.K X.mg H' φ acc ws ∧ Fin X W bs σ H1 φ1 c Q (lcN g t f src all (all.drop (i + 1)) acc (wipeE ρ vs) S),
          fun H' hn => ?_, fun v H' hv => ?_⟩
        · obtain ⟨φ', S', acc', ws', q1, q2, q3, q4, q5, q6⟩ := hn
          exact ⟨all.length - (i + 1), by omega, φ', S', acc', ws', rfl, q1, q2, q3, q4, q5, q6⟩
        · obtain ⟨e1, r⟩ := hy v H' hv
          subst e1
          have en2 : EnvR X.K X.mg H' φ (wipeE ρ vs) (wipe σ vs) := (en1.kp (y.keeps hDa) s1.cells).wipe vs
          cases eg : g all[i] (wipeE ρ vs) S with
          | none => rw [eg] at h; exact h.elim
          | some ρ1 =>
            rw [eg] at h
            dsimp only at h
            refine ⟨φ, bs, wipeE ρ vs, S, all[i], s, en2, r, ρ1, eg, fun σ2 e2 w2 => ⟨?_, φ, bs, ρ1, S, s, e2, ?_⟩⟩
            · rw [w2]; exact wipe_wipe σ vs
            · cases et : t ρ1 S with
              | bad => rw [et] at h; exact h.elim
              | ex _ _ => rw [et] at h; exact h.elim
              | ok b S1 =>
                rw [et] at h
                dsimp only at h
                intro b' H3 φ4 x4 s4 rb
                have rb' : b' = b := rb
                subst rb'
                have e3 := e2.ext x4 s.cells
                have lr4 := lr.ext x4 s.cells
                obtain ⟨y4, eD4⟩ := y.step x4 eD
                cases b' with
                | false => exact iteF ⟨φ4, S1, acc, ws, by omega, y4, s4, eD4, lr4, by rw [if_neg Bool.false_ne_true] at h; exact h⟩
                | true =>
                  rw [if_pos rfl] at h
                  refine iteT ⟨φ4, bs, ρ1, S1, s4, e3, ?_⟩
                  cases ef : f ρ1 S1 with
                  | bad => rw [ef] at h; exact h.elim
                  | ex _ _ => rw [ef] at h; exact h.elim
                  | ok d S2 =>
                    rw [ef] at h
                    dsimp only at h
                    intro u H5 φ5 x5 s5 r5
                    obtain ⟨y5, eD5⟩ := y4.step x5 eD4
                    have lr5 := lr4.ext x5 s4.cells
                    have hD5 : Da ∈ φ5.h := by rw [y5.hh]; exact List.mem_cons_self
                    by_cases hz : acc.length < sizeLine
                    · rw [if_pos hz] at h
                      refine ⟨ws, eD5, by rw [← lr5.length]; exact hz, φ5, S2, acc ++ [d], ws ++ [u], by omega, y5.put hDa n1, s5.put hD5 (.inl ⟨_, rfl⟩), upd_same, ?_, h⟩
                      exact (lr5.append (.cons r5 .nil)).kp (Keeps.put hD5) s5.cells
                    · rw [if_neg hz] at h; exact h.elim
      · rw [if_neg ho] at h; exact h.elim
    · have hi2 : i = all.length := by omega
      rw [List.drop_eq_nil_of_le (by omega)] at h
      unfold lcN at h
      by_cases ho : okSrc src all S
      · rw [if_pos ho] at h
        refine .inl ⟨(j1 H φ S (y.keeps hDa) s ho).2 i (by omega), ?_⟩
        cases c with
        | false =>
          obtain ⟨s3, k3, nn⟩ := y.val n1 s
          exact h _ _ _ y.ex s3 (.lst eD nn (lr.kp k3 s.cells))
        | true =>
          obtain ⟨xs, hs, hg⟩ := y.cell (c := .lst acc) hDa n1 s fun kp => ⟨ws, eD, lr.kp kp s.cells⟩
          exact h _ _ _ xs hs (.ref hg)
      · rw [if_neg ho] at h; exact h.elim
theorem de_lc {ifs : List Expr} {scope : Scope} {own : List (Str × Nat)} {im : IM} {g : GM} {t : TM} {f : EM} (c : Bool) (C : Cz X W k) (hN : X.N.Nodup) (hi : DI X W tg e im) (ok : BlkOk X.N X.env.scope scope own)
    (hg : ∀ (s : Shared) (H : Hp) (Cl : Addr) (cl : List (Str × Addr)) (fp : List Addr), PG (X.blk s H scope (compEnvC scope cl Cl X.env) fp) tg (tGw (X.blk s H scope (compEnvC scope cl Cl X.env) fp) (own.map (·.2)) g))
    (ht : ∀ (s : Shared) (H : Hp) (Cl : Addr) (cl : List (Str × Addr)) (fp : List Addr), PTs (X.blk s H scope (compEnvC scope cl Cl X.env) fp) ifs (tT (X.blk s H scope (compEnvC scope cl Cl X.env) fp) W0 t))
    (he : ∀ (s : Shared) (H : Hp) (Cl : Addr) (cl : List (Str × Addr)) (fp : List Addr), DE (X.blk s H scope (compEnvC scope cl Cl X.env) fp) W0 elt f) (hs : ∀ x, foldedSetIterable e X.env x = pure x := by intro _; rfl) :
    DE X W (.ListComp elt [⟨tg, e, ifs, 0⟩] scope pos) (eLc c im g t f (own.map (·.2))) := (pe_lc C.calm hN hi ok hg ht he hs).wk tLc_wk
/-- name = [..] -/
theorem ds_setLc {ifs : List Expr} {scope : Scope} {own : List (Str × Nat)} {im : IM} {g : GM} {t : TM} {f : EM} {i : Nat} {y : Str} {py spos : Pos} (c : Bool) (C : Cz X W k) (hN : X.N.Nodup) (hsw : swapsWith (.ListComp elt [⟨tg, e, ifs, 0⟩] scope pos) (some (.Name y py)) spos.line X.env = pure true)
    (hi : DI X W tg e im) (ok : BlkOk X.N X.env.scope scope own)
    (hg : ∀ (s : Shared) (H : Hp) (Cl : Addr) (cl : List (Str × Addr)) (fp : List Addr), PG (X.blk s H scope (compEnvC scope cl Cl X.env) fp) tg (tGw (X.blk s H scope (compEnvC scope cl Cl X.env) fp) (own.map (·.2)) g))
    (ht : ∀ (s : Shared) (H : Hp) (Cl : Addr) (cl : List (Str × Addr)) (fp : List Addr), PTs (X.blk s H scope (compEnvC scope cl Cl X.env) fp) ifs (tT (X.blk s H scope (compEnvC scope cl Cl X.env) fp) W0 t))
    (he : ∀ (s : Shared) (H : Hp) (Cl : Addr) (cl : List (Str × Addr)) (fp : List Addr), DE (X.blk s H scope (compEnvC scope cl Cl X.env) fp) W0 elt f)
    (hy : X.N[i]? = some y := by rfl) (hyl : X.env.scope.names.lookup y = some .local := by rfl) (hs : ∀ x, foldedSetIterable e X.env x = pure x := by intro _; rfl) :
    DS X W (.Assign [.Name y py] (.ListComp elt [⟨tg, e, ifs, 0⟩] scope pos) spos) (sAsg (eLc c im g t f (own.map (·.2))) (gtName i)) := by
  refine (ps_setLc (wi := tI X W im) (g := tGw X (own.map fun x : Str × Nat => x.2) g) (tt := tT X W0 t) (te := tE X W0 f) C.calm hN hy hyl hsw hi ok hg ht he hs).wk fun D σ H h => ?_
  refine tLc_wk (W := W) (c := c) σ H _ ?_
  obtain ⟨φ, bs, ρ, S, s, en, h⟩ := h
  refine tG_thenS s en h fun d S1 v H1 φ1 x1 s1 e1 r1 h1 => ?_
  exact h1 _ H1 φ1 (.refl _ _) s1 (e1.set r1 i)
/-! ### dict displays -/
def pList : List (EM × EM) → Env → Sto → R (List (Key × D))
  | [] => fun _ S => .ok [] S
  | (f, g) :: r => fun ρ S => (f ρ S).bind fun x S1 => match keyD x with
    | some kk => (g ρ S1).bind fun y S2 => (pList r ρ S2).bind fun ps S3 => .ok ((kk, y) :: ps) S3
    | none => .bad
def mergeD (kvs more : List (Key × D)) : List (Key × D) := more.foldl (fun acc kv => putD acc kv.1 kv.2) kvs
def eDisp (c : Bool) (fs : List (EM × EM)) : EM := fun ρ S => (pList fs ρ S).bind fun ps S1 => mkD c (mergeD [] ps) S1
theorem RepK.merge {K : PySem.W.Frag} {mg : Str → Option Value} {H : Hp} {φ : Ph} : ∀ {ds : List (Key × D)} {vs : List (Key × V)} {es : List (Key × D)} {ws : List (Key × V)}, RepK K mg H φ ds vs → RepK K mg H φ es ws → RepK K mg H φ (mergeD es ds) (mergeK ws vs)
  | _, _, _, _, .nil, h => h
  | _, _, es, ws, .cons (k := kk) (d := d) (v := v) r t, h => by
    have q := RepK.merge t (h.put (kk := kk) r)
    exact q
/-- the pairs, as they are read -/
def RelP : Rel (List (Key × D)) (List (V × V)) := fun K mg H φ ds ps => ∃ kvs : List (Key × V), ps = kvs.map (fun kv => (kV kv.1, kv.2)) ∧ RepK K mg H φ ds kvs
theorem tP_wk : ∀ {fs : List (EM × EM)} {σ : L2.St} {H : Hp} {Q : List (V × V) → Hp → Prop}, tG X W RelP (pList fs) σ H Q → tPairs (fs.map fun p => (tE X W p.1, tE X W p.2)) σ H Q
  | [], σ, H, Q, h => by
    obtain ⟨φ, bs, ρ, S, s, en, h⟩ := h
    exact PostG.done (rel := RelP) s ⟨[], rfl, .nil⟩ h
  | (f, g) :: fs, σ, H, Q, h => by
    obtain ⟨φ, bs, ρ, S, s, en, h⟩ := h
    refine tG_then s en h fun d S1 v H1 φ1 x1 s1 e1 r1 h1 => ?_
    split at h1
    · rename_i kk ek
      have hv := r1.key ek
      refine tG_then s1 e1 h1 fun dy S2 y H2 φ2 x2 s2 e2 r2 h2 => ?_
      refine tP_wk (fs := fs) ⟨φ2, bs, ρ, S2, s2, e2, ?_⟩
      revert h2
      cases pList fs ρ S2 with
      | ok ps S3 =>
        intro h2 vs H3 φ3 x3 s3 r3
        obtain ⟨kvs, rfl, rk⟩ := r3
        exact h2 _ H3 φ3 x3 s3 ⟨(kk, y) :: kvs, by rw [hv]; rfl, .cons (r2.ext x3 s2.cells) rk⟩
      | ex _ _ => exact fun h2 => h2
      | bad => exact fun h2 => h2
    · exact h1.elim
theorem pList_len : ∀ {fs : List (EM × EM)} {ρ : Env} {S S' : Sto} {ds : List (Key × D)}, pList fs ρ S = .ok ds S' → ds.length = fs.length
  | [], ρ, S, S', ds, h => by
    have h' : R.ok ([] : List (Key × D)) S = .ok ds S' := h
    cases h'; rfl
  | (f, g) :: fs, ρ, S, S', ds, h => by
    simp only [pList] at h
    cases e1 : f ρ S with
    | ok x S1 =>
      rw [e1] at h
      dsimp only [R.bind] at h
      split at h
      · cases e2 : g ρ S1 with
        | ok y S2 =>
          rw [e2] at h
          dsimp only [R.bind] at h
          cases e3 : pList fs ρ S2 with
          | ok ps S3 =>
            rw [e3] at h
            dsimp only [R.bind] at h
            cases h
            rw [List.length_cons, List.length_cons, pList_len e3]
          | ex _ _ => rw [e3] at h; cases h
          | bad => rw [e3] at h; cases h
        | ex _ _ => rw [e2] at h; cases h
        | bad => rw [e2] at h; cases h
      · cases h
    | ex _ _ => rw [e1] at h; cases h
    | bad => rw [e1] at h; cases h
theorem dp_nil {pos : Pos} : PPs X pos [] [] (([] : List (EM × EM)).map fun p => (tE X W p.1, tE X W p.2)) := pps_nil
theorem dp_cons {pos : Pos} {kx vx : Expr} {ks : List (Option Expr)} {vs : List Expr} {f g : EM} {fs : List (EM × EM)} (hk : DE X W kx f) (hv : DE X W vx g) (hr : PPs X pos ks vs (fs.map fun p => (tE X W p.1, tE X W p.2))) : PPs X pos (some kx :: ks) (vx :: vs) (((f, g) :: fs).map fun p => (tE X W p.1, tE X W p.2)) := pps_cons hk hv hr
theorem de_disp {pos : Pos} {keys : List (Option Expr)} {values : List Expr} {fs : List (EM × EM)} (c : Bool) (h : PPs X pos keys values (fs.map fun p => (tE X W p.1, tE X W p.2))) (hall : keys.all (·.isSome) = true := by rfl) (hl : keys.length = values.length := by rfl) (h0 : keys ≠ [] := by exact fun z => by cases z)
    (h15 : keys.length ≤ 15 := by exact Nat.le_of_ble_eq_true rfl) (hf : fs.length ≤ 15 := by exact Nat.le_of_ble_eq_true rfl) : DE X W (.Dict keys values pos) (eDisp c fs) := by
  refine (pe_disp h hall hl h0 h15).wk fun σ H Q h => ?_
  obtain ⟨φ, bs, ρ, S, s, en, h⟩ := h
  intro p hp
  obtain ⟨y0, s0⟩ := s.lay (o := .dK []) hp (.inr ⟨[], rfl⟩)
  have n1 : p ∉ φ.h := fun z => s.fresh hp (.inr z)
  refine tP_wk ⟨φ.hide p, bs, ρ, S, s0, en.kp (y0.keeps hp) s.cells, ?_⟩
  have hlen : ∀ ds S', pList fs ρ S = .ok ds S' → ds.length = fs.length := fun _ _ q => pList_len q
  unfold eDisp at h
  revert hlen h
  cases pList fs ρ S with
  | bad => exact fun h _ => h
  | ex e S1 =>
    intro h _ cls dx H' φ' x s' r
    obtain ⟨y, _⟩ := y0.step x upd_same
    obtain ⟨s3, k3, _⟩ := y.val n1 s'
    refine h cls dx H' _ y.ex s3 ?_
    obtain ⟨c, fs, C, rfl, h1, h2, h3⟩ := r
    refine ⟨c, fs, C, rfl, h1, h2, fun hn => ?_⟩
    obtain ⟨a, vs, h4, h5, h6⟩ := h3 hn
    exact ⟨a, vs, h4, h5, h6.kp k3 s'.cells⟩
  | ok ps S1 =>
    intro h hlen qs H' φ' x s' r
    obtain ⟨kvs, rfl, rk⟩ := r
    obtain ⟨y, eD⟩ := y0.step x upd_same
    have hD : p ∈ φ'.h := by rw [y.hh]; exact List.mem_cons_self
    refine ⟨eD, kvs, rfl, by rw [← rk.length, hlen _ _ rfl]; exact hf, ?_⟩
    have y2 := y.put (o := .dK (mergeK [] kvs)) hp n1
    have s2 := s'.put (o := .dK (mergeK [] kvs)) hD (.inr ⟨_, rfl⟩)
    have rk2 : RepK X.K X.mg (upd H' p (.dK (mergeK [] kvs))) φ' (mergeD [] ps) (mergeK [] kvs) := (rk.merge .nil).kp (Keeps.put hD) s'.cells
    cases c with
    | false =>
      obtain ⟨s3, k3, nn⟩ := y2.val n1 s2
      exact h _ _ _ y2.ex s3 (.dic (.inl upd_same) nn (rk2.kp k3 s2.cells))
    | true =>
      obtain ⟨xs, hs, hg⟩ := y2.cell (c := .dic (mergeD [] ps)) hp n1 s2 fun kp => ⟨_, upd_same, rk2.kp kp s2.cells⟩
      exact h _ _ _ xs hs (.ref hg)
/-- {} -/
def eDnew (c : Bool) : EM := fun _ S => mkD c [] S
theorem de_dnew {pos : Pos} (c : Bool) : DE X W (.Dict [] [] pos) (eDnew c) := pe_dnewK.wk fun σ H Q h => by
  obtain ⟨φ, bs, ρ, S, s, en, h⟩ := h
  exact fun p hp => mkD_ok s .nil hp h
end
end Mi

namespace Mi
open PySem PySem.Spec PyProof.Rows L2

/-! ### a def's frame -/
section
variable {K : PySem.W.Frag} {mg : Str → Option Value} {H H' : Hp} {φ φ' : Ph} {bs : List Nat} {S S' : Sto}
mutual
theorem Rep.bel : ∀ {d : D} {v : V}, Rep K mg H φ d v → d.lt φ.c.length = true
  | _, _, .non => rfl
  | _, _, .bl b => rfl
  | _, _, .int i => rfl
  | _, _, .str s g => rfl
  | _, _, .tup h hl => RepL.bel hl
  | _, _, .lst h n hl => RepL.bel hl
  | _, _, .frl h hl => RepL.bel hl
  | _, _, .dic h n hl => RepK.bel hl
  | _, _, .obj hm h n hl => RepF.bel hl
  | _, _, .ref h => decide_eq_true (List.getElem?_eq_some_iff.mp h).1
theorem RepL.bel : ∀ {d : List D} {v : List V}, RepL K mg H φ d v → D.ltL φ.c.length d = true
  | _, _, .nil => rfl
  | _, _, .cons h t => Bool.and_eq_true_iff.mpr ⟨Rep.bel h, RepL.bel t⟩
theorem RepK.bel : ∀ {d : List (Key × D)} {v : List (Key × V)}, RepK K mg H φ d v → D.ltK φ.c.length d = true
  | _, _, .nil => rfl
  | _, _, .cons h t => Bool.and_eq_true_iff.mpr ⟨Rep.bel h, RepK.bel t⟩
theorem RepF.bel : ∀ {d : List (Str × D)} {v : List (Str × V)}, RepF K mg H φ d v → D.ltF φ.c.length d = true
  | _, _, .nil => rfl
  | _, _, .cons h t => Bool.and_eq_true_iff.mpr ⟨Rep.bel h, RepF.bel t⟩
end
theorem CellOk.below {a : Addr} {c : Cell} (h : CellOk K mg H φ a c) : c.lt φ.c.length = true := by
  cases c with
  | lst ds => obtain ⟨vs, _, h⟩ := h; exact h.bel
  | dic ds => obtain ⟨vs, _, h⟩ := h; exact h.bel
  | ins c fs => obtain ⟨C, dx, vs, _, _, h⟩ := h; exact h.bel
/-- fewer cells -/
def Ph.cut (φ : Ph) (b : Nat) : Ph := ⟨φ.c.take b, φ.h⟩
theorem Ph.cut_has {b : Nat} {a : Addr} (h : (φ.cut b).has a) : φ.has a := by
  rcases h with h | h
  · exact .inl (List.mem_of_mem_take h)
  · exact .inr h
theorem cut_get {b n : Nat} {a : Addr} (hn : n < b) (h : φ.c[n]? = some a) : (φ.cut b).c[n]? = some a := by
  show (φ.c.take b)[n]? = some a
  rw [List.getElem?_take_of_lt hn]; exact h
mutual
theorem Rep.low {b : Nat} (hs : ∀ x, φ'.has x → φ.has x) (hg : ∀ (n : Nat) (a : Addr), n < b → φ.c[n]? = some a → φ'.c[n]? = some a) : ∀ {d : D} {v : V}, Rep K mg H φ d v → d.lt b = true → Rep K mg H φ' d v
  | _, _, .non, _ => .non
  | _, _, .bl b, _ => .bl b
  | _, _, .int i, _ => .int i
  | _, _, .str s g, _ => .str s g
  | _, _, .tup h hl, q => .tup h (RepL.low hs hg hl q)
  | _, _, .lst h n hl, q => .lst h (fun z => n (hs _ z)) (RepL.low hs hg hl q)
  | _, _, .frl h hl, q => .frl h (RepL.low hs hg hl q)
  | _, _, .dic h n hl, q => .dic h (fun z => n (hs _ z)) (RepK.low hs hg hl q)
  | _, _, .obj hm h n hl, q => .obj hm h (fun z => n (hs _ z)) (RepF.low hs hg hl q)
  | _, _, .ref h, q => .ref (hg _ _ (of_decide_eq_true q) h)
theorem RepL.low {b : Nat} (hs : ∀ x, φ'.has x → φ.has x) (hg : ∀ (n : Nat) (a : Addr), n < b → φ.c[n]? = some a → φ'.c[n]? = some a) : ∀ {d : List D} {v : List V}, RepL K mg H φ d v → D.ltL b d = true → RepL K mg H φ' d v
  | _, _, .nil, _ => .nil
  | _, _, .cons h t, q => .cons (Rep.low hs hg h (Bool.and_eq_true_iff.mp q).1) (RepL.low hs hg t (Bool.and_eq_true_iff.mp q).2)
theorem RepK.low {b : Nat} (hs : ∀ x, φ'.has x → φ.has x) (hg : ∀ (n : Nat) (a : Addr), n < b → φ.c[n]? = some a → φ'.c[n]? = some a) : ∀ {d : List (Key × D)} {v : List (Key × V)}, RepK K mg H φ d v → D.ltK b d = true → RepK K mg H φ' d v
  | _, _, .nil, _ => .nil
  | _, _, .cons h t, q => .cons (Rep.low hs hg h (Bool.and_eq_true_iff.mp q).1) (RepK.low hs hg t (Bool.and_eq_true_iff.mp q).2)
theorem RepF.low {b : Nat} (hs : ∀ x, φ'.has x → φ.has x) (hg : ∀ (n : Nat) (a : Addr), n < b → φ.c[n]? = some a → φ'.c[n]? = some a) : ∀ {d : List (Str × D)} {v : List (Str × V)}, RepF K mg H φ d v → D.ltF b d = true → RepF K mg H φ' d v
  | _, _, .nil, _ => .nil
  | _, _, .cons h t, q => .cons (Rep.low hs hg h (Bool.and_eq_true_iff.mp q).1) (RepF.low hs hg t (Bool.and_eq_true_iff.mp q).2)
end
theorem Rep.cut {b : Nat} {d : D} {v : V} (h : Rep K mg H φ d v) (q : d.lt b = true) : Rep K mg H (φ.cut b) d v := h.low (fun _ z => Ph.cut_has z) (fun _ _ hn e => cut_get hn e) q
theorem RepL.cut' {b : Nat} {d : List D} {v : List V} (h : RepL K mg H φ d v) (q : D.ltL b d = true) : RepL K mg H (φ.cut b) d v := h.low (fun _ z => Ph.cut_has z) (fun _ _ hn e => cut_get hn e) q
theorem RepK.cut {b : Nat} {d : List (Key × D)} {v : List (Key × V)} (h : RepK K mg H φ d v) (q : D.ltK b d = true) : RepK K mg H (φ.cut b) d v := h.low (fun _ z => Ph.cut_has z) (fun _ _ hn e => cut_get hn e) q
theorem RepF.cut {b : Nat} {d : List (Str × D)} {v : List (Str × V)} (h : RepF K mg H φ d v) (q : D.ltF b d = true) : RepF K mg H (φ.cut b) d v := h.low (fun _ z => Ph.cut_has z) (fun _ _ hn e => cut_get hn e) q
theorem CellOk.low {a : Addr} {c : Cell} {b : Nat} (hs : ∀ x, φ'.has x → φ.has x) (hg : ∀ (n : Nat) (a : Addr), n < b → φ.c[n]? = some a → φ'.c[n]? = some a) (h : CellOk K mg H φ a c) (q : c.lt b = true) : CellOk K mg H φ' a c := by
  cases c with
  | lst ds => obtain ⟨vs, h1, h⟩ := h; exact ⟨vs, h1, h.low hs hg q⟩
  | dic ds => obtain ⟨vs, h1, h⟩ := h; exact ⟨vs, h1, h.low hs hg q⟩
  | ins c fs => obtain ⟨C, dx, vs, h0, h1, h⟩ := h; exact ⟨C, dx, vs, h0, h1, h.low hs hg q⟩
theorem CellOk.cut {a : Addr} {c : Cell} {b : Nat} (h : CellOk K mg H φ a c) (q : c.lt b = true) : CellOk K mg H (φ.cut b) a c := h.low (fun _ z => Ph.cut_has z) (fun _ _ hn e => cut_get hn e) q
theorem push_all (S : Sto) : S.push.all = S.all := by
  unfold Sto.push Sto.all
  rw [List.append_nil]
theorem Sim.push (s : Sim K mg H φ bs S) : Sim K mg H φ (S.all.length :: bs) S.push := by
  refine ⟨by rw [push_all]; exact s.len, s.nd, s.dis, s.hid, fun n a c h1 h2 => s.cell n a c h1 (by rw [push_all] at h2; exact h2), rfl, fun b hb => ?_⟩
  have hl : S.push.old.length = S.all.length := rfl
  rcases List.mem_cons.mp hb with e | hb
  · subst e
    refine ⟨Nat.le_of_eq hl.symm, fun n c hn h => ?_⟩
    rw [push_all] at h
    have hn' : n < φ.c.length := by rw [s.len]; exact hn
    have h2 := (s.cell n _ c (List.getElem?_eq_getElem hn') h).below
    rw [s.len] at h2
    exact h2
  · obtain ⟨h1, h2⟩ := s.cl b hb
    refine ⟨?_, fun n c hn h => h2 n c hn (by rw [push_all] at h; exact h)⟩
    rw [hl]
    unfold Sto.all
    rw [List.length_append]
    omega
/-- behind a frame -/
theorem Sim.pop (s : Sim K mg H φ bs S) (x : Ext H φ H' φ') (s' : Sim K mg H' φ' (S.all.length :: bs) S') : φ'.cut S.all.length = φ ∧ Ext H φ H' φ ∧ Sim K mg H' φ bs (S.pop S') := by
  have hc : φ'.cut S.all.length = φ := by
    obtain ⟨ψ, e, _⟩ := x.pre
    unfold Ph.cut
    rw [e, ← s.len, List.take_left, x.hsame]
  have hx : Ext H φ H' φ := ⟨⟨[], by simp, fun _ h => by simp at h⟩, rfl, x.hk, x.keep, x.there⟩
  refine ⟨hc, hx, ?_⟩
  have hol : S'.old.length = S.all.length := by
    have := s'.hd
    simpa using this.symm
  have hle : S.old.length ≤ S.all.length := by
    unfold Sto.all; rw [List.length_append]; omega
  have hall : (S.pop S').all = S'.old := by
    unfold Sto.pop Sto.all
    exact List.take_append_drop _ _
  have hget : ∀ {n : Nat} {c : Cell}, (S.pop S').all[n]? = some c → n < S.all.length ∧ S'.all[n]? = some c := fun {n c} h => by
    rw [hall] at h
    have hn := (List.getElem?_eq_some_iff.mp h).1
    refine ⟨by rw [← hol]; exact hn, ?_⟩
    unfold Sto.all
    rw [List.getElem?_append_left hn]; exact h
  refine ⟨by rw [hall, hol]; exact s.len, s.nd, s.dis, fun a ha => s'.hid a (by rw [x.hsame]; exact ha), fun n a c h1 h2 => ?_, ?_, fun b hb => ?_⟩
  · obtain ⟨hn, h2⟩ := hget h2
    have h3 := s'.cell n a c (x.get h1) h2
    have h4 := h3.cut ((s'.cl S.all.length List.mem_cons_self).2 n c hn h2)
    rw [hc] at h4
    exact h4
  · rw [s.hd]
    show some S.old.length = some (S'.old.take S.old.length).length
    rw [List.length_take, hol, Nat.min_eq_left hle]
  · refine ⟨?_, fun n c hn h => (s'.cl b (List.mem_cons_of_mem _ hb)).2 n c hn (hget h).2⟩
    show b ≤ (S'.old.take S.old.length).length
    rw [List.length_take, hol, Nat.min_eq_left hle]
    exact (s.cl b hb).1
end
/-! ### what a def hands back -/
def mapO {α β : Type} (f : α → Option β) : List α → Option (List β)
  | [] => some []
  | x :: xs => match f x, mapO f xs with
    | some y, some ys => some (y :: ys)
    | _, _ => none
/-- its own cells taken for values -/
def fz (b m : Nat) (S : Sto) : Nat → D → Option D
  | 0, d => if d.lt b = true then some d else none
  | k + 1, d => if d.lt b = true then some d else match d with
    | .ref n => if n < b ∨ n = m then none else match S.get n with
      | some (.lst xs) => (mapO (fz b m S k) xs).map .lst
      | some (.dic kvs) => (mapO (fun kv : Key × D => (fz b m S k kv.2).map fun d => (kv.1, d)) kvs).map .dic
      | some (.ins c fs) => (mapO (fun kv : Str × D => (fz b m S k kv.2).map fun d => (kv.1, d)) fs).map (.obj c)
      | none => none
    | .tup xs => (mapO (fz b m S k) xs).map .tup
    | .lst xs => (mapO (fz b m S k) xs).map .lst
    | _ => none
section
variable {K : PySem.W.Frag} {mg : Str → Option Value} {H : Hp} {φ ψ : Ph} {bs : List Nat} {S : Sto} {b m : Nat}
theorem mapO_L {f : D → Option D} (hf : ∀ d e v, f d = some e → Rep K mg H φ d v → Rep K mg H ψ e v) : ∀ {ds es : List D} {vs : List V}, mapO f ds = some es → RepL K mg H φ ds vs → RepL K mg H ψ es vs
  | [], _, _, h, .nil => by cases h; exact .nil
  | d :: ds, es, _, h, .cons r t => by
    simp only [mapO] at h
    split at h
    · rename_i e es' h1 h2
      cases h
      exact .cons (hf _ _ _ h1 r) (mapO_L hf h2 t)
    · cases h
theorem mapO_K {f : D → Option D} (hf : ∀ d e v, f d = some e → Rep K mg H φ d v → Rep K mg H ψ e v) : ∀ {ds es : List (Key × D)} {vs : List (Key × V)}, mapO (fun kv : Key × D => (f kv.2).map fun d => (kv.1, d)) ds = some es → RepK K mg H φ ds vs → RepK K mg H ψ es vs
  | [], _, _, h, .nil => by cases h; exact .nil
  | (k, d) :: ds, es, _, h, .cons r t => by
    simp only [mapO] at h
    split at h
    · rename_i e es' h1 h2
      cases h
      cases q : f d with
      | none => rw [q] at h1; cases h1
      | some e' =>
        rw [q] at h1
        cases h1
        exact .cons (hf _ _ _ q r) (mapO_K hf h2 t)
    · cases h
theorem mapO_F {f : D → Option D} (hf : ∀ d e v, f d = some e → Rep K mg H φ d v → Rep K mg H ψ e v) : ∀ {ds es : List (Str × D)} {vs : List (Str × V)}, mapO (fun kv : Str × D => (f kv.2).map fun d => (kv.1, d)) ds = some es → RepF K mg H φ ds vs → RepF K mg H ψ es vs
  | [], _, _, h, .nil => by cases h; exact .nil
  | (k, d) :: ds, es, _, h, .cons r t => by
    simp only [mapO] at h
    split at h
    · rename_i e es' h1 h2
      cases h
      cases q : f d with
      | none => rw [q] at h1; cases h1
      | some e' =>
        rw [q] at h1
        cases h1
        exact .cons (hf _ _ _ q r) (mapO_F hf h2 t)
    · cases h
theorem cut_out (s : Sim K mg H φ bs S) {n : Nat} {a : Addr} (h : φ.c[n]? = some a) (hn : ¬ n < b) : ¬ (φ.cut b).has a := fun z => by
  rcases z with z | z
  · obtain ⟨m, hm, e⟩ := List.getElem_of_mem z
    have hm' : m < b ∧ m < φ.c.length := by
      have : m < (φ.c.take b).length := hm
      rw [List.length_take] at this
      omega
    have e2 : φ.c[m]? = some a := by
      have e3 : (φ.c.take b)[m]? = some a := by exact (List.getElem?_eq_getElem hm).trans (congrArg some e)
      rw [List.getElem?_take_of_lt hm'.1] at e3
      exact e3
    have := nodup_ixA s.nd h e2
    omega
  · exact s.dis a (List.mem_of_getElem? h) z
where
  nodup_ixA {l : List Addr} (nd : l.Nodup) {i j : Nat} {x : Addr} (a : l[i]? = some x) (c : l[j]? = some x) : i = j := by
    obtain ⟨h1, e1⟩ := List.getElem?_eq_some_iff.mp a
    obtain ⟨h2, e2⟩ := List.getElem?_eq_some_iff.mp c
    exact (List.getElem_inj nd).mp (e1.trans e2.symm)
theorem fz_ok (s : Sim K mg H φ bs S) (hs : ∀ x, ψ.has x → φ.has x) (hg : ∀ (n : Nat) (a : Addr), n < b → φ.c[n]? = some a → ψ.c[n]? = some a) (ho : ∀ (n : Nat) (a : Addr), φ.c[n]? = some a → ¬ (n < b ∨ n = m) → ¬ ψ.has a) :
    ∀ (k : Nat) (d e : D) (v : V), fz b m S k d = some e → Rep K mg H φ d v → Rep K mg H ψ e v
  | 0, d, e, v, h, r => by
    unfold fz at h
    by_cases q : d.lt b = true
    · rw [if_pos q] at h; cases h; exact r.low hs hg q
    · rw [if_neg q] at h; cases h
  | k + 1, d, e, v, h, r => by
    unfold fz at h
    by_cases q : d.lt b = true
    · rw [if_pos q] at h; cases h; exact r.low hs hg q
    · rw [if_neg q] at h
      have ih := fz_ok s hs hg ho k
      cases r with
      | tup h1 h2 =>
        rename_i a ds vs
        dsimp only at h
        cases q2 : mapO (fz b m S k) ds with
        | none => rw [q2] at h; cases h
        | some es => rw [q2] at h; cases h; exact .tup h1 (mapO_L ih q2 h2)
      | lst h1 h2 h3 =>
        rename_i a ds vs
        dsimp only at h
        cases q2 : mapO (fz b m S k) ds with
        | none => rw [q2] at h; cases h
        | some es => rw [q2] at h; cases h; exact .lst h1 (fun z => h2 (hs _ z)) (mapO_L ih q2 h3)
      | @ref n a h1 =>
        dsimp only at h
        by_cases hn : n < b ∨ n = m
        · rw [if_pos hn] at h; cases h
        · rw [if_neg hn] at h
          split at h
          · rename_i xs e1
            obtain ⟨a', ev, _, vs, hv, lv⟩ := s.at (.ref h1) e1
            cases ev
            cases q2 : mapO (fz b m S k) xs with
            | none => rw [q2] at h; cases h
            | some es => rw [q2] at h; cases h; exact .lst hv (ho _ _ h1 hn) (mapO_L ih q2 lv)
          · rename_i xs e1
            obtain ⟨a', ev, _, vs, hv, lv⟩ := s.at (.ref h1) e1
            cases ev
            cases q2 : mapO (fun kv : Key × D => (fz b m S k kv.2).map fun d => (kv.1, d)) xs with
            | none => rw [q2] at h; cases h
            | some es => rw [q2] at h; cases h; exact .dic (.inl hv) (ho _ _ h1 hn) (mapO_K ih q2 lv)
          · rename_i c fs e1
            obtain ⟨a', ev, _, C, dx, vs, hm, hv, lv⟩ := s.at (.ref h1) e1
            cases ev
            cases q2 : mapO (fun kv : Str × D => (fz b m S k kv.2).map fun d => (kv.1, d)) fs with
            | none => rw [q2] at h; cases h
            | some es => rw [q2] at h; cases h; exact .obj hm hv (ho _ _ h1 hn) (mapO_F ih q2 lv)
          · cases h
      | _ => cases h
end
def initE (n : Nat) (ds : List D) : Env := ds.map some ++ List.replicate (n - ds.length) none
/-- a value is handed back, the frame's own cells with it as values -/
def give (S : Sto) (d : D) (S' : Sto) : R D := if S'.top.isEmpty = true then .ok d (S.pop S') else match fz S.new S'.all.length S' 24 d with
  | some d' => .ok d' (S.pop S')
  | none => .bad
def throwE (S : Sto) (e : D) (S' : Sto) : R D := if e.lt S.new = true then .ex e (S.pop S') else .bad
def runV (n : Nat) (body : SM) (ds : List D) (S : Sto) : R D := match body (initE n ds) S.push with
  | .nx _ S' => .ok .non (S.pop S')
  | .rt d S' => give S d S'
  | .ex e _ S' => throwE S e S'
  | _ => .bad
/-- a list of its own is handed back: a cell of the caller's -/
def runF (n : Nat) (body : SM) (ds : List D) (S : Sto) : R D := match body (initE n ds) S.push with
  | .rt (.ref m) S' => if m < S.new then .bad else match S'.get m with
    | some (.lst xs) => match mapO (fz S.new m S' 24) xs with
      | some ys => .ok (.ref S.new) ((S.pop S').add (.lst ys))
      | none => .bad
    | _ => .bad
  | .ex e _ S' => throwE S e S'
  | _ => .bad
/-- no frame of its own -/
def runL (n : Nat) (body : SM) (ds : List D) (S : Sto) : R D := match body (initE n ds) S with
  | .nx _ S' => .ok .non S'
  | .rt d S' => .ok d S'
  | .ex e _ S' => .ex e S'
  | _ => .bad
theorem init_env {K : PySem.W.Frag} {mg : Str → Option Value} {H : Hp} {φ : Ph} {ds : List D} {vs : List V} {N : List Str} (r : RepL K mg H φ ds vs) (hl : ds.length ≤ N.length) : EnvR K mg H φ (initE N.length ds) (L2.start N vs) := by
  unfold initE L2.start
  rw [← r.length]
  refine ⟨by simp [r.length], fun i d h => ?_⟩
  by_cases hi : i < ds.length
  · rw [List.getElem?_append_left (by simpa using hi), List.getElem?_map] at h
    cases q : ds[i]? with
    | none => rw [q] at h; cases h
    | some d' =>
      rw [q] at h
      cases h
      obtain ⟨v, hv, rv⟩ := r.get q
      refine ⟨v, ?_, rv⟩
      rw [List.getElem?_append_left (by simpa [← r.length] using hi), List.getElem?_map, hv]
      rfl
  · rw [List.getElem?_append_right (by simpa using Nat.le_of_not_lt hi)] at h
    have h' := List.mem_of_getElem? h
    rw [List.mem_replicate] at h'
    cases h'.2
section
variable {P : Program} {w : World} {K : PySem.W.Frag} {mg : Str → Option Value} {base : Heap}
/-- the body of the def st means B -/
def BodyOk (P : Program) (w : World) (K : PySem.W.Frag) (mg : Str → Option Value) (base : Heap) (N : List Str) (qual : Str) (st : Stmt) (k : Nat) (B : SM) : Prop :=
  ∀ (f : Addr) (cdv : Value) (A : Around) (outer : List PySem.Env) (s : Shared) (H : Hp) (E : XK), Cz (cxOf (L2.CX P w) P w K mg base N qual (defScope st) f cdv A outer s H E) (fun cls d _ H => E cls d H) k →
    DSs (cxOf (L2.CX P w) P w K mg base N qual (defScope st) f cdv A outer s H E) (fun cls d _ H => E cls d H) (defBody st) B
theorem take_len {N ps : List Str} (h : N.take ps.length = ps) : ps.length ≤ N.length := by
  have e := congrArg List.length h
  rw [List.length_take] at e
  omega
theorem ExR.cut {H : Hp} {φ : Ph} {e : D} {cls : Value} {d : Option Addr} {b : Nat} (r : ExR K mg H φ e cls d) (q : e.lt b = true) : ExR K mg H (φ.cut b) e cls d := by
  obtain ⟨c, fs, C, rfl, h1, h2, h3⟩ := r
  refine ⟨c, fs, C, rfl, h1, h2, fun hn => ?_⟩
  obtain ⟨a, vs, h4, h5, h6⟩ := h3 hn
  exact ⟨a, vs, h4, h5, h6.cut q⟩
/-- from the body to the def, for any way of handing back -/
theorem fnOk_of {x qual : Str} {st : Stmt} {f : Addr} {fd : FuncData} {N ps : List Str} {k : Nat} {B : SM} {G : List D → Sto → R D} (F : Fun K x qual st f fd) (Sc : FnScope N ps (defScope st)) (hb : BodyOk P w K mg base N qual st k B)
    (hG : ∀ (bs : List Nat) (H : Hp) (φ : Ph) (S : Sto) (ds : List D) (vs : List V) (Q : VK) (E : XK), Sim K mg H φ bs S → RepL K mg H φ ds vs → ds.length ≤ N.length → PostG K mg (fun cls d _ H' => E cls d H') Rep bs [] H φ (G ds S) Q →
      ∃ bs' S', Sim K mg H φ bs' S' ∧ PostS K mg (fun cls d _ H' => E cls d H') bs' H φ (B (initE N.length ds) S') { nx := fun _ H' => Q .non H', rt := Q }) :
    FnOk P w K mg base (L2.CX P w) (k + 1) f fd ps (spOf K mg ps.length G) := by
  refine F.okX Sc (fun vs H Q E h => h.1) fun cdv A outer s H vs Q E hr h => ?_
  obtain ⟨hl, φ, bs, ds, S, sim, r, h⟩ := h
  have hN : ds.length ≤ N.length := by rw [r.length, hl]; exact take_len Sc.pre
  obtain ⟨bs', S', sim', hp⟩ := hG bs H φ S ds vs Q E sim r hN h
  refine ⟨_, hb f cdv A outer s H E ⟨hr, takes_of rfl rfl rfl rfl, passes_of rfl, rfl⟩, φ, bs', initE N.length ds, S', sim', init_env r hN, hp⟩
theorem okV {x qual : Str} {st : Stmt} {f : Addr} {fd : FuncData} {N ps : List Str} {k : Nat} {B : SM} (F : Fun K x qual st f fd) (Sc : FnScope N ps (defScope st)) (hb : BodyOk P w K mg base N qual st k B) :
    FnOk P w K mg base (L2.CX P w) (k + 1) f fd ps (spOf K mg ps.length (runV N.length B)) := fnOk_of F Sc hb fun bs H φ S ds vs Q E s r hl h => by
  refine ⟨S.all.length :: bs, S.push, s.push, ?_⟩
  unfold runV at h
  revert h
  cases B (initE N.length ds) S.push with
  | nx ρ S' =>
    intro h σ H' φ' x s' e'
    obtain ⟨h1, h2, h3⟩ := s.pop x s'
    exact h .non H' φ h2 h3 .non
  | rt d S' =>
    intro h v H' φ' x s' r'
    obtain ⟨h1, h2, h3⟩ := s.pop x s'
    dsimp only at h
    unfold give at h
    by_cases q : S'.top.isEmpty = true
    · rw [if_pos q] at h
      refine h v H' φ h2 h3 ?_
      have hd := r'.bel
      have hl : φ'.c.length = S.all.length := by
        have e : S'.top = [] := List.isEmpty_iff.mp q
        have e2 : S'.old.length = S.all.length := by simpa using s'.hd.symm
        rw [s'.len]; unfold Sto.all; rw [e, List.append_nil]; exact e2
      rw [hl] at hd
      have := r'.cut hd
      rw [h1] at this
      exact this
    · rw [if_neg q] at h
      split at h
      · rename_i d' ef
        have := fz_ok (b := S.new) (ψ := φ'.cut S.new) s' (fun _ z => Ph.cut_has z) (fun _ _ hn e => cut_get hn e) (fun n a e hn => cut_out s' e (fun h => hn (.inl h))) 24 d d' v ef r'
        rw [Sto.new_all, h1] at this
        exact h v H' φ h2 h3 this
      · exact h.elim
  | ex e ρ S' =>
    intro h cls dx σ H' φ' x s' e' r'
    obtain ⟨h1, h2, h3⟩ := s.pop x s'
    dsimp only at h
    unfold throwE at h
    by_cases q : e.lt S.new = true
    · rw [if_pos q] at h
      have := r'.cut q
      rw [Sto.new_all, h1] at this
      exact h cls dx H' φ h2 h3 this
    · rw [if_neg q] at h; exact h.elim
  | bk _ _ => exact fun h => h.elim
  | ct _ _ => exact fun h => h.elim
  | bad => exact fun h => h.elim
theorem okL {x qual : Str} {st : Stmt} {f : Addr} {fd : FuncData} {N ps : List Str} {k : Nat} {B : SM} (F : Fun K x qual st f fd) (Sc : FnScope N ps (defScope st)) (hb : BodyOk P w K mg base N qual st k B) :
    FnOk P w K mg base (L2.CX P w) (k + 1) f fd ps (spOf K mg ps.length (runL N.length B)) := fnOk_of F Sc hb fun bs H φ S ds vs Q E s r hl h => by
  refine ⟨bs, S, s, ?_⟩
  unfold runL at h
  revert h
  cases B (initE N.length ds) S with
  | nx ρ S' => exact fun h σ H' φ' x s' e' => h .non H' φ' x s' .non
  | rt d S' => exact fun h => h
  | ex e ρ S' => exact fun h cls dx σ H' φ' x s' e' r' => h cls dx H' φ' x s' r'
  | bk _ _ => exact fun h => h.elim
  | ct _ _ => exact fun h => h.elim
  | bad => exact fun h => h.elim
end
end Mi

namespace Mi
open PySem PySem.Spec PyProof.Rows L2
section
variable {P : Program} {w : World} {K : PySem.W.Frag} {mg : Str → Option Value} {base : Heap}
theorem okF {x qual : Str} {st : Stmt} {f : Addr} {fd : FuncData} {N ps : List Str} {k : Nat} {B : SM} (F : Fun K x qual st f fd) (Sc : FnScope N ps (defScope st)) (hb : BodyOk P w K mg base N qual st k B) :
    FnOk P w K mg base (L2.CX P w) (k + 1) f fd ps (spOf K mg ps.length (runF N.length B)) := fnOk_of F Sc hb fun bs H φ S ds vs Q E s r hl h => by
  refine ⟨S.all.length :: bs, S.push, s.push, ?_⟩
  unfold runF at h
  revert h
  cases B (initE N.length ds) S.push with
  | rt d S' =>
    intro h v H' φ' x s' r'
    obtain ⟨h1, h2, h3⟩ := s.pop x s'
    cases r' with
    | @ref m a ha =>
      dsimp only at h
      by_cases hm : m < S.new
      · rw [if_pos hm] at h; exact h.elim
      · rw [if_neg hm] at h
        split at h
        · rename_i xs e1
          obtain ⟨a', ev, _, ws, hv, lv⟩ := s'.at (.ref ha) e1
          cases ev
          split at h
          · rename_i ys hq
            rw [Sto.new_all] at hq hm
            have hout : ¬ φ.has a := by
              have := cut_out (b := S.all.length) s' ha hm
              rw [h1] at this
              exact this
            have fresh : H a = none := by
              cases q : H a with
              | none => rfl
              | some o =>
                obtain ⟨ψ, e, fr⟩ := x.pre
                have hin : a ∈ φ.c ++ ψ := by rw [← e]; exact List.mem_of_getElem? ha
                rcases List.mem_append.mp hin with z | z
                · exact absurd (.inl z) hout
                · rw [fr a z] at q; cases q
            have hx : Ext H φ H' (φ.add a) := by
              refine ⟨⟨[a], rfl, fun b hb => ?_⟩, rfl, h2.hk, h2.keep, h2.there⟩
              have e : b = a := by simpa using hb
              rw [e]; exact fresh
            have hsub : ∀ b, (φ.add a).has b → φ'.has b := fun b z => by
              rcases z with z | z
              · have z' : b ∈ φ.c ++ [a] := z
                obtain ⟨ψ, e, fr⟩ := x.pre
                rcases List.mem_append.mp z' with z' | z'
                · exact .inl (by rw [e]; exact List.mem_append_left _ z')
                · have e2 : b = a := by simpa using z'
                  exact .inl (by rw [e2]; exact List.mem_of_getElem? ha)
              · exact .inr (by rw [x.hsame]; exact z)
            have hlen : φ.c.length = S.all.length := s.len
            have hget : ∀ (n : Nat) (b : Addr), n < S.all.length → φ'.c[n]? = some b → (φ.add a).c[n]? = some b := fun n b hn e => by
              obtain ⟨ψ, e2, _⟩ := x.pre
              rw [e2, List.getElem?_append_left (by rw [hlen]; exact hn)] at e
              show (φ.c ++ [a])[n]? = some b
              rw [List.getElem?_append_left (by rw [hlen]; exact hn)]
              exact e
            have hno : ∀ (n : Nat) (b : Addr), φ'.c[n]? = some b → ¬ (n < S.all.length ∨ n = m) → ¬ (φ.add a).has b := fun n b e hn z => by
              have hnb : ¬ φ.has b := by
                have := cut_out (b := S.all.length) s' e (fun q => hn (.inl q))
                rw [h1] at this
                exact this
              rcases z with z | z
              · have z' : b ∈ φ.c ++ [a] := z
                rcases List.mem_append.mp z' with z' | z'
                · exact hnb (.inl z')
                · have e2 : b = a := by simpa using z'
                  subst e2
                  exact hn (.inr (cut_out.nodup_ixA s'.nd e ha))
              · exact hnb (.inr z)
            have hcell : CellOk K mg H' (φ.add a) a (.lst ys) := ⟨ws, hv, mapO_L (fun d e v hd r => fz_ok s' hsub hget hno 24 d e v hd r) hq lv⟩
            have hs : Sim K mg H' (φ.add a) bs ((S.pop S').add (.lst ys)) := by
              have hlow : ∀ (n : Nat) (b : Addr) (c : Cell), φ.c[n]? = some b → (S.pop S').all[n]? = some c → CellOk K mg H' (φ.add a) b c := fun n b c g1 g2 => by
                have hn : n < S.all.length := by rw [← hlen]; exact (List.getElem?_eq_some_iff.mp g1).1
                have hall : (S.pop S').all = S'.old := by
                  unfold Sto.pop Sto.all
                  exact List.take_append_drop _ _
                rw [hall] at g2
                have g3 : S'.all[n]? = some c := by
                  unfold Sto.all
                  rw [List.getElem?_append_left (List.getElem?_eq_some_iff.mp g2).1]; exact g2
                exact (s'.cell n b c (x.get g1) g3).low hsub hget ((s'.cl S.all.length List.mem_cons_self).2 n c hn g3)
              refine ⟨?_, ?_, fun b hb => ?_, h3.hid, fun n b c g1 g2 => ?_, h3.hd, fun b hb => ?_⟩
              · rw [Sto.add_all]
                show (φ.c ++ [a]).length = _
                rw [List.length_append, List.length_append, h3.len]; rfl
              · show (φ.c ++ [a]).Nodup
                rw [List.nodup_append]
                refine ⟨h3.nd, by simp, fun b hb c hc => ?_⟩
                have e : c = a := by simpa using hc
                subst e
                intro e2; subst e2; exact hout (.inl hb)
              · have hb' : b ∈ φ.c ++ [a] := hb
                show b ∉ φ.h
                rcases List.mem_append.mp hb' with z | z
                · exact h3.dis b z
                · have e : b = a := by simpa using z
                  rw [e]; exact fun q => hout (.inr q)
              · have g1 : (φ.c ++ [a])[n]? = some b := g1
                rw [Sto.add_all] at g2
                by_cases hn : n < φ.c.length
                · rw [List.getElem?_append_left hn] at g1
                  rw [List.getElem?_append_left (by rw [← h3.len]; exact hn)] at g2
                  exact hlow n b c g1 g2
                · rw [List.getElem?_append_right (by omega)] at g1
                  rw [List.getElem?_append_right (by rw [← h3.len]; omega), ← h3.len] at g2
                  have hz : n - φ.c.length = 0 := by
                    have := (List.getElem?_eq_some_iff.mp g1).1
                    simp at this; omega
                  rw [hz] at g1 g2
                  simp at g1 g2
                  subst g1 g2
                  exact hcell
              · obtain ⟨g1, g2⟩ := h3.cl b hb
                refine ⟨g1, fun n d hn e => ?_⟩
                rw [Sto.add_all] at e
                have : n < (S.pop S').all.length := by
                  unfold Sto.all; rw [List.length_append]; omega
                rw [List.getElem?_append_left this] at e
                exact g2 n d hn e
            refine h _ H' _ hx hs (.ref ?_)
            show (φ.c ++ [a])[S.new]? = some a
            rw [Sto.new_all, ← hlen, List.getElem?_append_right (Nat.le_refl _)]
            simp
          · exact h.elim
        · exact h.elim
    | _ => exact h.elim
  | ex e ρ S' =>
    intro h cls dx σ H' φ' x s' e' r'
    obtain ⟨h1, h2, h3⟩ := s.pop x s'
    dsimp only at h
    unfold throwE at h
    by_cases q : e.lt S.new = true
    · rw [if_pos q] at h
      have := r'.cut q
      rw [Sto.new_all, h1] at this
      exact h cls dx H' φ h2 h3 this
    · rw [if_neg q] at h; exact h.elim
  | nx _ _ => exact fun h => h.elim
  | bk _ _ => exact fun h => h.elim
  | ct _ _ => exact fun h => h.elim
  | bad => exact fun h => h.elim
end
end Mi

namespace Mi
open PySem PySem.Spec PyProof.Rows L2

/-! ### methods of lists -/
/-- o.m(e, ..), o a list -/
def eMeth (f : EM) (fs : List EM) (g : D → List D → Sto → R D) : EM := fun ρ S => (f ρ S).bind fun x S1 => match lstS S1 x with
  | some _ => (aList fs ρ S1).bind fun ds S2 => g x ds S2
  | none => .bad
def MtD (X : Cx) (W : WX) (r : V → List V → Hp → VK → Prop) (g : D → List D → Sto → R D) : Prop := ∀ bs σ H φ S d ds x vs Q, Sim X.K X.mg H φ bs S → Rep X.K X.mg H φ d x → RepL X.K X.mg H φ ds vs → Post X W bs σ H φ (g d ds S) Q → r x vs H Q
section
variable {X : Cx} {W : WX} {o e : Expr} {es : List Expr} {f : EM} {fs : List EM} {k : Nat} {apos cpos : Pos} {name : Str} {id : String} {r : V → List V → Hp → VK → Prop} {g : D → List D → Sto → R D}
theorem tBM_wk (hk : MtD X W r g) (σ : L2.St) (H : Hp) (Q : VK) (h : tE X W (eMeth f fs g) σ H Q) : tBM X.K "list" r (tE X W f) (tA X W (aList fs)) σ H Q := by
  obtain ⟨φ, bs, ρ, S, s, en, h⟩ := h
  refine tG_then s en h fun d S1 v H1 φ1 x1 s1 e1 r1 h1 => ?_
  split at h1
  · rename_i xs ex
    obtain ⟨a, vs, rfl, hq, lr⟩ := s1.lst r1 ex
    refine ⟨.inl ⟨rfl, vs, hq⟩, ?_⟩
    refine tG_then (rel := RepL) s1 e1 h1 fun ds S2 us H2 φ2 x2 s2 e2 r2 h2 => ?_
    exact hk bs σ H2 φ2 S2 d ds _ us Q s2 (r1.ext x2 s1.cells) r2 h2
  · exact h1.elim
theorem de_meth (slot : Slot "list" name id) (hty : typeOf (.builtin id) = pure (.type "method_descriptor")) (hm : MtR X id r) (hk : MtD X W r g) (ho : DE X W o f) (ha : DA X W (e :: es) (aList fs))
    (hbase : attributeBase o name X.env (eval o X.env) = eval o X.env := by rfl)
    (hfew : ((backTo cpos (starEach (e :: es) X.env)).all (fun x => !x.1) && (backToKw cpos (keywordEach [] X.env)).all (fun x => x.1.isSome)
      && decide ((e :: es).length + ([] : List Keyword).length + (if ([] : List Keyword).isEmpty then 0 else 1) < 30)) = true := by rfl)
    (hline : (apos.endLine == cpos.line) = true := by rfl) (hs : starEach (e :: es) X.env = (false, eval e X.env) :: starEach es X.env := by rfl) (hplain : (backTo cpos (starEach es X.env)).any (·.1) = false := by rfl) :
    DE X W (.Call (.Attribute o name apos) (e :: es) [] cpos) (eMeth f fs g) := (pe_bm PySem.F.plainAttrs_list slot hty hm ho ha hbase hfew hline hs hplain).wk (tBM_wk hk)
theorem de_meth0 (slot : Slot "list" name id) (hty : typeOf (.builtin id) = pure (.type "method_descriptor")) (hm : MtR X id r) (hk : MtD X W r g) (ho : DE X W o f)
    (hbase : attributeBase o name X.env (eval o X.env) = eval o X.env := by rfl) (hline : (apos.endLine == cpos.line) = true := by rfl) : DE X W (.Call (.Attribute o name apos) [] [] cpos) (eMeth f [] g) :=
  (pe_bm0 PySem.F.plainAttrs_list slot hty hm ho hbase hline).wk fun σ H Q h => by
    obtain ⟨φ, bs, ρ, S, s, en, h⟩ := h
    refine tG_then s en h fun d S1 v H1 φ1 x1 s1 e1 r1 h1 => ?_
    split at h1
    · rename_i xs ex
      obtain ⟨a, vs, rfl, hq, lr⟩ := s1.lst r1 ex
      exact ⟨.inl ⟨rfl, vs, hq⟩, hk bs σ H1 φ1 S1 d [] _ [] Q s1 r1 .nil h1⟩
    · exact h1.elim
/-- the cell n holds other items now -/
def putL (n : Nat) (xs : List D) (d : D) (S : Sto) : R D := if S.may n (.lst xs) = true then .ok d (S.set n (.lst xs)) else .bad
theorem putL_ok {bs : List Nat} {σ : L2.St} {H : Hp} {φ : Ph} {S : Sto} {n : Nat} {a : Addr} {xs : List D} {vs : List V} {d : D} {v : V} {Q : VK} (s : Sim X.K X.mg H φ bs S) (ha : φ.c[n]? = some a) (lr : RepL X.K X.mg H φ xs vs) (rd : Rep X.K X.mg H φ d v)
    (h : Post X W bs σ H φ (putL n xs d S) Q) : Q v (upd H a (.lst vs)) := by
  obtain ⟨hm, h⟩ := if_bad (P := fun r => Post X W bs σ H φ r Q) h fun z => z
  have x : Ext H φ (upd H a (.lst vs)) φ := Ext.wr s ha
  exact h _ _ _ x (s.wr ha hm ⟨vs, upd_same, lr.ext x s.cells⟩) (rd.ext x s.cells)
def mAppend (x : D) (ds : List D) (S : Sto) : R D := match x, ds with
  | .ref n, [d] => match S.get n with
    | some (.lst xs) => if xs.length < sizeLine then putL n (xs ++ [d]) .non S else .bad
    | _ => .bad
  | _, _ => .bad
theorem append_ok : MtD X W rAppend mAppend := by
  intro bs σ H φ S d ds x vs Q s rd rl h
  cases rd with
  | @ref n a ha =>
    cases rl with
    | nil => exact h.elim
    | cons r1 t =>
      cases t with
      | cons _ _ => exact h.elim
      | nil =>
        simp only [mAppend] at h
        split at h
        · rename_i xs e
          obtain ⟨hl, h⟩ := if_bad (P := fun r => Post X W bs σ H φ r Q) h fun z => z
          obtain ⟨a', ev, _, ws, hv, lv⟩ := s.at (.ref ha) e
          cases ev
          exact ⟨a, ws, _, rfl, rfl, hv, by rw [← lv.length]; exact hl, putL_ok s ha (lv.append (.cons r1 .nil)) .non h⟩
        · exact h.elim
  | _ => exact h.elim
theorem de_append (ho : DE X W o f) (ha : DA X W (e :: es) (aList fs)) (hbase : attributeBase o "append" X.env (eval o X.env) = eval o X.env := by rfl)
    (hfew : ((backTo cpos (starEach (e :: es) X.env)).all (fun x => !x.1) && (backToKw cpos (keywordEach [] X.env)).all (fun x => x.1.isSome)
      && decide ((e :: es).length + ([] : List Keyword).length + (if ([] : List Keyword).isEmpty then 0 else 1) < 30)) = true := by rfl)
    (hline : (apos.endLine == cpos.line) = true := by rfl) (hs : starEach (e :: es) X.env = (false, eval e X.env) :: starEach es X.env := by rfl) (hplain : (backTo cpos (starEach es X.env)).any (·.1) = false := by rfl) :
    DE X W (.Call (.Attribute o "append" apos) (e :: es) [] cpos) (eMeth f fs mAppend) := de_meth PySem.F.slot_list_append PySem.F.type_list_append mt_append append_ok ho ha hbase hfew hline hs hplain
/-- extend, by a list that is a cell or a value -/
def mExtend (x : D) (ds : List D) (S : Sto) : R D := match x, ds with
  | .ref n, [d] => match S.get n with
    | some (.lst xs) => match d with
      | .frl _ => .bad
      | d => match lstS S d with
        | some ys => if xs.length + ys.length ≤ sizeLine then putL n (xs ++ ys) .non S else .bad
        | none => .bad
    | _ => .bad
  | _, _ => .bad
theorem Sim.lstM {K : PySem.W.Frag} {mg : Str → Option Value} {H : Hp} {φ : Ph} {bs : List Nat} {S : Sto} (s : Sim K mg H φ bs S) {d : D} {v : V} {xs : List D} (r : Rep K mg H φ d v) (hn : ∀ ys, d ≠ .frl ys) (e : lstS S d = some xs) : ∃ a vs, v = .ref a ∧ H a = some (.lst vs) ∧ RepL K mg H φ xs vs := by
  cases r with
  | lst h _ hl => cases e; exact ⟨_, _, rfl, h, hl⟩
  | frl h hl => exact absurd rfl (hn _)
  | @ref n a h =>
    simp only [lstS] at e
    split at e
    · rename_i ys q
      cases e
      obtain ⟨a', e', _, vs, hv, lv⟩ := s.at (.ref h) q
      cases e'
      exact ⟨_, _, rfl, hv, lv⟩
    · cases e
  | _ => cases e
theorem extend_ok : MtD X W rExtend mExtend := by
  intro bs σ H φ S d ds x vs Q s rd rl h
  cases rd with
  | @ref n a ha =>
    cases rl with
    | nil => exact h.elim
    | cons r1 t =>
      cases t with
      | cons _ _ => exact h.elim
      | nil =>
        simp only [mExtend] at h
        split at h
        · rename_i xs e
          obtain ⟨a', ev, _, ws, hv, lv⟩ := s.at (.ref ha) e
          cases ev
          split at h
          · exact h.elim
          · rename_i hn
            split at h
            · rename_i ys ey
              obtain ⟨hl, h⟩ := if_bad (P := fun r => Post X W bs σ H φ r Q) h fun z => z
              obtain ⟨b, zs, rfl, hb, lb⟩ := s.lstM r1 hn ey
              exact ⟨a, b, ws, zs, rfl, rfl, hv, hb, by rw [← lv.length, ← lb.length]; exact hl, putL_ok s ha (lv.append lb) .non h⟩
            · exact h.elim
        · exact h.elim
  | _ => exact h.elim
theorem de_extend (ho : DE X W o f) (ha : DA X W (e :: es) (aList fs)) (hbase : attributeBase o "extend" X.env (eval o X.env) = eval o X.env := by rfl)
    (hfew : ((backTo cpos (starEach (e :: es) X.env)).all (fun x => !x.1) && (backToKw cpos (keywordEach [] X.env)).all (fun x => x.1.isSome)
      && decide ((e :: es).length + ([] : List Keyword).length + (if ([] : List Keyword).isEmpty then 0 else 1) < 30)) = true := by rfl)
    (hline : (apos.endLine == cpos.line) = true := by rfl) (hs : starEach (e :: es) X.env = (false, eval e X.env) :: starEach es X.env := by rfl) (hplain : (backTo cpos (starEach es X.env)).any (·.1) = false := by rfl) :
    DE X W (.Call (.Attribute o "extend" apos) (e :: es) [] cpos) (eMeth f fs mExtend) := de_meth PySem.F.slot_list_extend PySem.F.type_list_extend mt_extend extend_ok ho ha hbase hfew hline hs hplain
def mPop (x : D) (ds : List D) (S : Sto) : R D := match x, ds with
  | .ref n, [] => match S.get n with
    | some (.lst xs) => match xs[xs.length - 1]? with
      | some d => putL n xs.dropLast d S
      | none => .bad
    | _ => .bad
  | _, _ => .bad
theorem RepL.dropLast {K : PySem.W.Frag} {mg : Str → Option Value} {H : Hp} {φ : Ph} {ds : List D} {vs : List V} (r : RepL K mg H φ ds vs) : RepL K mg H φ ds.dropLast vs.dropLast := by
  rw [List.dropLast_eq_take, List.dropLast_eq_take, r.length]
  exact r.take _
theorem pop_ok : MtD X W rPop mPop := by
  intro bs σ H φ S d ds x vs Q s rd rl h
  cases rd with
  | @ref n a ha =>
    cases rl with
    | cons _ _ => exact h.elim
    | nil =>
      simp only [mPop] at h
      split at h
      · rename_i xs e
        obtain ⟨a', ev, _, ws, hv, lv⟩ := s.at (.ref ha) e
        cases ev
        split at h
        · rename_i y ey
          obtain ⟨v, hv2, rv⟩ := lv.get ey
          exact ⟨a, ws, v, rfl, rfl, hv, by rw [← lv.length]; exact hv2, putL_ok s ha lv.dropLast rv h⟩
        · exact h.elim
      · exact h.elim
  | _ => exact h.elim
theorem de_pop (ho : DE X W o f) (hbase : attributeBase o "pop" X.env (eval o X.env) = eval o X.env := by rfl) (hline : (apos.endLine == cpos.line) = true := by rfl) : DE X W (.Call (.Attribute o "pop" apos) [] [] cpos) (eMeth f [] mPop) :=
  de_meth0 PySem.F.slot_list_pop PySem.F.type_list_pop mt_pop pop_ok ho hbase hline
def mReverse (x : D) (ds : List D) (S : Sto) : R D := match x, ds with
  | .ref n, [] => match S.get n with
    | some (.lst xs) => putL n xs.reverse .non S
    | _ => .bad
  | _, _ => .bad
theorem reverse_ok : MtD X W rReverse mReverse := by
  intro bs σ H φ S d ds x vs Q s rd rl h
  cases rd with
  | @ref n a ha =>
    cases rl with
    | cons _ _ => exact h.elim
    | nil =>
      simp only [mReverse] at h
      split at h
      · rename_i xs e
        obtain ⟨a', ev, _, ws, hv, lv⟩ := s.at (.ref ha) e
        cases ev
        exact ⟨a, ws, rfl, rfl, hv, putL_ok s ha lv.reverse .non h⟩
      · exact h.elim
  | _ => exact h.elim
theorem de_reverse (ho : DE X W o f) (hbase : attributeBase o "reverse" X.env (eval o X.env) = eval o X.env := by rfl) (hline : (apos.endLine == cpos.line) = true := by rfl) : DE X W (.Call (.Attribute o "reverse" apos) [] [] cpos) (eMeth f [] mReverse) :=
  de_meth0 PySem.F.slot_list_reverse PySem.F.type_list_reverse mt_reverse reverse_ok ho hbase hline
def mInsert (x : D) (ds : List D) (S : Sto) : R D := match x, ds with
  | .ref n, [.int i, d] => match S.get n with
    | some (.lst xs) => if xs.length < sizeLine ∧ 0 ≤ i ∧ i < 2 ^ 63 then putL n (xs.take i.toNat ++ [d] ++ xs.drop i.toNat) .non S else .bad
    | _ => .bad
  | _, _ => .bad
theorem insert_ok : MtD X W (fun x vs H Q => ∃ (l : Addr) (xs : List V) (i : Int) (y : V), x = .ref l ∧ vs = [.int i, y] ∧ H l = some (.lst xs) ∧ xs.length < sizeLine ∧ 0 ≤ i ∧ i < 2 ^ 63 ∧
    Q .non (upd H l (.lst (xs.take i.toNat ++ [y] ++ xs.drop i.toNat)))) mInsert := by
  intro bs σ H φ S d ds x vs Q s rd rl h
  cases rd with
  | @ref n a ha =>
    cases rl with
    | nil => exact h.elim
    | cons r1 t =>
      cases t with
      | nil => cases r1 <;> exact h.elim
      | cons r2 t =>
        cases t with
        | cons _ _ => cases r1 <;> exact h.elim
        | nil =>
          cases r1 with
          | int i =>
            simp only [mInsert] at h
            split at h
            · rename_i xs e
              obtain ⟨hl, h⟩ := if_bad (P := fun r => Post X W bs σ H φ r Q) h fun z => z
              obtain ⟨a', ev, _, ws, hv, lv⟩ := s.at (.ref ha) e
              cases ev
              exact ⟨a, ws, i, _, rfl, rfl, hv, by rw [← lv.length]; exact hl.1, hl.2.1, hl.2.2, putL_ok s ha (((lv.take _).append (.cons r2 .nil)).append (lv.drop _)) .non h⟩
            · exact h.elim
          | _ => exact h.elim
  | _ => exact h.elim
theorem de_insert (ho : DE X W o f) (ha : DA X W (e :: es) (aList fs)) (hbase : attributeBase o "insert" X.env (eval o X.env) = eval o X.env := by rfl)
    (hfew : ((backTo cpos (starEach (e :: es) X.env)).all (fun x => !x.1) && (backToKw cpos (keywordEach [] X.env)).all (fun x => x.1.isSome)
      && decide ((e :: es).length + ([] : List Keyword).length + (if ([] : List Keyword).isEmpty then 0 else 1) < 30)) = true := by rfl)
    (hline : (apos.endLine == cpos.line) = true := by rfl) (hs : starEach (e :: es) X.env = (false, eval e X.env) :: starEach es X.env := by rfl) (hplain : (backTo cpos (starEach es X.env)).any (·.1) = false := by rfl) :
    DE X W (.Call (.Attribute o "insert" apos) (e :: es) [] cpos) (eMeth f fs mInsert) := de_meth PySem.F.slot_list_insert PySem.F.type_list_insert mt_insert insert_ok ho ha hbase hfew hline hs hplain
end
/-! ### the law -/
/-- what the law's own call must give -/
def spLaw (K : PySem.W.Frag) : Sp := fun vs H Q _ => ∃ (a : Addr) (ns : List Int), vs = [.ref a] ∧ SqL K H a (ns.map V.int) ∧ ns.length ≤ 63 ∧ Only H ∧ ∀ H', Q (.bl true) H'
def Sto.nil : Sto := ⟨[], []⟩
def scr (ns : List Int) : D := .frl (ns.map .int)
theorem repL_ints {K : PySem.W.Frag} {mg : Str → Option Value} {H : Hp} {φ : Ph} : ∀ ns : List Int, RepL K mg H φ (ns.map .int) (ns.map V.int)
  | [] => .nil
  | n :: ns => .cons (.int n) (repL_ints ns)
theorem law_ok {P : Program} {w : World} {K : PySem.W.Frag} {mg : Str → Option Value} {base : Heap} {k : Nat} {f : Addr} {fd : FuncData} {ps : List Str} {G : List D → Sto → R D} (F : FnOk P w K mg base (L2.CX P w) k f fd ps (spOf K mg 1 G))
    (hG : ∀ ns : List Int, ns.length ≤ 63 → ∃ S', G [scr ns] .nil = .ok (.bl true) S') : FnOk P w K mg base (L2.CX P w) k f fd ps (spLaw K) := F.imp fun vs H Q E h => by
  obtain ⟨a, ns, rfl, hS, hl, ho, q⟩ := h
  obtain ⟨S', e⟩ := hG ns hl
  refine ⟨rfl, ⟨[], []⟩, [0], [scr ns], .nil, ⟨rfl, List.nodup_nil, fun _ h => by simp at h, fun _ h => by simp at h, fun n a c h _ => by simp at h, rfl, fun b hb => ?_⟩, .cons (.frl (vs := ns.map V.int) ?_ (repL_ints ns)) .nil, ?_⟩
  · have e : b = 0 := by simpa using hb
    subst e
    exact ⟨Nat.le_refl _, fun n c hn _ => absurd hn (Nat.not_lt_zero _)⟩
  · rcases hS with (h | ⟨o, h⟩) | h
    · rcases ho a with h2 | ⟨o, xs, h2⟩
      · rw [h2] at h; cases h
      · rw [h2] at h; cases h
    · exact .inl ⟨o, h⟩
    · exact .inr h
  · rw [e]
    intro v H' φ' _ _ r
    cases r with
    | bl _ => exact q H'
end Mi

namespace Mi
open PySem PySem.Spec PyProof.Rows L2

/-! ### what the top has written -/
/-- the def st stands under its name -/
structure DefAt (K : PySem.W.Frag) (mg : Str → Option Value) (x qual : Str) (st : Stmt) (ps : List Str) : Prop where
  ex : ∃ (f : Addr) (fd : FuncData), mg x = some (.ref f) ∧ Fun K x qual st f fd ∧ Binds K fd ps []
section
variable {P : Program} {w : World} {K : PySem.W.Frag} {mg : Str → Option Value} {base : Heap} {x qual : Str} {st : Stmt} {N ps : List Str} {k : Nat} {B : SM}
theorem DefAt.okV (D : DefAt K mg x qual st ps) (Sc : FnScope N ps (defScope st)) (hb : BodyOk P w K mg base N qual st k B) : CallOk P w K mg base (k + 1) x ps.length [] (runV N.length B) := by
  obtain ⟨f, fd, h1, h2, h3⟩ := D.ex
  exact ⟨f, fd, ps, [], [], h1, h2.kp, h3, .nil, fun _ _ => .nil, Mi.okV h2 Sc hb⟩
theorem DefAt.okF (D : DefAt K mg x qual st ps) (Sc : FnScope N ps (defScope st)) (hb : BodyOk P w K mg base N qual st k B) : CallOk P w K mg base (k + 1) x ps.length [] (runF N.length B) := by
  obtain ⟨f, fd, h1, h2, h3⟩ := D.ex
  exact ⟨f, fd, ps, [], [], h1, h2.kp, h3, .nil, fun _ _ => .nil, Mi.okF h2 Sc hb⟩
theorem DefAt.okL (D : DefAt K mg x qual st ps) (Sc : FnScope N ps (defScope st)) (hb : BodyOk P w K mg base N qual st k B) : CallOk P w K mg base (k + 1) x ps.length [] (runL N.length B) := by
  obtain ⟨f, fd, h1, h2, h3⟩ := D.ex
  exact ⟨f, fd, ps, [], [], h1, h2.kp, h3, .nil, fun _ _ => .nil, Mi.okL h2 Sc hb⟩
def badF : List D → Sto → R D := fun _ _ => .bad
theorem DefAt.bad (D : DefAt K mg x qual st ps) (n : Nat) : CallOk P w K mg base k x n [] badF := by
  obtain ⟨f, fd, h1, h2, h3⟩ := D.ex
  refine ⟨f, fd, ps, [], [], h1, h2.kp, h3, .nil, fun _ _ => .nil, fun vs H Q E h => ?_, fun A outer s H args us vs Q E hr he hb hv h => ?_⟩
  · obtain ⟨_, _, _, _, _, _, _, h⟩ := h; exact h.elim
  · obtain ⟨_, _, _, _, _, _, _, h⟩ := h; exact h.elim
end
/-- the law itself: its address, its promise -/
theorem DefAt.law {l : PySem.W.OpenLaw} {w : World} {K : PySem.W.Frag} {mg : Str → Option Value} {base : Heap} {x qual : Str} {st : Stmt} {f : Addr} {fd : FuncData} {p : Str} {N : List Str} {k : Nat} {B : SM} (F : Fun K x qual st f fd) (Sc : FnScope N [p] (defScope st)) (hb : BodyOk l.prog w K mg base N qual st k B)
    (hG : ∀ ns : List Int, ns.length ≤ 63 → ∃ S', runV N.length B [scr ns] .nil = .ok (.bl true) S') : FnOk l.prog w K mg base (L2.CX l.prog w) (k + 1) f fd [p] (spLaw K) := law_ok (Mi.okV F Sc hb) hG
theorem defAt_mk {K : PySem.W.Frag} {mg : Str → Option Value} {h : Heap} {x qual : Str} {st : Stmt} {ps : List Str} {f : Addr} {oc : Value} {od an : Option Addr} {osl : Array (Option Value)} {kV doc pm cdv ct : Value} (X : K.In h) (G : h.Ns mainGlobals mg)
    (a : PySem.W.nsIn K mainGlobals x = some (some (.ref f))) (l : K.lookup f = some ⟨oc, od, .func (PySem.W.fnOf x qual (defArgs st) (defBody st) (defScope st) .none kV doc pm an cdv ct), osl⟩) (c : PySem.W.codeIn K cdv qual = true) (k : PySem.W.keepIn K (.ref f) = true)
    (hb : ∀ (kV doc pm : Value) (an : Option Addr) (cdv ct : Value) (us : List Value), us.length = ps.length → bindArgs (PySem.W.fnOf x qual (defArgs st) (defBody st) (defScope st) .none kV doc pm an cdv ct) ⟨us, []⟩ = pure (ps.zip us)) : DefAt K mg x qual st ps := by
  have F := fun_mk (st := st) l c k
  exact ⟨f, _, PySem.W.mg_of X G a, F, F.binds hb⟩
/-- constants of the module -/
theorem glob_str {K : PySem.W.Frag} {mg : Str → Option Value} {h : Heap} {x z : Str} {t : Tok} (X : K.In h) (G : h.Ns mainGlobals mg) (a : PySem.W.nsIn K mainGlobals x = some (some (.str z t))) {l : List Nat} (hl : z.cps.toList = l) (g : goodS l = true) : Glob K mg x (.str l) := by
  subst hl
  exact ⟨.str z, _, PySem.W.mg_of X G a, ⟨t, rfl⟩, fun _ _ => .strOf z g⟩
theorem glob_int {K : PySem.W.Frag} {mg : Str → Option Value} {h : Heap} {x : Str} {i : Int} {t : Tok} (X : K.In h) (G : h.Ns mainGlobals mg) (a : PySem.W.nsIn K mainGlobals x = some (some (.int i t))) : Glob K mg x (.int i) := ⟨.int i, _, PySem.W.mg_of X G a, ⟨t, rfl⟩, fun _ _ => .int i⟩
/-- what a written value means -/
inductive WrL (K : PySem.W.Frag) (mg : Str → Option Value) : List D → List Value → Prop
  | nil : WrL K mg [] []
  | cons {d : D} {u : Value} {v : V} {ds : List D} {us : List Value} (r : RelV v u) (q : ∀ H φ, Rep K mg H φ d v) (t : WrL K mg ds us) : WrL K mg (d :: ds) (u :: us)
theorem WrL.reps {K : PySem.W.Frag} {mg : Str → Option Value} : ∀ {ds : List D} {us : List Value}, WrL K mg ds us → ∃ vs, Vals vs us ∧ ∀ H φ, RepL K mg H φ ds vs
  | _, _, .nil => ⟨[], .nil, fun _ _ => .nil⟩
  | _, _, .cons r q t => by
    obtain ⟨vs, h1, h2⟩ := t.reps
    exact ⟨_ :: vs, .cons r h1, fun H φ => .cons (q H φ) (h2 H φ)⟩
theorem wr_str {K : PySem.W.Frag} {mg : Str → Option Value} {z : Str} {t : Tok} {l : List Nat} {ds : List D} {us : List Value} (hl : z.cps.toList = l) (g : goodS l = true) (r : WrL K mg ds us) : WrL K mg (.str l :: ds) (.str z t :: us) := by
  subst hl
  exact .cons (v := .str z) ⟨t, rfl⟩ (fun _ _ => .strOf z g) r
theorem wr_int {K : PySem.W.Frag} {mg : Str → Option Value} {i : Int} {t : Tok} {ds : List D} {us : List Value} (r : WrL K mg ds us) : WrL K mg (.int i :: ds) (.int i t :: us) := .cons (v := .int i) ⟨t, rfl⟩ (fun _ _ => .int i) r
theorem glob_tup {K : PySem.W.Frag} {mg : Str → Option Value} {h : Heap} {x : Str} {a : Addr} {od : Option Addr} {its : Array Value} {n : Nat} {sl : Array (Option Value)} {ds : List D} (X : K.In h) (G : h.Ns mainGlobals mg) (e : PySem.W.nsIn K mainGlobals x = some (some (.ref a)))
    (l : K.lookup a = some ⟨.type "tuple", od, .seq its n, sl⟩) (hs : its.size ≤ sizeLine) (r : WrL K mg ds its.toList) : Glob K mg x (.tup ds) := by
  obtain ⟨vs, h1, h2⟩ := r.reps
  exact ⟨.ref a, _, PySem.W.mg_of X G e, rfl, fun H φ => .tup (.inr ⟨_, its, n, l, rfl, rfl, hs, h1⟩) (h2 H φ)⟩
/-! ### written dicts -/
/-- the module's dict x, its texts' keys -/
structure KdAt (K : PySem.W.Frag) (mg : Str → Option Value) (w : World) (x : Str) (kvs : List (List Nat × D)) : Prop where
  ex : ∃ (d : Addr) (es : Array DictEntry) (n : Nat), mg x = some (.ref d) ∧ KDict K w d es n ∧ ∀ p ∈ kvs, ∃ u v, PySem.W.nsIn K d ⟨p.1.toArray⟩ = some (some u) ∧ RelV v u ∧ ∀ H φ, Rep K mg H φ p.2 v
def kdG (kvs : List (List Nat × D)) : D → Option D
  | .str s => (kvs.find? fun p => decide (p.1 = s)).map (·.2)
  | _ => none
/-- X[e], X a dict of the module -/
def eKd (kvs : List (List Nat × D)) (f : EM) : EM := fun ρ S => (f ρ S).bind fun d S1 => .of S1 (kdG kvs d)
section
variable {X : Cx} {W : WX} {e : Expr} {f : EM} {pos p : Pos} {x : Str} {kvs : List (List Nat × D)}
theorem ix_kd {d : Addr} {es : Array DictEntry} {n : Nat} (Dk : KDict X.K X.w d es n) : IxR X (fun x y H Q => ∃ (z : Str) (u0 : Value) (v0 : V), x = .ref d ∧ y = .str z ∧ PySem.W.nsIn X.K d z = some (some u0) ∧ RelV v0 u0 ∧ Q v0 H) := by
  intro value slice pins s σ H x y v u Q I rx ry h hs
  obtain ⟨z, u0, v0, rfl, rfl, h1, h2, q⟩ := h
  have hT := kd_type Dk I
  cases rx
  unfold subscriptTail
  refine wpAny_bind (by
    rw [getitemInPython_of_ne hT.not_modules]
    refine wpAny_bind (wpAny_specialOf hT PySem.F.slot_dict_getitem.lookup ?_)
    have fin : wpAny (model X.prog X.w) X.A (subscripted slice false (.ref d) u) (fun r s3 => wpAny (model X.prog X.w) X.A (letTemporaryGo value (.ref d) r >>= fun _ => pure r) (EP X pins σ Q) X.xe s3) X.xe s := by
      rw [hs]
      exact wpAny_operating (thn (op_item_kd Dk pins s σ H (.ref d) (.str z) _ u _ I rfl ry ⟨z, u0, v0, rfl, rfl, h1, h2, q⟩) fun r s3 hr => wpAny_bind (wpAny_letTemporaryGo (wpAny_pure hr)))
    first
      | exact wpAny_pure (wpAny_bind fin)
      | exact wpAny_bind (wpAny_pure (wpAny_bind fin))
      | exact wpAny_bind fin)
theorem de_kd (T : KdAt X.K X.mg X.w x kvs) (he : DE X W e f) (hg : Gl X x := by rfl) (hd : (x == ("__debug__" : Str)) = false := by decide) (hs : PlainIx e := by exact fun _ _ => rfl) : DE X W (.Subscript (.Name x p) e pos) (eKd kvs f) := by
  obtain ⟨d, es, n, hm, hk, hall⟩ := T.ex
  refine (pe_ix (ix_kd hk) (pe_glob (v := .ref d) hg hm rfl hd) he hs).wk fun σ H Q h => ?_
  obtain ⟨φ, bs, ρ, S, s, en, h⟩ := h
  show tG X W Rep f σ H _
  refine tG_then s en h fun d1 S1 v H1 φ1 x1 s1 e1 r1 h1 => ?_
  obtain ⟨d2, e2, h2⟩ := of_post h1
  cases r1 with
  | str z g =>
    simp only [kdG] at e2
    cases q : kvs.find? fun p => decide (p.1 = z) with
    | none => rw [q] at e2; cases e2
    | some p =>
      rw [q] at e2
      cases e2
      have hp := List.mem_of_find?_eq_some q
      have hz : p.1 = z := by simpa using List.find?_some q
      obtain ⟨u, v, g1, g2, g3⟩ := hall p hp
      subst hz
      exact ⟨_, u, v, rfl, rfl, g1, g2, PostG.done s1 (g3 _ _) h2⟩
  | _ => cases e2
end
/-! ### small ones -/
section
variable {X : Cx} {W : WX} {a b : Expr} {f g : EM} {pos : Pos}
theorem de_strL {x : Str} {l : List Nat} {j pos} (hl : x.cps.toList = l := by decide +kernel) (g : goodS l = true := by decide +kernel) : DE X W (.Constant (.str x) j pos) (eC (.str l)) := by
  subst hl
  exact de_str g
def dNeg (d : D) (S : Sto) : R D := match d with
  | .int i => .ok (.int (-i)) S
  | _ => .bad
theorem de_neg (ha : DE X W a f) : DE X W (.UnaryOp .USub a pos) (eUn f dNeg) := (pe_un un_neg ha).wk fun σ H Q h => by
  obtain ⟨φ, bs, ρ, S, s, en, h⟩ := h
  refine tG_then s en h fun d S1 v H1 φ1 x1 s1 e1 r1 h1 => ?_
  cases r1 with
  | int i => exact ⟨i, rfl, PostG.done s1 (.int _) h1⟩
  | _ => exact h1.elim
/-- a * b of ints -/
abbrev dMul := dI CMul fun i j => i * j
theorem de_mul (ha : DE X W a f) (hb : DE X W b g) : DE X W (.BinOp a .Mult b pos) (eBin f g dMul) := de_bin op_mul dI_ok ha hb
end
end Mi

/-! Ma0: reckoning with the meanings. -/
namespace Mi
open PySem PySem.Spec PyProof.Rows L2
noncomputable instance decD : DecidableEq D := fun _ _ => Classical.propDecidable _
/-! ### running -/
section
variable {f g h : EM} {a b : SM} {t u : TM} {ρ ρ' : Env} {S S' : Sto} {d e x y : D} {i j : Nat} {α β : Type}
@[simp] theorem x_bind_ok (a : α) (S : Sto) (k : α → Sto → R β) : R.bind (.ok a S) k = k a S := (rfl)
@[simp] theorem x_bind_ex (e : D) (S : Sto) (k : α → Sto → R β) : R.bind (.ex e S) k = .ex e S := (rfl)
@[simp] theorem x_bindS_ok (a : α) (S : Sto) (k : α → Sto → SR) : R.bindS ρ (.ok a S) k = k a S := (rfl)
@[simp] theorem x_bindS_ex (e : D) (S : Sto) (k : α → Sto → SR) : R.bindS ρ (.ex e S) k = .ex e ρ S := (rfl)
@[simp] theorem x_of_some (a : α) : R.of S (some a) = .ok a S := (rfl)
@[simp] theorem x_var : eVar i ρ S = (match ρ[i]? with
  | some (some d) => .ok d S
  | _ => .bad) := (rfl)
@[simp] theorem x_C : eC d ρ S = .ok d S := (rfl)
@[simp] theorem x_bin {k : D → D → Sto → R D} : eBin f g k ρ S = (f ρ S).bind fun x S1 => (g ρ S1).bind fun y S2 => k x y S2 := (rfl)
@[simp] theorem x_un {k : D → Sto → R D} : eUn f k ρ S = (f ρ S).bind k := (rfl)
@[simp] theorem x_tru : eTru f ρ S = (f ρ S).bind fun d S1 => .of S1 (truS S1 d) := (rfl)
@[simp] theorem x_tst : eTst f ρ S = (f ρ S).bind fun d S1 => .of S1 (blD d) := (rfl)
@[simp] theorem x_not : tNotM t ρ S = (t ρ S).bind fun b S1 => .ok (!b) S1 := (rfl)
@[simp] theorem x_and : tAndM t u ρ S = (t ρ S).bind fun b S1 => if b = true then u ρ S1 else .ok false S1 := (rfl)
@[simp] theorem x_or : tOrM t u ρ S = (t ρ S).bind fun b S1 => if b = true then .ok true S1 else u ρ S1 := (rfl)
@[simp] theorem x_orV : eOrV f g ρ S = (f ρ S).bind fun d S1 => (match truS S1 d with
  | some true => .ok d S1
  | some false => g ρ S1
  | none => .bad) := (rfl)
@[simp] theorem x_andV : eAndV f g ρ S = (f ρ S).bind fun d S1 => (match truS S1 d with
  | some true => g ρ S1
  | some false => .ok d S1
  | none => .bad) := (rfl)
@[simp] theorem x_notV : eNotV f ρ S = (f ρ S).bind fun d S1 => (match truS S1 d with
  | some k => .ok (.bl (!k)) S1
  | none => .bad) := (rfl)
@[simp] theorem x_if : eIf t f g ρ S = (t ρ S).bind fun b S1 => if b = true then f ρ S1 else g ρ S1 := (rfl)
@[simp] theorem x_chain {k k' : D → D → Sto → R D} : eChain f g h k k' ρ S = (f ρ S).bind fun x S1 => (g ρ S1).bind fun y S2 => (k x y S2).bind fun z S3 => (match blD z with
  | some true => (h ρ S3).bind fun w S4 => k' y w S4
  | some false => .ok (.bl false) S3
  | none => .bad) := (rfl)
@[simp] theorem x_l0 : aList [] ρ S = .ok [] S := (rfl)
@[simp] theorem x_l1 {fs : List EM} : aList (f :: fs) ρ S = (f ρ S).bind fun x S1 => (aList fs ρ S1).bind fun xs S2 => .ok (x :: xs) S2 := (rfl)
@[simp] theorem x_app {fs : List EM} {k : List D → Sto → R D} : eApp fs k ρ S = (aList fs ρ S).bind k := (rfl)
@[simp] theorem x_call {fs : List EM} {ds : List D} {k : List D → Sto → R D} : eCall fs ds k ρ S = (aList fs ρ S).bind fun xs S1 => k (xs ++ ds) S1 := (rfl)
@[simp] theorem x_tup {ds : List D} : dTup ds S = .ok (.tup ds) S := (rfl)
@[simp] theorem x_lstF {ds : List D} : dLst false ds S = .ok (.lst ds) S := (rfl)
@[simp] theorem x_lstT {ds : List D} : dLst true ds S = .ok (.ref S.new) (S.add (.lst ds)) := (rfl)
@[simp] theorem x_mkF {ds : List D} : mkL false ds S = .ok (.lst ds) S := (rfl)
@[simp] theorem x_mkT {ds : List D} : mkL true ds S = .ok (.ref S.new) (S.add (.lst ds)) := (rfl)
@[simp] theorem x_mdF {ds : List (Key × D)} : mkD false ds S = .ok (.dic ds) S := (rfl)
@[simp] theorem x_mdT {ds : List (Key × D)} : mkD true ds S = .ok (.ref S.new) (S.add (.dic ds)) := (rfl)
@[simp] theorem x_b1 {k : Sto → D → Option D} : b1 k [d] S = .of S (k S d) := (rfl)
@[simp] theorem x_intI {n : Int} : intG S (.int n) = some (.int n) := (rfl)
@[simp] theorem x_absI {n : Int} : absG S (.int n) = some (.int (if n < 0 then -n else n)) := (rfl)
@[simp] theorem x_isT {T : String} : eIsT T f ρ S = (f ρ S).bind fun d S1 => (match tyS S1 d with
  | some t => .ok (.bl (isTy T t)) S1
  | none => .bad) := (rfl)
@[simp] theorem x_oN : oNone ρ S = .ok none S := (rfl)
@[simp] theorem x_oS : oSome f ρ S = (f ρ S).bind fun d S1 => .of S1 ((intD d).map some) := (rfl)
@[simp] theorem x_sl {c : Bool} {lo hi : Env → Sto → R (Option Int)} : eSl c f lo hi ρ S = (f ρ S).bind fun x S1 => (lo ρ S1).bind fun l S2 => (hi ρ S2).bind fun h S3 => dSl c x l h S3 := (rfl)
@[simp] theorem x_slT {c : Bool} {xs : List D} {lo hi : Option Int} : dSl c (.tup xs) lo hi S = .ok (.tup (cutG xs lo hi)) S := (rfl)
@[simp] theorem x_slL {c : Bool} {xs : List D} {lo hi : Option Int} : dSl c (.lst xs) lo hi S = mkL c (cutG xs lo hi) S := (rfl)
@[simp] theorem x_intD {n : Int} : intD (.int n) = some n := (rfl)
@[simp] theorem x_blD {b : Bool} : blD (.bl b) = some b := (rfl)
@[simp] theorem x_truB {b : Bool} : truS S (.bl b) = some b := (rfl)
@[simp] theorem x_kd {kvs : List (List Nat × D)} : eKd kvs f ρ S = (f ρ S).bind fun d S1 => .of S1 (kdG kvs d) := (rfl)
@[simp] theorem x_kdG {kvs : List (List Nat × D)} {s : List Nat} : kdG kvs (.str s) = (kvs.find? fun p => decide (p.1 = s)).map (·.2) := (rfl)
-- statements
@[simp] theorem x_skip : sSkip ρ S = .nx ρ S := (rfl)
@[simp] theorem x_seq : sSeq a b ρ S = (match a ρ S with
  | .nx ρ' S' => b ρ' S'
  | r => r) := (rfl)
@[simp] theorem x_expr : sExpr f ρ S = (f ρ S).bindS ρ fun _ S1 => .nx ρ S1 := (rfl)
@[simp] theorem x_ret : sRet f ρ S = (f ρ S).bindS ρ fun d S1 => .rt d S1 := (rfl)
@[simp] theorem x_sif : sIf t a b ρ S = (t ρ S).bindS ρ fun k S1 => if k = true then a ρ S1 else b ρ S1 := (rfl)
@[simp] theorem x_asg {i : Nat} : sAsg f (gtName i) ρ S = (f ρ S).bindS ρ fun d S1 => .nx (ρ.set i (some d)) S1 := (rfl)
theorem x_asgG {t : GM} : sAsg f t ρ S = (f ρ S).bindS ρ fun d S1 => (match t d ρ S1 with
  | some ρ' => .nx ρ' S1
  | none => .bad) := (rfl)
@[simp] theorem x_par {fs : List EM} : sPar i j fs ρ S = (aList fs ρ S).bindS ρ fun ds S1 => (match ds with
  | [d, d'] => .nx ((ρ.set i (some d)).set j (some d')) S1
  | _ => .bad) := (rfl)
@[simp] theorem x_setIx {fo fi fv : EM} : sSetIx fo fi fv ρ S = (fv ρ S).bindS ρ fun v S1 => (fo ρ S1).bindS ρ fun o S2 => (fi ρ S2).bindS ρ fun i S3 => (match setS S3 o i v with
  | some S4 => .nx ρ S4
  | none => .bad) := (rfl)
@[simp] theorem x_for {im : IM} {gt : GM} : sFor im gt a ρ S = (im ρ S).bindS ρ fun w S1 => sForN gt a w.2 w.1 w.1 ρ S1 := (rfl)
@[simp] theorem x_iVal : iVal f ρ S = (f ρ S).bind fun d S1 => .of S1 (itS S1 d) := (rfl)
@[simp] theorem x_itT {xs : List D} : itS S (.tup xs) = some (xs, none) := (rfl)
@[simp] theorem x_itL {xs : List D} : itS S (.lst xs) = some (xs, none) := (rfl)
@[simp] theorem x_itF {xs : List D} : itS S (.frl xs) = some (xs, none) := (rfl)
@[simp] theorem x_iR1 : iRange [f] ρ S = (f ρ S).bind fun d S1 => (match d with
  | .int j => if -(2 ^ 62) ≤ j ∧ j < 2 ^ 62 then .ok (rangeL 0 j.toNat, none) S1 else .bad
  | _ => .bad) := by
  show (R.bind (R.bind (f ρ S) _) _) = _
  cases f ρ S with
  | ok d S1 => cases d <;> rfl
  | ex _ _ => rfl
  | bad => rfl
@[simp] theorem x_kInt {n : Int} : keyD (.int n) = some (.inl n) := (rfl)
@[simp] theorem x_kStr {s : List Nat} : keyD (.str s) = some (.inr ⟨s.toArray⟩) := (rfl)
@[simp] theorem x_disp {c : Bool} {fs : List (EM × EM)} : eDisp c fs ρ S = (pList fs ρ S).bind fun ps S1 => mkD c (mergeD [] ps) S1 := (rfl)
@[simp] theorem x_dnew {c : Bool} : eDnew c ρ S = mkD c [] S := (rfl)
@[simp] theorem x_p0 : pList [] ρ S = .ok [] S := (rfl)
@[simp] theorem x_p1 {r : List (EM × EM)} : pList ((f, g) :: r) ρ S = (f ρ S).bind fun x S1 => (match keyD x with
  | some kk => (g ρ S1).bind fun y S2 => (pList r ρ S2).bind fun ps S3 => .ok ((kk, y) :: ps) S3
  | none => .bad) := (rfl)
@[simp] theorem x_lc {c : Bool} {im : IM} {gt : GM} {vs : List Nat} : eLc c im gt t f vs ρ S = (im ρ S).bind fun w S1 => (match lcN gt t f w.2 w.1 w.1 [] (wipeE ρ vs) S1 with
  | .ok acc S2 => mkL c acc S2
  | _ => .bad) := (rfl)
@[simp] theorem x_yes : tYesM ρ S = .ok true S := (rfl)
-- operators
@[simp] theorem x_addI {m n : Int} {c : Bool} : dAdd c (.int m) (.int n) S = .ok (.int (m + n)) S := (rfl)
@[simp] theorem x_addL {m n : List D} {c : Bool} : dAdd c (.lst m) (.lst n) S = if m.length + n.length ≤ sizeLine then mkL c (m ++ n) S else .bad := (rfl)
@[simp] theorem x_addT {m n : List D} {c : Bool} : dAdd c (.tup m) (.tup n) S = if m.length + n.length ≤ sizeLine then .ok (.tup (m ++ n)) S else .bad := (rfl)
@[simp] theorem x_subI {m n : Int} : dSub (.int m) (.int n) S = .ok (.int (m - n)) S := (rfl)
@[simp] theorem x_dI {C : Int → Int → Prop} [∀ i j, Decidable (C i j)] {k : Int → Int → Int} {m n : Int} : dI C k (.int m) (.int n) S = if C m n then .ok (.int (k m n)) S else .bad := (rfl)
@[simp] theorem x_ltI {m n : Int} : dLt (.int m) (.int n) S = .ok (.bl (decide (m < n))) S := (rfl)
@[simp] theorem x_gtI {m n : Int} : dGt (.int m) (.int n) S = .ok (.bl (decide (n < m))) S := (rfl)
@[simp] theorem x_leI {m n : Int} : dLe (.int m) (.int n) S = .ok (.bl (decide (m ≤ n))) S := by
  show R.ok (D.bl (!decide (n < m))) S = _
  by_cases q : m ≤ n
  · have : ¬ n < m := by omega
    simp [q, this]
  · have : n < m := by omega
    simp [q, this]
@[simp] theorem x_geI {m n : Int} : dGe (.int m) (.int n) S = .ok (.bl (decide (n ≤ m))) S := x_leI
@[simp] theorem x_isN : dIsN d .non S = .ok (.bl (isN d)) S := (rfl)
@[simp] theorem x_notN : dNotN d .non S = .ok (.bl (!isN d)) S := (rfl)
end
/-! ### == -/
mutual
def Pl : D → Bool
  | .non => true | .int _ => true | .str _ => true
  | .tup xs => PlL xs
  | .lst xs => PlL xs
  | _ => false
def PlL : List D → Bool
  | [] => true
  | x :: xs => Pl x && PlL xs
end
mutual
def dp : D → Nat
  | .tup xs => dpL xs + 1
  | .lst xs => dpL xs + 1
  | _ => 0
def dpL : List D → Nat
  | [] => 0
  | x :: xs => max (dp x) (dpL xs)
end
theorem PlL_all {xs : List D} : PlL xs = true ↔ ∀ x ∈ xs, Pl x = true := by
  induction xs with
  | nil => simp [PlL]
  | cons a r ih => simp [PlL, ih]
theorem dpL_le {xs : List D} {n : Nat} : dpL xs ≤ n ↔ ∀ x ∈ xs, dp x ≤ n := by
  induction xs with
  | nil => simp [dpL]
  | cons a r ih => simp [dpL, ih, Nat.max_le]
mutual
theorem pyD_pl : ∀ {d : D}, Pl d = true → ∃ p, pyD d = some p ∧ p.depth = dp d
  | .non, _ => ⟨_, rfl, rfl⟩
  | .int _, _ => ⟨_, rfl, rfl⟩
  | .str _, _ => ⟨_, rfl, rfl⟩
  | .tup xs, h => by
    obtain ⟨ps, e, q⟩ := pyL_pl (xs := xs) h
    exact ⟨.tuple ps, by rw [pyD, e]; rfl, by rw [PyData.depth, q, dp]⟩
  | .lst xs, h => by
    obtain ⟨ps, e, q⟩ := pyL_pl (xs := xs) h
    exact ⟨.list ps, by rw [pyD, e]; rfl, by rw [PyData.depth, q, dp]⟩
theorem pyL_pl : ∀ {xs : List D}, PlL xs = true → ∃ ps, pyL xs = some ps ∧ PyData.depthAll ps = dpL xs
  | [], _ => ⟨[], rfl, rfl⟩
  | x :: xs, h => by
    simp only [PlL, Bool.and_eq_true] at h
    obtain ⟨p, e, q⟩ := pyD_pl h.1
    obtain ⟨ps, e2, q2⟩ := pyL_pl h.2
    exact ⟨p :: ps, by rw [pyL, e, e2], by rw [PyData.depthAll, q, q2, dpL]⟩
end
mutual
theorem eqv_pl : ∀ {x y : D} {p q : PyData}, Pl x = true → Pl y = true → pyD x = some p → pyD y = some q → (PyData.eqv p q = true ↔ x = y)
  | .non, y, p, q, _, hy, e1, e2 => by
    cases e1
    cases y <;> simp only [Pl] at hy <;> simp only [pyD, Option.some.injEq, Option.map_eq_some_iff, reduceCtorEq] at e2
    all_goals first
      | (cases hy; done)
      | (subst e2; simp [PyData.eqv]; done)
      | (obtain ⟨_, _, e2⟩ := e2; subst e2; simp [PyData.eqv])
  | .int _, y, p, q, _, hy, e1, e2 => by
    cases e1
    cases y <;> simp only [Pl] at hy <;> simp only [pyD, Option.some.injEq, Option.map_eq_some_iff, reduceCtorEq] at e2
    all_goals first
      | (cases hy; done)
      | (subst e2; simp [PyData.eqv]; done)
      | (obtain ⟨_, _, e2⟩ := e2; subst e2; simp [PyData.eqv])
  | .str _, y, p, q, _, hy, e1, e2 => by
    cases e1
    cases y <;> simp only [Pl] at hy <;> simp only [pyD, Option.some.injEq, Option.map_eq_some_iff, reduceCtorEq] at e2
    all_goals first
      | (subst e2; simp [PyData.eqv]; done)
      | (obtain ⟨_, _, e2⟩ := e2; subst e2; simp [PyData.eqv])
  | .tup xs, y, p, q, hx, hy, e1, e2 => by
    obtain ⟨ps, e, _⟩ := pyL_pl (xs := xs) hx
    rw [pyD, e] at e1
    cases e1
    cases y with
    | tup ys =>
      obtain ⟨qs, e', _⟩ := pyL_pl (xs := ys) hy
      rw [pyD, e'] at e2
      cases e2
      simp only [PyData.eqv, D.tup.injEq]
      exact eqvAll_pl hx hy e e'
    | lst ys =>
      obtain ⟨qs, e', _⟩ := pyL_pl (xs := ys) hy
      rw [pyD, e'] at e2
      cases e2
      simp [PyData.eqv]
    | non => cases e2; simp [PyData.eqv]
    | int _ => cases e2; simp [PyData.eqv]
    | str _ => cases e2; simp [PyData.eqv]
    | bl _ => cases hy
    | dic _ => cases hy
    | obj _ _ => cases hy
    | ref _ => cases hy
    | frl _ => cases hy
  | .lst xs, y, p, q, hx, hy, e1, e2 => by
    obtain ⟨ps, e, _⟩ := pyL_pl (xs := xs) hx
    rw [pyD, e] at e1
    cases e1
    cases y with
    | lst ys =>
      obtain ⟨qs, e', _⟩ := pyL_pl (xs := ys) hy
      rw [pyD, e'] at e2
      cases e2
      simp only [PyData.eqv, D.lst.injEq]
      exact eqvAll_pl hx hy e e'
    | tup ys =>
      obtain ⟨qs, e', _⟩ := pyL_pl (xs := ys) hy
      rw [pyD, e'] at e2
      cases e2
      simp [PyData.eqv]
    | non => cases e2; simp [PyData.eqv]
    | int _ => cases e2; simp [PyData.eqv]
    | str _ => cases e2; simp [PyData.eqv]
    | bl _ => cases hy
    | dic _ => cases hy
    | obj _ _ => cases hy
    | ref _ => cases hy
    | frl _ => cases hy
theorem eqvAll_pl : ∀ {x y : List D} {p q : List PyData}, PlL x = true → PlL y = true → pyL x = some p → pyL y = some q → (PyData.eqvAll p q = true ↔ x = y)
  | [], [], _, _, _, _, e1, e2 => by cases e1; cases e2; simp [PyData.eqvAll]
  | [], y :: ys, _, _, _, hy, e1, e2 => by
    obtain ⟨qs, e', _⟩ := pyL_pl hy
    cases e1
    simp only [PlL, Bool.and_eq_true] at hy
    obtain ⟨p, e, _⟩ := pyD_pl hy.1
    obtain ⟨ps, e3, _⟩ := pyL_pl hy.2
    rw [pyL, e, e3] at e2
    cases e2
    simp [PyData.eqvAll]
  | y :: ys, [], _, _, hy, _, e2, e1 => by
    cases e1
    simp only [PlL, Bool.and_eq_true] at hy
    obtain ⟨p, e, _⟩ := pyD_pl hy.1
    obtain ⟨ps, e3, _⟩ := pyL_pl hy.2
    rw [pyL, e, e3] at e2
    cases e2
    simp [PyData.eqvAll]
  | x :: xs, y :: ys, _, _, hx, hy, e1, e2 => by
    simp only [PlL, Bool.and_eq_true] at hx hy
    obtain ⟨p, e, _⟩ := pyD_pl hx.1
    obtain ⟨ps, e3, _⟩ := pyL_pl hx.2
    obtain ⟨q, e', _⟩ := pyD_pl hy.1
    obtain ⟨qs, e3', _⟩ := pyL_pl hy.2
    rw [pyL, e, e3] at e1
    rw [pyL, e', e3'] at e2
    cases e1
    cases e2
    simp only [PyData.eqvAll, Bool.and_eq_true, List.cons.injEq]
    rw [eqv_pl hx.1 hy.1 e e', eqvAll_pl hx.2 hy.2 e3 e3']
end
theorem pyS_pl {S : Sto} {d : D} (h : Pl d = true) : pyS S d = pyD d := by
  cases d <;> first | rfl | cases h
theorem eqS_pl {S : Sto} {x y : D} (hx : Pl x = true) (hy : Pl y = true) (hd : dp x ≤ 64 ∨ dp y ≤ 64) : eqS S x y = some (decide (x = y)) := by
  obtain ⟨p, e1, d1⟩ := pyD_pl hx
  obtain ⟨q, e2, d2⟩ := pyD_pl hy
  have := eqv_pl hx hy e1 e2
  unfold eqS
  rw [pyS_pl hx, pyS_pl hy, e1, e2]
  simp only
  rw [if_pos (by omega)]
  by_cases h : x = y
  · rw [this.mpr h, decide_eq_true h]
  · have h2 : PyData.eqv p q = false := by
      cases z : PyData.eqv p q with
      | false => rfl
      | true => exact absurd (this.mp z) h
    rw [h2, decide_eq_false h]
theorem dEq_pl {S : Sto} {x y : D} (hx : Pl x = true) (hy : Pl y = true) (hd : dp x ≤ 64 ∨ dp y ≤ 64) : dEq x y S = .ok (.bl (decide (x = y))) S := by
  unfold dEq; rw [eqS_pl hx hy hd]
theorem dNe_pl {S : Sto} {x y : D} (hx : Pl x = true) (hy : Pl y = true) (hd : dp x ≤ 64 ∨ dp y ≤ 64) : dNe x y S = .ok (.bl (!decide (x = y))) S := by
  unfold dNe; rw [eqS_pl hx hy hd]
@[simp] theorem x_eqStr {S : Sto} {a b : List Nat} : dEq (.str a) (.str b) S = .ok (.bl (decide (a = b))) S := by
  rw [dEq_pl rfl rfl (.inl (Nat.zero_le _))]; simp
@[simp] theorem x_neStr {S : Sto} {a b : List Nat} : dNe (.str a) (.str b) S = .ok (.bl (!decide (a = b))) S := by
  rw [dNe_pl rfl rfl (.inl (Nat.zero_le _))]; simp
@[simp] theorem x_eqInt {S : Sto} {a b : Int} : dEq (.int a) (.int b) S = .ok (.bl (decide (a = b))) S := by
  rw [dEq_pl rfl rfl (.inl (Nat.zero_le _))]; simp
@[simp] theorem x_neInt {S : Sto} {a b : Int} : dNe (.int a) (.int b) S = .ok (.bl (!decide (a = b))) S := by
  rw [dNe_pl rfl rfl (.inl (Nat.zero_le _))]; simp
@[simp] theorem x_eqBl {S : Sto} {a b : Bool} : dEq (.bl a) (.bl b) S = .ok (.bl (a == b)) S := by
  cases a <;> cases b <;> rfl
@[simp] theorem x_neBl {S : Sto} {a b : Bool} : dNe (.bl a) (.bl b) S = .ok (.bl (!(a == b))) S := by
  cases a <;> cases b <;> rfl
theorem inS_pl {S : Sto} {x : D} {ys : List D} (hx : Pl x = true) (hy : PlL ys = true) (hd : dp x ≤ 64 ∨ dpL ys ≤ 64) (y : D) (e : y = .tup ys ∨ y = .lst ys) : inS S x y = some (decide (x ∈ ys)) := by
  obtain ⟨p, e1, d1⟩ := pyD_pl hx
  obtain ⟨qs, e2, d2⟩ := pyL_pl hy
  have hs : dicS S y = none ∧ seqS S y = some ys := by rcases e with rfl | rfl <;> exact ⟨rfl, rfl⟩
  have h0 : inS S x y = match pyS S x, pyL ys with
        | some p, some ps => if min (PyData.depthAll ps) p.depth ≤ 64 then some (ps.any fun q => PyData.eqv q p) else none
        | _, _ => none := by rcases e with rfl | rfl <;> rfl
  rw [h0, pyS_pl hx, e1, e2]
  simp only
  rw [if_pos (by omega)]
  congr 1
  clear h0 hs e d1 d2 hd
  induction ys generalizing qs with
  | nil => cases e2; simp
  | cons a r ih =>
    simp only [PlL, Bool.and_eq_true] at hy
    obtain ⟨q, e3, _⟩ := pyD_pl hy.1
    obtain ⟨qs', e4, _⟩ := pyL_pl hy.2
    rw [pyL, e3, e4] at e2
    cases e2
    rw [List.any_cons, ih hy.2 qs' e4]
    have := eqv_pl hy.1 hx e3 e1
    by_cases h : a = x
    · subst h
      rw [this.mpr rfl]; simp
    · have h2 : PyData.eqv q p = false := by
        cases z : PyData.eqv q p with
        | false => rfl
        | true => exact absurd (this.mp z) h
      rw [h2]
      have h' : ¬ x = a := fun z => h z.symm
      simp [h']
theorem PlL_str (l : List (List Nat)) : PlL (l.map D.str) = true := by
  induction l with
  | nil => rfl
  | cons a r ih => simpa [PlL, Pl] using ih
@[simp] theorem x_inT2 {S : Sto} {a b c : List Nat} : dIn (.str a) (.tup [.str b, .str c]) S = .ok (.bl (decide (a = b) || decide (a = c))) S := by
  unfold dIn
  rw [inS_pl (ys := [.str b, .str c]) rfl rfl (.inl (Nat.zero_le _)) _ (.inl rfl)]
  simp
/-! ### the store -/
section
variable {S S' T : Sto} {n m : Nat} {c : Cell}
@[simp] theorem get_push : S.push.get n = S.get n := by rw [Sto.get_all, Sto.get_all, push_all]
@[simp] theorem new_push : S.push.new = S.new := by rw [Sto.new_all, Sto.new_all, push_all]
theorem pop_push (h : S.old.length = T.old.length) : S.pop T.push = T := by
  unfold Sto.pop Sto.push
  rw [h]
  simp
@[simp] theorem pop_push_self : S.pop S.push = S := pop_push rfl
/-- all but the cell m stays -/
structure Sam (m : Nat) (S S' : Sto) : Prop where
  lo : S'.old.length = S.old.length
  lt : S'.top.length = S.top.length
  g : ∀ n, n ≠ m → S'.get n = S.get n
theorem Sam.refl : Sam m S S := ⟨rfl, rfl, fun _ _ => rfl⟩
theorem Sam.trans (a : Sam m S S') (b : Sam m S' T) : Sam m S T := ⟨b.lo.trans a.lo, b.lt.trans a.lt, fun n h => (b.g n h).trans (a.g n h)⟩
theorem Sam.set : Sam m S (S.set m c) := by
  refine ⟨Sto.set_old S m c, ?_, fun n h => ?_⟩
  · unfold Sto.set; split <;> simp
  · rw [Sto.get_all, Sto.get_all, Sto.set_all, List.getElem?_set_ne (fun q => h q.symm)]
theorem Sam.new (a : Sam m S S') : S'.new = S.new := by unfold Sto.new; rw [a.lo, a.lt]
theorem get_set (h : m < S.new) : (S.set m c).get m = some c := by
  rw [Sto.get_all, Sto.set_all, List.getElem?_set_self (by rw [← Sto.new_all]; exact h)]
theorem get_lt (h : S.get m = some c) : m < S.new := by
  rw [Sto.get_all] at h
  rw [Sto.new_all]
  exact (List.getElem?_eq_some_iff.mp h).1
theorem get_add : (S.add c).get S.new = some c := by
  rw [Sto.get_all, Sto.add_all, Sto.new_all, List.getElem?_append_right (Nat.le_refl _)]; simp
theorem get_add_lt (h : n < S.new) : (S.add c).get n = S.get n := by
  rw [Sto.get_all, Sto.get_all, Sto.add_all, List.getElem?_append_left (by rw [← Sto.new_all]; exact h)]
theorem new_add : (S.add c).new = S.new + 1 := by
  rw [Sto.new_all, Sto.new_all, Sto.add_all]; simp
/-- behind a frame that changed the cell m -/
theorem Sam.pop (a : Sam m S.push S') (hT : S'.top = []) : Sam m S (S.pop S') ∧ ∀ n, (S.pop S').get n = S'.get n := by
  have h1 : S'.old.length = (S.old ++ S.top).length := a.lo
  have hall : (S.pop S').all = S'.old := by
    unfold Sto.pop Sto.all
    exact List.take_append_drop _ _
  have h2 : S'.all = S'.old := by unfold Sto.all; rw [hT, List.append_nil]
  have hg : ∀ n, (S.pop S').get n = S'.get n := fun n => by rw [Sto.get_all, Sto.get_all, hall, h2]
  refine ⟨⟨?_, ?_, fun n h => ?_⟩, hg⟩
  · show (S'.old.take S.old.length).length = _
    rw [List.length_take, h1, List.length_append]; omega
  · show (S'.old.drop S.old.length).length = _
    rw [List.length_drop, h1, List.length_append]; omega
  · rw [hg, a.g n h]
    exact get_push
end
end Mi

/-! Ma1: reading and writing cells, loops, the laws' own draws. -/
namespace Mi
open PySem PySem.Spec PyProof.Rows L2
section
variable {S S' T : Sto} {n m : Nat} {c : Cell} {xs ys : List D} {kvs : List (Key × D)} {d v : D} {i : Int}
@[simp] theorem x_ixT : dIx (.tup xs) (.int i) S = (match atI xs i with
  | some d => .ok d S
  | none => .bad) := (rfl)
@[simp] theorem x_ixL : dIx (.lst xs) (.int i) S = (match atI xs i with
  | some d => .ok d S
  | none => .bad) := (rfl)
@[simp] theorem x_ixF : dIx (.frl xs) (.int i) S = (match atI xs i with
  | some d => .ok d S
  | none => .bad) := (rfl)
theorem x_ixR (h : S.get n = some (.lst xs)) : dIx (.ref n) (.int i) S = (match atI xs i with
  | some d => .ok d S
  | none => .bad) := by
  unfold dIx ixS
  simp only [dicS, seqS, lstS, h, intD]
  try (cases atI xs i <;> rfl)
theorem x_ixD {k : D} (h : S.get n = some (.dic kvs)) : dIx (.ref n) k S = (match keyD k with
  | some q => (match valD kvs q with
    | some d => .ok d S
    | none => .bad)
  | none => .bad) := by
  unfold dIx ixS
  simp only [dicS, h]
  cases keyD k with
  | none => rfl
  | some q => rfl
@[simp] theorem x_ixDv {k : D} : dIx (.dic kvs) k S = (match keyD k with
  | some q => (match valD kvs q with
    | some d => .ok d S
    | none => .bad)
  | none => .bad) := by
  unfold dIx ixS
  simp only [dicS]
  cases keyD k with
  | none => rfl
  | some q => rfl
theorem atI_nat {α : Type} {l : List α} {j : Nat} : atI l (j : Int) = l[j]? := by
  unfold atI ixN
  rw [if_pos (by omega)]
  by_cases h : (j : Int) < l.length
  · rw [if_pos h]; simp
  · rw [if_neg h]
    have : l.length ≤ j := by omega
    simp [this]
@[simp] theorem atI_0 {α : Type} {a : α} {l : List α} : atI (a :: l) 0 = some a := atI_nat (j := 0)
@[simp] theorem atI_1 {α : Type} {a b : α} {l : List α} : atI (a :: b :: l) 1 = some b := atI_nat (j := 1)
@[simp] theorem atI_2 {α : Type} {a b c : α} {l : List α} : atI (a :: b :: c :: l) 2 = some c := atI_nat (j := 2)
@[simp] theorem atI_3 {α : Type} {a b c d : α} {l : List α} : atI (a :: b :: c :: d :: l) 3 = some d := atI_nat (j := 3)
@[simp] theorem atI_4 {α : Type} {a b c d e : α} {l : List α} : atI (a :: b :: c :: d :: e :: l) 4 = some e := atI_nat (j := 4)
@[simp] theorem cut_1 {α : Type} {a : α} {l : List α} : cutG (a :: l) (some 1) none = l := by
  unfold cutG HT.sIx
  simp
@[simp] theorem x_lenT : lenG S (.tup xs) = some (.int xs.length) := (rfl)
@[simp] theorem x_lenL : lenG S (.lst xs) = some (.int xs.length) := (rfl)
@[simp] theorem x_lenF : lenG S (.frl xs) = some (.int xs.length) := (rfl)
theorem x_lenR (h : S.get n = some (.lst xs)) : lenG S (.ref n) = some (.int xs.length) := by
  unfold lenG lenS; simp only [h]; rfl
theorem may_new (h : S.old.length ≤ n) : S.may n c = true := by unfold Sto.may; simp [h]
theorem may_lt (h : c.lt 0 = true) : S.may n c = true := by unfold Sto.may; simp [h]
theorem ixN_nat' {n j : Nat} (hj : j < n) : ixN n (j : Int) = some j := by
  unfold ixN
  rw [if_pos (by omega), if_pos (by omega)]
  simp
theorem x_setL {j : Nat} (h : S.get n = some (.lst xs)) (hj : j < xs.length) (hm : S.may n (.lst (xs.set j v)) = true) : setS S (.ref n) (.int (j : Int)) v = some (S.set n (.lst (xs.set j v))) := by
  unfold setS
  simp only [h, intD]
  rw [ixN_nat' hj]
  simp only
  rw [if_pos hm]
theorem x_setD {k : D} {q : Key} (h : S.get n = some (.dic kvs)) (hk : keyD k = some q) (hl : kvs.length < sizeLine) (hm : S.may n (.dic (putD kvs q v)) = true) : setS S (.ref n) k v = some (S.set n (.dic (putD kvs q v))) := by
  unfold setS
  simp only [h, hk]
  rw [if_pos ⟨hl, hm⟩]
@[simp] theorem x_meth {f : EM} {fs : List EM} {g : D → List D → Sto → R D} {ρ : Env} : eMeth f fs g ρ S = (f ρ S).bind fun x S1 => (match lstS S1 x with
  | some _ => (aList fs ρ S1).bind fun ds S2 => g x ds S2
  | none => .bad) := (rfl)
theorem x_lstR (h : S.get n = some (.lst xs)) : lstS S (.ref n) = some xs := by
  unfold lstS; simp only [h]
theorem x_app1 (h : S.get n = some (.lst xs)) (hl : xs.length < sizeLine) (hm : S.may n (.lst (xs ++ [d])) = true) : mAppend (.ref n) [d] S = .ok .non (S.set n (.lst (xs ++ [d]))) := by
  unfold mAppend
  simp only [h]
  rw [if_pos hl]
  unfold putL
  rw [if_pos hm]
theorem x_append {f g : EM} {ρ : Env} {S1 S2 : Sto} (hf : f ρ S = .ok (.ref n) S1) (h1 : S1.get n = some (.lst ys)) (hg : g ρ S1 = .ok d S2) (h : S2.get n = some (.lst xs)) (hl : xs.length < sizeLine) (hm : S2.may n (.lst (xs ++ [d])) = true) :
    eMeth f [g] mAppend ρ S = .ok .non (S2.set n (.lst (xs ++ [d]))) := by
  unfold eMeth
  rw [hf]
  simp only [x_bind_ok, lstS, h1, x_l1, x_l0, hg, mAppend, h]
  rw [if_pos hl]
  unfold putL
  rw [if_pos hm]
theorem ltL_int {b : Nat} (l : List Int) : D.ltL b (l.map D.int) = true := by
  induction l with
  | nil => rfl
  | cons a r ih => simpa [D.ltL, D.lt] using ih
/-! ### loops -/
theorem forN_any {g : GM} {f : SM} {src : Option Nat} {all : List D} {P : List D → Env → Sto → Prop} {Q : SR → Prop}
    (hs : ∀ x xs ρ S, P (x :: xs) ρ S → okSrc src all S ∧ ∃ ρ1, g x ρ S = some ρ1 ∧ (match f ρ1 S with
      | .nx ρ' S' => P xs ρ' S'
      | .ct ρ' S' => P xs ρ' S'
      | .bk ρ' S' => Q (.nx ρ' S')
      | r => Q r))
    (he : ∀ ρ S, P [] ρ S → okSrc src all S ∧ Q (.nx ρ S)) : ∀ xs ρ S, P xs ρ S → Q (sForN g f src all xs ρ S)
  | [], ρ, S, h => by
    unfold sForN
    obtain ⟨h1, h2⟩ := he ρ S h
    rw [if_pos h1]
    exact h2
  | x :: xs, ρ, S, h => by
    unfold sForN
    obtain ⟨h1, ρ1, h2, h3⟩ := hs x xs ρ S h
    rw [if_pos h1, h2]
    dsimp only
    revert h3
    cases f ρ1 S with
    | nx ρ' S' => exact fun h3 => forN_any hs he xs ρ' S' h3
    | ct ρ' S' => exact fun h3 => forN_any hs he xs ρ' S' h3
    | _ => exact id
theorem forN_nx {g : GM} {f : SM} {src : Option Nat} {all : List D} (P : List D → Env → Sto → Prop)
    (ho : ∀ xs ρ S, P xs ρ S → okSrc src all S)
    (hs : ∀ x xs ρ S, P (x :: xs) ρ S → ∃ ρ1, g x ρ S = some ρ1 ∧ ∃ ρ' S', (f ρ1 S = .nx ρ' S' ∨ f ρ1 S = .ct ρ' S') ∧ P xs ρ' S') :
    ∀ xs ρ S, P xs ρ S → ∃ ρ' S', sForN g f src all xs ρ S = .nx ρ' S' ∧ P [] ρ' S' := fun xs ρ S h =>
  forN_any (P := P) (Q := fun r => ∃ ρ' S', r = .nx ρ' S' ∧ P [] ρ' S') (fun x xs ρ S h => by
    obtain ⟨ρ1, e, ρ', S', e2, p⟩ := hs x xs ρ S h
    refine ⟨ho _ _ _ h, ρ1, e, ?_⟩
    rcases e2 with e2 | e2 <;> rw [e2] <;> exact p) (fun ρ S h => ⟨ho _ _ _ h, ρ, S, rfl, h⟩) xs ρ S h
theorem okSrc_none {all : List D} : okSrc none all S := trivial
/-- a comprehension -/
theorem lcN_ok {g : GM} {t : TM} {f : EM} {src : Option Nat} {all : List D} {ρ : Env} (P : List D → List D → Sto → Prop)
    (ho : ∀ xs acc S, P xs acc S → okSrc src all S ∧ acc.length + xs.length ≤ sizeLine)
    (hs : ∀ x xs acc S, P (x :: xs) acc S → ∃ ρ1, g x ρ S = some ρ1 ∧ ∃ b S1, t ρ1 S = .ok b S1 ∧ (if b = true then ∃ y S2, f ρ1 S1 = .ok y S2 ∧ P xs (acc ++ [y]) S2 else P xs acc S1)) :
    ∀ xs acc S, P xs acc S → ∃ acc' S', lcN g t f src all xs acc ρ S = .ok acc' S' ∧ P [] acc' S'
  | [], acc, S, h => by
    unfold lcN
    rw [if_pos (ho _ _ _ h).1]
    exact ⟨acc, S, rfl, h⟩
  | x :: xs, acc, S, h => by
    unfold lcN
    obtain ⟨h1, h2⟩ := ho _ _ _ h
    rw [if_pos h1]
    obtain ⟨ρ1, e1, b, S1, e2, h3⟩ := hs x xs acc S h
    rw [e1]
    dsimp only
    rw [e2]
    dsimp only
    cases b with
    | false =>
      simp only [Bool.false_eq_true, if_false] at h3 ⊢
      exact lcN_ok P ho hs xs acc S1 h3
    | true =>
      simp only [if_true] at h3 ⊢
      obtain ⟨y, S2, e3, h4⟩ := h3
      rw [e3]
      dsimp only
      have hl : acc.length < sizeLine := by
        simp only [List.length_cons] at h2; omega
      rw [if_pos hl]
      exact lcN_ok P ho hs xs _ S2 h4
/-- .. whose parts leave the store, without a test -/
theorem lcN_map {g : GM} {f : EM} {src : Option Nat} {all : List D} {ρ : Env} {k : D → D} (ho : okSrc src all S) : ∀ (xs acc : List D), acc.length + xs.length ≤ sizeLine →
    (∀ x ∈ xs, ∃ ρ1, g x ρ S = some ρ1 ∧ f ρ1 S = .ok (k x) S) → lcN g tYesM f src all xs acc ρ S = .ok (acc ++ xs.map k) S
  | [], acc, _, _ => by
    unfold lcN
    rw [if_pos ho]; simp
  | x :: xs, acc, hl, h => by
    unfold lcN
    rw [if_pos ho]
    obtain ⟨ρ1, e1, e2⟩ := h x List.mem_cons_self
    rw [e1]
    dsimp only [x_yes]
    simp only [x_yes, if_true]
    rw [e2]
    simp only [List.length_cons] at hl
    dsimp only
    rw [if_pos (by omega), lcN_map ho xs _ (by simp; omega) fun y hy => h y (List.mem_cons_of_mem _ hy)]
    simp
end
/-! ### the laws' draws -/
/-- the state's cell holds; at most b draws were made -/
def Ok (m : Nat) (S : Sto) (b : Nat) : Prop := ∃ (row : List Int) (seed : Int) (a : Nat), (∀ r ∈ row, 0 ≤ r) ∧ 0 ≤ seed ∧ a ≤ b ∧ S.get m = some (.lst [.lst (row.map .int), .int a, .int seed])
theorem Ok.lt {m b : Nat} {S : Sto} (h : Ok m S b) : m < S.new := by obtain ⟨_, _, _, _, _, _, h⟩ := h; exact get_lt h
theorem Ok.le {m b c : Nat} {S : Sto} (h : Ok m S b) (hb : b ≤ c) : Ok m S c := by obtain ⟨r, s, a, h1, h2, h3, h⟩ := h; exact ⟨r, s, a, h1, h2, by omega, h⟩
theorem Ok.of {m b : Nat} {S S' : Sto} (h : Ok m S b) (e : S'.get m = S.get m) : Ok m S' b := by obtain ⟨r, s, a, h1, h2, h3, h⟩ := h; exact ⟨r, s, a, h1, h2, h3, e.trans h⟩
theorem Ok.push {m b : Nat} {S : Sto} (h : Ok m S b) : Ok m S.push b := h.of get_push
noncomputable def bTake : SM := (sSeq (sAsg (eBin (eVar 0) (eC (.int 1)) dIx) (gtName 2))
  (sSeq (sSetIx (eVar 0) (eC (.int 1)) (eBin (eVar 2) (eC (.int 1)) (dAdd false)))
  (sSeq (sIf (eTst (eBin (eVar 2) (eApp [(eBin (eVar 0) (eC (.int 0)) dIx)] (b1 lenG)) dLt)) (sRet (eBin (eApp [(eBin (eBin (eVar 0) (eC (.int 0)) dIx) (eVar 2) dIx)] (b1 intG)) (eVar 1) dMod)) sSkip)
  (sSeq (sAsg (eBin (eApp [(eBin (eBin (eBin (eVar 0) (eC (.int 2)) dIx) (eBin (eVar 2) (eC (.int 40503)) dMul) (dAdd false)) (eC (.int 48271)) dMul)] (b1 intG)) (eC (.int 2147483647)) dMod) (gtName 3))
  (sSeq (sAsg (eBin (eApp [(eBin (eBin (eVar 3) (eC (.int 69621)) dMul) (eBin (eVar 2) (eVar 2) dMul) (dAdd false))] (b1 intG)) (eC (.int 2147483629)) dMod) (gtName 3))
  (sRet (eBin (eBin (eVar 3) (eC (.int 11)) dDiv) (eVar 1) dMod)))))))
noncomputable def gTake : List D → Sto → R D := runV 4 bTake
def lim : Nat := 18446744073709551616
theorem cmulR {i j : Int} (h : -(2 ^ 64) < j) (h' : j < 2 ^ 64) : CMul i j := .inr ⟨h, h'⟩
theorem take_ok {m b : Nat} {S : Sto} {many : Int} (h : Ok m S b) (hb : b < lim) (hm : 0 < many) :
    ∃ i : Int, 0 ≤ i ∧ i < many ∧ ∃ S', gTake [.ref m, .int many] S = .ok (.int i) S' ∧ Ok m S' (b + 1) ∧ Sam m S S' := by
  obtain ⟨row, seed, a, hr, hs, ha, hg⟩ := h
  have hg' : S.push.get m = some (.lst [.lst (row.map .int), .int a, .int seed]) := get_push.trans hg
  let T := S.push.set m (.lst [.lst (row.map .int), .int ((a : Int) + 1), .int seed])
  have hT : T.get m = some (.lst [.lst (row.map .int), .int ((a : Int) + 1), .int seed]) := get_set (get_lt hg')
  have hset : setS S.push (.ref m) (.int 1) (.int ((a : Int) + 1)) = some T := x_setL (j := 1) hg' (by simp) (may_lt (by simp [Cell.lt, D.ltL, D.lt, ltL_int]))
  have hsam : Sam m S.push T := Sam.set
  have hTt : T.top = [] := List.eq_nil_of_length_eq_zero hsam.lt
  obtain ⟨p1, p2⟩ := hsam.pop hTt
  have fin : ∀ i : Int, 0 ≤ i → i < many → bTake (initE 4 [.ref m, .int many]) S.push = .rt (.int i) T → ∃ i : Int, 0 ≤ i ∧ i < many ∧ ∃ S', gTake [.ref m, .int many] S = .ok (.int i) S' ∧ Ok m S' (b + 1) ∧ Sam m S S' := fun i h0 h1 e => by
    refine ⟨i, h0, h1, S.pop T, ?_, ⟨row, seed, a + 1, hr, hs, by omega, (p2 m).trans (by rw [hT]; rfl)⟩, p1⟩
    unfold gTake runV
    rw [e]
    simp only [give, hTt]
    rfl
  by_cases hin : a < row.length
  · refine fin (row[a] % many) (Int.emod_nonneg _ (by omega)) (Int.emod_lt_of_pos _ hm) ?_
    have h1 : atI (row.map D.int) (a : Int) = some (.int row[a]) := by rw [atI_nat]; simp [hin]
    unfold bTake
    simp [initE, List.replicate, x_ixR hg', hset, x_ixR hT, hin, h1, hm]
  · have hmul : CMul (a : Int) (a : Int) := .inl ⟨by omega, by unfold lim at hb; omega⟩
    refine fin ((((seed + a * 40503) * 48271 % 2147483647 * 69621 + a * a) % 2147483629) / 11 % many) (Int.emod_nonneg _ (by omega)) (Int.emod_lt_of_pos _ hm) ?_
    have hlt : (a : Int) < 18446744073709551616 := by unfold lim at hb; omega
    unfold bTake
    simp [initE, List.replicate, x_ixR hg', hset, x_ixR hT, x_lenR, hin, hm, CMul, CDiv, hlt, show (-18446744073709551616 : Int) < (a : Int) by omega]

/-! ### the draws' start -/
noncomputable def bIn : SM := (sFor (iRange [(eC (.int 60))]) (gtName 5) (sIf (eTst (eBin (eVar 4) (eC (.int 0)) dGt)) (sSeq (sExpr (eMeth (eVar 1) [(eBin (eApp [(eVar 4)] (b1 intG)) (eC (.int 840)) dMod)] mAppend))
  (sAsg (eBin (eVar 4) (eC (.int 840)) dDiv) (gtName 4))) sSkip))
noncomputable def bOut : SM := (sSeq (sAsg (eApp [(eBin (eVar 0) (eVar 3) dIx)] (b1 absG)) (gtName 4))
  (sSeq (sAsg (eBin (eApp [(eBin (eBin (eBin (eVar 2) (eC (.int 31)) dMul) (eVar 4) (dAdd false)) (eVar 3) (dAdd false))] (b1 intG)) (eC (.int 2147483647)) dMod) (gtName 2))
  (sIf (eTst (eBin (eVar 4) (eBin (eC (.int 10)) (eC (.int 18)) dPow) dGe)) (sSeq (sAsg (eBin (eVar 4) (eBin (eC (.int 10)) (eC (.int 18)) dPow) dSub) (gtName 4))
  bIn) (sSeq (sAsg (eBin (eApp [(eBin (eBin (eBin (eVar 4) (eC (.int 1)) (dAdd false)) (eC (.int 48271)) dMul) (eBin (eVar 3) (eC (.int 69621)) dMul) (dAdd false))] (b1 intG)) (eC (.int 2147483647)) dMod) (gtName 6))
  (sSeq (sAsg (eBin (eApp [(eBin (eBin (eVar 6) (eC (.int 40692)) dMul) (eC (.int 5)) (dAdd false))] (b1 intG)) (eC (.int 2147483399)) dMod) (gtName 6))
  (sExpr (eMeth (eVar 1) [(eBin (eBin (eVar 6) (eC (.int 13)) dDiv) (eC (.int 840)) dMod)] mAppend)))))))
noncomputable def bStart : SM := (sSeq (sAsg (eApp [] (dLst true)) (gtName 1))
  (sSeq (sAsg (eC (.int 17)) (gtName 2))
  (sSeq (sFor (iRange [(eApp [(eVar 0)] (b1 lenG))]) (gtName 3) bOut)
  (sRet (eApp [(eVar 1), (eC (.int 0)), (eVar 2)] (dLst true))))))
noncomputable def gStart : List D → Sto → R D := runF 7 bStart
structure Ro (r : Nat) (T0 T : Sto) (k : Nat) (row : List Int) : Prop where
  g : T.get r = some (.lst (row.map .int))
  s : Sam r T0 T
  p : ∀ v ∈ row, 0 ≤ v
  l : row.length + k ≤ 3780
  o : T0.old.length ≤ r
theorem Ro.put {r : Nat} {T0 T : Sto} {k : Nat} {row : List Int} (h : Ro r T0 T (k + 1) row) {v : Int} (hv : 0 ≤ v) :
    Ro r T0 (T.set r (.lst (row.map .int ++ [.int v]))) k (row ++ [v]) ∧ mAppend (.ref r) [.int v] T = .ok .non (T.set r (.lst (row.map .int ++ [.int v]))) := by
  refine ⟨⟨?_, h.s.trans Sam.set, fun x hx => ?_, ?_, h.o⟩, x_app1 h.g ?_ (may_new ?_)⟩
  · rw [get_set (get_lt h.g)]; simp
  · rcases List.mem_append.mp hx with q | q
    · exact h.p x q
    · have : x = v := by simpa using q
      omega
  · have := h.l; simp; omega
  · have := h.l
    have h2 : (3780 : Nat) < sizeLine := by decide
    rw [List.length_map]; omega
  · have := h.s.lo; have := h.o; omega
theorem rangeL_succ (lo : Int) (n : Nat) : rangeL lo n = (List.range n).map fun i : Nat => D.int (lo + i) := rfl
theorem rangeL_len {lo : Int} {n : Nat} : (rangeL lo n).length = n := by rw [rangeL_succ]; simp
theorem rangeL_mem {n : Nat} {x : D} (h : x ∈ rangeL 0 n) : ∃ k : Nat, k < n ∧ x = .int k := by
  rw [rangeL_succ] at h
  obtain ⟨k, hk, e⟩ := List.mem_map.mp h
  exact ⟨k, List.mem_range.mp hk, by rw [← e]; simp⟩
theorem bIn_ok {r : Nat} {T0 T : Sto} {k : Nat} {row : List Int} {d0 d2 d3 : D} {o5 o6 : Option D} {cell : Int} (h : Ro r T0 T (60 + k) row) :
    ∃ c' o' T' row', bIn [some d0, some (.ref r), some d2, some d3, some (.int cell), o5, o6] T = .nx [some d0, some (.ref r), some d2, some d3, some (.int c'), o', o6] T' ∧ Ro r T0 T' k row' := by
  obtain ⟨ρ', S', e, c, o, row2, e2, _, p⟩ := forN_nx (g := gtName 5) (f := (sIf (eTst (eBin (eVar 4) (eC (.int 0)) dGt)) (sSeq (sExpr (eMeth (eVar 1) [(eBin (eApp [(eVar 4)] (b1 intG)) (eC (.int 840)) dMod)] mAppend))
  (sAsg (eBin (eVar 4) (eC (.int 840)) dDiv) (gtName 4))) sSkip)) (src := none) (all := rangeL 0 60)
    (fun xs ρ T => ∃ (c : Int) (o : Option D) (row : List Int), ρ = [some d0, some (.ref r), some d2, some d3, some (.int c), o, o6] ∧ True ∧ Ro r T0 T (xs.length + k) row)
    (fun _ _ _ _ => trivial) (fun x xs ρ T h => by
      obtain ⟨c, o, row, rfl, _, h⟩ := h
      refine ⟨_, rfl, ?_⟩
      by_cases hc : 0 < c
      · have h' : Ro r T0 T ((xs.length + k) + 1) row := by
          have := h; simp only [List.length_cons] at this; rw [show xs.length + 1 + k = xs.length + k + 1 by omega] at this; exact this
        obtain ⟨h2, h3⟩ := h'.put (v := c % 840) (Int.emod_nonneg _ (by omega))
        refine ⟨[some d0, some (.ref r), some d2, some d3, some (.int (c / 840)), some x, o6], _, .inl ?_, c / 840, some x, _, rfl, trivial, h2⟩
        simp [hc, x_lstR h.g, h3, CDiv]
      · refine ⟨[some d0, some (.ref r), some d2, some d3, some (.int c), some x, o6], T, .inl ?_, c, some x, row, rfl, trivial, ⟨h.g, h.s, h.p, ?_, h.o⟩⟩
        · simp [hc]
        · have := h.l; simp only [List.length_cons] at this; omega) (rangeL 0 60) [some d0, some (.ref r), some d2, some d3, some (.int cell), o5, o6] T ⟨cell, o5, row, rfl, trivial, by rw [rangeL_len]; exact h⟩
  subst e2
  refine ⟨c, o, S', row2, ?_, by simpa using p⟩
  unfold bIn
  simp
  exact e
theorem bOut_ok {r : Nat} {T0 T : Sto} {k : Nat} {row : List Int} {ns : List Int} {seed : Int} {j : Nat} {o4 o5 o6 : Option D} (h : Ro r T0 T (60 + k) row) (hj : j < ns.length) :
    ∃ s' o4' o5' o6' T' row', bOut [some (scr ns), some (.ref r), some (.int seed), some (.int j), o4, o5, o6] T = .nx [some (scr ns), some (.ref r), some (.int s'), some (.int j), o4', o5', o6'] T' ∧ 0 ≤ s' ∧ Ro r T0 T' k row' := by
  have h1 : atI (ns.map D.int) (j : Int) = some (.int ns[j]) := by rw [atI_nat]; simp [hj]
  generalize hc : (if ns[j] < 0 then -ns[j] else ns[j]) = cell at *
  by_cases hq : 1000000000000000000 ≤ cell
  · obtain ⟨c', o', T', row', e, q⟩ := bIn_ok (d0 := scr ns) (d2 := .int ((seed * 31 + cell + j) % 2147483647)) (d3 := .int j) (o5 := o5) (o6 := o6) (cell := cell - 1000000000000000000) h
    refine ⟨(seed * 31 + cell + j) % 2147483647, some (.int c'), o', o6, T', row', ?_, Int.emod_nonneg _ (by omega), q⟩
    unfold scr at e ⊢
    unfold bOut
    simp [h1, hc, CMul, CPow, hq, e]
  · have h' : Ro r T0 T (k + 1) row := ⟨h.g, h.s, h.p, by have := h.l; omega, h.o⟩
    obtain ⟨h2, h3⟩ := h'.put (v := ((((cell + 1) * 48271 + j * 69621) % 2147483647 * 40692 + 5) % 2147483399) / 13 % 840) (Int.emod_nonneg _ (by omega))
    refine ⟨(seed * 31 + cell + j) % 2147483647, some (.int cell), o5, some (.int ((((cell + 1) * 48271 + j * 69621) % 2147483647 * 40692 + 5) % 2147483399)), _, _, ?_, Int.emod_nonneg _ (by omega), h2⟩
    unfold scr
    unfold bOut
    simp [h1, hc, CMul, CPow, CDiv, hq, x_lstR h.g, h3]
theorem mapO_lt {b m : Nat} {S : Sto} {k : Nat} : ∀ {xs : List D}, D.ltL b xs = true → mapO (fz b m S k) xs = some xs
  | [], _ => rfl
  | x :: xs, h => by
    simp only [D.ltL, Bool.and_eq_true] at h
    have e : fz b m S k x = some x := by cases k <;> (unfold fz; rw [if_pos h.1])
    unfold mapO
    rw [e, mapO_lt h.2]
theorem runF_of {n m : Nat} {b : SM} {ds xs ys : List D} {S S' : Sto} (h : b (initE n ds) S.push = .rt (.ref m) S') (h1 : ¬ m < S.new) (h2 : S'.get m = some (.lst xs)) (h3 : mapO (fz S.new m S' 24) xs = some ys) :
    runF n b ds S = .ok (.ref S.new) ((S.pop S').add (.lst ys)) := by
  unfold runF
  rw [h]
  dsimp only
  rw [if_neg h1, h2]
  dsimp only
  rw [h3]
theorem runV_of {n : Nat} {b : SM} {ds : List D} {d : D} {S S' : Sto} (h : b (initE n ds) S.push = .rt d S') (h1 : S'.top = []) : runV n b ds S = .ok d (S.pop S') := by
  unfold runV
  rw [h]
  dsimp only [give]
  rw [h1]
  rfl
theorem runV_ex {n : Nat} {b : SM} {ds : List D} {e : D} {ρ : Env} {S S' : Sto} (h : b (initE n ds) S.push = .ex e ρ S') (h1 : e.lt S.new = true) : runV n b ds S = .ex e (S.pop S') := by
  unfold runV
  rw [h]
  dsimp only [throwE]
  rw [if_pos h1]
theorem runV_nx {n : Nat} {b : SM} {ds : List D} {ρ : Env} {S S' : Sto} (h : b (initE n ds) S.push = .nx ρ S') : runV n b ds S = .ok .non (S.pop S') := by
  unfold runV
  rw [h]
theorem runV_up {n : Nat} {b : SM} {ds : List D} {d d' : D} {S S' : Sto} (h : b (initE n ds) S.push = .rt d S') (h1 : fz S.new S'.all.length S' 24 d = some d') (h2 : S'.top.isEmpty = false) : runV n b ds S = .ok d' (S.pop S') := by
  unfold runV
  rw [h]
  dsimp only [give]
  rw [if_neg (by rw [h2]; exact Bool.false_ne_true), h1]
/-- .. that leaves the store -/
theorem runV_pure {n : Nat} {b : SM} {ds : List D} {d : D} {S : Sto} (h : b (initE n ds) S.push = .rt d S.push) : runV n b ds S = .ok d S := by
  rw [runV_of h rfl, pop_push_self]
theorem start_ok {S : Sto} {ns : List Int} (hn : ns.length ≤ 63) : ∃ c, gStart [scr ns] S = .ok (.ref S.new) (S.add c) ∧ Ok S.new (S.add c) 0 := by
  let r := S.new
  let T0 := S.push.add (.lst [])
  have hr : T0.get r = some (.lst (([] : List Int).map D.int)) := by
    have := get_add (S := S.push) (c := .lst [])
    rw [new_push] at this
    exact this
  have h0 : Ro r T0 T0 (60 * ns.length) [] := ⟨hr, Sam.refl, by simp, by simp; omega, by
    show S.push.old.length ≤ S.new
    rw [Sto.new_all]; exact Nat.le_refl _⟩
  obtain ⟨ρ', T, e, seed, row, o3, o4, o5, o6, e2, hs, p, _⟩ := forN_nx (g := gtName 3) (f := bOut) (src := none) (all := rangeL 0 ns.length)
    (fun xs ρ T => ∃ (seed : Int) (row : List Int) (o3 o4 o5 o6 : Option D), ρ = [some (scr ns), some (.ref r), some (.int seed), o3, o4, o5, o6] ∧ 0 ≤ seed ∧ Ro r T0 T (60 * xs.length) row ∧ ∀ x ∈ xs, ∃ k : Nat, k < ns.length ∧ x = .int k)
    (fun _ _ _ _ => trivial) (fun x xs ρ T h => by
      obtain ⟨seed, row, o3, o4, o5, o6, rfl, hs, h, hx⟩ := h
      obtain ⟨j, hj, rfl⟩ := hx x List.mem_cons_self
      refine ⟨_, rfl, ?_⟩
      have h' : Ro r T0 T (60 + 60 * xs.length) row := by
        have := h; simp only [List.length_cons] at this; rw [show 60 * (xs.length + 1) = 60 + 60 * xs.length by omega] at this; exact this
      obtain ⟨s', o4', o5', o6', T', row', e, hs', q⟩ := bOut_ok (seed := seed) (o4 := o4) (o5 := o5) (o6 := o6) h' hj
      exact ⟨_, T', .inl e, s', row', _, _, _, _, rfl, hs', q, fun y hy => hx y (List.mem_cons_of_mem _ hy)⟩)
    (rangeL 0 ns.length) [some (scr ns), some (.ref r), some (.int 17), none, none, none, none] T0 ⟨17, [], none, none, none, none, rfl, by omega, by rw [rangeL_len]; exact h0, fun x hx => rangeL_mem hx⟩
  subst e2
  have hnr : S.push.new = r := new_push
  have hTn : T.new = r + 1 := by
    rw [p.s.new]; show (S.push.add _).new = _; rw [new_add, hnr]
  let S' := T.add (.lst [.ref r, .int 0, .int seed])
  have hb : bStart (initE 7 [scr ns]) S.push = .rt (.ref T.new) S' := by
    unfold bStart
    have hlen : -4611686018427387904 ≤ (ns.length : Int) ∧ (ns.length : Int) < 4611686018427387904 := ⟨by omega, by omega⟩
    have e' : sForN (gtName 3) bOut none (rangeL 0 ns.length) (rangeL 0 ns.length) [some (D.frl (ns.map D.int)), some (.ref r), some (.int 17), none, none, none, none] (S.push.add (.lst [])) = _ := e
    simp [initE, List.replicate, scr, hlen.1, hlen.2, hnr, e']
    rfl
  have hg' : S'.get T.new = some (.lst [.ref r, .int 0, .int seed]) := get_add
  have hgr : S'.get r = some (.lst (row.map .int)) := by
    show (T.add _).get r = _
    rw [get_add_lt (by rw [hTn]; omega)]; exact p.g
  have hfz : mapO (fz S.new T.new S' 24) [.ref r, .int 0, .int seed] = some [.lst (row.map .int), .int 0, .int seed] := by
    have e1 : fz S.new T.new S' 24 (.ref r) = some (.lst (row.map .int)) := by
      unfold fz
      rw [if_neg (by simp [D.lt, r])]
      simp only
      rw [if_neg (by rw [hTn]; simp [r]), hgr]
      simp only
      rw [mapO_lt (ltL_int row)]
      rfl
    unfold mapO
    rw [e1, mapO_lt rfl]
  have hold : S'.old = S.push.old := by
    show T.old = T0.old
    apply List.ext_getElem?
    intro n
    by_cases hn : n < T0.old.length
    · have h1 := p.s.g n (by have := p.o; omega)
      rw [Sto.get_all, Sto.get_all] at h1
      unfold Sto.all at h1
      rw [List.getElem?_append_left (by rw [p.s.lo]; exact hn), List.getElem?_append_left hn] at h1
      exact h1
    · rw [List.getElem?_eq_none (by rw [p.s.lo]; omega), List.getElem?_eq_none (by omega)]
  have hpop : S.pop S' = S := by
    unfold Sto.pop
    rw [hold]
    show Sto.mk ((S.old ++ S.top).take S.old.length) ((S.old ++ S.top).drop S.old.length) = S
    simp
  refine ⟨.lst [.lst (row.map .int), .int 0, .int seed], ?_, row, seed, 0, p.p, hs, Nat.le_refl _, get_add⟩
  have := runF_of (n := 7) hb (by rw [hTn]; simp [r]) hg' hfz
  rw [hpop] at this
  exact this
end Mi

/-! Ma2: frames, short walks, dicts. -/
namespace Mi
open PySem PySem.Spec PyProof.Rows L2
section
variable {S S' T : Sto} {n m : Nat} {c : Cell} {xs ys all : List D} {kvs : List (Key × D)} {d v x : D} {i : Int} {ρ : Env} {g : GM} {f : SM} {t : TM} {e : EM}
@[simp] theorem forN_0 : sForN g f none all [] ρ S = .nx ρ S := by
  unfold sForN; rw [if_pos okSrc_none]
@[simp] theorem forN_1 : sForN g f none all (x :: xs) ρ S = (match g x ρ S with
  | some ρ1 => (match f ρ1 S with
    | .nx ρ' S' => sForN g f none all xs ρ' S'
    | .ct ρ' S' => sForN g f none all xs ρ' S'
    | .bk ρ' S' => .nx ρ' S'
    | r => r)
  | none => .bad) := by
  conv => lhs; unfold sForN
  rw [if_pos okSrc_none]
  try (cases g x ρ S with
    | none => rfl
    | some ρ1 => dsimp only; cases f ρ1 S <;> rfl)
@[simp] theorem lcN_0 {acc : List D} : lcN g t e none all [] acc ρ S = .ok acc S := by
  unfold lcN; rw [if_pos okSrc_none]
@[simp] theorem lcN_1 {acc : List D} : lcN g t e none all (x :: xs) acc ρ S = (match g x ρ S with
      | some ρ1 => (match t ρ1 S with
        | .ok b S1 => if b = true then (match e ρ1 S1 with
            | .ok y S2 => if acc.length < sizeLine then lcN g t e none all xs (acc ++ [y]) ρ S2 else .bad
            | _ => .bad)
          else lcN g t e none all xs acc ρ S1
        | _ => .bad)
      | none => .bad) := by
  conv => lhs; unfold lcN
  rw [if_pos okSrc_none]
  try (cases g x ρ S with
    | none => rfl
    | some ρ1 =>
      dsimp only
      cases t ρ1 S with
      | ok b S1 =>
        dsimp only
        cases b with
        | false => rfl
        | true => rw [if_pos rfl, if_pos rfl]; cases e ρ1 S1 <;> rfl
      | _ => rfl)
@[simp] theorem x_gtN {j : Nat} : gtName j d ρ S = some (ρ.set j (some d)) := (rfl)
theorem big : (1000000 : Nat) < sizeLine := by decide
@[simp] theorem big0 : 0 < sizeLine := by decide
@[simp] theorem big1 : 1 < sizeLine := by decide
@[simp] theorem big2 : 2 < sizeLine := by decide
@[simp] theorem big3 : 3 < sizeLine := by decide
@[simp] theorem big4 : 4 < sizeLine := by decide
theorem x_ixDS {k : D} (h : dicS S x = some kvs) : dIx x k S = (match keyD k with
  | some q => (match valD kvs q with
    | some d => .ok d S
    | none => .bad)
  | none => .bad) := by
  cases x with
  | dic l => cases h; exact x_ixDv
  | ref n =>
    unfold dicS at h
    cases q : S.get n with
    | none => simp only [q] at h; cases h
    | some c =>
      cases c with
      | dic l => simp only [q] at h; cases h; exact x_ixD q
      | lst _ => simp only [q] at h; cases h
      | ins _ _ => simp only [q] at h; cases h
  | _ => cases h
theorem dDict_ok {b : Bool} (h : dicS S x = some kvs) : dDict b [x] S = mkD b kvs S := by
  unfold dDict; simp only [h]
theorem dicS_ref (h : S.get n = some (.dic kvs)) : dicS S (.ref n) = some kvs := by unfold dicS; simp only [h]
theorem valD_put {k q : Key} : valD (putD kvs k v) q = if q = k then some v else valD kvs q := by
  unfold putD
  by_cases h : (kvs.any fun kv => decide (kv.1 = k)) = true
  · rw [if_pos h]
    unfold valD
    induction kvs with
    | nil => simp at h
    | cons a r ih =>
      obtain ⟨k', d'⟩ := a
      simp only [List.map_cons, List.find?_cons]
      by_cases hk : k' = k
      · subst hk
        by_cases hq : k' = q
        · subst hq; simp
        · have hq' : ¬ q = k' := fun z => hq z.symm
          simp only [if_true, hq, decide_false]
          rw [if_neg hq']
          by_cases hr : (r.any fun kv => decide (kv.1 = k')) = true
          · have := ih hr
            rw [if_neg hq'] at this
            exact this
          · congr 1
            have : r.map (fun kv => if kv.1 = k' then (kv.1, v) else kv) = r := by
              clear ih h
              induction r with
              | nil => rfl
              | cons b s ih2 =>
                simp only [List.any_cons, Bool.or_eq_true, decide_eq_true_eq, not_or] at hr
                simp only [List.map_cons, if_neg hr.1]
                rw [ih2 hr.2]
            rw [this]
      · have h2 : (r.any fun kv => decide (kv.1 = k)) = true := by
          simp only [List.any_cons, hk, decide_false, Bool.false_or] at h; exact h
        simp only [if_neg hk]
        by_cases hq : k' = q
        · subst hq; simp [hk]
        · simp only [hq, decide_false]
          exact ih h2
  · rw [if_neg h]
    unfold valD
    rw [List.find?_append]
    by_cases hq : q = k
    · subst hq
      have : kvs.find? (fun kv => decide (kv.1 = q)) = none := by
        rw [List.find?_eq_none]
        intro a ha hk
        exact h (List.any_eq_true.mpr ⟨a, ha, hk⟩)
      rw [this]; simp
    · have hq' : ¬ k = q := fun z => hq z.symm
      simp [hq, hq']
theorem putD_len {k : Key} : (putD kvs k v).length ≤ kvs.length + 1 := by
  unfold putD; split <;> simp
/-- T stands a frame over S -/
def Up (S T : Sto) : Prop := T.old = S.old ++ S.top
theorem Up.push : Up S S.push := rfl
theorem Up.add (h : Up S T) : Up S (T.add c) := h
theorem Up.new (h : Up S T) : S.new ≤ T.new := by
  unfold Up at h; unfold Sto.new; rw [h, List.length_append]; omega
theorem Up.set (h : Up S T) (hn : S.new ≤ n) : Up S (T.set n c) := by
  unfold Up at *
  unfold Sto.set
  have : T.old.length = S.new := by rw [h, List.length_append]; rfl
  rw [if_neg (by omega)]
  exact h
theorem Up.get (h : Up S T) (hn : n < S.new) : T.get n = S.get n := by
  unfold Up at h
  have h1 : n < T.old.length := by rw [h, List.length_append]; exact hn
  rw [Sto.get_all, Sto.get_all]
  unfold Sto.all
  rw [List.getElem?_append_left h1, h]
theorem Up.pop (h : Up S T) : S.pop T = S := by
  unfold Up at h
  unfold Sto.pop
  rw [h]; simp
theorem Up.may (h : Up S T) (hn : S.new ≤ n) : T.may n c = true := by
  refine may_new ?_
  unfold Up at h
  rw [h, List.length_append]; exact hn
theorem runV_lt {b : SM} {ds : List D} (h : b (initE n ds) S.push = .rt d S') (hd : d.lt S.new = true) : runV n b ds S = .ok d (S.pop S') := by
  unfold runV
  rw [h]
  dsimp only [give]
  have : fz S.new S'.all.length S' 24 d = some d := by unfold fz; rw [if_pos hd]
  rw [this]
  simp
theorem atI_in {α : Type} {l : List α} {i : Int} (h0 : 0 ≤ i) (h1 : i < l.length) : ∃ a, atI l i = some a ∧ a ∈ l := by
  obtain ⟨j, rfl⟩ := Int.eq_ofNat_of_zero_le h0
  have hj : j < l.length := by omega
  exact ⟨l[j], by rw [atI_nat]; simp [hj], List.getElem_mem hj⟩
end
end Mi

/-! K15a: sentences, their negation form, their truth: plain. -/
namespace K15
open Mi
inductive Tm where
  | v (x : Nat) | a | f (x : Nat)
inductive Op where
  | and | or | imp | iff
deriving DecidableEq
inductive Fm where
  | same (s t : Tm) | R (s t : Tm) | P (s : Tm) | Q
  | not (p : Fm) | bind (all : Bool) (x : Nat) (p : Fm) | con (o : Op) (p q : Fm)
def Fm.basic : Fm → Bool
  | .same _ _ => true | .R _ _ => true | .P _ => true | .Q => true
  | _ => false
def sf : Fm → Bool → Fm
  | .not p, s => sf p (!s)
  | .bind a x p, s => .bind (a == s) x (sf p s)
  | .con .and p q, s => .con (if s then .and else .or) (sf p s) (sf q s)
  | .con .or p q, s => .con (if s then .or else .and) (sf p s) (sf q s)
  | .con .imp p q, s => .con (if s then .or else .and) (sf p (!s)) (sf q s)
  | .con .iff p q, s => .con (if s then .and else .or) (.con (if s then .or else .and) (sf p (!s)) (sf q s)) (.con (if s then .or else .and) (sf q (!s)) (sf p s))
  | p, s => if s then p else .not p
def opp : Fm → Fm
  | .not p => p
  | .bind a x p => .bind (!a) x (opp p)
  | .con o p q => .con (if o = .and then .or else .and) (opp p) (opp q)
  | p => .not p
def formed : Fm → Fm
  | .not p => opp (formed p)
  | .bind a x p => .bind a x (formed p)
  | .con .imp p q => .con .or (opp (formed p)) (formed q)
  | .con .iff p q => .con .and (.con .or (opp (formed p)) (formed q)) (.con .or (opp (formed q)) (formed p))
  | .con .and p q => .con .and (formed p) (formed q)
  | .con .or p q => .con .or (formed p) (formed q)
  | p => p
/-- in negation form -/
def Nn : Fm → Bool
  | .not p => p.basic
  | .bind _ _ p => Nn p
  | .con o p q => decide (o = .and ∨ o = .or) && Nn p && Nn q
  | _ => true
theorem opp_nn : ∀ {p : Fm}, Nn p = true → Nn (opp p) = true
  | .not p, h => by cases p <;> first | rfl | cases h
  | .bind a x p, h => opp_nn (p := p) h
  | .con o p q, h => by
    simp only [Nn, Bool.and_eq_true] at h
    simp only [opp, Nn, Bool.and_eq_true]
    exact ⟨⟨by split <;> simp, opp_nn h.1.2⟩, opp_nn h.2⟩
  | .same _ _, _ => rfl | .R _ _, _ => rfl | .P _, _ => rfl | .Q, _ => rfl
theorem formed_nn : ∀ (p : Fm), Nn (formed p) = true
  | .not p => opp_nn (formed_nn p)
  | .bind a x p => formed_nn p
  | .con .imp p q => by simp [formed, Nn, opp_nn (formed_nn p), formed_nn q]
  | .con .iff p q => by simp [formed, Nn, opp_nn (formed_nn p), formed_nn q, opp_nn (formed_nn q), formed_nn p]
  | .con .and p q => by simp [formed, Nn, formed_nn p, formed_nn q]
  | .con .or p q => by simp [formed, Nn, formed_nn p, formed_nn q]
  | .same _ _ => rfl | .R _ _ => rfl | .P _ => rfl | .Q => rfl
theorem opp_opp : ∀ {p : Fm}, Nn p = true → opp (opp p) = p
  | .not p, h => by cases p <;> first | rfl | cases h
  | .bind a x p, h => by simp only [opp, Bool.not_not]; rw [opp_opp (p := p) h]
  | .con o p q, h => by
    simp only [Nn, Bool.and_eq_true] at h
    simp only [opp]
    rw [opp_opp h.1.2, opp_opp h.2]
    have := h.1.1
    cases o <;> first | rfl | simp at this
  | .same _ _, _ => rfl | .R _ _, _ => rfl | .P _, _ => rfl | .Q, _ => rfl
theorem sf_eq : ∀ (p : Fm), sf p true = formed p ∧ sf p false = opp (formed p)
  | .not p => by
    obtain ⟨h1, h2⟩ := sf_eq p
    exact ⟨h2, by show sf p true = _; rw [h1]; exact (opp_opp (formed_nn p)).symm⟩
  | .bind a x p => by
    obtain ⟨h1, h2⟩ := sf_eq p
    constructor
    · simp [sf, formed, h1]
    · simp [sf, formed, opp, h2]
  | .con .and p q => by
    obtain ⟨h1, h2⟩ := sf_eq p; obtain ⟨h3, h4⟩ := sf_eq q
    simp [sf, formed, opp, h1, h2, h3, h4]
  | .con .or p q => by
    obtain ⟨h1, h2⟩ := sf_eq p; obtain ⟨h3, h4⟩ := sf_eq q
    simp [sf, formed, opp, h1, h2, h3, h4]
  | .con .imp p q => by
    obtain ⟨h1, h2⟩ := sf_eq p; obtain ⟨h3, h4⟩ := sf_eq q
    simp [sf, formed, opp, h1, h2, h3, h4, opp_opp (formed_nn p)]
  | .con .iff p q => by
    obtain ⟨h1, h2⟩ := sf_eq p; obtain ⟨h3, h4⟩ := sf_eq q
    simp [sf, formed, opp, h1, h2, h3, h4, opp_opp (formed_nn p), opp_opp (formed_nn q)]
  | .same _ _ => ⟨rfl, rfl⟩ | .R _ _ => ⟨rfl, rfl⟩ | .P _ => ⟨rfl, rfl⟩ | .Q => ⟨rfl, rfl⟩
theorem formed_id : ∀ {p : Fm}, Nn p = true → formed p = p
  | .not p, h => by cases p <;> first | rfl | cases h
  | .bind a x p, h => by simp only [formed]; rw [formed_id (p := p) h]
  | .con o p q, h => by
    simp only [Nn, Bool.and_eq_true] at h
    have := h.1.1
    cases o <;> first | (simp only [formed]; rw [formed_id h.1.2, formed_id h.2]; done) | simp at this
  | .same _ _, _ => rfl | .R _ _, _ => rfl | .P _, _ => rfl | .Q, _ => rfl
/-! ### truth -/
structure Tb where
  n : Nat
  a : Int
  q : Bool
  fs : List Int
  ps : List Bool
  rs : List Bool
abbrev Vl := Nat → Int
def upd (v : Vl) (x : Nat) (i : Int) : Vl := fun y => if y = x then i else v y
def Tb.tv (B : Tb) : Tm → Vl → Int
  | .v x, v => v x
  | .a, _ => B.a
  | .f x, v => (B.fs[(v x).toNat]?).getD 0
def Tb.tr (B : Tb) : Fm → Vl → Bool
  | .same s t, v => B.tv s v == B.tv t v
  | .R s t, v => (B.rs[(B.tv s v * B.n + B.tv t v).toNat]?).getD false
  | .P s, v => (B.ps[(B.tv s v).toNat]?).getD false
  | .Q, _ => B.q
  | .not p, v => !B.tr p v
  | .bind true x p, v => (List.range B.n).all fun i => B.tr p (upd v x i)
  | .bind false x p, v => (List.range B.n).any fun i => B.tr p (upd v x i)
  | .con .and p q, v => B.tr p v && B.tr q v
  | .con .or p q, v => B.tr p v || B.tr q v
  | .con .imp p q, v => !B.tr p v || B.tr q v
  | .con .iff p q, v => B.tr p v == B.tr q v
theorem tr_opp (B : Tb) : ∀ {p : Fm} (v : Vl), Nn p = true → B.tr (opp p) v = !B.tr p v
  | .not p, v, h => by cases p <;> first | simp [opp, Tb.tr] | cases h
  | .bind true x p, v, h => by
    simp only [opp, Tb.tr, Bool.not_true]
    rw [show (fun i : Nat => B.tr (opp p) (upd v x i)) = fun i : Nat => !B.tr p (upd v x i) from funext fun i => tr_opp B (p := p) _ h]
    rw [List.not_all_eq_any_not]
  | .bind false x p, v, h => by
    simp only [opp, Tb.tr, Bool.not_false]
    rw [show (fun i : Nat => B.tr (opp p) (upd v x i)) = fun i : Nat => !B.tr p (upd v x i) from funext fun i => tr_opp B (p := p) _ h]
    rw [List.not_any_eq_all_not]
  | .con o p q, v, h => by
    simp only [Nn, Bool.and_eq_true] at h
    have := h.1.1
    cases o <;> first | (simp [opp, Tb.tr, tr_opp B v h.1.2, tr_opp B v h.2]; done) | simp at this
  | .same _ _, _, _ => rfl | .R _ _, _, _ => rfl | .P _, _, _ => rfl | .Q, _, _ => rfl
theorem tr_formed (B : Tb) : ∀ (p : Fm) (v : Vl), B.tr (formed p) v = B.tr p v
  | .not p, v => by simp only [formed, Tb.tr]; rw [tr_opp B v (formed_nn p), tr_formed B p v]
  | .bind true x p, v => by
    simp only [formed, Tb.tr]
    rw [show (fun i : Nat => B.tr (formed p) (upd v x i)) = fun i : Nat => B.tr p (upd v x i) from funext fun i => tr_formed B p _]
  | .bind false x p, v => by
    simp only [formed, Tb.tr]
    rw [show (fun i : Nat => B.tr (formed p) (upd v x i)) = fun i : Nat => B.tr p (upd v x i) from funext fun i => tr_formed B p _]
  | .con .and p q, v => by simp only [formed, Tb.tr]; rw [tr_formed B p v, tr_formed B q v]
  | .con .or p q, v => by simp only [formed, Tb.tr]; rw [tr_formed B p v, tr_formed B q v]
  | .con .imp p q, v => by simp only [formed, Tb.tr]; rw [tr_opp B v (formed_nn p), tr_formed B p v, tr_formed B q v]
  | .con .iff p q, v => by
    simp only [formed, Tb.tr]; rw [tr_opp B v (formed_nn p), tr_opp B v (formed_nn q), tr_formed B p v, tr_formed B q v]
    cases B.tr p v <;> cases B.tr q v <;> rfl
  | .same _ _, _ => rfl | .R _ _, _ => rfl | .P _, _ => rfl | .Q, _ => rfl
/-! ### which names; how deep -/
def Tm.wf (ns : List Nat) : Tm → Prop
  | .v x => x ∈ ns
  | .a => True
  | .f x => x ∈ ns
def Fm.wf (ns : List Nat) : Fm → Prop
  | .same s t => s.wf ns ∧ t.wf ns
  | .R s t => s.wf ns ∧ t.wf ns
  | .P s => s.wf ns
  | .Q => True
  | .not p => p.wf ns
  | .bind _ x p => p.wf (x :: ns)
  | .con _ p q => p.wf ns ∧ q.wf ns
def ht : Fm → Nat
  | .not p => ht p + 1
  | .bind _ _ p => ht p + 2
  | .con _ p q => max (ht p) (ht q) + 2
  | _ => 1
theorem wf_mono : ∀ {p : Fm} {ns ms : List Nat}, (∀ x ∈ ns, x ∈ ms) → p.wf ns → p.wf ms
  | .same s t, ns, ms, h, w => by cases s <;> cases t <;> simp_all [Fm.wf, Tm.wf]
  | .R s t, ns, ms, h, w => by cases s <;> cases t <;> simp_all [Fm.wf, Tm.wf]
  | .P s, ns, ms, h, w => by cases s <;> simp_all [Fm.wf, Tm.wf]
  | .Q, _, _, _, _ => trivial
  | .not p, ns, ms, h, w => wf_mono (p := p) h w
  | .bind _ x p, ns, ms, h, w => wf_mono (p := p) (fun y hy => by
      rcases List.mem_cons.mp hy with e | e
      · rw [e]; exact List.mem_cons_self
      · exact List.mem_cons_of_mem _ (h y e)) w
  | .con _ p q, ns, ms, h, w => ⟨wf_mono h w.1, wf_mono h w.2⟩
theorem opp_wf : ∀ {p : Fm} {ns : List Nat}, p.wf ns → (opp p).wf ns
  | .not p, _, h => h
  | .bind _ _ p, _, h => opp_wf (p := p) h
  | .con o p q, _, h => ⟨opp_wf h.1, opp_wf h.2⟩
  | .same _ _, _, h => h | .R _ _, _, h => h | .P _, _, h => h | .Q, _, h => h
theorem formed_wf : ∀ {p : Fm} {ns : List Nat}, p.wf ns → (formed p).wf ns
  | .not p, _, h => opp_wf (formed_wf (p := p) h)
  | .bind _ _ p, _, h => formed_wf (p := p) h
  | .con .and p q, _, h => ⟨formed_wf h.1, formed_wf h.2⟩
  | .con .or p q, _, h => ⟨formed_wf h.1, formed_wf h.2⟩
  | .con .imp p q, _, h => ⟨opp_wf (formed_wf h.1), formed_wf h.2⟩
  | .con .iff p q, _, h => ⟨⟨opp_wf (formed_wf h.1), formed_wf h.2⟩, opp_wf (formed_wf h.2), formed_wf h.1⟩
  | .same _ _, _, h => h | .R _ _, _, h => h | .P _, _, h => h | .Q, _, h => h
theorem opp_ht : ∀ (p : Fm), ht (opp p) ≤ ht p + 1
  | .not p => by simp only [opp, ht]; omega
  | .bind _ _ p => by have := opp_ht p; simp only [opp, ht]; omega
  | .con o p q => by have := opp_ht p; have := opp_ht q; simp only [opp, ht]; omega
  | .same _ _ => by simp [opp, ht] | .R _ _ => by simp [opp, ht] | .P _ => by simp [opp, ht] | .Q => by simp [opp, ht]
theorem formed_ht : ∀ (p : Fm), ht (formed p) ≤ 3 * ht p
  | .not p => by have := formed_ht p; have := opp_ht (formed p); simp only [formed, ht]; omega
  | .bind _ _ p => by have := formed_ht p; simp only [formed, ht]; omega
  | .con .and p q => by have := formed_ht p; have := formed_ht q; simp only [formed, ht]; omega
  | .con .or p q => by have := formed_ht p; have := formed_ht q; simp only [formed, ht]; omega
  | .con .imp p q => by have := formed_ht p; have := formed_ht q; have := opp_ht (formed p); simp only [formed, ht]; omega
  | .con .iff p q => by have := formed_ht p; have := formed_ht q; have := opp_ht (formed p); have := opp_ht (formed q); simp only [formed, ht]; omega
  | .same _ _ => by simp [formed, ht] | .R _ _ => by simp [formed, ht] | .P _ => by simp [formed, ht] | .Q => by simp [formed, ht]
end K15

namespace K15
open PySem PySem.Spec PyProof.Rows L2 Mi
/-! ### meanings -/
def c_BASIC : D := .tup [.str [104, 111, 108, 100, 115], .str [115, 97, 109, 101]]
def c_BINDERS : D := .tup [.str [97, 108, 108], .str [115, 111, 109, 101]]
def k_OTHER : List (List Nat × D) := [([97, 110, 100], .str [111, 114]), ([111, 114], .str [97, 110, 100]), ([97, 108, 108], .str [115, 111, 109, 101]), ([115, 111, 109, 101], .str [97, 108, 108])]
noncomputable def B_signed_form (r_signed_form : List D → Sto → R D) : SM := (sSeq (sAsg (eBin (eVar 0) (eC (.int 0)) dIx) (gtName 2))
  (sSeq (sIf (eTst (eBin (eVar 2) (eC c_BASIC) dIn)) (sRet (eIf (eTru (eVar 1)) (eVar 0) (eApp [(eC (.str [110, 111, 116])), (eVar 0)] dTup))) sSkip)
  (sSeq (sIf (eTst (eBin (eVar 2) (eC (.str [110, 111, 116])) dEq)) (sRet (eCall [(eBin (eVar 0) (eC (.int 1)) dIx), (eNotV (eVar 1))] [] r_signed_form)) sSkip)
  (sSeq (sIf (eTst (eBin (eVar 2) (eC c_BINDERS) dIn)) (sRet (eApp [(eIf (eTru (eVar 1)) (eVar 2) (eKd k_OTHER (eVar 2))), (eBin (eVar 0) (eC (.int 1)) dIx), (eCall [(eBin (eVar 0) (eC (.int 2)) dIx), (eVar 1)] [] r_signed_form)] dTup)) sSkip)
  (sSeq (sPar 3 4 [(eBin (eVar 0) (eC (.int 1)) dIx), (eBin (eVar 0) (eC (.int 2)) dIx)])
  (sSeq (sIf (eTst (eBin (eVar 2) (eC (.str [105, 102, 102])) dEq)) (sSeq (sPar 5 6 [(eApp [(eC (.str [105, 109, 112, 108, 105, 101, 115])), (eVar 3), (eVar 4)] dTup), (eApp [(eC (.str [105, 109, 112, 108, 105, 101, 115])), (eVar 4), (eVar 3)] dTup)])
  (sRet (eApp [(eIf (eTru (eVar 1)) (eC (.str [97, 110, 100])) (eC (.str [111, 114]))), (eCall [(eVar 5), (eVar 1)] [] r_signed_form), (eCall [(eVar 6), (eVar 1)] [] r_signed_form)] dTup))) sSkip)
  (sSeq (sIf (eTst (eBin (eVar 2) (eC (.str [105, 109, 112, 108, 105, 101, 115])) dEq)) (sRet (eApp [(eIf (eTru (eVar 1)) (eC (.str [111, 114])) (eC (.str [97, 110, 100]))), (eCall [(eVar 3), (eNotV (eVar 1))] [] r_signed_form), (eCall [(eVar 4), (eVar 1)] [] r_signed_form)] dTup)) sSkip)
  (sRet (eApp [(eIf (eTru (eVar 1)) (eVar 2) (eKd k_OTHER (eVar 2))), (eCall [(eVar 3), (eVar 1)] [] r_signed_form), (eCall [(eVar 4), (eVar 1)] [] r_signed_form)] dTup)))))))))
noncomputable def F_signed_form : Nat → List D → Sto → R D
  | 0 => badF
  | n + 1 => runV 7 (B_signed_form (F_signed_form n))
noncomputable def B_negation_form : SM := (sRet (eCall [(eVar 0), (eC (.bl true))] [] (F_signed_form 40)))
noncomputable def F_negation_form : List D → Sto → R D := runV 1 B_negation_form
noncomputable def B__law_start : SM := (sSeq (sAsg (eApp [] (dLst true)) (gtName 1))
  (sSeq (sAsg (eC (.int 17)) (gtName 2))
  (sSeq (sFor (iRange [(eApp [(eVar 0)] (b1 lenG))]) (gtName 3) (sSeq (sAsg (eApp [(eBin (eVar 0) (eVar 3) dIx)] (b1 absG)) (gtName 4))
  (sSeq (sAsg (eBin (eApp [(eBin (eBin (eBin (eVar 2) (eC (.int 31)) dMul) (eVar 4) (dAdd false)) (eVar 3) (dAdd false))] (b1 intG)) (eC (.int 2147483647)) dMod) (gtName 2))
  (sIf (eTst (eBin (eVar 4) (eBin (eC (.int 10)) (eC (.int 18)) dPow) dGe)) (sSeq (sAsg (eBin (eVar 4) (eBin (eC (.int 10)) (eC (.int 18)) dPow) dSub) (gtName 4))
  (sFor (iRange [(eC (.int 60))]) (gtName 5) (sIf (eTst (eBin (eVar 4) (eC (.int 0)) dGt)) (sSeq (sExpr (eMeth (eVar 1) [(eBin (eApp [(eVar 4)] (b1 intG)) (eC (.int 840)) dMod)] mAppend))
  (sAsg (eBin (eVar 4) (eC (.int 840)) dDiv) (gtName 4))) sSkip))) (sSeq (sAsg (eBin (eApp [(eBin (eBin (eBin (eVar 4) (eC (.int 1)) (dAdd false)) (eC (.int 48271)) dMul) (eBin (eVar 3) (eC (.int 69621)) dMul) (dAdd false))] (b1 intG)) (eC (.int 2147483647)) dMod) (gtName 6))
  (sSeq (sAsg (eBin (eApp [(eBin (eBin (eVar 6) (eC (.int 40692)) dMul) (eC (.int 5)) (dAdd false))] (b1 intG)) (eC (.int 2147483399)) dMod) (gtName 6))
  (sExpr (eMeth (eVar 1) [(eBin (eBin (eVar 6) (eC (.int 13)) dDiv) (eC (.int 840)) dMod)] mAppend))))))))
  (sRet (eApp [(eVar 1), (eC (.int 0)), (eVar 2)] (dLst true))))))
noncomputable def F__law_start : List D → Sto → R D := runF 7 B__law_start
noncomputable def B__law_take : SM := (sSeq (sAsg (eBin (eVar 0) (eC (.int 1)) dIx) (gtName 2))
  (sSeq (sSetIx (eVar 0) (eC (.int 1)) (eBin (eVar 2) (eC (.int 1)) (dAdd false)))
  (sSeq (sIf (eTst (eBin (eVar 2) (eApp [(eBin (eVar 0) (eC (.int 0)) dIx)] (b1 lenG)) dLt)) (sRet (eBin (eApp [(eBin (eBin (eVar 0) (eC (.int 0)) dIx) (eVar 2) dIx)] (b1 intG)) (eVar 1) dMod)) sSkip)
  (sSeq (sAsg (eBin (eApp [(eBin (eBin (eBin (eVar 0) (eC (.int 2)) dIx) (eBin (eVar 2) (eC (.int 40503)) dMul) (dAdd false)) (eC (.int 48271)) dMul)] (b1 intG)) (eC (.int 2147483647)) dMod) (gtName 3))
  (sSeq (sAsg (eBin (eApp [(eBin (eBin (eVar 3) (eC (.int 69621)) dMul) (eBin (eVar 2) (eVar 2) dMul) (dAdd false))] (b1 intG)) (eC (.int 2147483629)) dMod) (gtName 3))
  (sRet (eBin (eBin (eVar 3) (eC (.int 11)) dDiv) (eVar 1) dMod)))))))
noncomputable def F__law_take : List D → Sto → R D := runV 4 B__law_take
noncomputable def B__law_entry : SM := (sSeq (sAsg (eC (.int 0)) (gtName 4))
  (sSeq (sFor (iVal (eVar 3)) (gtName 5) (sAsg (eBin (eBin (eVar 4) (eVar 1) dMul) (eVar 5) (dAdd false)) (gtName 4)))
  (sRet (eBin (eBin (eVar 0) (eVar 2) dIx) (eVar 4) dIx))))
noncomputable def F__law_entry : List D → Sto → R D := runV 6 B__law_entry
noncomputable def B__law_value (r__law_value : List D → Sto → R D) : SM := (sSeq (sIf (eTru (eIsT "str" (eVar 2))) (sRet (eBin (eVar 3) (eVar 2) dIx)) sSkip)
  (sRet (eCall [(eVar 0), (eVar 1), (eBin (eVar 2) (eC (.int 0)) dIx), (eLc false (iVal (eSl false (eVar 2) (oSome (eC (.int 1))) oNone)) (gtName 4) tYesM (eCall [(eVar 0), (eVar 1), (eVar 4), (eVar 3)] [] r__law_value) [4])] [] F__law_entry)))
noncomputable def F__law_value : Nat → List D → Sto → R D
  | 0 => badF
  | n + 1 => runV 5 (B__law_value (F__law_value n))
noncomputable def B__law_bound (r__law_true : List D → Sto → R D) : SM := (sSeq (sAsg (eBin (eBin (eVar 2) (eC (.int 0)) dIx) (eC (.str [115, 111, 109, 101])) dEq) (gtName 4))
  (sSeq (sFor (iRange [(eVar 1)]) (gtName 5) (sSeq (sAsg (eApp [(eVar 3)] (dDict true)) (gtName 6))
  (sSeq (sSetIx (eVar 6) (eBin (eVar 2) (eC (.int 1)) dIx) (eVar 5))
  (sIf (eTst (eBin (eCall [(eVar 0), (eVar 1), (eBin (eVar 2) (eC (.int 2)) dIx), (eVar 6)] [] r__law_true) (eVar 4) dEq)) (sRet (eVar 4)) sSkip))))
  (sRet (eNotV (eVar 4)))))
noncomputable def B__law_true (r__law_bound : List D → Sto → R D) (r__law_true : List D → Sto → R D) : SM := (sSeq (sAsg (eBin (eVar 2) (eC (.int 0)) dIx) (gtName 4))
  (sSeq (sIf (eTst (eBin (eVar 4) (eC (.str [104, 111, 108, 100, 115])) dEq)) (sSeq (sAsg (eBin (eVar 2) (eC (.int 1)) dIx) (gtName 5))
  (sRet (eCall [(eVar 0), (eVar 1), (eBin (eVar 5) (eC (.int 0)) dIx), (eLc false (iVal (eSl false (eVar 5) (oSome (eC (.int 1))) oNone)) (gtName 8) tYesM (eCall [(eVar 0), (eVar 1), (eVar 8), (eVar 3)] [] (F__law_value 40)) [8])] [] F__law_entry))) sSkip)
  (sSeq (sIf (eTst (eBin (eVar 4) (eC (.str [115, 97, 109, 101])) dEq)) (sRet (eBin (eCall [(eVar 0), (eVar 1), (eBin (eVar 2) (eC (.int 1)) dIx), (eVar 3)] [] (F__law_value 40)) (eCall [(eVar 0), (eVar 1), (eBin (eVar 2) (eC (.int 2)) dIx), (eVar 3)] [] (F__law_value 40)) dEq)) sSkip)
  (sSeq (sIf (eTst (eBin (eVar 4) (eC (.str [110, 111, 116])) dEq)) (sRet (eNotV (eCall [(eVar 0), (eVar 1), (eBin (eVar 2) (eC (.int 1)) dIx), (eVar 3)] [] r__law_true))) sSkip)
  (sSeq (sIf (eTst (eBin (eVar 4) (eApp [(eC (.str [97, 108, 108])), (eC (.str [115, 111, 109, 101]))] dTup) dIn)) (sRet (eCall [(eVar 0), (eVar 1), (eVar 2), (eVar 3)] [] r__law_bound)) sSkip)
  (sSeq (sAsg (eCall [(eVar 0), (eVar 1), (eBin (eVar 2) (eC (.int 1)) dIx), (eVar 3)] [] r__law_true) (gtName 6))
  (sSeq (sIf (tOrM (tAndM (eTst (eBin (eVar 4) (eC (.str [97, 110, 100])) dEq)) (tNotM (eTru (eVar 6)))) (tAndM (eTst (eBin (eVar 4) (eC (.str [111, 114])) dEq)) (eTru (eVar 6)))) (sRet (eVar 6)) sSkip)
  (sSeq (sIf (tAndM (eTst (eBin (eVar 4) (eC (.str [105, 109, 112, 108, 105, 101, 115])) dEq)) (tNotM (eTru (eVar 6)))) (sRet (eC (.bl true))) sSkip)
  (sSeq (sAsg (eCall [(eVar 0), (eVar 1), (eBin (eVar 2) (eC (.int 2)) dIx), (eVar 3)] [] r__law_true) (gtName 7))
  (sSeq (sIf (eTst (eBin (eVar 4) (eC (.str [105, 102, 102])) dEq)) (sRet (eBin (eVar 6) (eVar 7) dEq)) sSkip)
  (sRet (eVar 7))))))))))))
mutual
noncomputable def F__law_bound : Nat → List D → Sto → R D
  | 0 => badF
  | n + 1 => runV 7 (B__law_bound (F__law_true n))
noncomputable def F__law_true : Nat → List D → Sto → R D
  | 0 => badF
  | n + 1 => runV 9 (B__law_true (F__law_bound n) (F__law_true n))
end
noncomputable def B__law_term : SM := (sSeq (sAsg (eCall [(eVar 0), (eC (.int 4))] [] F__law_take) (gtName 2))
  (sSeq (sIf (eTst (eBin (eVar 2) (eC (.int 0)) dEq)) (sRet (eApp [(eC (.str [97]))] dTup)) sSkip)
  (sSeq (sIf (eTst (eBin (eVar 2) (eC (.int 1)) dEq)) (sRet (eApp [(eC (.str [102])), (eBin (eVar 1) (eCall [(eVar 0), (eApp [(eVar 1)] (b1 lenG))] [] F__law_take) dIx)] dTup)) sSkip)
  (sRet (eBin (eVar 1) (eCall [(eVar 0), (eApp [(eVar 1)] (b1 lenG))] [] F__law_take) dIx)))))
noncomputable def F__law_term : List D → Sto → R D := runV 3 B__law_term
noncomputable def B__law_basic : SM := (sSeq (sAsg (eCall [(eVar 0), (eC (.int 4))] [] F__law_take) (gtName 2))
  (sSeq (sIf (eTst (eBin (eVar 2) (eC (.int 0)) dEq)) (sRet (eApp [(eC (.str [115, 97, 109, 101])), (eCall [(eVar 0), (eVar 1)] [] F__law_term), (eCall [(eVar 0), (eVar 1)] [] F__law_term)] dTup)) sSkip)
  (sSeq (sIf (eTst (eBin (eVar 2) (eC (.int 1)) dEq)) (sRet (eApp [(eC (.str [104, 111, 108, 100, 115])), (eApp [(eC (.str [82])), (eCall [(eVar 0), (eVar 1)] [] F__law_term), (eCall [(eVar 0), (eVar 1)] [] F__law_term)] dTup)] dTup)) sSkip)
  (sSeq (sIf (eTst (eBin (eVar 2) (eC (.int 2)) dEq)) (sRet (eApp [(eC (.str [104, 111, 108, 100, 115])), (eApp [(eC (.str [80])), (eCall [(eVar 0), (eVar 1)] [] F__law_term)] dTup)] dTup)) sSkip)
  (sRet (eApp [(eC (.str [104, 111, 108, 100, 115])), (eApp [(eC (.str [81]))] dTup)] dTup))))))
noncomputable def F__law_basic : List D → Sto → R D := runV 3 B__law_basic
noncomputable def B__law_sentence (r__law_sentence : List D → Sto → R D) : SM := (sSeq (sAsg (eCall [(eVar 0), (eC (.int 10))] [] F__law_take) (gtName 3))
  (sSeq (sIf (tOrM (eTst (eBin (eVar 2) (eC (.int 0)) dEq)) (eTst (eBin (eVar 3) (eC (.int 0)) dEq))) (sRet (eCall [(eVar 0), (eVar 1)] [] F__law_basic)) sSkip)
  (sSeq (sIf (eTst (eBin (eVar 3) (eC (.int 3)) dLt)) (sRet (eApp [(eC (.str [110, 111, 116])), (eCall [(eVar 0), (eVar 1), (eBin (eVar 2) (eC (.int 1)) dSub)] [] r__law_sentence)] dTup)) sSkip)
  (sSeq (sIf (eTst (eBin (eVar 3) (eC (.int 5)) dLt)) (sSeq (sAsg (eBin (eApp [(eC (.str [120])), (eC (.str [121])), (eC (.str [122]))] (dLst false)) (eCall [(eVar 0), (eC (.int 3))] [] F__law_take) dIx) (gtName 4))
  (sSeq (sAsg (eBin (eLc false (iVal (eVar 1)) (gtName 7) (eTst (eBin (eVar 7) (eVar 4) dNe)) (eVar 7) [7]) (eApp [(eVar 4)] (dLst false)) (dAdd false)) (gtName 5))
  (sRet (eApp [(eBin (eApp [(eC (.str [97, 108, 108])), (eC (.str [115, 111, 109, 101]))] (dLst false)) (eCall [(eVar 0), (eC (.int 2))] [] F__law_take) dIx), (eVar 4), (eCall [(eVar 0), (eVar 5), (eBin (eVar 2) (eC (.int 1)) dSub)] [] r__law_sentence)] dTup)))) sSkip)
  (sSeq (sAsg (eBin (eApp [(eC (.str [97, 110, 100])), (eC (.str [111, 114])), (eC (.str [105, 109, 112, 108, 105, 101, 115])), (eC (.str [105, 102, 102])), (eC (.str [105, 102, 102]))] (dLst false)) (eBin (eVar 3) (eC (.int 5)) dSub) dIx) (gtName 6))
  (sRet (eApp [(eVar 6), (eCall [(eVar 0), (eVar 1), (eBin (eVar 2) (eC (.int 1)) dSub)] [] r__law_sentence), (eCall [(eVar 0), (eVar 1), (eBin (eVar 2) (eC (.int 1)) dSub)] [] r__law_sentence)] dTup)))))))
noncomputable def F__law_sentence : Nat → List D → Sto → R D
  | 0 => badF
  | n + 1 => runV 8 (B__law_sentence (F__law_sentence n))
noncomputable def B__law_opposite (r__law_opposite : List D → Sto → R D) : SM := (sSeq (sAsg (eBin (eVar 0) (eC (.int 0)) dIx) (gtName 1))
  (sSeq (sIf (eTst (eBin (eVar 1) (eC (.str [110, 111, 116])) dEq)) (sRet (eBin (eVar 0) (eC (.int 1)) dIx)) sSkip)
  (sSeq (sIf (eTst (eBin (eVar 1) (eApp [(eC (.str [104, 111, 108, 100, 115])), (eC (.str [115, 97, 109, 101]))] dTup) dIn)) (sRet (eApp [(eC (.str [110, 111, 116])), (eVar 0)] dTup)) sSkip)
  (sSeq (sIf (eTst (eBin (eVar 1) (eApp [(eC (.str [97, 108, 108])), (eC (.str [115, 111, 109, 101]))] dTup) dIn)) (sRet (eApp [(eIf (eTst (eBin (eVar 1) (eC (.str [97, 108, 108])) dEq)) (eC (.str [115, 111, 109, 101])) (eC (.str [97, 108, 108]))), (eBin (eVar 0) (eC (.int 1)) dIx), (eCall [(eBin (eVar 0) (eC (.int 2)) dIx)] [] r__law_opposite)] dTup)) sSkip)
  (sRet (eApp [(eIf (eTst (eBin (eVar 1) (eC (.str [97, 110, 100])) dEq)) (eC (.str [111, 114])) (eC (.str [97, 110, 100]))), (eCall [(eBin (eVar 0) (eC (.int 1)) dIx)] [] r__law_opposite), (eCall [(eBin (eVar 0) (eC (.int 2)) dIx)] [] r__law_opposite)] dTup))))))
noncomputable def F__law_opposite : Nat → List D → Sto → R D
  | 0 => badF
  | n + 1 => runV 2 (B__law_opposite (F__law_opposite n))
noncomputable def B__law_formed (r__law_formed : List D → Sto → R D) : SM := (sSeq (sAsg (eBin (eVar 0) (eC (.int 0)) dIx) (gtName 1))
  (sSeq (sIf (eTst (eBin (eVar 1) (eApp [(eC (.str [104, 111, 108, 100, 115])), (eC (.str [115, 97, 109, 101]))] dTup) dIn)) (sRet (eVar 0)) sSkip)
  (sSeq (sIf (eTst (eBin (eVar 1) (eC (.str [110, 111, 116])) dEq)) (sRet (eCall [(eCall [(eBin (eVar 0) (eC (.int 1)) dIx)] [] r__law_formed)] [] (F__law_opposite 40))) sSkip)
  (sSeq (sIf (eTst (eBin (eVar 1) (eApp [(eC (.str [97, 108, 108])), (eC (.str [115, 111, 109, 101]))] dTup) dIn)) (sRet (eApp [(eVar 1), (eBin (eVar 0) (eC (.int 1)) dIx), (eCall [(eBin (eVar 0) (eC (.int 2)) dIx)] [] r__law_formed)] dTup)) sSkip)
  (sSeq (sAsg (eCall [(eBin (eVar 0) (eC (.int 1)) dIx)] [] r__law_formed) (gtName 2))
  (sSeq (sAsg (eCall [(eBin (eVar 0) (eC (.int 2)) dIx)] [] r__law_formed) (gtName 3))
  (sSeq (sIf (eTst (eBin (eVar 1) (eC (.str [105, 109, 112, 108, 105, 101, 115])) dEq)) (sRet (eApp [(eC (.str [111, 114])), (eCall [(eVar 2)] [] (F__law_opposite 40)), (eVar 3)] dTup)) sSkip)
  (sSeq (sIf (eTst (eBin (eVar 1) (eC (.str [105, 102, 102])) dEq)) (sRet (eApp [(eC (.str [97, 110, 100])), (eApp [(eC (.str [111, 114])), (eCall [(eVar 2)] [] (F__law_opposite 40)), (eVar 3)] dTup), (eApp [(eC (.str [111, 114])), (eCall [(eVar 3)] [] (F__law_opposite 40)), (eVar 2)] dTup)] dTup)) sSkip)
  (sRet (eApp [(eVar 1), (eVar 2), (eVar 3)] dTup))))))))))
noncomputable def F__law_formed : Nat → List D → Sto → R D
  | 0 => badF
  | n + 1 => runV 4 (B__law_formed (F__law_formed n))
noncomputable def B__law_shaped (r__law_shaped : List D → Sto → R D) : SM := (sSeq (sAsg (eBin (eVar 0) (eC (.int 0)) dIx) (gtName 1))
  (sSeq (sIf (eTst (eBin (eVar 1) (eC (.str [110, 111, 116])) dEq)) (sRet (eBin (eBin (eBin (eVar 0) (eC (.int 1)) dIx) (eC (.int 0)) dIx) (eApp [(eC (.str [104, 111, 108, 100, 115])), (eC (.str [115, 97, 109, 101]))] dTup) dIn)) sSkip)
  (sSeq (sIf (eTst (eBin (eVar 1) (eApp [(eC (.str [97, 108, 108])), (eC (.str [115, 111, 109, 101]))] dTup) dIn)) (sRet (eCall [(eBin (eVar 0) (eC (.int 2)) dIx)] [] r__law_shaped)) sSkip)
  (sSeq (sIf (eTst (eBin (eVar 1) (eApp [(eC (.str [97, 110, 100])), (eC (.str [111, 114]))] dTup) dIn)) (sRet (eAndV (eCall [(eBin (eVar 0) (eC (.int 1)) dIx)] [] r__law_shaped) (eCall [(eBin (eVar 0) (eC (.int 2)) dIx)] [] r__law_shaped))) sSkip)
  (sRet (eBin (eVar 1) (eApp [(eC (.str [104, 111, 108, 100, 115])), (eC (.str [115, 97, 109, 101]))] dTup) dIn))))))
noncomputable def F__law_shaped : Nat → List D → Sto → R D
  | 0 => badF
  | n + 1 => runV 2 (B__law_shaped (F__law_shaped n))
noncomputable def B_law : SM := (sSeq (sAsg (eCall [(eVar 0)] [] F__law_start) (gtName 1))
  (sSeq (sAsg (eBin (eC (.int 1)) (eCall [(eVar 1), (eC (.int 3))] [] F__law_take) (dAdd false)) (gtName 2))
  (sSeq (sAsg (eBin (eC (.int 1)) (eCall [(eVar 1), (eC (.int 4))] [] F__law_take) (dAdd false)) (gtName 3))
  (sSeq (sAsg (eDisp true [((eC (.str [97])), (eApp [(eCall [(eVar 1), (eVar 2)] [] F__law_take)] (dLst false))), ((eC (.str [81])), (eApp [(eBin (eCall [(eVar 1), (eC (.int 2))] [] F__law_take) (eC (.int 1)) dEq)] (dLst false)))]) (gtName 4))
  (sSeq (sSetIx (eVar 4) (eC (.str [102])) (eLc false (iRange [(eVar 2)]) (gtName 13) tYesM (eCall [(eVar 1), (eVar 2)] [] F__law_take) [13]))
  (sSeq (sSetIx (eVar 4) (eC (.str [80])) (eLc false (iRange [(eVar 2)]) (gtName 13) tYesM (eBin (eCall [(eVar 1), (eC (.int 2))] [] F__law_take) (eC (.int 1)) dEq) [13]))
  (sSeq (sSetIx (eVar 4) (eC (.str [82])) (eLc false (iRange [(eBin (eVar 2) (eVar 2) dMul)]) (gtName 13) tYesM (eBin (eCall [(eVar 1), (eC (.int 2))] [] F__law_take) (eC (.int 1)) dEq) [13]))
  (sSeq (sAsg (eCall [(eVar 1), (eApp [(eC (.str [120])), (eC (.str [121]))] (dLst false)), (eVar 3)] [] (F__law_sentence 40)) (gtName 5))
  (sSeq (sAsg (eCall [(eVar 5)] [] (F__law_formed 40)) (gtName 6))
  (sSeq (sAsg (eCall [(eVar 5)] [] F_negation_form) (gtName 7))
  (sSeq (sAsg (eCall [(eApp [(eC (.str [110, 111, 116])), (eVar 5)] dTup)] [] F_negation_form) (gtName 8))
  (sSeq (sIf (tOrM (eTst (eBin (eVar 7) (eVar 6) dNe)) (eTst (eBin (eVar 8) (eCall [(eVar 6)] [] (F__law_opposite 40)) dNe))) (sRet (eC (.bl false))) sSkip)
  (sSeq (sIf (tOrM (tNotM (eTru (eCall [(eVar 7)] [] (F__law_shaped 40)))) (tOrM (tNotM (eTru (eCall [(eVar 8)] [] (F__law_shaped 40)))) (eTst (eBin (eCall [(eVar 7)] [] F_negation_form) (eVar 6) dNe)))) (sRet (eC (.bl false))) sSkip)
  (sSeq (sFor (iRange [(eVar 2)]) (gtName 9) (sFor (iRange [(eVar 2)]) (gtName 10) (sSeq (sAsg (eDisp false [((eC (.str [120])), (eVar 9)), ((eC (.str [121])), (eVar 10))]) (gtName 11))
  (sSeq (sAsg (eCall [(eVar 4), (eVar 2), (eVar 5), (eVar 11)] [] (F__law_true 40)) (gtName 12))
  (sSeq (sIf (eTst (eBin (eCall [(eVar 4), (eVar 2), (eVar 7), (eVar 11)] [] (F__law_true 40)) (eVar 12) dNe)) (sRet (eC (.bl false))) sSkip)
  (sIf (eTst (eBin (eCall [(eVar 4), (eVar 2), (eVar 8), (eVar 11)] [] (F__law_true 40)) (eVar 12) dEq)) (sRet (eC (.bl false))) sSkip))))))
  (sRet (eC (.bl true)))))))))))))))))
noncomputable def F_law : List D → Sto → R D := runV 14 B_law
end K15

/-! K15b: what the defs about sentences answer. -/
namespace K15
open PySem PySem.Spec PyProof.Rows L2 Mi
def nm (x : Nat) : List Nat := [120 + x]
def encT : Tm → D
  | .v x => .str (nm x)
  | .a => .tup [.str [97]]
  | .f x => .tup [.str [102], .str (nm x)]
def wd : Op → List Nat
  | .and => [97, 110, 100]
  | .or => [111, 114]
  | .imp => [105, 109, 112, 108, 105, 101, 115]
  | .iff => [105, 102, 102]
def bw (a : Bool) : List Nat := if a then [97, 108, 108] else [115, 111, 109, 101]
def enc : Fm → D
  | .same s t => .tup [.str [115, 97, 109, 101], encT s, encT t]
  | .R s t => .tup [.str [104, 111, 108, 100, 115], .tup [.str [82], encT s, encT t]]
  | .P s => .tup [.str [104, 111, 108, 100, 115], .tup [.str [80], encT s]]
  | .Q => .tup [.str [104, 111, 108, 100, 115], .tup [.str [81]]]
  | .not p => .tup [.str [110, 111, 116], enc p]
  | .bind a x p => .tup [.str (bw a), .str (nm x), enc p]
  | .con o p q => .tup [.str (wd o), enc p, enc q]
/-! ### its shape as data -/
theorem encT_pl (t : Tm) : Pl (encT t) = true ∧ dp (encT t) ≤ 1 := by
  cases t <;> simp [encT, Pl, PlL, dp, dpL]
theorem enc_pl : ∀ (p : Fm), Pl (enc p) = true ∧ dp (enc p) ≤ ht p + 2
  | .same s t => by
    have := encT_pl s; have := encT_pl t
    simp [enc, Pl, PlL, dp, dpL, ht, *] <;> omega
  | .R s t => by
    have := encT_pl s; have := encT_pl t
    simp [enc, Pl, PlL, dp, dpL, ht, *] <;> omega
  | .P s => by
    have := encT_pl s
    simp [enc, Pl, PlL, dp, dpL, ht, *] <;> omega
  | .Q => by simp [enc, Pl, PlL, dp, dpL, ht]
  | .not p => by
    have := enc_pl p
    simp [enc, Pl, PlL, dp, dpL, ht, *] <;> omega
  | .bind a x p => by
    have := enc_pl p
    simp [enc, Pl, PlL, dp, dpL, ht, *] <;> omega
  | .con o p q => by
    have := enc_pl p; have := enc_pl q
    simp [enc, Pl, PlL, dp, dpL, ht, *] <;> omega
theorem nm_inj {x y : Nat} (h : nm x = nm y) : x = y := by
  unfold nm at h; simp at h; exact h
/-! ### the forms -/
theorem sf_ok : ∀ (p : Fm) (s : Bool) (n : Nat) (S : Sto), ht p ≤ n → F_signed_form n [enc p, .bl s] S = .ok (enc (sf p s)) S
  | .not p, s, 0, S, h => by simp [ht] at h
  | .bind a x p, s, 0, S, h => by simp [ht] at h
  | .con o p q, s, 0, S, h => by simp [ht] at h
  | .same u t, s, 0, S, h => by simp [ht] at h
  | .R u t, s, 0, S, h => by simp [ht] at h
  | .P u, s, 0, S, h => by simp [ht] at h
  | .Q, s, 0, S, h => by simp [ht] at h
  | .same u t, s, n + 1, S, h => by
    refine runV_pure ?_
    cases s <;> simp [B_signed_form, initE, enc, c_BASIC, sf, List.replicate]
  | .R u t, s, n + 1, S, h => by
    refine runV_pure ?_
    cases s <;> simp [B_signed_form, initE, enc, c_BASIC, sf, List.replicate]
  | .P u, s, n + 1, S, h => by
    refine runV_pure ?_
    cases s <;> simp [B_signed_form, initE, enc, c_BASIC, sf, List.replicate]
  | .Q, s, n + 1, S, h => by
    refine runV_pure ?_
    cases s <;> simp [B_signed_form, initE, enc, c_BASIC, sf, List.replicate]
  | .not p, s, n + 1, S, h => by
    refine runV_pure ?_
    have := sf_ok p (!s) n S.push (by simp only [ht] at h; omega)
    simp [B_signed_form, initE, enc, c_BASIC, sf, List.replicate, this]
  | .bind a x p, s, n + 1, S, h => by
    refine runV_pure ?_
    have := sf_ok p s n S.push (by simp only [ht] at h; omega)
    cases s <;> cases a <;> simp [B_signed_form, initE, enc, c_BASIC, c_BINDERS, k_OTHER, bw, sf, List.replicate, this]
  | .con .and p q, s, n + 1, S, h => by
    refine runV_pure ?_
    have h1 := sf_ok p s n S.push (by simp only [ht] at h; omega)
    have h2 := sf_ok q s n S.push (by simp only [ht] at h; omega)
    cases s <;> simp [B_signed_form, initE, enc, c_BASIC, c_BINDERS, k_OTHER, wd, sf, List.replicate, h1, h2]
  | .con .or p q, s, n + 1, S, h => by
    refine runV_pure ?_
    have h1 := sf_ok p s n S.push (by simp only [ht] at h; omega)
    have h2 := sf_ok q s n S.push (by simp only [ht] at h; omega)
    cases s <;> simp [B_signed_form, initE, enc, c_BASIC, c_BINDERS, k_OTHER, wd, sf, List.replicate, h1, h2]
  | .con .imp p q, s, n + 1, S, h => by
    refine runV_pure ?_
    have h1 := sf_ok p (!s) n S.push (by simp only [ht] at h; omega)
    have h2 := sf_ok q s n S.push (by simp only [ht] at h; omega)
    cases s <;> simp [B_signed_form, initE, enc, c_BASIC, c_BINDERS, k_OTHER, wd, sf, List.replicate] <;> simp at h1 <;> simp [h1, h2]
  | .con .iff p q, s, 1, S, h => by simp [ht] at h
  | .con .iff p q, s, n + 2, S, h => by
    refine runV_pure ?_
    have g1 := sf_ok p (!s) n S.push.push (by simp only [ht] at h; omega)
    have g2 := sf_ok q s n S.push.push (by simp only [ht] at h; omega)
    have g3 := sf_ok q (!s) n S.push.push (by simp only [ht] at h; omega)
    have g4 := sf_ok p s n S.push.push (by simp only [ht] at h; omega)
    have h1 : F_signed_form (n + 1) [enc (.con .imp p q), .bl s] S.push = .ok (enc (.con (if s then .or else .and) (sf p (!s)) (sf q s))) S.push := by
      refine runV_pure ?_
      cases s <;> simp [B_signed_form, initE, enc, c_BASIC, c_BINDERS, k_OTHER, wd, sf, List.replicate] <;> simp at g1 <;> simp [g1, g2]
    have h2 : F_signed_form (n + 1) [enc (.con .imp q p), .bl s] S.push = .ok (enc (.con (if s then .or else .and) (sf q (!s)) (sf p s))) S.push := by
      refine runV_pure ?_
      cases s <;> simp [B_signed_form, initE, enc, c_BASIC, c_BINDERS, k_OTHER, wd, sf, List.replicate] <;> simp at g3 <;> simp [g3, g4]
    simp only [enc, wd] at h1 h2
    cases s <;> simp [B_signed_form, initE, enc, c_BASIC, c_BINDERS, k_OTHER, wd, sf, List.replicate] <;> simp at h1 h2 <;> simp [h1, h2]
theorem neg_ok {p : Fm} {S : Sto} (h : ht p ≤ 40) : F_negation_form [enc p] S = .ok (enc (formed p)) S := by
  refine runV_pure ?_
  have := sf_ok p true 40 S.push h
  simp [B_negation_form, initE, List.replicate, this, (sf_eq p).1]
theorem opp_ok : ∀ (p : Fm) (n : Nat) (S : Sto), ht p ≤ n → Nn p = true → F__law_opposite n [enc p] S = .ok (enc (opp p)) S
  | .not p, 0, S, h, _ => by simp [ht] at h
  | .bind a x p, 0, S, h, _ => by simp [ht] at h
  | .con o p q, 0, S, h, _ => by simp [ht] at h
  | .same u t, 0, S, h, _ => by simp [ht] at h
  | .R u t, 0, S, h, _ => by simp [ht] at h
  | .P u, 0, S, h, _ => by simp [ht] at h
  | .Q, 0, S, h, _ => by simp [ht] at h
  | .same u t, n + 1, S, h, _ => by refine runV_pure ?_; simp [B__law_opposite, initE, enc, opp, List.replicate]
  | .R u t, n + 1, S, h, _ => by refine runV_pure ?_; simp [B__law_opposite, initE, enc, opp, List.replicate]
  | .P u, n + 1, S, h, _ => by refine runV_pure ?_; simp [B__law_opposite, initE, enc, opp, List.replicate]
  | .Q, n + 1, S, h, _ => by refine runV_pure ?_; simp [B__law_opposite, initE, enc, opp, List.replicate]
  | .not p, n + 1, S, h, _ => by refine runV_pure ?_; simp [B__law_opposite, initE, enc, opp, List.replicate]
  | .bind a x p, n + 1, S, h, hn => by
    refine runV_pure ?_
    have := opp_ok p n S.push (by simp only [ht] at h; omega) hn
    cases a <;> simp [B__law_opposite, initE, enc, opp, List.replicate, bw, this]
  | .con o p q, n + 1, S, h, hn => by
    refine runV_pure ?_
    simp only [Nn, Bool.and_eq_true] at hn
    have h1 := opp_ok p n S.push (by simp only [ht] at h; omega) hn.1.2
    have h2 := opp_ok q n S.push (by simp only [ht] at h; omega) hn.2
    have h3 := hn.1.1
    cases o <;> first | (simp [B__law_opposite, initE, enc, opp, List.replicate, wd, h1, h2]; done) | simp at h3
theorem opp40 {p : Fm} {S : Sto} (h : ht p ≤ 40) (hn : Nn p = true) : F__law_opposite 40 [enc p] S = .ok (enc (opp p)) S := opp_ok p 40 S h hn
theorem formed_ok : ∀ (p : Fm) (n : Nat) (S : Sto), ht p ≤ n → ht p ≤ 13 → F__law_formed n [enc p] S = .ok (enc (formed p)) S
  | .not p, 0, S, h, _ => by simp [ht] at h
  | .bind a x p, 0, S, h, _ => by simp [ht] at h
  | .con o p q, 0, S, h, _ => by simp [ht] at h
  | .same u t, 0, S, h, _ => by simp [ht] at h
  | .R u t, 0, S, h, _ => by simp [ht] at h
  | .P u, 0, S, h, _ => by simp [ht] at h
  | .Q, 0, S, h, _ => by simp [ht] at h
  | .same u t, n + 1, S, h, _ => by refine runV_pure ?_; simp [B__law_formed, initE, enc, formed, List.replicate]
  | .R u t, n + 1, S, h, _ => by refine runV_pure ?_; simp [B__law_formed, initE, enc, formed, List.replicate]
  | .P u, n + 1, S, h, _ => by refine runV_pure ?_; simp [B__law_formed, initE, enc, formed, List.replicate]
  | .Q, n + 1, S, h, _ => by refine runV_pure ?_; simp [B__law_formed, initE, enc, formed, List.replicate]
  | .not p, n + 1, S, h, hh => by
    refine runV_pure ?_
    simp only [ht] at h hh
    have h1 := formed_ok p n S.push (by omega) (by omega)
    have h2 := opp40 (p := formed p) (S := S.push) (by have := formed_ht p; omega) (formed_nn p)
    simp [B__law_formed, initE, enc, formed, List.replicate, h1, h2]
  | .bind a x p, n + 1, S, h, hh => by
    refine runV_pure ?_
    simp only [ht] at h hh
    have h1 := formed_ok p n S.push (by omega) (by omega)
    cases a <;> simp [B__law_formed, initE, enc, formed, List.replicate, bw, h1]
  | .con o p q, n + 1, S, h, hh => by
    refine runV_pure ?_
    simp only [ht] at h hh
    have h1 := formed_ok p n S.push (by omega) (by omega)
    have h2 := formed_ok q n S.push (by omega) (by omega)
    have h3 := opp40 (p := formed p) (S := S.push) (by have := formed_ht p; omega) (formed_nn p)
    have h4 := opp40 (p := formed q) (S := S.push) (by have := formed_ht q; omega) (formed_nn q)
    cases o <;> simp [B__law_formed, initE, enc, formed, List.replicate, wd, h1, h2, h3, h4]
theorem shaped_ok : ∀ (p : Fm) (n : Nat) (S : Sto), ht p ≤ n → Nn p = true → F__law_shaped n [enc p] S = .ok (.bl true) S
  | .not p, 0, S, h, _ => by simp [ht] at h
  | .bind a x p, 0, S, h, _ => by simp [ht] at h
  | .con o p q, 0, S, h, _ => by simp [ht] at h
  | .same u t, 0, S, h, _ => by simp [ht] at h
  | .R u t, 0, S, h, _ => by simp [ht] at h
  | .P u, 0, S, h, _ => by simp [ht] at h
  | .Q, 0, S, h, _ => by simp [ht] at h
  | .same u t, n + 1, S, h, _ => by refine runV_pure ?_; simp [B__law_shaped, initE, enc, List.replicate]
  | .R u t, n + 1, S, h, _ => by refine runV_pure ?_; simp [B__law_shaped, initE, enc, List.replicate]
  | .P u, n + 1, S, h, _ => by refine runV_pure ?_; simp [B__law_shaped, initE, enc, List.replicate]
  | .Q, n + 1, S, h, _ => by refine runV_pure ?_; simp [B__law_shaped, initE, enc, List.replicate]
  | .not p, n + 1, S, h, hn => by
    refine runV_pure ?_
    cases p <;> first | (simp [B__law_shaped, initE, enc, List.replicate]; done) | cases hn
  | .bind a x p, n + 1, S, h, hn => by
    refine runV_pure ?_
    have := shaped_ok p n S.push (by simp only [ht] at h; omega) hn
    cases a <;> simp [B__law_shaped, initE, enc, List.replicate, bw, this]
  | .con o p q, n + 1, S, h, hn => by
    refine runV_pure ?_
    simp only [Nn, Bool.and_eq_true] at hn
    have h1 := shaped_ok p n S.push (by simp only [ht] at h; omega) hn.1.2
    have h2 := shaped_ok q n S.push (by simp only [ht] at h; omega) hn.2
    have h3 := hn.1.1
    cases o <;> first | (simp [B__law_shaped, initE, enc, List.replicate, wd, h1, h2]; done) | simp at h3
end K15

/-! K15c: truth in a world. -/
namespace K15
open PySem PySem.Spec PyProof.Rows L2 Mi
def ky (s : List Nat) : Key := .inr ⟨s.toArray⟩
structure TabOk (B : Tb) (tk : Nat) (S : Sto) : Prop where
  ex : ∃ kvs, S.get tk = some (.dic kvs) ∧ valD kvs (ky [97]) = some (.lst [.int B.a]) ∧ valD kvs (ky [81]) = some (.lst [.bl B.q]) ∧ valD kvs (ky [102]) = some (.lst (B.fs.map .int)) ∧
    valD kvs (ky [80]) = some (.lst (B.ps.map .bl)) ∧ valD kvs (ky [82]) = some (.lst (B.rs.map .bl))
theorem TabOk.of {B : Tb} {tk : Nat} {S T : Sto} (h : TabOk B tk S) (e : T.get tk = S.get tk) : TabOk B tk T := by
  obtain ⟨kvs, h1, h⟩ := h.ex
  exact ⟨kvs, e.trans h1, h⟩
structure Good (B : Tb) : Prop where
  n0 : 0 < B.n
  n3 : B.n ≤ 3
  a0 : 0 ≤ B.a
  a1 : B.a < B.n
  fl : B.fs.length = B.n
  fr : ∀ i ∈ B.fs, 0 ≤ i ∧ i < B.n
  pl : B.ps.length = B.n
  rl : B.rs.length = B.n * B.n
def Vr (B : Tb) (vd : D) (S : Sto) (v : Vl) (ns : List Nat) (c : Nat) : Prop := ∃ kvs, dicS S vd = some kvs ∧ kvs.length ≤ c ∧ ∀ x ∈ ns, valD kvs (ky (nm x)) = some (.int (v x)) ∧ 0 ≤ v x ∧ v x < B.n
theorem tv_rng {B : Tb} {S : Sto} {vd : D} {v : Vl} {ns : List Nat} {c : Nat} (G : Good B) (hv : Vr B vd S v ns c) {t : Tm} (ht : t.wf ns) : 0 ≤ B.tv t v ∧ B.tv t v < B.n := by
  obtain ⟨kvs, _, _, h⟩ := hv
  cases t with
  | v x => exact (h x ht).2
  | a => exact ⟨G.a0, G.a1⟩
  | f x =>
    have h1 := (h x ht).2
    have h2 : (v x).toNat < B.fs.length := by rw [G.fl]; omega
    show 0 ≤ (B.fs[(v x).toNat]?).getD 0 ∧ _
    simp only [Tb.tv, List.getElem?_eq_getElem h2, Option.getD_some]
    exact G.fr _ (List.getElem_mem h2)
theorem at_map {α : Type} {l : List α} {k : α → D} {i : Int} {z : α} (h0 : 0 ≤ i) (h1 : i < l.length) : atI (l.map k) i = some (k ((l[i.toNat]?).getD z)) := by
  obtain ⟨j, rfl⟩ := Int.eq_ofNat_of_zero_le h0
  have hj : j < l.length := by omega
  rw [Mi.atI_nat]
  simp [hj]
theorem entry_ok {tk : Nat} {S : Sto} {size : Int} {nme : List Nat} {kvs : List (Key × D)} {xs : List D} {r : D} (hk : S.get tk = some (.dic kvs)) (hx : valD kvs (ky nme) = some (.lst xs)) :
    (atI xs 0 = some r → F__law_entry [.ref tk, .int size, .str nme, .lst []] S = .ok r S) ∧
    (∀ t : Int, size.natAbs < 1000 → atI xs t = some r → F__law_entry [.ref tk, .int size, .str nme, .lst [.int t]] S = .ok r S) ∧
    (∀ t u : Int, size.natAbs < 1000 → atI xs (t * size + u) = some r → F__law_entry [.ref tk, .int size, .str nme, .lst [.int t, .int u]] S = .ok r S) := by
  have hk' : S.push.get tk = some (.dic kvs) := get_push.trans hk
  have hc : ∀ i : Int, size.natAbs < 1000 → CMul i size := fun i h => .inr ⟨by omega, by omega⟩
  unfold ky at hx
  refine ⟨fun h => ?_, fun t hs h => ?_, fun t u hs h => ?_⟩ <;> refine runV_pure ?_
  · simp [B__law_entry, initE, List.replicate, x_ixD hk', hx, h]
  · simp [B__law_entry, initE, List.replicate, x_ixD hk', hx, h, hc, hs]
  · simp [B__law_entry, initE, List.replicate, x_ixD hk', hx, h, hc, hs]
theorem value_ok {B : Tb} {tk : Nat} {S : Sto} {vd : D} {v : Vl} {ns : List Nat} {c : Nat} (G : Good B) (hT : TabOk B tk S) (hv : Vr B vd S v ns c) {t : Tm} (ht : t.wf ns) :
    F__law_value 40 [.ref tk, .int B.n, encT t, vd] S = .ok (.int (B.tv t v)) S := by
  have hvar : ∀ (k : Nat) (x : Nat) (T : Sto), Vr B vd T v ns c → x ∈ ns → F__law_value (k + 1) [.ref tk, .int B.n, .str (nm x), vd] T = .ok (.int (v x)) T := fun k x T hT hx => by
    obtain ⟨kvs, h1, _, h2⟩ := hT
    refine runV_pure ?_
    have h1' : dicS T.push vd = some kvs := by
      rw [← h1]; unfold dicS; simp only [get_push]
    have h3 := (h2 x hx).1
    unfold ky at h3
    simp [B__law_value, initE, List.replicate, tyS, isTy, x_ixDS h1', h3]
  obtain ⟨kvs, h1, h2, h3, h4, h5, h6⟩ := hT.ex
  have h1' : S.push.get tk = some (.dic kvs) := get_push.trans h1
  have hB : (B.n : Int).natAbs < 1000 := by have := G.n3; omega
  have hv' : Vr B vd S.push v ns c := by
    obtain ⟨kvs, g1, g2⟩ := hv
    exact ⟨kvs, by rw [← g1]; unfold dicS; simp only [get_push], g2⟩
  cases t with
  | v x => exact hvar 39 x S hv ht
  | a =>
    refine runV_pure ?_
    have := (entry_ok (S := S.push) (size := B.n) (r := .int B.a) h1' h2).1 rfl
    simp [B__law_value, initE, List.replicate, encT, tyS, isTy, wipeE, this, Tb.tv]
  | f x =>
    refine runV_pure ?_
    have e1 := hvar 38 x S.push hv' ht
    have hr : 0 ≤ v x ∧ v x < B.n := by obtain ⟨_, _, _, h⟩ := hv; exact (h x ht).2
    have := (entry_ok (S := S.push) (size := B.n) (r := .int (B.tv (.f x) v)) h1' h4).2.1 (v x) hB (at_map hr.1 (by rw [G.fl]; exact hr.2))
    simp [B__law_value, initE, List.replicate, encT, tyS, isTy, wipeE, e1, this]
theorem Vr.push {B : Tb} {S : Sto} {vd : D} {v : Vl} {ns : List Nat} {c : Nat} (hv : Vr B vd S v ns c) : Vr B vd S.push v ns c := by
  obtain ⟨kvs, g1, g2⟩ := hv
  exact ⟨kvs, by rw [← g1]; unfold dicS; simp only [get_push], g2⟩
theorem Vr.up {B : Tb} {S T : Sto} {vd : D} {v : Vl} {ns : List Nat} {c : Nat} (hv : Vr B vd S v ns c) (h : Up S T) : ∃ kvs, dicS T vd = some kvs ∧ kvs.length ≤ c ∧ ∀ x ∈ ns, valD kvs (ky (nm x)) = some (.int (v x)) ∧ 0 ≤ v x ∧ v x < B.n := by
  obtain ⟨kvs, g1, g2⟩ := hv
  refine ⟨kvs, ?_, g2⟩
  cases vd with
  | dic l => exact g1
  | ref n =>
    unfold dicS at g1 ⊢
    cases q : S.get n with
    | none => simp only [q] at g1; cases g1
    | some d => have e := h.get (get_lt q); simp only [e]; exact g1
  | _ => cases g1
theorem rangeL_cons {lo : Int} {n : Nat} : rangeL lo (n + 1) = .int lo :: rangeL (lo + 1) n := by
  rw [rangeL_succ, rangeL_succ, List.range_succ_eq_map]
  simp only [List.map_cons, List.map_map]
  congr 1
  · simp
  · apply List.map_congr_left
    intro i _
    simp only [Function.comp]
    congr 1
    omega
theorem wipe_1 {ρ : Mi.Env} {i : Nat} : wipeE ρ [i] = ρ.set i none := rfl
theorem true_ok {B : Tb} {tk : Nat} (G : Good B) : ∀ (p : Fm) (n : Nat) (S : Sto) (vd : D) (v : Vl) (ns : List Nat) (c : Nat), ht p ≤ n → TabOk B tk S → Vr B vd S v ns c → c + ht p ≤ 1000 → p.wf ns →
    F__law_true n [.ref tk, .int B.n, enc p, vd] S = .ok (.bl (B.tr p v)) S
  | .not p, 0, S, _, _, _, _, h, _, _, _, _ => by simp [ht] at h
  | .bind a x p, 0, S, _, _, _, _, h, _, _, _, _ => by simp [ht] at h
  | .con o p q, 0, S, _, _, _, _, h, _, _, _, _ => by simp [ht] at h
  | .same u t, 0, S, _, _, _, _, h, _, _, _, _ => by simp [ht] at h
  | .R u t, 0, S, _, _, _, _, h, _, _, _, _ => by simp [ht] at h
  | .P u, 0, S, _, _, _, _, h, _, _, _, _ => by simp [ht] at h
  | .Q, 0, S, _, _, _, _, h, _, _, _, _ => by simp [ht] at h
  | .same u t, n + 1, S, vd, v, ns, c, h, hT, hv, hc, hw => by
    refine runV_pure ?_
    have e1 := value_ok (S := S.push) G (hT.of get_push) hv.push hw.1
    have e2 := value_ok (S := S.push) G (hT.of get_push) hv.push hw.2
    simp [B__law_true, initE, List.replicate, enc, e1, e2, Tb.tr]
    rfl
  | .R u t, n + 1, S, vd, v, ns, c, h, hT, hv, hc, hw => by
    refine runV_pure ?_
    have e1 := value_ok (S := S.push) G (hT.of get_push) hv.push hw.1
    have e2 := value_ok (S := S.push) G (hT.of get_push) hv.push hw.2
    have r1 := tv_rng G hv hw.1
    have r2 := tv_rng G hv hw.2
    obtain ⟨kvs, h1, h2, h3, h4, h5, h6⟩ := (hT.of (get_push (S := S))).ex
    have hB : (B.n : Int).natAbs < 1000 := by have := G.n3; omega
    have e3 := (entry_ok (S := S.push) (size := B.n) h1 h6).2.2 (B.tv u v) (B.tv t v) hB (at_map (z := false) (by
      have : 0 ≤ B.tv u v * (B.n : Int) := Int.mul_nonneg r1.1 (by omega)
      omega) (by
      rw [G.rl]
      have : (B.tv u v + 1) * (B.n : Int) ≤ B.n * B.n := Int.mul_le_mul_of_nonneg_right (by omega) (by omega)
      rw [Int.add_mul] at this
      have h' : ((B.n * B.n : Nat) : Int) = (B.n : Int) * B.n := by simp
      rw [h']; omega))
    simp [B__law_true, initE, List.replicate, enc, e1, e2, e3, Tb.tr, wipe_1]
  | .P u, n + 1, S, vd, v, ns, c, h, hT, hv, hc, hw => by
    refine runV_pure ?_
    have e1 := value_ok (S := S.push) G (hT.of get_push) hv.push hw
    have r1 := tv_rng G hv hw
    obtain ⟨kvs, h1, h2, h3, h4, h5, h6⟩ := (hT.of (get_push (S := S))).ex
    have hB : (B.n : Int).natAbs < 1000 := by have := G.n3; omega
    have e3 := (entry_ok (S := S.push) (size := B.n) h1 h5).2.1 (B.tv u v) hB (at_map (z := false) r1.1 (by rw [G.pl]; exact r1.2))
    simp [B__law_true, initE, List.replicate, enc, e1, e3, Tb.tr, wipe_1]
  | .Q, n + 1, S, vd, v, ns, c, h, hT, hv, hc, hw => by
    refine runV_pure ?_
    obtain ⟨kvs, h1, h2, h3, h4, h5, h6⟩ := (hT.of (get_push (S := S))).ex
    have e3 := (entry_ok (S := S.push) (size := B.n) h1 h3).1 rfl
    simp [B__law_true, initE, List.replicate, enc, e3, Tb.tr, wipe_1]
  | .not p, n + 1, S, vd, v, ns, c, h, hT, hv, hc, hw => by
    refine runV_pure ?_
    simp only [ht] at h hc
    have e1 := true_ok G p n S.push vd v ns c (by omega) (hT.of get_push) hv.push (by omega) hw
    simp [B__law_true, initE, List.replicate, enc, e1, Tb.tr]
  | .con o p q, n + 1, S, vd, v, ns, c, h, hT, hv, hc, hw => by
    refine runV_pure ?_
    simp only [ht] at h hc
    have e1 := true_ok G p n S.push vd v ns c (by omega) (hT.of get_push) hv.push (by omega) hw.1
    have e2 := true_ok G q n S.push vd v ns c (by omega) (hT.of get_push) hv.push (by omega) hw.2
    cases o <;> cases hp : B.tr p v <;> cases hq : B.tr q v <;> simp [B__law_true, initE, List.replicate, enc, wd, e1, e2, Tb.tr, hp, hq]
  | .bind a x p, 1, S, vd, v, ns, c, h, hT, hv, hc, hw => by simp [ht] at h
  | .bind a x p, n + 2, S, vd, v, ns, c, h, hT, hv, hc, hw => by
    refine runV_pure ?_
    simp only [ht] at h hc
    have key : F__law_bound (n + 1) [.ref tk, .int B.n, enc (.bind a x p), vd] S.push = .ok (.bl (B.tr (.bind a x p) v)) S.push := by
      have hv0 := hv.push
      have hT0 : TabOk B tk S.push := hT.of get_push
      generalize S.push = S0 at hv0 hT0
      generalize hsen : enc (.bind a x p) = sen
      have hs0 : dIx sen (.int 0) = fun T => .ok (.str (bw a)) T := by rw [← hsen]; funext T; simp [enc]
      have hs1 : dIx sen (.int 1) = fun T => .ok (.str (nm x)) T := by rw [← hsen]; funext T; simp [enc]
      have hs2 : dIx sen (.int 2) = fun T => .ok (enc p) T := by rw [← hsen]; funext T; simp [enc]
      have loop := forN_any (g := gtName 5) (f := sSeq (sAsg (eApp [(eVar 3)] (dDict true)) (gtName 6))
          (sSeq (sSetIx (eVar 6) (eBin (eVar 2) (eC (.int 1)) dIx) (eVar 5))
          (sIf (eTst (eBin (eCall [(eVar 0), (eVar 1), (eBin (eVar 2) (eC (.int 2)) dIx), (eVar 6)] [] (F__law_true n)) (eVar 4) dEq)) (sRet (eVar 4)) sSkip))) (src := none) (all := rangeL 0 B.n)
        (P := fun xs ρ T => ∃ (k i : Nat) (o5 o6 : Option D), i + k = B.n ∧ xs = rangeL i k ∧ ρ = [some (.ref tk), some (.int B.n), some sen, some vd, some (.bl (!a)), o5, o6] ∧ Up S0 T ∧ ∀ j : Nat, j < i → B.tr p (upd v x j) = a)
        (Q := fun r => (∃ (o5 o6 : Option D) (T : Sto), r = .nx [some (.ref tk), some (.int B.n), some sen, some vd, some (.bl (!a)), o5, o6] T ∧ Up S0 T ∧ ∀ j : Nat, j < B.n → B.tr p (upd v x j) = a) ∨
          ∃ (T : Sto) (j : Nat), r = .rt (.bl (!a)) T ∧ Up S0 T ∧ j < B.n ∧ B.tr p (upd v x j) = !a)
        (fun y ys ρ T hP => by
          obtain ⟨k, i, o5, o6, hik, hys, rfl, hU, hall⟩ := hP
          cases k with
          | zero => cases hys
          | succ k =>
            rw [rangeL_cons] at hys
            cases hys
            refine ⟨okSrc_none, _, rfl, ?_⟩
            obtain ⟨kvs, hd, hl, hx⟩ := hv0.up hU
            have g1 : (T.add (.dic kvs)).get T.new = some (.dic kvs) := get_add
            have hbig := big
            have hset : setS (T.add (.dic kvs)) (.ref T.new) (.str (nm x)) (.int (i : Int)) = some ((T.add (.dic kvs)).set T.new (.dic (putD kvs (ky (nm x)) (.int i)))) :=
              x_setD g1 rfl (by omega) (hU.add.may hU.new)
            have hU2 : Up S0 ((T.add (.dic kvs)).set T.new (.dic (putD kvs (ky (nm x)) (.int i)))) := hU.add.set hU.new
            have g2 : ((T.add (.dic kvs)).set T.new (.dic (putD kvs (ky (nm x)) (.int i)))).get T.new = some (.dic (putD kvs (ky (nm x)) (.int i))) := get_set (by rw [new_add]; omega)
            have e1 := true_ok G p n _ (.ref T.new) (upd v x i) (x :: ns) (c + 1) (by omega) (hT0.of (hU2.get (get_lt hT0.ex.choose_spec.1)))
              ⟨_, dicS_ref g2, Nat.le_trans putD_len (by omega), fun z hz => by
                rw [valD_put]
                by_cases hzx : z = x
                · subst hzx
                  rw [if_pos rfl]
                  simp only [upd, if_true]
                  exact ⟨trivial, by omega, by omega⟩
                · rw [if_neg (fun q => hzx (nm_inj (by simpa [ky] using q)))]
                  simp only [upd, if_neg hzx]
                  rcases List.mem_cons.mp hz with q | q
                  · exact absurd q hzx
                  · exact hx z q⟩ (by omega) hw
            cases ht : B.tr p (upd v x i) <;> cases a <;> simp [dDict_ok hd, hs1, hs2, hset, e1, ht]
            · exact ⟨k, i + 1, by omega, by simp, hU2, fun j hj => by
                by_cases q : j = i
                · rw [q]; exact ht
                · exact hall j (by omega)⟩
            · exact ⟨hU2, i, by omega, ht⟩
            · exact ⟨hU2, i, by omega, ht⟩
            · exact ⟨k, i + 1, by omega, by simp, hU2, fun j hj => by
                by_cases q : j = i
                · rw [q]; exact ht
                · exact hall j (by omega)⟩)
        (fun ρ T hP => by
          obtain ⟨k, i, o5, o6, hik, hys, rfl, hU, hall⟩ := hP
          cases k with
          | succ k => rw [rangeL_cons] at hys; cases hys
          | zero => exact ⟨okSrc_none, .inl ⟨o5, o6, T, rfl, hU, fun j hj => hall j (by omega)⟩⟩)
        (rangeL 0 B.n) [some (.ref tk), some (.int B.n), some sen, some vd, some (.bl (!a)), none, none] S0.push ⟨B.n, 0, none, none, by omega, rfl, rfl, Up.push, fun j hj => by omega⟩
      have hn1 : -4611686018427387904 ≤ (B.n : Int) ∧ (B.n : Int) < 4611686018427387904 := by have := G.n3; omega
      have hwant : (bw a = [115, 111, 109, 101]) = (a = false) := by cases a <;> simp [bw]
      rcases loop with ⟨o5, o6, T, e, hU, hall⟩ | ⟨T, j, e, hU, hj, ht⟩
      · have htr : B.tr (.bind a x p) v = a := by
          cases a with
          | true => simp only [Tb.tr, List.all_eq_true]; exact fun i hi => hall i (List.mem_range.mp hi)
          | false => simp only [Tb.tr]; rw [List.any_eq_false]; exact fun i hi => by rw [hall i (List.mem_range.mp hi)]; exact Bool.false_ne_true
        rw [htr]
        refine (runV_lt (S' := T) ?_ rfl).trans (by rw [hU.pop])
        cases a <;> simp [B__law_bound, initE, List.replicate, hs0, hwant, hn1.1, hn1.2] <;> simp at e <;> simp [e]
      · have htr : B.tr (.bind a x p) v = !a := by
          cases a with
          | true => simp only [Tb.tr]; rw [Bool.not_true, List.all_eq_false]; exact ⟨j, List.mem_range.mpr hj, by rw [ht]; decide⟩
          | false => simp only [Tb.tr]; rw [Bool.not_false, List.any_eq_true]; exact ⟨j, List.mem_range.mpr hj, by rw [ht]; rfl⟩
        rw [htr]
        refine (runV_lt (S' := T) ?_ rfl).trans (by rw [hU.pop])
        cases a <;> simp [B__law_bound, initE, List.replicate, hs0, hwant, hn1.1, hn1.2] <;> simp at e <;> simp [e]
    simp only [enc, bw] at key
    cases a <;> simp at key <;> simp [B__law_true, initE, List.replicate, enc, bw, key, x_inT2]
end K15

/-! K15d: the draws. -/
namespace K15
open PySem PySem.Spec PyProof.Rows L2 Mi
theorem tk {m b : Nat} {S : Sto} {many : Int} (h : Ok m S b) (hb : b < lim) (hm : 0 < many) :
    ∃ i : Int, 0 ≤ i ∧ i < many ∧ ∃ S', F__law_take [.ref m, .int many] S = .ok (.int i) S' ∧ Ok m S' (b + 1) ∧ Sam m S S' := take_ok h hb hm
theorem drV {n m bb : Nat} {b : SM} {ds : List D} {d : D} {S S' : Sto} (h : b (initE n ds) S.push = .rt d S') (hs : Sam m S.push S') (ho : Ok m S' bb) : ∃ T, runV n b ds S = .ok d T ∧ Ok m T bb ∧ Sam m S T := by
  have ht : S'.top = [] := List.eq_nil_of_length_eq_zero hs.lt
  obtain ⟨p1, p2⟩ := hs.pop ht
  exact ⟨_, runV_of h ht, ho.of (p2 m), p1⟩
def nms (ns : List Nat) : D := .lst (ns.map fun x => .str (nm x))
theorem at_nm {ns : List Nat} {i : Int} (h0 : 0 ≤ i) (h1 : i < ns.length) : ∃ x ∈ ns, atI (ns.map fun x => D.str (nm x)) i = some (.str (nm x)) := by
  obtain ⟨a, e, ha⟩ := atI_in (l := ns.map fun x => D.str (nm x)) h0 (by simpa using h1)
  obtain ⟨x, hx, rfl⟩ := List.mem_map.mp ha
  exact ⟨x, hx, e⟩
theorem term_ok {m b : Nat} {S : Sto} {ns : List Nat} (h : Ok m S b) (hb : b + 2 < lim) (hn : 0 < ns.length) :
    ∃ t, Tm.wf ns t ∧ ∃ S', F__law_term [.ref m, nms ns] S = .ok (encT t) S' ∧ Ok m S' (b + 2) ∧ Sam m S S' := by
  obtain ⟨i, i0, i1, S1, e1, o1, s1⟩ := tk (many := 4) h.push (by omega) (by omega)
  obtain ⟨j, j0, j1, S2, e2, o2, s2⟩ := tk (many := ns.length) o1 (by omega) (by omega)
  obtain ⟨x, hx, e3⟩ := at_nm j0 j1
  by_cases c0 : i = 0
  · obtain ⟨T, q⟩ := drV (b := B__law_term) (n := 3) (ds := [.ref m, nms ns]) (d := encT .a) (S' := S1) (by
      simp [B__law_term, initE, List.replicate, e1, c0, encT]) s1 (o1.le (by omega : _ ≤ b + 2))
    exact ⟨.a, trivial, T, q⟩
  · by_cases c1 : i = 1
    · obtain ⟨T, q⟩ := drV (b := B__law_term) (n := 3) (ds := [.ref m, nms ns]) (d := encT (.f x)) (S' := S2) (by
        simp [B__law_term, initE, List.replicate, e1, e2, e3, c1, encT, nms]) (s1.trans s2) (o2.le (by omega : _ ≤ b + 2))
      exact ⟨.f x, hx, T, q⟩
    · obtain ⟨T, q⟩ := drV (b := B__law_term) (n := 3) (ds := [.ref m, nms ns]) (d := encT (.v x)) (S' := S2) (by
        simp [B__law_term, initE, List.replicate, e1, e2, e3, c0, c1, encT, nms]) (s1.trans s2) (o2.le (by omega : _ ≤ b + 2))
      exact ⟨.v x, hx, T, q⟩
theorem basic_ok {m b : Nat} {S : Sto} {ns : List Nat} (h : Ok m S b) (hb : b + 5 < lim) (hn : 0 < ns.length) :
    ∃ p, Fm.wf ns p ∧ ht p = 1 ∧ ∃ S', F__law_basic [.ref m, nms ns] S = .ok (enc p) S' ∧ Ok m S' (b + 5) ∧ Sam m S S' := by
  obtain ⟨i, i0, i1, S1, e1, o1, s1⟩ := tk (many := 4) h.push (by omega) (by omega)
  obtain ⟨t, wt, S2, e2, o2, s2⟩ := term_ok o1 (by omega) hn
  obtain ⟨u, wu, S3, e3, o3, s3⟩ := term_ok o2 (by omega) hn
  by_cases c0 : i = 0
  · obtain ⟨T, q⟩ := drV (b := B__law_basic) (n := 3) (ds := [.ref m, nms ns]) (d := enc (.same t u)) (S' := S3) (by
      simp [B__law_basic, initE, List.replicate, e1, e2, e3, c0, enc]) ((s1.trans s2).trans s3) (o3.le (by omega : _ ≤ b + 5))
    exact ⟨.same t u, ⟨wt, wu⟩, rfl, T, q⟩
  by_cases c1 : i = 1
  · obtain ⟨T, q⟩ := drV (b := B__law_basic) (n := 3) (ds := [.ref m, nms ns]) (d := enc (.R t u)) (S' := S3) (by
      simp [B__law_basic, initE, List.replicate, e1, e2, e3, c1, enc]) ((s1.trans s2).trans s3) (o3.le (by omega : _ ≤ b + 5))
    exact ⟨.R t u, ⟨wt, wu⟩, rfl, T, q⟩
  by_cases c2 : i = 2
  · obtain ⟨T, q⟩ := drV (b := B__law_basic) (n := 3) (ds := [.ref m, nms ns]) (d := enc (.P t)) (S' := S2) (by
      simp [B__law_basic, initE, List.replicate, e1, e2, c2, enc]) (s1.trans s2) (o2.le (by omega : _ ≤ b + 5))
    exact ⟨.P t, wt, rfl, T, q⟩
  · obtain ⟨T, q⟩ := drV (b := B__law_basic) (n := 3) (ds := [.ref m, nms ns]) (d := enc .Q) (S' := S1) (by
      simp [B__law_basic, initE, List.replicate, e1, c0, c1, c2, enc]) s1 (o1.le (by omega : _ ≤ b + 5))
    exact ⟨.Q, trivial, rfl, T, q⟩
def cost : Nat → Nat
  | 0 => 6
  | d + 1 => 2 * cost d + 6
theorem filt {S : Sto} {ρ : Mi.Env} {x : Nat} {all : List D} (hρ : 8 ≤ ρ.length) (h4 : ρ[4]? = some (some (.str (nm x)))) : ∀ (ns : List Nat) (acc : List D), acc.length + ns.length ≤ 1000 →
    lcN (gtName 7) (eTst (eBin (eVar 7) (eVar 4) dNe)) (eVar 7) none all (ns.map fun y => .str (nm y)) acc ρ S = .ok (acc ++ (ns.filter fun y => decide (y ≠ x)).map fun y => .str (nm y)) S
  | [], acc, _ => by simp
  | y :: ns, acc, hl => by
    have hb := big
    simp only [List.length_cons] at hl
    have h7 : (ρ.set 7 (some (.str (nm y))))[7]? = some (some (.str (nm y))) := by rw [List.getElem?_set_self (by omega)]
    have h4' : (ρ.set 7 (some (.str (nm y))))[4]? = some (some (.str (nm x))) := by rw [List.getElem?_set_ne (by omega)]; exact h4
    have hacc : acc.length < sizeLine := by omega
    by_cases q : y = x
    · subst q
      have := filt hρ h4 ns acc (by omega) (S := S) (all := all)
      simp [h7, h4', this]
    · have q' : ¬ nm y = nm x := fun z => q (nm_inj z)
      have := filt hρ h4 ns (acc ++ [.str (nm y)]) (by simp; omega) (S := S) (all := all)
      simp [h7, h4', this, q, q', hacc]
theorem sentence_ok : ∀ (d n m b : Nat) (S : Sto) (ns : List Nat), d < n → Ok m S b → b + cost d < lim → 0 < ns.length → ns.length + d ≤ 100 →
    ∃ p, Fm.wf ns p ∧ ht p ≤ 2 * d + 1 ∧ ∃ S', F__law_sentence n [.ref m, nms ns, .int d] S = .ok (enc p) S' ∧ Ok m S' (b + cost d) ∧ Sam m S S'
  | d, 0, m, b, S, ns, hd, _, _, _, _ => by omega
  | 0, n + 1, m, b, S, ns, hd, h, hb, hn, hl => by
    simp only [cost] at hb
    obtain ⟨i, i0, i1, S1, e1, o1, s1⟩ := tk (many := 10) h.push (by omega) (by omega)
    obtain ⟨p, wp, hp, S2, e2, o2, s2⟩ := basic_ok o1 (by omega) hn
    obtain ⟨T, q⟩ := drV (b := B__law_sentence (F__law_sentence n)) (n := 8) (ds := [.ref m, nms ns, .int (0 : Nat)]) (d := enc p) (S' := S2) (by
      simp [B__law_sentence, initE, List.replicate, e1, e2]) (s1.trans s2) (o2.le (by omega : _ ≤ b + 6))
    exact ⟨p, wp, by omega, T, q⟩
  | d + 1, n + 1, m, b, S, ns, hd, h, hb, hn, hl => by
    simp only [cost] at hb
    have hcd : 6 ≤ cost d := by cases d <;> simp [cost] <;> omega
    obtain ⟨i, i0, i1, S1, e1, o1, s1⟩ := tk (many := 10) h.push (by omega) (by omega)
    have hsub : ((d + 1 : Nat) : Int) - 1 = d := by omega
    have hd0 : ¬ ((d + 1 : Nat) : Int) = 0 := by omega
    have hd0' : ¬ ((d : Int) + 1 = 0) := by omega
    by_cases c0 : i = 0
    · obtain ⟨p, wp, hp, S2, e2, o2, s2⟩ := basic_ok o1 (by omega) hn
      obtain ⟨T, q⟩ := drV (b := B__law_sentence (F__law_sentence n)) (n := 8) (ds := [.ref m, nms ns, .int (d + 1 : Nat)]) (d := enc p) (S' := S2) (by
        simp [B__law_sentence, initE, List.replicate, e1, e2, c0]) (s1.trans s2) (o2.le (by simp only [cost]; omega : _ ≤ b + cost (d + 1)))
      exact ⟨p, wp, by omega, T, q⟩
    by_cases c1 : i < 3
    · obtain ⟨p, wp, hp, S2, e2, o2, s2⟩ := sentence_ok d n m (b + 1) S1 ns (by omega) o1 (by omega) hn (by omega)
      obtain ⟨T, q⟩ := drV (b := B__law_sentence (F__law_sentence n)) (n := 8) (ds := [.ref m, nms ns, .int (d + 1 : Nat)]) (d := enc (.not p)) (S' := S2) (by
        simp [B__law_sentence, initE, List.replicate, e1, e2, c0, c1, hd0', enc]) (s1.trans s2) (o2.le (by simp only [cost]; omega : _ ≤ b + cost (d + 1)))
      exact ⟨.not p, wp, by simp only [ht]; omega, T, q⟩
    by_cases c2 : i < 5
    · obtain ⟨j, j0, j1, S2, e2, o2, s2⟩ := tk (many := 3) o1 (by omega) (by omega)
      obtain ⟨k, k0, k1, S3, e3, o3, s3⟩ := tk (many := 2) o2 (by omega) (by omega)
      have hj : ∃ x : Nat, atI [D.str [120], .str [121], .str [122]] j = some (.str (nm x)) := by
        have : j = 0 ∨ j = 1 ∨ j = 2 := by omega
        rcases this with rfl | rfl | rfl
        · exact ⟨0, rfl⟩
        · exact ⟨1, rfl⟩
        · exact ⟨2, rfl⟩
      have hk : ∃ a : Bool, atI [D.str [97, 108, 108], .str [115, 111, 109, 101]] k = some (.str (bw a)) := by
        have : k = 0 ∨ k = 1 := by omega
        rcases this with rfl | rfl
        · exact ⟨true, rfl⟩
        · exact ⟨false, rfl⟩
      obtain ⟨x, hx⟩ := hj
      obtain ⟨a, ha⟩ := hk
      obtain ⟨p, wp, hp, S4, e4, o4, s4⟩ := sentence_ok d n m (b + 1 + 1 + 1) S3 ((ns.filter fun y => decide (y ≠ x)) ++ [x]) (by omega) o3 (by omega) (by simp) (by
        have := List.length_filter_le (fun y => decide (y ≠ x)) ns
        simp only [List.length_append, List.length_singleton]; omega)
      have hf := fun (ρ : Mi.Env) h1 h2 => filt (S := S2) (all := ns.map fun y => .str (nm y)) (ρ := ρ) (x := x) h1 h2 ns [] (by simp; omega)
      have hlen : (ns.filter fun y => !decide (y = x)).length + 1 ≤ sizeLine := by
        have := List.length_filter_le (fun y => !decide (y = x)) ns
        have := big
        omega
      obtain ⟨T, q⟩ := drV (b := B__law_sentence (F__law_sentence n)) (n := 8) (ds := [.ref m, nms ns, .int (d + 1 : Nat)]) (d := enc (.bind a x p)) (S' := S4) (by
        simp [nms] at e4
        simp [B__law_sentence, initE, List.replicate, e1, e2, c0, c1, c2, hd0', enc, nms, hx, wipeE, hf, hlen, e3, ha, e4]) (((s1.trans s2).trans s3).trans s4) (o4.le (by simp only [cost]; omega : _ ≤ b + cost (d + 1)))
      exact ⟨.bind a x p, wf_mono (p := p) (fun y hy => by
        rcases List.mem_append.mp hy with z | z
        · exact List.mem_cons_of_mem _ (List.mem_filter.mp z).1
        · rw [List.mem_singleton.mp z]; exact List.mem_cons_self) wp, by simp only [ht]; omega, T, q⟩
    · obtain ⟨p, wp, hp, S2, e2, o2, s2⟩ := sentence_ok d n m (b + 1) S1 ns (by omega) o1 (by omega) hn (by omega)
      obtain ⟨p', wp', hp', S3, e3, o3, s3⟩ := sentence_ok d n m (b + 1 + cost d) S2 ns (by omega) o2 (by omega) hn (by omega)
      have hj : ∃ o : Op, atI [D.str [97, 110, 100], .str [111, 114], .str [105, 109, 112, 108, 105, 101, 115], .str [105, 102, 102], .str [105, 102, 102]] (i - 5) = some (.str (wd o)) := by
        have : i = 5 ∨ i = 6 ∨ i = 7 ∨ i = 8 ∨ i = 9 := by omega
        rcases this with rfl | rfl | rfl | rfl | rfl
        · exact ⟨.and, rfl⟩
        · exact ⟨.or, rfl⟩
        · exact ⟨.imp, rfl⟩
        · exact ⟨.iff, rfl⟩
        · exact ⟨.iff, rfl⟩
      obtain ⟨o, ho⟩ := hj
      obtain ⟨T, q⟩ := drV (b := B__law_sentence (F__law_sentence n)) (n := 8) (ds := [.ref m, nms ns, .int (d + 1 : Nat)]) (d := enc (.con o p p')) (S' := S3) (by
        simp [B__law_sentence, initE, List.replicate, e1, e2, e3, c0, c1, c2, hd0', enc, ho]) ((s1.trans s2).trans s3) (o3.le (by simp only [cost]; omega : _ ≤ b + cost (d + 1)))
      exact ⟨.con o p p', ⟨wp, wp'⟩, by simp only [ht]; omega, T, q⟩
end K15

/-! K15e: the law. -/
namespace K15
open PySem PySem.Spec PyProof.Rows L2 Mi
/-- a row of draws -/
theorem lc_draw {m : Nat} {f : EM} {all : List D} {ρ : Mi.Env} {P : D → Prop} {j : Nat} (hf : ∀ (x : D) (T : Sto) (b : Nat), Ok m T b → b < lim → ∃ y T', f (ρ.set j (some x)) T = .ok y T' ∧ P y ∧ Ok m T' (b + 1) ∧ Sam m T T') :
    ∀ (xs acc : List D) (S : Sto) (b : Nat), Ok m S b → b + xs.length < lim → acc.length + xs.length ≤ 1000 → ∃ ys T, lcN (gtName j) tYesM f none all xs acc ρ S = .ok (acc ++ ys) T ∧ ys.length = xs.length ∧ (∀ y ∈ ys, P y) ∧ Ok m T (b + xs.length) ∧ Sam m S T
  | [], acc, S, b, h, _, _ => ⟨[], S, by simp, rfl, fun _ h => by simp at h, h, Sam.refl⟩
  | x :: xs, acc, S, b, h, hb, hl => by
    simp only [List.length_cons] at hb hl
    obtain ⟨y, T, e1, p1, o1, s1⟩ := hf x S b h (by omega)
    obtain ⟨ys, T', e2, l2, p2, o2, s2⟩ := lc_draw (all := all) hf xs (acc ++ [y]) T (b + 1) o1 (by omega) (by simp; omega)
    have hb := big
    have hacc : acc.length < sizeLine := by omega
    refine ⟨y :: ys, T', ?_, by simp [l2], fun z hz => ?_, o2.le (by simp only [List.length_cons]; omega), s1.trans s2⟩
    · rw [List.append_assoc] at e2
      simp [e1, e2, hacc]
    · rcases List.mem_cons.mp hz with q | q
      · rw [q]; exact p1
      · exact p2 z q
theorem all_map {α : Type} {k : α → D} {Q : α → Prop} : ∀ {ys : List D}, (∀ y ∈ ys, ∃ a, y = k a ∧ Q a) → ∃ l : List α, ys = l.map k ∧ ∀ a ∈ l, Q a
  | [], _ => ⟨[], rfl, fun _ h => by simp at h⟩
  | y :: ys, h => by
    obtain ⟨a, e, q⟩ := h y List.mem_cons_self
    obtain ⟨l, e2, q2⟩ := all_map fun z hz => h z (List.mem_cons_of_mem _ hz)
    exact ⟨a :: l, by rw [e, e2]; rfl, fun z hz => by
      rcases List.mem_cons.mp hz with w | w
      · rw [w]; exact q
      · exact q2 z w⟩
theorem merge2 {a b : Key × D} : mergeD [] [a, b] = putD (putD [] a.1 a.2) b.1 b.2 := rfl
theorem start0 {S : Sto} {ns : List Int} (hn : ns.length ≤ 63) : ∃ c, F__law_start [.frl (ns.map .int)] S = .ok (.ref S.new) (S.add c) ∧ Ok S.new (S.add c) 0 := start_ok hn
theorem ok_set1 {S : Sto} {b : Nat} {c : Cell} (h : Ok 0 S b) : Ok 0 (S.set 1 c) b := h.of ((Sam.set (m := 1)).g 0 (by omega))
theorem ky_ne {a b : List Nat} (h : a ≠ b) : ¬ ky a = ky b := fun z => h (by
  have h1 : (⟨a.toArray⟩ : Str) = ⟨b.toArray⟩ := Sum.inr.inj z
  have h2 : a.toArray = b.toArray := congrArg Str.cps h1
  exact congrArg Array.toList h2)
theorem put_ne {kvs : List (Key × D)} {a b : List Nat} {v : D} (h : b ≠ a) : valD (putD kvs (ky a) v) (ky b) = valD kvs (ky b) := by rw [valD_put, if_neg (ky_ne h)]
theorem put_eq {kvs : List (Key × D)} {a : List Nat} {v : D} : valD (putD kvs (ky a) v) (ky a) = some v := by rw [valD_put, if_pos rfl]
noncomputable def bInn : SM := (sSeq (sAsg (eDisp false [((eC (.str [120])), (eVar 9)), ((eC (.str [121])), (eVar 10))]) (gtName 11))
  (sSeq (sAsg (eCall [(eVar 4), (eVar 2), (eVar 5), (eVar 11)] [] (F__law_true 40)) (gtName 12))
  (sSeq (sIf (eTst (eBin (eCall [(eVar 4), (eVar 2), (eVar 7), (eVar 11)] [] (F__law_true 40)) (eVar 12) dNe)) (sRet (eC (.bl false))) sSkip)
  (sIf (eTst (eBin (eCall [(eVar 4), (eVar 2), (eVar 8), (eVar 11)] [] (F__law_true 40)) (eVar 12) dEq)) (sRet (eC (.bl false))) sSkip))))
theorem loops {B : Tb} {S : Sto} {p : Fm} {d0 d1 d3 d6 : D} (G : Good B) (hT : TabOk B 1 S) (hw : p.wf [0, 1]) (hh : ht p ≤ 13) {o9 o10 o11 o12 o13 : Option D} :
    ∃ ρ', sForN (gtName 9) (sFor (iRange [(eVar 2)]) (gtName 10) bInn) none (rangeL 0 B.n) (rangeL 0 B.n)
      [some d0, some d1, some (.int B.n), some d3, some (.ref 1), some (enc p), some d6, some (enc (formed p)), some (enc (opp (formed p))), o9, o10, o11, o12, o13] S = .nx ρ' S := by
  have hn1 : -4611686018427387904 ≤ (B.n : Int) ∧ (B.n : Int) < 4611686018427387904 := by have := G.n3; omega
  have h1 := formed_ht p
  have h2 := opp_ht (formed p)
  have inner : ∀ (x y : Nat) (o11 o12 : Option D), x < B.n → y < B.n → ∃ o11' o12', bInn [some d0, some d1, some (.int B.n), some d3, some (.ref 1), some (enc p), some d6, some (enc (formed p)), some (enc (opp (formed p))), some (.int x), some (.int y), o11, o12, o13] S =
      .nx [some d0, some d1, some (.int B.n), some d3, some (.ref 1), some (enc p), some d6, some (enc (formed p)), some (enc (opp (formed p))), some (.int x), some (.int y), o11', o12', o13] S := fun x y o11 o12 hx hy => by
    have hv : Vr B (.dic (putD (putD [] (ky [120]) (.int x)) (ky [121]) (.int y))) S (fun k => if k = 0 then x else y) [0, 1] 2 := by
      refine ⟨_, rfl, Nat.le_trans putD_len (Nat.succ_le_succ putD_len), fun k hk => ?_⟩
      have : k = 0 ∨ k = 1 := by simpa using hk
      rcases this with rfl | rfl
      · refine ⟨(put_ne (by decide)).trans put_eq, ?_⟩
        simp only [if_true]; omega
      · refine ⟨put_eq, ?_⟩
        simp only [Nat.one_ne_zero, if_false]; omega
    have t1 := true_ok G p 40 S _ _ _ _ (by omega) hT hv (by omega) hw
    have t2 := true_ok G (formed p) 40 S _ _ _ _ (by omega) hT hv (by omega) (formed_wf hw)
    have t3 := true_ok G (opp (formed p)) 40 S _ _ _ _ (by omega) hT hv (by omega) (opp_wf (formed_wf hw))
    rw [tr_formed] at t2
    rw [tr_opp B _ (formed_nn p), tr_formed] at t3
    unfold ky at t1 t2 t3
    refine ⟨some (.dic (putD (putD [] (ky [120]) (.int x)) (ky [121]) (.int y))), some (.bl (B.tr p fun k => if k = 0 then x else y)), ?_⟩
    unfold bInn ky
    simp [merge2, t1, t2, t3]
  obtain ⟨ρ', S', e, o9', o10', o11', o12', e2, rfl, _⟩ := forN_nx (g := gtName 9) (f := sFor (iRange [(eVar 2)]) (gtName 10) bInn) (src := none) (all := rangeL 0 B.n)
    (fun xs ρ T => ∃ o9 o10 o11 o12, ρ = [some d0, some d1, some (.int B.n), some d3, some (.ref 1), some (enc p), some d6, some (enc (formed p)), some (enc (opp (formed p))), o9, o10, o11, o12, o13] ∧ T = S ∧ ∀ x ∈ xs, ∃ k : Nat, k < B.n ∧ x = .int k)
    (fun _ _ _ _ => trivial) (fun x xs ρ T h => by
      obtain ⟨o9, o10, o11, o12, rfl, rfl, hx⟩ := h
      obtain ⟨k, hk, rfl⟩ := hx x List.mem_cons_self
      refine ⟨_, rfl, ?_⟩
      obtain ⟨ρ', S', e, o10', o11', o12', e2, rfl, _⟩ := forN_nx (g := gtName 10) (f := bInn) (src := none) (all := rangeL 0 B.n)
        (fun xs ρ T' => ∃ o10 o11 o12, ρ = [some d0, some d1, some (.int B.n), some d3, some (.ref 1), some (enc p), some d6, some (enc (formed p)), some (enc (opp (formed p))), some (.int k), o10, o11, o12, o13] ∧ T' = T ∧ ∀ x ∈ xs, ∃ k : Nat, k < B.n ∧ x = .int k)
        (fun _ _ _ _ => trivial) (fun y ys ρ T' h => by
          obtain ⟨o10, o11, o12, rfl, rfl, hy⟩ := h
          obtain ⟨j, hj, rfl⟩ := hy y List.mem_cons_self
          refine ⟨_, rfl, ?_⟩
          obtain ⟨o11', o12', e⟩ := inner k j o11 o12 hk hj
          exact ⟨_, _, .inl e, _, _, _, rfl, rfl, fun z hz => hy z (List.mem_cons_of_mem _ hz)⟩)
        (rangeL 0 B.n) [some d0, some d1, some (.int B.n), some d3, some (.ref 1), some (enc p), some d6, some (enc (formed p)), some (enc (opp (formed p))), some (.int k), o10, o11, o12, o13] T ⟨o10, o11, o12, rfl, rfl, fun x hx => rangeL_mem hx⟩
      subst e2
      refine ⟨_, _, .inl (?_ : _ = SR.nx [some d0, some d1, some (.int B.n), some d3, some (.ref 1), some (enc p), some d6, some (enc (formed p)), some (enc (opp (formed p))), some (.int k), o10', o11', o12', o13] S'), _, _, _, _, rfl, rfl, fun z hz => hx z (List.mem_cons_of_mem _ hz)⟩
      simp [hn1.1, hn1.2]
      exact e)
    (rangeL 0 B.n) [some d0, some d1, some (.int B.n), some d3, some (.ref 1), some (enc p), some d6, some (enc (formed p)), some (enc (opp (formed p))), o9, o10, o11, o12, o13] S ⟨o9, o10, o11, o12, rfl, rfl, fun x hx => rangeL_mem hx⟩
  exact ⟨_, e⟩
theorem main : ∀ ns : List Int, ns.length ≤ 63 → ∃ S', F_law [scr ns] .nil = .ok (.bl true) S' := fun ns hns => by
  obtain ⟨c, e0, o0⟩ := start0 (S := Sto.nil.push) hns
  have hz : Sto.nil.push.new = 0 := rfl
  rw [hz] at e0 o0
  obtain ⟨i1, i10, i11, S1, e1, o1, s1⟩ := tk (many := 3) o0 (by decide) (by omega)
  obtain ⟨i2, i20, i21, S2, e2, o2, s2⟩ := tk (many := 4) o1 (by decide) (by omega)
  obtain ⟨n, hn⟩ := Int.eq_ofNat_of_zero_le (a := 1 + i1) (by omega)
  obtain ⟨dp, hdp⟩ := Int.eq_ofNat_of_zero_le (a := 1 + i2) (by omega)
  have hn1 : 1 ≤ n ∧ n ≤ 3 := by omega
  have hd1 : 1 ≤ dp ∧ dp ≤ 4 := by omega
  obtain ⟨i3, i30, i31, S3, e3, o3, s3⟩ := tk (many := n) o2 (by decide) (by omega)
  obtain ⟨i4, i40, i41, S4, e4, o4, s4⟩ := tk (many := 2) o3 (by decide) (by omega)
  have hnew4 : S4.new = 1 := by rw [s4.new, s3.new, s2.new, s1.new, new_add]; rfl
  generalize hkv : (putD (putD [] (ky [97]) (.lst [.int i3])) (ky [81]) (.lst [.bl (decide (i4 = 1))])) = kv4
  let S5 := S4.add (.dic kv4)
  have o5 : Ok 0 S5 4 := o4.of (get_add_lt (by rw [hnew4]; omega))
  have g5 : S5.get 1 = some (.dic kv4) := by have := get_add (S := S4) (c := .dic kv4); rw [hnew4] at this; exact this
  have hnc : -4611686018427387904 ≤ (n : Int) ∧ (n : Int) < 4611686018427387904 := by omega
  have hnn : ((n : Int) * n) = ((n * n : Nat) : Int) := by simp
  have hn9 : n * n ≤ 9 := Nat.le_trans (Nat.mul_le_mul hn1.2 hn1.2) (by decide)
  have hnnc : -4611686018427387904 ≤ (n : Int) * n ∧ (n : Int) * n < 4611686018427387904 := by rw [hnn]; omega
  have hmul : CMul (n : Int) n := .inl ⟨by omega, by omega⟩
  have hnt : ((n : Int) * n).toNat = n * n := by rw [hnn]; rfl
  have ho5 : S5.old.length = 0 := by
    show S4.old.length = 0
    rw [s4.lo, s3.lo, s2.lo, s1.lo]; rfl
  let rho : Mi.Env := [some (.frl (ns.map .int)), some (.ref 0), some (.int n), some (.int dp), some (.ref 1), none, none, none, none, none, none, none, none, none]
  -- the rows
  obtain ⟨yf, S6, e6, l6, p6, o6, s6⟩ := lc_draw (m := 0) (f := eCall [eVar 1, eVar 2] [] F__law_take) (all := rangeL 0 n) (ρ := rho) (j := 13) (P := fun d => ∃ i : Int, d = .int i ∧ 0 ≤ i ∧ i < n) (fun x T b h hb => by
    obtain ⟨i, i0, i1, T', e, o, s⟩ := tk (many := n) h hb (by omega)
    exact ⟨.int i, T', by simp [rho, e], ⟨i, rfl, i0, i1⟩, o, s⟩) (rangeL 0 n) [] S5 4 o5 (by rw [rangeL_len]; unfold lim; omega) (by rw [rangeL_len]; simp; omega)
  obtain ⟨fs, rfl, hfs⟩ := all_map p6
  have g6 : S6.get 1 = some (.dic kv4) := (s6.g 1 (by decide)).trans g5
  have hl4 : kv4.length ≤ 2 := by rw [← hkv]; exact Nat.le_trans putD_len (Nat.succ_le_succ putD_len)
  have hbig := big
  let kv7 := putD kv4 (ky [102]) (.lst (fs.map .int))
  have hl7 : kv7.length ≤ 3 := Nat.le_trans putD_len (Nat.succ_le_succ hl4)
  let S7 := S6.set 1 (.dic kv7)
  have e7 : setS S6 (.ref 1) (.str [102]) (.lst (fs.map .int)) = some S7 := x_setD g6 rfl (by omega) (may_new (by rw [s6.lo, ho5]; omega))
  have g7 : S7.get 1 = some (.dic kv7) := get_set (get_lt g6)
  have o7 : Ok 0 S7 _ := ok_set1 o6
  have ho7 : S7.old.length = 0 := by rw [Sto.set_old, s6.lo, ho5]
  obtain ⟨yp, S8, e8, l8, p8, o8, s8⟩ := lc_draw (m := 0) (f := eBin (eCall [eVar 1, eC (.int 2)] [] F__law_take) (eC (.int 1)) dEq) (all := rangeL 0 n) (ρ := rho) (j := 13) (P := fun d => ∃ i : Bool, d = .bl i ∧ True) (fun x T b h hb => by
    obtain ⟨i, i0, i1, T', e, o, s⟩ := tk (many := 2) h hb (by omega)
    exact ⟨.bl (decide (i = 1)), T', by simp [rho, e], ⟨_, rfl, trivial⟩, o, s⟩) (rangeL 0 n) [] S7 _ o7 (by rw [rangeL_len]; unfold lim; omega) (by rw [rangeL_len]; simp; omega)
  obtain ⟨ps, rfl, _⟩ := all_map p8
  have g8 : S8.get 1 = some (.dic kv7) := (s8.g 1 (by decide)).trans g7
  let kv9 := putD kv7 (ky [80]) (.lst (ps.map .bl))
  have hl9 : kv9.length ≤ 4 := Nat.le_trans putD_len (Nat.succ_le_succ hl7)
  let S9 := S8.set 1 (.dic kv9)
  have e9 : setS S8 (.ref 1) (.str [80]) (.lst (ps.map .bl)) = some S9 := x_setD g8 rfl (by omega) (may_new (by rw [s8.lo, ho7]; omega))
  have g9 : S9.get 1 = some (.dic kv9) := get_set (get_lt g8)
  have o9 : Ok 0 S9 _ := ok_set1 o8
  have ho9 : S9.old.length = 0 := by rw [Sto.set_old, s8.lo, ho7]
  obtain ⟨yr, Sa, ea, la, pa, oa, sa⟩ := lc_draw (m := 0) (f := eBin (eCall [eVar 1, eC (.int 2)] [] F__law_take) (eC (.int 1)) dEq) (all := rangeL 0 (n * n)) (ρ := rho) (j := 13) (P := fun d => ∃ i : Bool, d = .bl i ∧ True) (fun x T b h hb => by
    obtain ⟨i, i0, i1, T', e, o, s⟩ := tk (many := 2) h hb (by omega)
    exact ⟨.bl (decide (i = 1)), T', by simp [rho, e], ⟨_, rfl, trivial⟩, o, s⟩) (rangeL 0 (n * n)) [] S9 _ o9 (by rw [rangeL_len, rangeL_len]; unfold lim; omega) (by rw [rangeL_len]; simp; omega)
  obtain ⟨rs, rfl, _⟩ := all_map pa
  have ga : Sa.get 1 = some (.dic kv9) := (sa.g 1 (by decide)).trans g9
  let kvb := putD kv9 (ky [82]) (.lst (rs.map .bl))
  let Sb := Sa.set 1 (.dic kvb)
  have eb : setS Sa (.ref 1) (.str [82]) (.lst (rs.map .bl)) = some Sb := x_setD ga rfl (by omega) (may_new (by rw [sa.lo, ho9]; omega))
  have gb : Sb.get 1 = some (.dic kvb) := get_set (get_lt ga)
  have ob : Ok 0 Sb _ := ok_set1 oa
  have hlf : fs.length = n := by have := l6; rw [rangeL_len] at this; simpa using this
  have hlp : ps.length = n := by have := l8; rw [rangeL_len] at this; simpa using this
  have hlr : rs.length = n * n := by have := la; rw [rangeL_len] at this; simpa using this
  let B : Tb := ⟨n, i3, decide (i4 = 1), fs, ps, rs⟩
  have G : Good B := ⟨hn1.1, hn1.2, i30, i31, hlf, hfs, hlp, hlr⟩
  have hTb : TabOk B 1 Sb := ⟨kvb, gb,
    (put_ne (by decide)).trans ((put_ne (by decide)).trans ((put_ne (by decide)).trans (by rw [← hkv]; exact (put_ne (by decide)).trans put_eq))),
    (put_ne (by decide)).trans ((put_ne (by decide)).trans ((put_ne (by decide)).trans (by rw [← hkv]; exact put_eq))),
    (put_ne (by decide)).trans ((put_ne (by decide)).trans put_eq),
    (put_ne (by decide)).trans put_eq, put_eq⟩
  have hcost : cost dp ≤ 1000 := by
    have : dp = 1 ∨ dp = 2 ∨ dp = 3 ∨ dp = 4 := by omega
    rcases this with rfl | rfl | rfl | rfl <;> decide
  obtain ⟨p, wp, hp, Sc, ec, oc, sc⟩ := sentence_ok dp 40 0 _ Sb [0, 1] (by omega) ob (by rw [rangeL_len, rangeL_len]; unfold lim; omega) (by simp) (by simp; omega)
  have hTc : TabOk B 1 Sc := hTb.of (sc.g 1 (by decide))
  have hh : ht p ≤ 9 := by omega
  have hf := formed_ht p
  have ho := opp_ht (formed p)
  have f1 := formed_ok p 40 Sc (by omega) (by omega)
  have f2 := neg_ok (p := p) (S := Sc) (by omega)
  have f3 := neg_ok (p := .not p) (S := Sc) (by simp only [ht]; omega)
  have f4 := opp40 (p := formed p) (S := Sc) (by omega) (formed_nn p)
  have f5 := shaped_ok (formed p) 40 Sc (by omega) (formed_nn p)
  have f6 := shaped_ok (opp (formed p)) 40 Sc (by omega) (opp_nn (formed_nn p))
  have f7 := neg_ok (p := formed p) (S := Sc) (by omega)
  rw [formed_id (formed_nn p)] at f7
  have q1 : dNe (enc (formed p)) (enc (formed p)) Sc = .ok (.bl false) Sc := by
    rw [dNe_pl (enc_pl _).1 (enc_pl _).1 (.inl (by have := (enc_pl (formed p)).2; omega))]; simp
  have q2 : dNe (enc (opp (formed p))) (enc (opp (formed p))) Sc = .ok (.bl false) Sc := by
    rw [dNe_pl (enc_pl _).1 (enc_pl _).1 (.inl (by have := (enc_pl (opp (formed p))).2; omega))]; simp
  obtain ⟨ρ', el⟩ := loops (B := B) (d0 := .frl (ns.map .int)) (d1 := .ref 0) (d3 := .int dp) (d6 := enc (formed p)) (o9 := none) (o10 := none) (o11 := none) (o12 := none) (o13 := none) G hTc wp (by omega)
  have hsrc : mkD true (putD (putD [] (ky [97]) (.lst [.int i3])) (ky [81]) (.lst [.bl (decide (i4 = 1))])) S4 = .ok (.ref 1) S5 := by
    rw [hkv, x_mdT, hnew4]
  simp only [formed, enc] at f3
  simp [nms, nm] at ec
  simp only [show B.n = n from rfl] at el
  refine ⟨_, runV_lt (S' := Sc) ?_ rfl⟩
  unfold bInn at el
  unfold ky at hsrc
  simp [rho] at e6 e8 ea
  simp [-x_mdT, B_law, initE, List.replicate, scr, e0, e1, e2, hn, hdp, e3, e4, merge2, hsrc, hnc.1, hnc.2, hnnc.1, hnnc.2, hnt, hmul, wipe_1, e6, e7, e8, e9, ea, eb, ec, f1, f2, f3, f4, f5, f6, f7, q1, q2, el, B]
end K15

namespace K15
open PySem PySem.Spec PyProof.Rows L2 Mi
def topS (i : Nat) : Stmt := PySem.Challenge.pw_kingsandcourts_k15_negation_form_says_th.main.body.getD i (.Pass ⟨0, 0, 0, 0⟩)
abbrev s_signed_form : Stmt := topS 5
theorem sc_signed_form : FnScope ["sentence", "sign", "word", "left", "right", "there", "back"] ["sentence", "sign"] (defScope s_signed_form) := ⟨rfl, rfl, rfl, by decide +kernel, rfl, by decide +kernel, by decide +kernel⟩
abbrev s_negation_form : Stmt := topS 4
theorem sc_negation_form : FnScope ["sentence"] ["sentence"] (defScope s_negation_form) := ⟨rfl, rfl, rfl, by decide +kernel, rfl, by decide +kernel, by decide +kernel⟩
abbrev s__law_start : Stmt := topS 7
theorem sc__law_start : FnScope ["script", "row", "seed", "k", "cell", "j", "mixed"] ["script"] (defScope s__law_start) := ⟨rfl, rfl, rfl, by decide +kernel, rfl, by decide +kernel, by decide +kernel⟩
abbrev s__law_take : Stmt := topS 8
theorem sc__law_take : FnScope ["state", "many", "at", "mixed"] ["state", "many"] (defScope s__law_take) := ⟨rfl, rfl, rfl, by decide +kernel, rfl, by decide +kernel, by decide +kernel⟩
abbrev s__law_entry : Stmt := topS 9
theorem sc__law_entry : FnScope ["tables", "size", "name", "things", "at", "thing"] ["tables", "size", "name", "things"] (defScope s__law_entry) := ⟨rfl, rfl, rfl, by decide +kernel, rfl, by decide +kernel, by decide +kernel⟩
abbrev s__law_value : Stmt := topS 10
theorem sc__law_value : FnScope ["tables", "size", "term", "values", "part"] ["tables", "size", "term", "values"] (defScope s__law_value) := ⟨rfl, rfl, rfl, by decide +kernel, rfl, by decide +kernel, by decide +kernel⟩
abbrev s__law_bound : Stmt := topS 11
theorem sc__law_bound : FnScope ["tables", "size", "sentence", "values", "want", "thing", "inner"] ["tables", "size", "sentence", "values"] (defScope s__law_bound) := ⟨rfl, rfl, rfl, by decide +kernel, rfl, by decide +kernel, by decide +kernel⟩
abbrev s__law_true : Stmt := topS 12
theorem sc__law_true : FnScope ["tables", "size", "sentence", "values", "word", "atom", "one", "two", "part"] ["tables", "size", "sentence", "values"] (defScope s__law_true) := ⟨rfl, rfl, rfl, by decide +kernel, rfl, by decide +kernel, by decide +kernel⟩
abbrev s__law_term : Stmt := topS 13
theorem sc__law_term : FnScope ["state", "names", "kind"] ["state", "names"] (defScope s__law_term) := ⟨rfl, rfl, rfl, by decide +kernel, rfl, by decide +kernel, by decide +kernel⟩
abbrev s__law_basic : Stmt := topS 14
theorem sc__law_basic : FnScope ["state", "names", "kind"] ["state", "names"] (defScope s__law_basic) := ⟨rfl, rfl, rfl, by decide +kernel, rfl, by decide +kernel, by decide +kernel⟩
abbrev s__law_sentence : Stmt := topS 15
theorem sc__law_sentence : FnScope ["state", "names", "depth", "kind", "name", "inner", "word", "other"] ["state", "names", "depth"] (defScope s__law_sentence) := ⟨rfl, rfl, rfl, by decide +kernel, rfl, by decide +kernel, by decide +kernel⟩
abbrev s__law_opposite : Stmt := topS 16
theorem sc__law_opposite : FnScope ["formed", "word"] ["formed"] (defScope s__law_opposite) := ⟨rfl, rfl, rfl, by decide +kernel, rfl, by decide +kernel, by decide +kernel⟩
abbrev s__law_formed : Stmt := topS 17
theorem sc__law_formed : FnScope ["sentence", "word", "one", "two"] ["sentence"] (defScope s__law_formed) := ⟨rfl, rfl, rfl, by decide +kernel, rfl, by decide +kernel, by decide +kernel⟩
abbrev s__law_shaped : Stmt := topS 18
theorem sc__law_shaped : FnScope ["sentence", "word"] ["sentence"] (defScope s__law_shaped) := ⟨rfl, rfl, rfl, by decide +kernel, rfl, by decide +kernel, by decide +kernel⟩
abbrev s_law : Stmt := topS 19
theorem sc_law : FnScope ["script", "state", "size", "depth", "tables", "sentence", "due", "made", "turned", "x", "y", "values", "said", "k"] ["script"] (defScope s_law) := ⟨rfl, rfl, rfl, by decide +kernel, rfl, by decide +kernel, by decide +kernel⟩
structure Txt (K : PySem.W.Frag) (mg : Str → Option Value) (w : World) : Prop where
  d_signed_form : DefAt K mg "signed_form" "signed_form" s_signed_form ["sentence", "sign"]
  d_negation_form : DefAt K mg "negation_form" "negation_form" s_negation_form ["sentence"]
  d__law_start : DefAt K mg "_law_start" "_law_start" s__law_start ["script"]
  d__law_take : DefAt K mg "_law_take" "_law_take" s__law_take ["state", "many"]
  d__law_entry : DefAt K mg "_law_entry" "_law_entry" s__law_entry ["tables", "size", "name", "things"]
  d__law_value : DefAt K mg "_law_value" "_law_value" s__law_value ["tables", "size", "term", "values"]
  d__law_bound : DefAt K mg "_law_bound" "_law_bound" s__law_bound ["tables", "size", "sentence", "values"]
  d__law_true : DefAt K mg "_law_true" "_law_true" s__law_true ["tables", "size", "sentence", "values"]
  d__law_term : DefAt K mg "_law_term" "_law_term" s__law_term ["state", "names"]
  d__law_basic : DefAt K mg "_law_basic" "_law_basic" s__law_basic ["state", "names"]
  d__law_sentence : DefAt K mg "_law_sentence" "_law_sentence" s__law_sentence ["state", "names", "depth"]
  d__law_opposite : DefAt K mg "_law_opposite" "_law_opposite" s__law_opposite ["formed"]
  d__law_formed : DefAt K mg "_law_formed" "_law_formed" s__law_formed ["sentence"]
  d__law_shaped : DefAt K mg "_law_shaped" "_law_shaped" s__law_shaped ["sentence"]
  d_law : DefAt K mg "law" "law" s_law ["script"]
  z_abs : mg "abs" = none
  z_dict : mg "dict" = none
  z_int : mg "int" = none
  z_isinstance : mg "isinstance" = none
  z_len : mg "len" = none
  z_range : mg "range" = none
  z_str : mg "str" = none
  g_BASIC : Glob K mg "BASIC" c_BASIC
  g_BINDERS : Glob K mg "BINDERS" c_BINDERS
  k_OTHER : KdAt K mg w "OTHER" k_OTHER
theorem body_signed_form {P : Program} {w : World} {K : PySem.W.Frag} {mg : Str → Option Value} {base : Heap} {k : Nat} {r_signed_form : List D → Sto → R D} (T : Txt K mg w) (hk : 0 ≤ k) (R_signed_form : CallOk P w K mg base k "signed_form" 2 [] r_signed_form) : BodyOk P w K mg base ["sentence", "sign", "word", "left", "right", "there", "back"] "signed_form" s_signed_form k (B_signed_form r_signed_form) := fun f cdv A outer s H E C =>
  (dss_cons (ds_set sc_signed_form.nd (de_ix C (de_v 0) de_int))
  (dss_cons (ds_if (dt_in C (de_v 2) (de_g T.g_BASIC)) (dss_one (ds_ret (de_if (dt_val (de_v 1)) (de_v 0) (de_tup (da_cons (de_strL (l := [110, 111, 116])) (da_cons (de_v 0) da_nil)))))) dss_nil)
  (dss_cons (ds_if (dt_eq C (de_v 2) (de_strL (l := [110, 111, 116]))) (dss_one (ds_ret (de_call C R_signed_form (by omega) (da_cons (de_ix C (de_v 0) de_int) (da_cons (de_not (de_v 1)) da_nil))))) dss_nil)
  (dss_cons (ds_if (dt_in C (de_v 2) (de_g T.g_BINDERS)) (dss_one (ds_ret (de_tup (da_cons (de_if (dt_val (de_v 1)) (de_v 2) (de_kd T.k_OTHER (de_v 2))) (da_cons (de_ix C (de_v 0) de_int) (da_cons (de_call C R_signed_form (by omega) (da_cons (de_ix C (de_v 0) de_int) (da_cons (de_v 1) da_nil))) da_nil)))))) dss_nil)
  (dss_cons (ds_par C sc_signed_form.nd (da_cons (de_ix C (de_v 0) de_int) (da_cons (de_ix C (de_v 0) de_int) da_nil)))
  (dss_cons (ds_if (dt_eq C (de_v 2) (de_strL (l := [105, 102, 102]))) (dss_cons (ds_par C sc_signed_form.nd (da_cons (de_tup (da_cons (de_strL (l := [105, 109, 112, 108, 105, 101, 115])) (da_cons (de_v 3) (da_cons (de_v 4) da_nil)))) (da_cons (de_tup (da_cons (de_strL (l := [105, 109, 112, 108, 105, 101, 115])) (da_cons (de_v 4) (da_cons (de_v 3) da_nil)))) da_nil)))
  (dss_one (ds_ret (de_tup (da_cons (de_if (dt_val (de_v 1)) (de_strL (l := [97, 110, 100])) (de_strL (l := [111, 114]))) (da_cons (de_call C R_signed_form (by omega) (da_cons (de_v 5) (da_cons (de_v 1) da_nil))) (da_cons (de_call C R_signed_form (by omega) (da_cons (de_v 6) (da_cons (de_v 1) da_nil))) da_nil))))))) dss_nil)
  (dss_cons (ds_if (dt_eq C (de_v 2) (de_strL (l := [105, 109, 112, 108, 105, 101, 115]))) (dss_one (ds_ret (de_tup (da_cons (de_if (dt_val (de_v 1)) (de_strL (l := [111, 114])) (de_strL (l := [97, 110, 100]))) (da_cons (de_call C R_signed_form (by omega) (da_cons (de_v 3) (da_cons (de_not (de_v 1)) da_nil))) (da_cons (de_call C R_signed_form (by omega) (da_cons (de_v 4) (da_cons (de_v 1) da_nil))) da_nil)))))) dss_nil)
  (dss_one (ds_ret (de_tup (da_cons (de_if (dt_val (de_v 1)) (de_v 2) (de_kd T.k_OTHER (de_v 2))) (da_cons (de_call C R_signed_form (by omega) (da_cons (de_v 3) (da_cons (de_v 1) da_nil))) (da_cons (de_call C R_signed_form (by omega) (da_cons (de_v 4) (da_cons (de_v 1) da_nil))) da_nil)))))))))))))
theorem ok_all_signed_form {P : Program} {w : World} {K : PySem.W.Frag} {mg : Str → Option Value} {base : Heap} (T : Txt K mg w) : ∀ n : Nat, CallOk P w K mg base (0 + n) "signed_form" 2 [] (F_signed_form n)
  | 0 => by
    exact T.d_signed_form.bad _
  | n + 1 => by
    obtain h_signed_form := ok_all_signed_form T n
    exact T.d_signed_form.okV sc_signed_form (body_signed_form (k := 0 + n) T (by omega) h_signed_form)
theorem ok_signed_form {P : Program} {w : World} {K : PySem.W.Frag} {mg : Str → Option Value} {base : Heap} (T : Txt K mg w) (n : Nat) : CallOk P w K mg base (0 + n) "signed_form" 2 [] (F_signed_form n) := (ok_all_signed_form T n)
theorem body_negation_form {P : Program} {w : World} {K : PySem.W.Frag} {mg : Str → Option Value} {base : Heap} {k : Nat} (T : Txt K mg w) (hk : 40 ≤ k) : BodyOk P w K mg base ["sentence"] "negation_form" s_negation_form k (B_negation_form) := fun f cdv A outer s H E C =>
  (dss_one (ds_ret (de_call C (ok_signed_form T 40) (by omega) (da_cons (de_v 0) (da_cons de_bl da_nil)))))
theorem ok_negation_form {P : Program} {w : World} {K : PySem.W.Frag} {mg : Str → Option Value} {base : Heap} (T : Txt K mg w) : CallOk P w K mg base 41 "negation_form" 1 [] F_negation_form := T.d_negation_form.okV sc_negation_form (body_negation_form (k := 40) T (by omega))
theorem body__law_start {P : Program} {w : World} {K : PySem.W.Frag} {mg : Str → Option Value} {base : Heap} {k : Nat} (T : Txt K mg w) (hk : 0 ≤ k) : BodyOk P w K mg base ["script", "row", "seed", "k", "cell", "j", "mixed"] "_law_start" s__law_start k (B__law_start) := fun f cdv A outer s H E C =>
  (dss_cons (ds_set sc__law_start.nd (de_lst (c := true) da_nil))
  (dss_cons (ds_set sc__law_start.nd de_int)
  (dss_cons (ds_for C (di_range1 T.z_range (da_cons (de_len T.z_len (da_cons (de_v 0) da_nil)) da_nil)) (dg_name sc__law_start.nd) (dss_cons (ds_set sc__law_start.nd (de_abs T.z_abs (da_cons (de_ix C (de_v 0) (de_v 3)) da_nil)))
  (dss_cons (ds_set sc__law_start.nd (de_mod (de_intc T.z_int (da_cons (de_add (c := false) (de_add (c := false) (de_mul (de_v 2) de_int) (de_v 4)) (de_v 3)) da_nil)) de_int))
  (dss_one (ds_if (dt_ge C (de_v 4) (de_pow de_int de_int)) (dss_cons (ds_set sc__law_start.nd (de_sub (de_v 4) (de_pow de_int de_int)))
  (dss_one (ds_for C (di_range1 T.z_range (da_cons de_int da_nil)) (dg_name sc__law_start.nd) (dss_one (ds_if (dt_gt C (de_v 4) de_int) (dss_cons (ds_expr (de_append (de_v 1) (da_cons (de_mod (de_intc T.z_int (da_cons (de_v 4) da_nil)) de_int) da_nil)))
  (dss_one (ds_set sc__law_start.nd (de_fdiv (de_v 4) de_int)))) dss_nil))))) (dss_cons (ds_set sc__law_start.nd (de_mod (de_intc T.z_int (da_cons (de_add (c := false) (de_mul (de_add (c := false) (de_v 4) de_int) de_int) (de_mul (de_v 3) de_int)) da_nil)) de_int))
  (dss_cons (ds_set sc__law_start.nd (de_mod (de_intc T.z_int (da_cons (de_add (c := false) (de_mul (de_v 6) de_int) de_int) da_nil)) de_int))
  (dss_one (ds_expr (de_append (de_v 1) (da_cons (de_mod (de_fdiv (de_v 6) de_int) de_int) da_nil)))))))))))
  (dss_one (ds_ret (de_lst (c := true) (da_cons (de_v 1) (da_cons de_int (da_cons (de_v 2) da_nil)))))))))
theorem ok__law_start {P : Program} {w : World} {K : PySem.W.Frag} {mg : Str → Option Value} {base : Heap} (T : Txt K mg w) : CallOk P w K mg base 1 "_law_start" 1 [] F__law_start := T.d__law_start.okF sc__law_start (body__law_start (k := 0) T (by omega))
theorem body__law_take {P : Program} {w : World} {K : PySem.W.Frag} {mg : Str → Option Value} {base : Heap} {k : Nat} (T : Txt K mg w) (hk : 0 ≤ k) : BodyOk P w K mg base ["state", "many", "at", "mixed"] "_law_take" s__law_take k (B__law_take) := fun f cdv A outer s H E C =>
  (dss_cons (ds_set sc__law_take.nd (de_ix C (de_v 0) de_int))
  (dss_cons (ds_setIx C (de_v 0) de_int (de_add (c := false) (de_v 2) de_int))
  (dss_cons (ds_if (dt_lt C (de_v 2) (de_len T.z_len (da_cons (de_ix C (de_v 0) de_int) da_nil))) (dss_one (ds_ret (de_mod (de_intc T.z_int (da_cons (de_ix C (de_ix C (de_v 0) de_int) (de_v 2)) da_nil)) (de_v 1)))) dss_nil)
  (dss_cons (ds_set sc__law_take.nd (de_mod (de_intc T.z_int (da_cons (de_mul (de_add (c := false) (de_ix C (de_v 0) de_int) (de_mul (de_v 2) de_int)) de_int) da_nil)) de_int))
  (dss_cons (ds_set sc__law_take.nd (de_mod (de_intc T.z_int (da_cons (de_add (c := false) (de_mul (de_v 3) de_int) (de_mul (de_v 2) (de_v 2))) da_nil)) de_int))
  (dss_one (ds_ret (de_mod (de_fdiv (de_v 3) de_int) (de_v 1)))))))))
theorem ok__law_take {P : Program} {w : World} {K : PySem.W.Frag} {mg : Str → Option Value} {base : Heap} (T : Txt K mg w) : CallOk P w K mg base 1 "_law_take" 2 [] F__law_take := T.d__law_take.okV sc__law_take (body__law_take (k := 0) T (by omega))
theorem body__law_entry {P : Program} {w : World} {K : PySem.W.Frag} {mg : Str → Option Value} {base : Heap} {k : Nat} (T : Txt K mg w) (hk : 0 ≤ k) : BodyOk P w K mg base ["tables", "size", "name", "things", "at", "thing"] "_law_entry" s__law_entry k (B__law_entry) := fun f cdv A outer s H E C =>
  (dss_cons (ds_set sc__law_entry.nd de_int)
  (dss_cons (ds_for C (di_val (de_v 3)) (dg_name sc__law_entry.nd) (dss_one (ds_set sc__law_entry.nd (de_add (c := false) (de_mul (de_v 4) (de_v 1)) (de_v 5)))))
  (dss_one (ds_ret (de_ix C (de_ix C (de_v 0) (de_v 2)) (de_v 4))))))
theorem ok__law_entry {P : Program} {w : World} {K : PySem.W.Frag} {mg : Str → Option Value} {base : Heap} (T : Txt K mg w) : CallOk P w K mg base 1 "_law_entry" 4 [] F__law_entry := T.d__law_entry.okV sc__law_entry (body__law_entry (k := 0) T (by omega))
theorem body__law_value {P : Program} {w : World} {K : PySem.W.Frag} {mg : Str → Option Value} {base : Heap} {k : Nat} {r__law_value : List D → Sto → R D} (T : Txt K mg w) (hk : 1 ≤ k) (R__law_value : CallOk P w K mg base k "_law_value" 4 [] r__law_value) : BodyOk P w K mg base ["tables", "size", "term", "values", "part"] "_law_value" s__law_value k (B__law_value r__law_value) := fun f cdv A outer s H E C =>
  (dss_cons (ds_if (dt_val (de_isT (Ts := "str") rfl (by decide) T.z_isinstance T.z_str (by decide +kernel) (de_v 2))) (dss_one (ds_ret (de_ix C (de_v 3) (de_v 2)))) dss_nil)
  (dss_one (ds_ret (de_call C (ok__law_entry T) (by omega) (da_cons (de_v 0) (da_cons (de_v 1) (da_cons (de_ix C (de_v 2) de_int) (da_cons (de_lc (own := [("part", 4)]) false C sc__law_value.nd (di_val (de_sl (c := false) (de_v 2) (do_some de_int) do_none)) (blkOk_by (own := [("part", 4)]) (by show blkC ["tables", "size", "term", "values", "part"] (defScope s__law_value) _ _ = true; decide +kernel)) (fun _ _ _ _ _ => (dgw_name sc__law_value.nd)) (fun _ _ _ _ _ => dts_nil) (fun _ _ _ _ _ => (de_call (Cz.blk C) R__law_value (by omega) (da_cons (de_v 0) (da_cons (de_v 1) (da_cons (de_v 4) (da_cons (de_v 3) da_nil))))))) da_nil))))))))
theorem ok_all__law_value {P : Program} {w : World} {K : PySem.W.Frag} {mg : Str → Option Value} {base : Heap} (T : Txt K mg w) : ∀ n : Nat, CallOk P w K mg base (1 + n) "_law_value" 4 [] (F__law_value n)
  | 0 => by
    exact T.d__law_value.bad _
  | n + 1 => by
    obtain h__law_value := ok_all__law_value T n
    exact T.d__law_value.okV sc__law_value (body__law_value (k := 1 + n) T (by omega) h__law_value)
theorem ok__law_value {P : Program} {w : World} {K : PySem.W.Frag} {mg : Str → Option Value} {base : Heap} (T : Txt K mg w) (n : Nat) : CallOk P w K mg base (1 + n) "_law_value" 4 [] (F__law_value n) := (ok_all__law_value T n)
theorem body__law_bound {P : Program} {w : World} {K : PySem.W.Frag} {mg : Str → Option Value} {base : Heap} {k : Nat} {r__law_true : List D → Sto → R D} (T : Txt K mg w) (hk : 41 ≤ k) (R__law_true : CallOk P w K mg base k "_law_true" 4 [] r__law_true) : BodyOk P w K mg base ["tables", "size", "sentence", "values", "want", "thing", "inner"] "_law_bound" s__law_bound k (B__law_bound r__law_true) := fun f cdv A outer s H E C =>
  (dss_cons (ds_set sc__law_bound.nd (de_eq C (de_ix C (de_v 2) de_int) (de_strL (l := [115, 111, 109, 101]))))
  (dss_cons (ds_for C (di_range1 T.z_range (da_cons (de_v 1) da_nil)) (dg_name sc__law_bound.nd) (dss_cons (ds_set sc__law_bound.nd (de_dictc (c := true) T.z_dict (da_cons (de_v 3) da_nil)))
  (dss_cons (ds_setIx C (de_v 6) (de_ix C (de_v 2) de_int) (de_v 5))
  (dss_one (ds_if (dt_eq C (de_call C R__law_true (by omega) (da_cons (de_v 0) (da_cons (de_v 1) (da_cons (de_ix C (de_v 2) de_int) (da_cons (de_v 6) da_nil))))) (de_v 4)) (dss_one (ds_ret (de_v 4))) dss_nil)))))
  (dss_one (ds_ret (de_not (de_v 4))))))
theorem body__law_true {P : Program} {w : World} {K : PySem.W.Frag} {mg : Str → Option Value} {base : Heap} {k : Nat} {r__law_bound : List D → Sto → R D} {r__law_true : List D → Sto → R D} (T : Txt K mg w) (hk : 41 ≤ k) (R__law_bound : CallOk P w K mg base k "_law_bound" 4 [] r__law_bound) (R__law_true : CallOk P w K mg base k "_law_true" 4 [] r__law_true) : BodyOk P w K mg base ["tables", "size", "sentence", "values", "word", "atom", "one", "two", "part"] "_law_true" s__law_true k (B__law_true r__law_bound r__law_true) := fun f cdv A outer s H E C =>
  (dss_cons (ds_set sc__law_true.nd (de_ix C (de_v 2) de_int))
  (dss_cons (ds_if (dt_eq C (de_v 4) (de_strL (l := [104, 111, 108, 100, 115]))) (dss_cons (ds_set sc__law_true.nd (de_ix C (de_v 2) de_int))
  (dss_one (ds_ret (de_call C (ok__law_entry T) (by omega) (da_cons (de_v 0) (da_cons (de_v 1) (da_cons (de_ix C (de_v 5) de_int) (da_cons (de_lc (own := [("part", 8)]) false C sc__law_true.nd (di_val (de_sl (c := false) (de_v 5) (do_some de_int) do_none)) (blkOk_by (own := [("part", 8)]) (by show blkC ["tables", "size", "sentence", "values", "word", "atom", "one", "two", "part"] (defScope s__law_true) _ _ = true; decide +kernel)) (fun _ _ _ _ _ => (dgw_name sc__law_true.nd)) (fun _ _ _ _ _ => dts_nil) (fun _ _ _ _ _ => (de_call (Cz.blk C) (ok__law_value T 40) (by omega) (da_cons (de_v 0) (da_cons (de_v 1) (da_cons (de_v 8) (da_cons (de_v 3) da_nil))))))) da_nil)))))))) dss_nil)
  (dss_cons (ds_if (dt_eq C (de_v 4) (de_strL (l := [115, 97, 109, 101]))) (dss_one (ds_ret (de_eq C (de_call C (ok__law_value T 40) (by omega) (da_cons (de_v 0) (da_cons (de_v 1) (da_cons (de_ix C (de_v 2) de_int) (da_cons (de_v 3) da_nil))))) (de_call C (ok__law_value T 40) (by omega) (da_cons (de_v 0) (da_cons (de_v 1) (da_cons (de_ix C (de_v 2) de_int) (da_cons (de_v 3) da_nil)))))))) dss_nil)
  (dss_cons (ds_if (dt_eq C (de_v 4) (de_strL (l := [110, 111, 116]))) (dss_one (ds_ret (de_not (de_call C R__law_true (by omega) (da_cons (de_v 0) (da_cons (de_v 1) (da_cons (de_ix C (de_v 2) de_int) (da_cons (de_v 3) da_nil)))))))) dss_nil)
  (dss_cons (ds_if (dt_in C (de_v 4) (de_tup (da_cons (de_strL (l := [97, 108, 108])) (da_cons (de_strL (l := [115, 111, 109, 101])) da_nil)))) (dss_one (ds_ret (de_call C R__law_bound (by omega) (da_cons (de_v 0) (da_cons (de_v 1) (da_cons (de_v 2) (da_cons (de_v 3) da_nil))))))) dss_nil)
  (dss_cons (ds_set sc__law_true.nd (de_call C R__law_true (by omega) (da_cons (de_v 0) (da_cons (de_v 1) (da_cons (de_ix C (de_v 2) de_int) (da_cons (de_v 3) da_nil))))))
  (dss_cons (ds_if (PW.pt (dw_or (PW.pt (dw_and (dt_eq C (de_v 4) (de_strL (l := [97, 110, 100]))) (dw_and1 (dt_not (dt_val (de_v 6)))))) (dw_or1 (PW.pt (dw_and (dt_eq C (de_v 4) (de_strL (l := [111, 114]))) (dw_and1 (dt_val (de_v 6)))))))) (dss_one (ds_ret (de_v 6))) dss_nil)
  (dss_cons (ds_if (PW.pt (dw_and (dt_eq C (de_v 4) (de_strL (l := [105, 109, 112, 108, 105, 101, 115]))) (dw_and1 (dt_not (dt_val (de_v 6)))))) (dss_one (ds_ret de_bl)) dss_nil)
  (dss_cons (ds_set sc__law_true.nd (de_call C R__law_true (by omega) (da_cons (de_v 0) (da_cons (de_v 1) (da_cons (de_ix C (de_v 2) de_int) (da_cons (de_v 3) da_nil))))))
  (dss_cons (ds_if (dt_eq C (de_v 4) (de_strL (l := [105, 102, 102]))) (dss_one (ds_ret (de_eq C (de_v 6) (de_v 7)))) dss_nil)
  (dss_one (ds_ret (de_v 7)))))))))))))
theorem ok_all__law_bound {P : Program} {w : World} {K : PySem.W.Frag} {mg : Str → Option Value} {base : Heap} (T : Txt K mg w) : ∀ n : Nat, CallOk P w K mg base (41 + n) "_law_bound" 4 [] (F__law_bound n) ∧ CallOk P w K mg base (41 + n) "_law_true" 4 [] (F__law_true n)
  | 0 => by
    exact ⟨T.d__law_bound.bad _, T.d__law_true.bad _⟩
  | n + 1 => by
    obtain ⟨h__law_bound, h__law_true⟩ := ok_all__law_bound T n
    exact ⟨T.d__law_bound.okV sc__law_bound (body__law_bound (k := 41 + n) T (by omega) h__law_true), T.d__law_true.okV sc__law_true (body__law_true (k := 41 + n) T (by omega) h__law_bound h__law_true)⟩
theorem ok__law_bound {P : Program} {w : World} {K : PySem.W.Frag} {mg : Str → Option Value} {base : Heap} (T : Txt K mg w) (n : Nat) : CallOk P w K mg base (41 + n) "_law_bound" 4 [] (F__law_bound n) := (ok_all__law_bound T n).1
theorem ok__law_true {P : Program} {w : World} {K : PySem.W.Frag} {mg : Str → Option Value} {base : Heap} (T : Txt K mg w) (n : Nat) : CallOk P w K mg base (41 + n) "_law_true" 4 [] (F__law_true n) := (ok_all__law_bound T n).2
theorem body__law_term {P : Program} {w : World} {K : PySem.W.Frag} {mg : Str → Option Value} {base : Heap} {k : Nat} (T : Txt K mg w) (hk : 1 ≤ k) : BodyOk P w K mg base ["state", "names", "kind"] "_law_term" s__law_term k (B__law_term) := fun f cdv A outer s H E C =>
  (dss_cons (ds_set sc__law_term.nd (de_call C (ok__law_take T) (by omega) (da_cons (de_v 0) (da_cons de_int da_nil))))
  (dss_cons (ds_if (dt_eq C (de_v 2) de_int) (dss_one (ds_ret (de_tup (da_cons (de_strL (l := [97])) da_nil)))) dss_nil)
  (dss_cons (ds_if (dt_eq C (de_v 2) de_int) (dss_one (ds_ret (de_tup (da_cons (de_strL (l := [102])) (da_cons (de_ix C (de_v 1) (de_call C (ok__law_take T) (by omega) (da_cons (de_v 0) (da_cons (de_len T.z_len (da_cons (de_v 1) da_nil)) da_nil)))) da_nil))))) dss_nil)
  (dss_one (ds_ret (de_ix C (de_v 1) (de_call C (ok__law_take T) (by omega) (da_cons (de_v 0) (da_cons (de_len T.z_len (da_cons (de_v 1) da_nil)) da_nil)))))))))
theorem ok__law_term {P : Program} {w : World} {K : PySem.W.Frag} {mg : Str → Option Value} {base : Heap} (T : Txt K mg w) : CallOk P w K mg base 2 "_law_term" 2 [] F__law_term := T.d__law_term.okV sc__law_term (body__law_term (k := 1) T (by omega))
theorem body__law_basic {P : Program} {w : World} {K : PySem.W.Frag} {mg : Str → Option Value} {base : Heap} {k : Nat} (T : Txt K mg w) (hk : 2 ≤ k) : BodyOk P w K mg base ["state", "names", "kind"] "_law_basic" s__law_basic k (B__law_basic) := fun f cdv A outer s H E C =>
  (dss_cons (ds_set sc__law_basic.nd (de_call C (ok__law_take T) (by omega) (da_cons (de_v 0) (da_cons de_int da_nil))))
  (dss_cons (ds_if (dt_eq C (de_v 2) de_int) (dss_one (ds_ret (de_tup (da_cons (de_strL (l := [115, 97, 109, 101])) (da_cons (de_call C (ok__law_term T) (by omega) (da_cons (de_v 0) (da_cons (de_v 1) da_nil))) (da_cons (de_call C (ok__law_term T) (by omega) (da_cons (de_v 0) (da_cons (de_v 1) da_nil))) da_nil)))))) dss_nil)
  (dss_cons (ds_if (dt_eq C (de_v 2) de_int) (dss_one (ds_ret (de_tup (da_cons (de_strL (l := [104, 111, 108, 100, 115])) (da_cons (de_tup (da_cons (de_strL (l := [82])) (da_cons (de_call C (ok__law_term T) (by omega) (da_cons (de_v 0) (da_cons (de_v 1) da_nil))) (da_cons (de_call C (ok__law_term T) (by omega) (da_cons (de_v 0) (da_cons (de_v 1) da_nil))) da_nil)))) da_nil))))) dss_nil)
  (dss_cons (ds_if (dt_eq C (de_v 2) de_int) (dss_one (ds_ret (de_tup (da_cons (de_strL (l := [104, 111, 108, 100, 115])) (da_cons (de_tup (da_cons (de_strL (l := [80])) (da_cons (de_call C (ok__law_term T) (by omega) (da_cons (de_v 0) (da_cons (de_v 1) da_nil))) da_nil))) da_nil))))) dss_nil)
  (dss_one (ds_ret (de_tup (da_cons (de_strL (l := [104, 111, 108, 100, 115])) (da_cons (de_tup (da_cons (de_strL (l := [81])) da_nil)) da_nil)))))))))
theorem ok__law_basic {P : Program} {w : World} {K : PySem.W.Frag} {mg : Str → Option Value} {base : Heap} (T : Txt K mg w) : CallOk P w K mg base 3 "_law_basic" 2 [] F__law_basic := T.d__law_basic.okV sc__law_basic (body__law_basic (k := 2) T (by omega))
theorem body__law_sentence {P : Program} {w : World} {K : PySem.W.Frag} {mg : Str → Option Value} {base : Heap} {k : Nat} {r__law_sentence : List D → Sto → R D} (T : Txt K mg w) (hk : 3 ≤ k) (R__law_sentence : CallOk P w K mg base k "_law_sentence" 3 [] r__law_sentence) : BodyOk P w K mg base ["state", "names", "depth", "kind", "name", "inner", "word", "other"] "_law_sentence" s__law_sentence k (B__law_sentence r__law_sentence) := fun f cdv A outer s H E C =>
  (dss_cons (ds_set sc__law_sentence.nd (de_call C (ok__law_take T) (by omega) (da_cons (de_v 0) (da_cons de_int da_nil))))
  (dss_cons (ds_if (PW.pt (dw_or (dt_eq C (de_v 2) de_int) (dw_or1 (dt_eq C (de_v 3) de_int)))) (dss_one (ds_ret (de_call C (ok__law_basic T) (by omega) (da_cons (de_v 0) (da_cons (de_v 1) da_nil))))) dss_nil)
  (dss_cons (ds_if (dt_lt C (de_v 3) de_int) (dss_one (ds_ret (de_tup (da_cons (de_strL (l := [110, 111, 116])) (da_cons (de_call C R__law_sentence (by omega) (da_cons (de_v 0) (da_cons (de_v 1) (da_cons (de_sub (de_v 2) de_int) da_nil)))) da_nil))))) dss_nil)
  (dss_cons (ds_if (dt_lt C (de_v 3) de_int) (dss_cons (ds_set sc__law_sentence.nd (de_ix C (de_lst (c := false) (da_cons (de_strL (l := [120])) (da_cons (de_strL (l := [121])) (da_cons (de_strL (l := [122])) da_nil)))) (de_call C (ok__law_take T) (by omega) (da_cons (de_v 0) (da_cons de_int da_nil)))))
  (dss_cons (ds_set sc__law_sentence.nd (de_add (c := false) (de_lc (own := [("other", 7)]) false C sc__law_sentence.nd (di_val (de_v 1)) (blkOk_by (own := [("other", 7)]) (by show blkC ["state", "names", "depth", "kind", "name", "inner", "word", "other"] (defScope s__law_sentence) _ _ = true; decide +kernel)) (fun _ _ _ _ _ => (dgw_name sc__law_sentence.nd)) (fun _ _ _ _ _ => (dts_one (dt_ne (Cz.blk C) (de_v 7) (de_v 4)))) (fun _ _ _ _ _ => (de_v 7))) (de_lst (c := false) (da_cons (de_v 4) da_nil))))
  (dss_one (ds_ret (de_tup (da_cons (de_ix C (de_lst (c := false) (da_cons (de_strL (l := [97, 108, 108])) (da_cons (de_strL (l := [115, 111, 109, 101])) da_nil))) (de_call C (ok__law_take T) (by omega) (da_cons (de_v 0) (da_cons de_int da_nil)))) (da_cons (de_v 4) (da_cons (de_call C R__law_sentence (by omega) (da_cons (de_v 0) (da_cons (de_v 5) (da_cons (de_sub (de_v 2) de_int) da_nil)))) da_nil)))))))) dss_nil)
  (dss_cons (ds_set sc__law_sentence.nd (de_ix C (de_lst (c := false) (da_cons (de_strL (l := [97, 110, 100])) (da_cons (de_strL (l := [111, 114])) (da_cons (de_strL (l := [105, 109, 112, 108, 105, 101, 115])) (da_cons (de_strL (l := [105, 102, 102])) (da_cons (de_strL (l := [105, 102, 102])) da_nil)))))) (de_sub (de_v 3) de_int)))
  (dss_one (ds_ret (de_tup (da_cons (de_v 6) (da_cons (de_call C R__law_sentence (by omega) (da_cons (de_v 0) (da_cons (de_v 1) (da_cons (de_sub (de_v 2) de_int) da_nil)))) (da_cons (de_call C R__law_sentence (by omega) (da_cons (de_v 0) (da_cons (de_v 1) (da_cons (de_sub (de_v 2) de_int) da_nil)))) da_nil)))))))))))
theorem ok_all__law_sentence {P : Program} {w : World} {K : PySem.W.Frag} {mg : Str → Option Value} {base : Heap} (T : Txt K mg w) : ∀ n : Nat, CallOk P w K mg base (3 + n) "_law_sentence" 3 [] (F__law_sentence n)
  | 0 => by
    exact T.d__law_sentence.bad _
  | n + 1 => by
    obtain h__law_sentence := ok_all__law_sentence T n
    exact T.d__law_sentence.okV sc__law_sentence (body__law_sentence (k := 3 + n) T (by omega) h__law_sentence)
theorem ok__law_sentence {P : Program} {w : World} {K : PySem.W.Frag} {mg : Str → Option Value} {base : Heap} (T : Txt K mg w) (n : Nat) : CallOk P w K mg base (3 + n) "_law_sentence" 3 [] (F__law_sentence n) := (ok_all__law_sentence T n)
theorem body__law_opposite {P : Program} {w : World} {K : PySem.W.Frag} {mg : Str → Option Value} {base : Heap} {k : Nat} {r__law_opposite : List D → Sto → R D} (T : Txt K mg w) (hk : 0 ≤ k) (R__law_opposite : CallOk P w K mg base k "_law_opposite" 1 [] r__law_opposite) : BodyOk P w K mg base ["formed", "word"] "_law_opposite" s__law_opposite k (B__law_opposite r__law_opposite) := fun f cdv A outer s H E C =>
  (dss_cons (ds_set sc__law_opposite.nd (de_ix C (de_v 0) de_int))
  (dss_cons (ds_if (dt_eq C (de_v 1) (de_strL (l := [110, 111, 116]))) (dss_one (ds_ret (de_ix C (de_v 0) de_int))) dss_nil)
  (dss_cons (ds_if (dt_in C (de_v 1) (de_tup (da_cons (de_strL (l := [104, 111, 108, 100, 115])) (da_cons (de_strL (l := [115, 97, 109, 101])) da_nil)))) (dss_one (ds_ret (de_tup (da_cons (de_strL (l := [110, 111, 116])) (da_cons (de_v 0) da_nil))))) dss_nil)
  (dss_cons (ds_if (dt_in C (de_v 1) (de_tup (da_cons (de_strL (l := [97, 108, 108])) (da_cons (de_strL (l := [115, 111, 109, 101])) da_nil)))) (dss_one (ds_ret (de_tup (da_cons (de_if (dt_eq C (de_v 1) (de_strL (l := [97, 108, 108]))) (de_strL (l := [115, 111, 109, 101])) (de_strL (l := [97, 108, 108]))) (da_cons (de_ix C (de_v 0) de_int) (da_cons (de_call C R__law_opposite (by omega) (da_cons (de_ix C (de_v 0) de_int) da_nil)) da_nil)))))) dss_nil)
  (dss_one (ds_ret (de_tup (da_cons (de_if (dt_eq C (de_v 1) (de_strL (l := [97, 110, 100]))) (de_strL (l := [111, 114])) (de_strL (l := [97, 110, 100]))) (da_cons (de_call C R__law_opposite (by omega) (da_cons (de_ix C (de_v 0) de_int) da_nil)) (da_cons (de_call C R__law_opposite (by omega) (da_cons (de_ix C (de_v 0) de_int) da_nil)) da_nil))))))))))
theorem ok_all__law_opposite {P : Program} {w : World} {K : PySem.W.Frag} {mg : Str → Option Value} {base : Heap} (T : Txt K mg w) : ∀ n : Nat, CallOk P w K mg base (0 + n) "_law_opposite" 1 [] (F__law_opposite n)
  | 0 => by
    exact T.d__law_opposite.bad _
  | n + 1 => by
    obtain h__law_opposite := ok_all__law_opposite T n
    exact T.d__law_opposite.okV sc__law_opposite (body__law_opposite (k := 0 + n) T (by omega) h__law_opposite)
theorem ok__law_opposite {P : Program} {w : World} {K : PySem.W.Frag} {mg : Str → Option Value} {base : Heap} (T : Txt K mg w) (n : Nat) : CallOk P w K mg base (0 + n) "_law_opposite" 1 [] (F__law_opposite n) := (ok_all__law_opposite T n)
theorem body__law_formed {P : Program} {w : World} {K : PySem.W.Frag} {mg : Str → Option Value} {base : Heap} {k : Nat} {r__law_formed : List D → Sto → R D} (T : Txt K mg w) (hk : 40 ≤ k) (R__law_formed : CallOk P w K mg base k "_law_formed" 1 [] r__law_formed) : BodyOk P w K mg base ["sentence", "word", "one", "two"] "_law_formed" s__law_formed k (B__law_formed r__law_formed) := fun f cdv A outer s H E C =>
  (dss_cons (ds_set sc__law_formed.nd (de_ix C (de_v 0) de_int))
  (dss_cons (ds_if (dt_in C (de_v 1) (de_tup (da_cons (de_strL (l := [104, 111, 108, 100, 115])) (da_cons (de_strL (l := [115, 97, 109, 101])) da_nil)))) (dss_one (ds_ret (de_v 0))) dss_nil)
  (dss_cons (ds_if (dt_eq C (de_v 1) (de_strL (l := [110, 111, 116]))) (dss_one (ds_ret (de_call C (ok__law_opposite T 40) (by omega) (da_cons (de_call C R__law_formed (by omega) (da_cons (de_ix C (de_v 0) de_int) da_nil)) da_nil)))) dss_nil)
  (dss_cons (ds_if (dt_in C (de_v 1) (de_tup (da_cons (de_strL (l := [97, 108, 108])) (da_cons (de_strL (l := [115, 111, 109, 101])) da_nil)))) (dss_one (ds_ret (de_tup (da_cons (de_v 1) (da_cons (de_ix C (de_v 0) de_int) (da_cons (de_call C R__law_formed (by omega) (da_cons (de_ix C (de_v 0) de_int) da_nil)) da_nil)))))) dss_nil)
  (dss_cons (ds_set sc__law_formed.nd (de_call C R__law_formed (by omega) (da_cons (de_ix C (de_v 0) de_int) da_nil)))
  (dss_cons (ds_set sc__law_formed.nd (de_call C R__law_formed (by omega) (da_cons (de_ix C (de_v 0) de_int) da_nil)))
  (dss_cons (ds_if (dt_eq C (de_v 1) (de_strL (l := [105, 109, 112, 108, 105, 101, 115]))) (dss_one (ds_ret (de_tup (da_cons (de_strL (l := [111, 114])) (da_cons (de_call C (ok__law_opposite T 40) (by omega) (da_cons (de_v 2) da_nil)) (da_cons (de_v 3) da_nil)))))) dss_nil)
  (dss_cons (ds_if (dt_eq C (de_v 1) (de_strL (l := [105, 102, 102]))) (dss_one (ds_ret (de_tup (da_cons (de_strL (l := [97, 110, 100])) (da_cons (de_tup (da_cons (de_strL (l := [111, 114])) (da_cons (de_call C (ok__law_opposite T 40) (by omega) (da_cons (de_v 2) da_nil)) (da_cons (de_v 3) da_nil)))) (da_cons (de_tup (da_cons (de_strL (l := [111, 114])) (da_cons (de_call C (ok__law_opposite T 40) (by omega) (da_cons (de_v 3) da_nil)) (da_cons (de_v 2) da_nil)))) da_nil)))))) dss_nil)
  (dss_one (ds_ret (de_tup (da_cons (de_v 1) (da_cons (de_v 2) (da_cons (de_v 3) da_nil))))))))))))))
theorem ok_all__law_formed {P : Program} {w : World} {K : PySem.W.Frag} {mg : Str → Option Value} {base : Heap} (T : Txt K mg w) : ∀ n : Nat, CallOk P w K mg base (40 + n) "_law_formed" 1 [] (F__law_formed n)
  | 0 => by
    exact T.d__law_formed.bad _
  | n + 1 => by
    obtain h__law_formed := ok_all__law_formed T n
    exact T.d__law_formed.okV sc__law_formed (body__law_formed (k := 40 + n) T (by omega) h__law_formed)
theorem ok__law_formed {P : Program} {w : World} {K : PySem.W.Frag} {mg : Str → Option Value} {base : Heap} (T : Txt K mg w) (n : Nat) : CallOk P w K mg base (40 + n) "_law_formed" 1 [] (F__law_formed n) := (ok_all__law_formed T n)
theorem body__law_shaped {P : Program} {w : World} {K : PySem.W.Frag} {mg : Str → Option Value} {base : Heap} {k : Nat} {r__law_shaped : List D → Sto → R D} (T : Txt K mg w) (hk : 0 ≤ k) (R__law_shaped : CallOk P w K mg base k "_law_shaped" 1 [] r__law_shaped) : BodyOk P w K mg base ["sentence", "word"] "_law_shaped" s__law_shaped k (B__law_shaped r__law_shaped) := fun f cdv A outer s H E C =>
  (dss_cons (ds_set sc__law_shaped.nd (de_ix C (de_v 0) de_int))
  (dss_cons (ds_if (dt_eq C (de_v 1) (de_strL (l := [110, 111, 116]))) (dss_one (ds_ret (de_in C (de_ix C (de_ix C (de_v 0) de_int) de_int) (de_tup (da_cons (de_strL (l := [104, 111, 108, 100, 115])) (da_cons (de_strL (l := [115, 97, 109, 101])) da_nil)))))) dss_nil)
  (dss_cons (ds_if (dt_in C (de_v 1) (de_tup (da_cons (de_strL (l := [97, 108, 108])) (da_cons (de_strL (l := [115, 111, 109, 101])) da_nil)))) (dss_one (ds_ret (de_call C R__law_shaped (by omega) (da_cons (de_ix C (de_v 0) de_int) da_nil)))) dss_nil)
  (dss_cons (ds_if (dt_in C (de_v 1) (de_tup (da_cons (de_strL (l := [97, 110, 100])) (da_cons (de_strL (l := [111, 114])) da_nil)))) (dss_one (ds_ret (de_and (de_call C R__law_shaped (by omega) (da_cons (de_ix C (de_v 0) de_int) da_nil)) (de_one (de_call C R__law_shaped (by omega) (da_cons (de_ix C (de_v 0) de_int) da_nil)))))) dss_nil)
  (dss_one (ds_ret (de_in C (de_v 1) (de_tup (da_cons (de_strL (l := [104, 111, 108, 100, 115])) (da_cons (de_strL (l := [115, 97, 109, 101])) da_nil))))))))))
theorem ok_all__law_shaped {P : Program} {w : World} {K : PySem.W.Frag} {mg : Str → Option Value} {base : Heap} (T : Txt K mg w) : ∀ n : Nat, CallOk P w K mg base (0 + n) "_law_shaped" 1 [] (F__law_shaped n)
  | 0 => by
    exact T.d__law_shaped.bad _
  | n + 1 => by
    obtain h__law_shaped := ok_all__law_shaped T n
    exact T.d__law_shaped.okV sc__law_shaped (body__law_shaped (k := 0 + n) T (by omega) h__law_shaped)
theorem ok__law_shaped {P : Program} {w : World} {K : PySem.W.Frag} {mg : Str → Option Value} {base : Heap} (T : Txt K mg w) (n : Nat) : CallOk P w K mg base (0 + n) "_law_shaped" 1 [] (F__law_shaped n) := (ok_all__law_shaped T n)
theorem body_law {P : Program} {w : World} {K : PySem.W.Frag} {mg : Str → Option Value} {base : Heap} {k : Nat} (T : Txt K mg w) (hk : 81 ≤ k) : BodyOk P w K mg base ["script", "state", "size", "depth", "tables", "sentence", "due", "made", "turned", "x", "y", "values", "said", "k"] "law" s_law k (B_law) := fun f cdv A outer s H E C =>
  (dss_cons (ds_set sc_law.nd (de_call C (ok__law_start T) (by omega) (da_cons (de_v 0) da_nil)))
  (dss_cons (ds_set sc_law.nd (de_add (c := false) de_int (de_call C (ok__law_take T) (by omega) (da_cons (de_v 1) (da_cons de_int da_nil)))))
  (dss_cons (ds_set sc_law.nd (de_add (c := false) de_int (de_call C (ok__law_take T) (by omega) (da_cons (de_v 1) (da_cons de_int da_nil)))))
  (dss_cons (ds_set sc_law.nd (de_disp true (dp_cons (de_strL (l := [97])) (de_lst (c := false) (da_cons (de_call C (ok__law_take T) (by omega) (da_cons (de_v 1) (da_cons (de_v 2) da_nil))) da_nil)) (dp_cons (de_strL (l := [81])) (de_lst (c := false) (da_cons (de_eq C (de_call C (ok__law_take T) (by omega) (da_cons (de_v 1) (da_cons de_int da_nil))) de_int) da_nil)) dp_nil))))
  (dss_cons (ds_setIx C (de_v 4) (de_strL (l := [102])) (de_lc (own := [("k", 13)]) false C sc_law.nd (di_range1 T.z_range (da_cons (de_v 2) da_nil)) (blkOk_by (own := [("k", 13)]) (by show blkC ["script", "state", "size", "depth", "tables", "sentence", "due", "made", "turned", "x", "y", "values", "said", "k"] (defScope s_law) _ _ = true; decide +kernel)) (fun _ _ _ _ _ => (dgw_name sc_law.nd)) (fun _ _ _ _ _ => dts_nil) (fun _ _ _ _ _ => (de_call (Cz.blk C) (ok__law_take T) (by omega) (da_cons (de_v 1) (da_cons (de_v 2) da_nil))))))
  (dss_cons (ds_setIx C (de_v 4) (de_strL (l := [80])) (de_lc (own := [("k", 13)]) false C sc_law.nd (di_range1 T.z_range (da_cons (de_v 2) da_nil)) (blkOk_by (own := [("k", 13)]) (by show blkC ["script", "state", "size", "depth", "tables", "sentence", "due", "made", "turned", "x", "y", "values", "said", "k"] (defScope s_law) _ _ = true; decide +kernel)) (fun _ _ _ _ _ => (dgw_name sc_law.nd)) (fun _ _ _ _ _ => dts_nil) (fun _ _ _ _ _ => (de_eq (Cz.blk C) (de_call (Cz.blk C) (ok__law_take T) (by omega) (da_cons (de_v 1) (da_cons de_int da_nil))) de_int))))
  (dss_cons (ds_setIx C (de_v 4) (de_strL (l := [82])) (de_lc (own := [("k", 13)]) false C sc_law.nd (di_range1 T.z_range (da_cons (de_mul (de_v 2) (de_v 2)) da_nil)) (blkOk_by (own := [("k", 13)]) (by show blkC ["script", "state", "size", "depth", "tables", "sentence", "due", "made", "turned", "x", "y", "values", "said", "k"] (defScope s_law) _ _ = true; decide +kernel)) (fun _ _ _ _ _ => (dgw_name sc_law.nd)) (fun _ _ _ _ _ => dts_nil) (fun _ _ _ _ _ => (de_eq (Cz.blk C) (de_call (Cz.blk C) (ok__law_take T) (by omega) (da_cons (de_v 1) (da_cons de_int da_nil))) de_int))))
  (dss_cons (ds_set sc_law.nd (de_call C (ok__law_sentence T 40) (by omega) (da_cons (de_v 1) (da_cons (de_lst (c := false) (da_cons (de_strL (l := [120])) (da_cons (de_strL (l := [121])) da_nil))) (da_cons (de_v 3) da_nil)))))
  (dss_cons (ds_set sc_law.nd (de_call C (ok__law_formed T 40) (by omega) (da_cons (de_v 5) da_nil)))
  (dss_cons (ds_set sc_law.nd (de_call C (ok_negation_form T) (by omega) (da_cons (de_v 5) da_nil)))
  (dss_cons (ds_set sc_law.nd (de_call C (ok_negation_form T) (by omega) (da_cons (de_tup (da_cons (de_strL (l := [110, 111, 116])) (da_cons (de_v 5) da_nil))) da_nil)))
  (dss_cons (ds_if (PW.pt (dw_or (dt_ne C (de_v 7) (de_v 6)) (dw_or1 (dt_ne C (de_v 8) (de_call C (ok__law_opposite T 40) (by omega) (da_cons (de_v 6) da_nil)))))) (dss_one (ds_ret de_bl)) dss_nil)
  (dss_cons (ds_if (PW.pt (dw_or (dt_not (dt_val (de_call C (ok__law_shaped T 40) (by omega) (da_cons (de_v 7) da_nil)))) (dw_or (dt_not (dt_val (de_call C (ok__law_shaped T 40) (by omega) (da_cons (de_v 8) da_nil)))) (dw_or1 (dt_ne C (de_call C (ok_negation_form T) (by omega) (da_cons (de_v 7) da_nil)) (de_v 6)))))) (dss_one (ds_ret de_bl)) dss_nil)
  (dss_cons (ds_for C (di_range1 T.z_range (da_cons (de_v 2) da_nil)) (dg_name sc_law.nd) (dss_one (ds_for C (di_range1 T.z_range (da_cons (de_v 2) da_nil)) (dg_name sc_law.nd) (dss_cons (ds_set sc_law.nd (de_disp false (dp_cons (de_strL (l := [120])) (de_v 9) (dp_cons (de_strL (l := [121])) (de_v 10) dp_nil))))
  (dss_cons (ds_set sc_law.nd (de_call C (ok__law_true T 40) (by omega) (da_cons (de_v 4) (da_cons (de_v 2) (da_cons (de_v 5) (da_cons (de_v 11) da_nil))))))
  (dss_cons (ds_if (dt_ne C (de_call C (ok__law_true T 40) (by omega) (da_cons (de_v 4) (da_cons (de_v 2) (da_cons (de_v 7) (da_cons (de_v 11) da_nil))))) (de_v 12)) (dss_one (ds_ret de_bl)) dss_nil)
  (dss_one (ds_if (dt_eq C (de_call C (ok__law_true T 40) (by omega) (da_cons (de_v 4) (da_cons (de_v 2) (da_cons (de_v 8) (da_cons (de_v 11) da_nil))))) (de_v 12)) (dss_one (ds_ret de_bl)) dss_nil))))))))
  (dss_one (ds_ret de_bl))))))))))))))))
theorem ok_law {P : Program} {w : World} {K : PySem.W.Frag} {mg : Str → Option Value} {base : Heap} (T : Txt K mg w) : CallOk P w K mg base 82 "law" 1 [] F_law := T.d_law.okV sc_law (body_law (k := 81) T (by omega))
theorem law_base {l : PySem.W.OpenLaw} {w : World} {K : PySem.W.Frag} {h : Heap} {mg : Str → Option Value} {fa : Addr} {f_signed_form f_negation_form f__law_start f__law_take f__law_entry f__law_value f__law_bound f__law_true f__law_term f__law_basic f__law_sentence f__law_opposite f__law_formed f__law_shaped f_law : Addr} {od_signed_form an_signed_form od_negation_form an_negation_form od__law_start an__law_start od__law_take an__law_take od__law_entry an__law_entry od__law_value an__law_value od__law_bound an__law_bound od__law_true an__law_true od__law_term an__law_term od__law_basic an__law_basic od__law_sentence an__law_sentence od__law_opposite an__law_opposite od__law_formed an__law_formed od__law_shaped an__law_shaped od_law an_law : Option Addr} {sl_signed_form sl_negation_form sl__law_start sl__law_take sl__law_entry sl__law_value sl__law_bound sl__law_true sl__law_term sl__law_basic sl__law_sentence sl__law_opposite sl__law_formed sl__law_shaped sl_law : Array (Option Value)} {oc_signed_form kV_signed_form dc_signed_form pm_signed_form cd_signed_form ct_signed_form oc_negation_form kV_negation_form dc_negation_form pm_negation_form cd_negation_form ct_negation_form oc__law_start kV__law_start dc__law_start pm__law_start cd__law_start ct__law_start oc__law_take kV__law_take dc__law_take pm__law_take cd__law_take ct__law_take oc__law_entry kV__law_entry dc__law_entry pm__law_entry cd__law_entry ct__law_entry oc__law_value kV__law_value dc__law_value pm__law_value cd__law_value ct__law_value oc__law_bound kV__law_bound dc__law_bound pm__law_bound cd__law_bound ct__law_bound oc__law_true kV__law_true dc__law_true pm__law_true cd__law_true ct__law_true oc__law_term kV__law_term dc__law_term pm__law_term cd__law_term ct__law_term oc__law_basic kV__law_basic dc__law_basic pm__law_basic cd__law_basic ct__law_basic oc__law_sentence kV__law_sentence dc__law_sentence pm__law_sentence cd__law_sentence ct__law_sentence oc__law_opposite kV__law_opposite dc__law_opposite pm__law_opposite cd__law_opposite ct__law_opposite oc__law_formed kV__law_formed dc__law_formed pm__law_formed cd__law_formed ct__law_formed oc__law_shaped kV__law_shaped dc__law_shaped pm__law_shaped cd__law_shaped ct__law_shaped oc_law kV_law dc_law pm_law cd_law ct_law : Value} {q_BASIC : Addr} {od_BASIC : Option Addr} {n_BASIC : Nat} {sl_BASIC : Array (Option Value)} {t0_BASIC t1_BASIC : Tok} {q_BINDERS : Addr} {od_BINDERS : Option Addr} {n_BINDERS : Nat} {sl_BINDERS : Array (Option Value)} {t0_BINDERS t1_BINDERS : Tok} {q_OTHER : Addr} {es_OTHER : Array DictEntry} {n_OTHER : Nat} {t0_OTHER t1_OTHER t2_OTHER t3_OTHER : Tok} (X : K.In h) (G : h.Ns mainGlobals mg) (hfa : mg "law" = some (.ref fa))
    (a_signed_form : PySem.W.nsIn K mainGlobals "signed_form" = some (some (.ref f_signed_form))) (l_signed_form : K.lookup f_signed_form = some ⟨oc_signed_form, od_signed_form, .func (PySem.W.fnOf "signed_form" "signed_form" (defArgs s_signed_form) (defBody s_signed_form) (defScope s_signed_form) .none kV_signed_form dc_signed_form pm_signed_form an_signed_form cd_signed_form ct_signed_form), sl_signed_form⟩) (e_signed_form : PySem.W.codeIn K cd_signed_form "signed_form" = true) (k_signed_form : PySem.W.keepIn K (.ref f_signed_form) = true)
    (a_negation_form : PySem.W.nsIn K mainGlobals "negation_form" = some (some (.ref f_negation_form))) (l_negation_form : K.lookup f_negation_form = some ⟨oc_negation_form, od_negation_form, .func (PySem.W.fnOf "negation_form" "negation_form" (defArgs s_negation_form) (defBody s_negation_form) (defScope s_negation_form) .none kV_negation_form dc_negation_form pm_negation_form an_negation_form cd_negation_form ct_negation_form), sl_negation_form⟩) (e_negation_form : PySem.W.codeIn K cd_negation_form "negation_form" = true) (k_negation_form : PySem.W.keepIn K (.ref f_negation_form) = true)
    (a__law_start : PySem.W.nsIn K mainGlobals "_law_start" = some (some (.ref f__law_start))) (l__law_start : K.lookup f__law_start = some ⟨oc__law_start, od__law_start, .func (PySem.W.fnOf "_law_start" "_law_start" (defArgs s__law_start) (defBody s__law_start) (defScope s__law_start) .none kV__law_start dc__law_start pm__law_start an__law_start cd__law_start ct__law_start), sl__law_start⟩) (e__law_start : PySem.W.codeIn K cd__law_start "_law_start" = true) (k__law_start : PySem.W.keepIn K (.ref f__law_start) = true)
    (a__law_take : PySem.W.nsIn K mainGlobals "_law_take" = some (some (.ref f__law_take))) (l__law_take : K.lookup f__law_take = some ⟨oc__law_take, od__law_take, .func (PySem.W.fnOf "_law_take" "_law_take" (defArgs s__law_take) (defBody s__law_take) (defScope s__law_take) .none kV__law_take dc__law_take pm__law_take an__law_take cd__law_take ct__law_take), sl__law_take⟩) (e__law_take : PySem.W.codeIn K cd__law_take "_law_take" = true) (k__law_take : PySem.W.keepIn K (.ref f__law_take) = true)
    (a__law_entry : PySem.W.nsIn K mainGlobals "_law_entry" = some (some (.ref f__law_entry))) (l__law_entry : K.lookup f__law_entry = some ⟨oc__law_entry, od__law_entry, .func (PySem.W.fnOf "_law_entry" "_law_entry" (defArgs s__law_entry) (defBody s__law_entry) (defScope s__law_entry) .none kV__law_entry dc__law_entry pm__law_entry an__law_entry cd__law_entry ct__law_entry), sl__law_entry⟩) (e__law_entry : PySem.W.codeIn K cd__law_entry "_law_entry" = true) (k__law_entry : PySem.W.keepIn K (.ref f__law_entry) = true)
    (a__law_value : PySem.W.nsIn K mainGlobals "_law_value" = some (some (.ref f__law_value))) (l__law_value : K.lookup f__law_value = some ⟨oc__law_value, od__law_value, .func (PySem.W.fnOf "_law_value" "_law_value" (defArgs s__law_value) (defBody s__law_value) (defScope s__law_value) .none kV__law_value dc__law_value pm__law_value an__law_value cd__law_value ct__law_value), sl__law_value⟩) (e__law_value : PySem.W.codeIn K cd__law_value "_law_value" = true) (k__law_value : PySem.W.keepIn K (.ref f__law_value) = true)
    (a__law_bound : PySem.W.nsIn K mainGlobals "_law_bound" = some (some (.ref f__law_bound))) (l__law_bound : K.lookup f__law_bound = some ⟨oc__law_bound, od__law_bound, .func (PySem.W.fnOf "_law_bound" "_law_bound" (defArgs s__law_bound) (defBody s__law_bound) (defScope s__law_bound) .none kV__law_bound dc__law_bound pm__law_bound an__law_bound cd__law_bound ct__law_bound), sl__law_bound⟩) (e__law_bound : PySem.W.codeIn K cd__law_bound "_law_bound" = true) (k__law_bound : PySem.W.keepIn K (.ref f__law_bound) = true)
    (a__law_true : PySem.W.nsIn K mainGlobals "_law_true" = some (some (.ref f__law_true))) (l__law_true : K.lookup f__law_true = some ⟨oc__law_true, od__law_true, .func (PySem.W.fnOf "_law_true" "_law_true" (defArgs s__law_true) (defBody s__law_true) (defScope s__law_true) .none kV__law_true dc__law_true pm__law_true an__law_true cd__law_true ct__law_true), sl__law_true⟩) (e__law_true : PySem.W.codeIn K cd__law_true "_law_true" = true) (k__law_true : PySem.W.keepIn K (.ref f__law_true) = true)
    (a__law_term : PySem.W.nsIn K mainGlobals "_law_term" = some (some (.ref f__law_term))) (l__law_term : K.lookup f__law_term = some ⟨oc__law_term, od__law_term, .func (PySem.W.fnOf "_law_term" "_law_term" (defArgs s__law_term) (defBody s__law_term) (defScope s__law_term) .none kV__law_term dc__law_term pm__law_term an__law_term cd__law_term ct__law_term), sl__law_term⟩) (e__law_term : PySem.W.codeIn K cd__law_term "_law_term" = true) (k__law_term : PySem.W.keepIn K (.ref f__law_term) = true)
    (a__law_basic : PySem.W.nsIn K mainGlobals "_law_basic" = some (some (.ref f__law_basic))) (l__law_basic : K.lookup f__law_basic = some ⟨oc__law_basic, od__law_basic, .func (PySem.W.fnOf "_law_basic" "_law_basic" (defArgs s__law_basic) (defBody s__law_basic) (defScope s__law_basic) .none kV__law_basic dc__law_basic pm__law_basic an__law_basic cd__law_basic ct__law_basic), sl__law_basic⟩) (e__law_basic : PySem.W.codeIn K cd__law_basic "_law_basic" = true) (k__law_basic : PySem.W.keepIn K (.ref f__law_basic) = true)
    (a__law_sentence : PySem.W.nsIn K mainGlobals "_law_sentence" = some (some (.ref f__law_sentence))) (l__law_sentence : K.lookup f__law_sentence = some ⟨oc__law_sentence, od__law_sentence, .func (PySem.W.fnOf "_law_sentence" "_law_sentence" (defArgs s__law_sentence) (defBody s__law_sentence) (defScope s__law_sentence) .none kV__law_sentence dc__law_sentence pm__law_sentence an__law_sentence cd__law_sentence ct__law_sentence), sl__law_sentence⟩) (e__law_sentence : PySem.W.codeIn K cd__law_sentence "_law_sentence" = true) (k__law_sentence : PySem.W.keepIn K (.ref f__law_sentence) = true)
    (a__law_opposite : PySem.W.nsIn K mainGlobals "_law_opposite" = some (some (.ref f__law_opposite))) (l__law_opposite : K.lookup f__law_opposite = some ⟨oc__law_opposite, od__law_opposite, .func (PySem.W.fnOf "_law_opposite" "_law_opposite" (defArgs s__law_opposite) (defBody s__law_opposite) (defScope s__law_opposite) .none kV__law_opposite dc__law_opposite pm__law_opposite an__law_opposite cd__law_opposite ct__law_opposite), sl__law_opposite⟩) (e__law_opposite : PySem.W.codeIn K cd__law_opposite "_law_opposite" = true) (k__law_opposite : PySem.W.keepIn K (.ref f__law_opposite) = true)
    (a__law_formed : PySem.W.nsIn K mainGlobals "_law_formed" = some (some (.ref f__law_formed))) (l__law_formed : K.lookup f__law_formed = some ⟨oc__law_formed, od__law_formed, .func (PySem.W.fnOf "_law_formed" "_law_formed" (defArgs s__law_formed) (defBody s__law_formed) (defScope s__law_formed) .none kV__law_formed dc__law_formed pm__law_formed an__law_formed cd__law_formed ct__law_formed), sl__law_formed⟩) (e__law_formed : PySem.W.codeIn K cd__law_formed "_law_formed" = true) (k__law_formed : PySem.W.keepIn K (.ref f__law_formed) = true)
    (a__law_shaped : PySem.W.nsIn K mainGlobals "_law_shaped" = some (some (.ref f__law_shaped))) (l__law_shaped : K.lookup f__law_shaped = some ⟨oc__law_shaped, od__law_shaped, .func (PySem.W.fnOf "_law_shaped" "_law_shaped" (defArgs s__law_shaped) (defBody s__law_shaped) (defScope s__law_shaped) .none kV__law_shaped dc__law_shaped pm__law_shaped an__law_shaped cd__law_shaped ct__law_shaped), sl__law_shaped⟩) (e__law_shaped : PySem.W.codeIn K cd__law_shaped "_law_shaped" = true) (k__law_shaped : PySem.W.keepIn K (.ref f__law_shaped) = true)
    (a_law : PySem.W.nsIn K mainGlobals "law" = some (some (.ref f_law))) (l_law : K.lookup f_law = some ⟨oc_law, od_law, .func (PySem.W.fnOf "law" "law" (defArgs s_law) (defBody s_law) (defScope s_law) .none kV_law dc_law pm_law an_law cd_law ct_law), sl_law⟩) (e_law : PySem.W.codeIn K cd_law "law" = true) (k_law : PySem.W.keepIn K (.ref f_law) = true)
    (z_abs : PySem.W.nsIn K mainGlobals "abs" = some none)
    (z_dict : PySem.W.nsIn K mainGlobals "dict" = some none)
    (z_int : PySem.W.nsIn K mainGlobals "int" = some none)
    (z_isinstance : PySem.W.nsIn K mainGlobals "isinstance" = some none)
    (z_len : PySem.W.nsIn K mainGlobals "len" = some none)
    (z_range : PySem.W.nsIn K mainGlobals "range" = some none)
    (z_str : PySem.W.nsIn K mainGlobals "str" = some none)
    (a_BASIC : PySem.W.nsIn K mainGlobals "BASIC" = some (some (.ref q_BASIC))) (l_BASIC : K.lookup q_BASIC = some ⟨.type "tuple", od_BASIC, .seq #[.str (Str.ofString "holds") t0_BASIC, .str (Str.ofString "same") t1_BASIC] n_BASIC, sl_BASIC⟩)
    (a_BINDERS : PySem.W.nsIn K mainGlobals "BINDERS" = some (some (.ref q_BINDERS))) (l_BINDERS : K.lookup q_BINDERS = some ⟨.type "tuple", od_BINDERS, .seq #[.str (Str.ofString "all") t0_BINDERS, .str (Str.ofString "some") t1_BINDERS] n_BINDERS, sl_BINDERS⟩)
    (a_OTHER : PySem.W.nsIn K mainGlobals "OTHER" = some (some (.ref q_OTHER))) (l_OTHER : K.lookup q_OTHER = some ⟨.type "dict", none, .dict es_OTHER n_OTHER, #[]⟩) (y_OTHER : PySem.W.KeysLit w.params es_OTHER.toList) (w_OTHER : (q_OTHER == sysModules) = false) (i0_OTHER : PySem.W.nsIn K q_OTHER "and" = some (some (.str (Str.ofString "or") t0_OTHER))) (i1_OTHER : PySem.W.nsIn K q_OTHER "or" = some (some (.str (Str.ofString "and") t1_OTHER))) (i2_OTHER : PySem.W.nsIn K q_OTHER "all" = some (some (.str (Str.ofString "some") t2_OTHER))) (i3_OTHER : PySem.W.nsIn K q_OTHER "some" = some (some (.str (Str.ofString "all") t3_OTHER)))
    (main : ∀ ns : List Int, ns.length ≤ 63 → ∃ S', F_law [scr ns] .nil = .ok (.bl true) S') :
    ∃ fd : FuncData, (∀ (s : Shared) (v : Value), BindsTo s fd ⟨[v], []⟩ [("script", v)]) ∧ ∀ base : Heap, K.In base → base.Ns mainGlobals mg → FnOk l.prog w K mg base (L2.CX l.prog w) 82 fa fd ["script"] (spLaw K) := by
  have e := hfa.symm.trans (PySem.W.mg_of X G a_law)
  cases e
  have T : Txt K mg w := {
    d_signed_form := defAt_mk X G a_signed_form l_signed_form e_signed_form k_signed_form fun _ _ _ _ _ _ us hl => match us, hl with | [_, _], _ => rfl,
    d_negation_form := defAt_mk X G a_negation_form l_negation_form e_negation_form k_negation_form fun _ _ _ _ _ _ us hl => match us, hl with | [_], _ => rfl,
    d__law_start := defAt_mk X G a__law_start l__law_start e__law_start k__law_start fun _ _ _ _ _ _ us hl => match us, hl with | [_], _ => rfl,
    d__law_take := defAt_mk X G a__law_take l__law_take e__law_take k__law_take fun _ _ _ _ _ _ us hl => match us, hl with | [_, _], _ => rfl,
    d__law_entry := defAt_mk X G a__law_entry l__law_entry e__law_entry k__law_entry fun _ _ _ _ _ _ us hl => match us, hl with | [_, _, _, _], _ => rfl,
    d__law_value := defAt_mk X G a__law_value l__law_value e__law_value k__law_value fun _ _ _ _ _ _ us hl => match us, hl with | [_, _, _, _], _ => rfl,
    d__law_bound := defAt_mk X G a__law_bound l__law_bound e__law_bound k__law_bound fun _ _ _ _ _ _ us hl => match us, hl with | [_, _, _, _], _ => rfl,
    d__law_true := defAt_mk X G a__law_true l__law_true e__law_true k__law_true fun _ _ _ _ _ _ us hl => match us, hl with | [_, _, _, _], _ => rfl,
    d__law_term := defAt_mk X G a__law_term l__law_term e__law_term k__law_term fun _ _ _ _ _ _ us hl => match us, hl with | [_, _], _ => rfl,
    d__law_basic := defAt_mk X G a__law_basic l__law_basic e__law_basic k__law_basic fun _ _ _ _ _ _ us hl => match us, hl with | [_, _], _ => rfl,
    d__law_sentence := defAt_mk X G a__law_sentence l__law_sentence e__law_sentence k__law_sentence fun _ _ _ _ _ _ us hl => match us, hl with | [_, _, _], _ => rfl,
    d__law_opposite := defAt_mk X G a__law_opposite l__law_opposite e__law_opposite k__law_opposite fun _ _ _ _ _ _ us hl => match us, hl with | [_], _ => rfl,
    d__law_formed := defAt_mk X G a__law_formed l__law_formed e__law_formed k__law_formed fun _ _ _ _ _ _ us hl => match us, hl with | [_], _ => rfl,
    d__law_shaped := defAt_mk X G a__law_shaped l__law_shaped e__law_shaped k__law_shaped fun _ _ _ _ _ _ us hl => match us, hl with | [_], _ => rfl,
    d_law := defAt_mk X G a_law l_law e_law k_law fun _ _ _ _ _ _ us hl => match us, hl with | [_], _ => rfl,
    z_abs := PySem.W.mg_none_of X G z_abs,
    z_dict := PySem.W.mg_none_of X G z_dict,
    z_int := PySem.W.mg_none_of X G z_int,
    z_isinstance := PySem.W.mg_none_of X G z_isinstance,
    z_len := PySem.W.mg_none_of X G z_len,
    z_range := PySem.W.mg_none_of X G z_range,
    z_str := PySem.W.mg_none_of X G z_str,
    g_BASIC := glob_tup X G a_BASIC l_BASIC (Nat.le_of_ble_eq_true rfl) (wr_str (by decide +kernel) (by decide +kernel) (wr_str (by decide +kernel) (by decide +kernel) .nil)),
    g_BINDERS := glob_tup X G a_BINDERS l_BINDERS (Nat.le_of_ble_eq_true rfl) (wr_str (by decide +kernel) (by decide +kernel) (wr_str (by decide +kernel) (by decide +kernel) .nil)),
    k_OTHER := ⟨q_OTHER, es_OTHER, n_OTHER, PySem.W.mg_of X G a_OTHER, ⟨l_OTHER, y_OTHER, w_OTHER⟩, fun p hp => by
      simp only [k_OTHER, List.mem_cons, List.not_mem_nil, or_false] at hp
      rcases hp with rfl | rfl | rfl | rfl
      · exact ⟨_, .str (Str.ofString "or"), (by have h := i0_OTHER; exact h), ⟨_, rfl⟩, fun _ _ => .strOf (Str.ofString "or") (by decide +kernel)⟩
      · exact ⟨_, .str (Str.ofString "and"), (by have h := i1_OTHER; exact h), ⟨_, rfl⟩, fun _ _ => .strOf (Str.ofString "and") (by decide +kernel)⟩
      · exact ⟨_, .str (Str.ofString "some"), (by have h := i2_OTHER; exact h), ⟨_, rfl⟩, fun _ _ => .strOf (Str.ofString "some") (by decide +kernel)⟩
      · exact ⟨_, .str (Str.ofString "all"), (by have h := i3_OTHER; exact h), ⟨_, rfl⟩, fun _ _ => .strOf (Str.ofString "all") (by decide +kernel)⟩⟩ }
  have F := fun_mk (st := s_law) l_law e_law k_law
  exact ⟨PySem.W.fnOf "law" "law" (defArgs s_law) (defBody s_law) (defScope s_law) .none kV_law dc_law pm_law an_law cd_law ct_law, fun s v => .of_eq rfl, fun base _ _ => DefAt.law F sc_law (body_law (k := 81) T (by omega)) main⟩
end K15

open PySem PySem.W PyProof.Rows
set_option maxHeartbeats 0 in
theorem PySem.Challenge.cw_kingsandcourts_k15_negation_form_says_th_holds : PySem.Challenge.rw_kingsandcourts_k15_negation_form_says_th.Holds := by
  w_on; o_law; k_head; (case hw => w_witness2)
  k_fill
  refine L2.walk_of (l := PySem.Challenge.rw_kingsandcourts_k15_negation_form_says_th) (n := 63) (k := 82) (x := "script") (CX := fun w => L2.CX PySem.Challenge.pw_kingsandcourts_k15_negation_form_says_th w) (sp := fun w => Mi.spLaw _) rfl (by decide) rfl ⟨rfl, by decide, by decide⟩ (fun w h Y => PySem.W.kIn_of Y) ?F (fun _ _ a ns hl hO hS => ⟨a, ns, rfl, hS, hl, hO, fun _ => rfl⟩) (fun w H s e s' h => by obtain ⟨_, _, _, _, _, _, _, _, _, _, _, _, z⟩ := h; exact z)
  case F =>
    intro w mg fa h KX G hmg
    refine' K15.law_base KX G hmg ?a_signed_form ?l_signed_form ?e_signed_form ?k_signed_form ?a_negation_form ?l_negation_form ?e_negation_form ?k_negation_form ?a__law_start ?l__law_start ?e__law_start ?k__law_start ?a__law_take ?l__law_take ?e__law_take ?k__law_take ?a__law_entry ?l__law_entry ?e__law_entry ?k__law_entry ?a__law_value ?l__law_value ?e__law_value ?k__law_value ?a__law_bound ?l__law_bound ?e__law_bound ?k__law_bound ?a__law_true ?l__law_true ?e__law_true ?k__law_true ?a__law_term ?l__law_term ?e__law_term ?k__law_term ?a__law_basic ?l__law_basic ?e__law_basic ?k__law_basic ?a__law_sentence ?l__law_sentence ?e__law_sentence ?k__law_sentence ?a__law_opposite ?l__law_opposite ?e__law_opposite ?k__law_opposite ?a__law_formed ?l__law_formed ?e__law_formed ?k__law_formed ?a__law_shaped ?l__law_shaped ?e__law_shaped ?k__law_shaped ?a_law ?l_law ?e_law ?k_law ?z_abs ?z_dict ?z_int ?z_isinstance ?z_len ?z_range ?z_str ?a_BASIC ?l_BASIC ?a_BINDERS ?l_BINDERS ?a_OTHER ?l_OTHER ?y_OTHER ?w_OTHER ?i0_OTHER ?i1_OTHER ?i2_OTHER ?i3_OTHER K15.main
    (case a_signed_form => k_is); (case l_signed_form => k_is); (case e_signed_form => k_is); (case k_signed_form => k_is); (case a_negation_form => k_is); (case l_negation_form => k_is)
    (case e_negation_form => k_is); (case k_negation_form => k_is); (case a__law_start => k_is); (case l__law_start => k_is); (case e__law_start => k_is); (case k__law_start => k_is)
    (case a__law_take => k_is); (case l__law_take => k_is); (case e__law_take => k_is); (case k__law_take => k_is); (case a__law_entry => k_is); (case l__law_entry => k_is)
    (case e__law_entry => k_is); (case k__law_entry => k_is); (case a__law_value => k_is); (case l__law_value => k_is); (case e__law_value => k_is); (case k__law_value => k_is)
    (case a__law_bound => k_is); (case l__law_bound => k_is); (case e__law_bound => k_is); (case k__law_bound => k_is); (case a__law_true => k_is); (case l__law_true => k_is)
    (case e__law_true => k_is); (case k__law_true => k_is); (case a__law_term => k_is); (case l__law_term => k_is); (case e__law_term => k_is); (case k__law_term => k_is)
    (case a__law_basic => k_is); (case l__law_basic => k_is); (case e__law_basic => k_is); (case k__law_basic => k_is); (case a__law_sentence => k_is); (case l__law_sentence => k_is)
    (case e__law_sentence => k_is); (case k__law_sentence => k_is); (case a__law_opposite => k_is); (case l__law_opposite => k_is); (case e__law_opposite => k_is); (case k__law_opposite => k_is)
    (case a__law_formed => k_is); (case l__law_formed => k_is); (case e__law_formed => k_is); (case k__law_formed => k_is); (case a__law_shaped => k_is); (case l__law_shaped => k_is)
    (case e__law_shaped => k_is); (case k__law_shaped => k_is); (case a_law => k_is); (case l_law => k_is); (case e_law => k_is); (case k_law => k_is)
    (case z_abs => k_is); (case z_dict => k_is); (case z_int => k_is); (case z_isinstance => k_is); (case z_len => k_is); (case z_range => k_is)
    (case z_str => k_is); (case a_BASIC => k_is); (case l_BASIC => k_is); (case a_BINDERS => k_is); (case l_BINDERS => k_is); (case a_OTHER => k_is)
    (case l_OTHER => k_is); (case y_OTHER => k_keys); (case w_OTHER => decide); (case i0_OTHER => k_is); (case i1_OTHER => k_is); (case i2_OTHER => k_is)
    (case i3_OTHER => k_is)
