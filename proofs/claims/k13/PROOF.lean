import PyProof.Rows.All
import Wide.All
import OpenK.AllK
import Wide.FinOn
import KE.KStateDown
import HandS.ForMost
import HandS.ForExc
import HandS.IsInst
import HandS.Wide
import HandS.Deep
import HandS.TupAny
import HandS.TupMul
import HandS.FStr
import HandS.Style
import HandS.Flow
import HandS.TryMany
import HandS.HotCalls
import HandS.Lambda
import HandS.Zip
import HandS.Iter
import KE.GoesEnum
import HandS.Hot
import HandS.Comp
import HandS.ExcIs
import HandS.RaiseMore
import HandS.EndTab
import HandS.ExcField
import HandS.WordsExc
import HandS.Defaults
import PyProof.ExcBaseAll.ValueError
import HandS.HeadHook4
import HandS.HeadHook1
import HandS.HeadHook2
import HandS.HeadHook3
import HandS.HeadWalk
import HandS.Head0
import HandS.Head1
import HandS.Head2
import HandS.HeadEnd
import HandS.Text
import HandS.Codes
import PySem.Challenge.RW_anystairs_k13_texts_of_facts
set_option Elab.async false
set_option linter.all false
set_option maxRecDepth 100000
set_option maxHeartbeats 4000000
/-! DL1: data, their standing in the heap, the store. -/
namespace DL
open PySem PySem.Spec PyProof.Rows L2

/-- plain data -/
inductive D where
  | non | bl (b : Bool) | int (i : Int) | str (x : Str) | lst (xs : List D) | tup (xs : List D) | fn (n : Nat) | dic (ks : List Str) (vs : List D)

mutual
inductive Rep (K : PySem.W.Frag) (fa : Nat → Addr) (G : Hp) : V → D → Prop
  | non : Rep K fa G .non .non
  | bl (b : Bool) : Rep K fa G (.bl b) (.bl b)
  | int (i : Int) : Rep K fa G (.int i) (.int i)
  | str (x : Str) : Rep K fa G (.str x) (.str x)
  | lst {a : Addr} {vs : List V} {ds : List D} : SqL K G a vs → Reps K fa G vs ds → Rep K fa G (.ref a) (.lst ds)
  | tup {a : Addr} {vs : List V} {ds : List D} : SqT K G a vs → Reps K fa G vs ds → Rep K fa G (.ref a) (.tup ds)
  | fn (n : Nat) : Rep K fa G (.ref (fa n)) (.fn n)
  | dic {a : Addr} {kvs : List (Key × V)} {ks : List Str} {ds : List D} : G a = some (.dK kvs) → kvs.map (·.1) = ks.map Sum.inr → Reps K fa G (kvs.map (·.2)) ds → Rep K fa G (.ref a) (.dic ks ds)
inductive Reps (K : PySem.W.Frag) (fa : Nat → Addr) (G : Hp) : List V → List D → Prop
  | nil : Reps K fa G [] []
  | cons {v : V} {vs : List V} {d : D} {ds : List D} : Rep K fa G v d → Reps K fa G vs ds → Reps K fa G (v :: vs) (d :: ds)
end

/-- all but the tables of code objects stay -/
def Ext (G G' : Hp) : Prop := ∀ b o, G b = some o → (∀ ps, o ≠ .tbl ps) → G' b = some o
theorem Ext.refl (G : Hp) : Ext G G := fun _ _ h _ => h
theorem Ext.trans {A B C : Hp} (h : Ext A B) (k : Ext B C) : Ext A C := fun b o e n => k b o (h b o e n) n
theorem Ext.lst {G G' : Hp} (h : Ext G G') {a : Addr} {xs : List V} (e : G a = some (.lst xs)) : G' a = some (.lst xs) := h _ _ e fun _ z => nomatch z
theorem Ext.tup {G G' : Hp} (h : Ext G G') {a : Addr} {xs : List V} (e : G a = some (.tup xs)) : G' a = some (.tup xs) := h _ _ e fun _ z => nomatch z
theorem Ext.dK {G G' : Hp} (h : Ext G G') {a : Addr} {xs : List (Key × V)} (e : G a = some (.dK xs)) : G' a = some (.dK xs) := h _ _ e fun _ z => nomatch z
theorem Ext.frz {G G' : Hp} (h : Ext G G') {a : Addr} {o : Obj} {u : HO} (e : G a = some (.frz o u)) : G' a = some (.frz o u) := h _ _ e fun _ z => nomatch z
theorem Ext.sqL {K : PySem.W.Frag} {G G' : Hp} (h : Ext G G') {a : Addr} {xs : List V} (e : SqL K G a xs) : SqL K G' a xs := by
  rcases e with (e | ⟨o, e⟩) | e
  · exact .inl (.inl (h.lst e))
  · exact .inl (.inr ⟨o, h.frz e⟩)
  · exact .inr e
theorem Ext.sqT {K : PySem.W.Frag} {G G' : Hp} (h : Ext G G') {a : Addr} {xs : List V} (e : SqT K G a xs) : SqT K G' a xs := by
  rcases e with (e | ⟨o, e⟩) | e
  · exact .inl (.inl (h.tup e))
  · exact .inl (.inr ⟨o, h.frz e⟩)
  · exact .inr e

section
variable {K : PySem.W.Frag} {fa : Nat → Addr} {G G' : Hp}
mutual
theorem Rep.mono (h : Ext G G') : ∀ {v : V} {d : D}, Rep K fa G v d → Rep K fa G' v d
  | _, _, .non => .non
  | _, _, .bl b => .bl b
  | _, _, .int i => .int i
  | _, _, .str x => .str x
  | _, _, .lst e r => .lst (h.sqL e) (Reps.mono h r)
  | _, _, .tup e r => .tup (h.sqT e) (Reps.mono h r)
  | _, _, .fn n => .fn n
  | _, _, .dic e r1 r2 => .dic (h.dK e) r1 (Reps.mono h r2)
theorem Reps.mono (h : Ext G G') : ∀ {vs : List V} {ds : List D}, Reps K fa G vs ds → Reps K fa G' vs ds
  | _, _, .nil => .nil
  | _, _, .cons a r => .cons (Rep.mono h a) (Reps.mono h r)
end
theorem Reps.length : ∀ {vs : List V} {ds : List D}, Reps K fa G vs ds → vs.length = ds.length
  | _, _, .nil => rfl
  | _, _, .cons _ r => congrArg (· + 1) (Reps.length r)
theorem Reps.get : ∀ {vs : List V} {ds : List D} {i : Nat} {d : D}, Reps K fa G vs ds → ds[i]? = some d → ∃ v, vs[i]? = some v ∧ Rep K fa G v d
  | _, _, _, _, .nil, e => by simp at e
  | _, _, 0, _, .cons a _, e => by simp at e; subst e; exact ⟨_, rfl, a⟩
  | _, _, i + 1, d, .cons _ r, e => by
    obtain ⟨v, h1, h2⟩ := Reps.get (i := i) (d := d) r (by simpa using e)
    exact ⟨v, by simpa using h1, h2⟩
theorem Reps.getV : ∀ {vs : List V} {ds : List D} {i : Nat} {v : V}, Reps K fa G vs ds → vs[i]? = some v → ∃ d, ds[i]? = some d ∧ Rep K fa G v d
  | _, _, _, _, .nil, e => by simp at e
  | _, _, 0, _, .cons a _, e => by simp at e; subst e; exact ⟨_, rfl, a⟩
  | _, _, i + 1, v, .cons _ r, e => by
    obtain ⟨d, h1, h2⟩ := Reps.getV (i := i) (v := v) r (by simpa using e)
    exact ⟨d, by simpa using h1, h2⟩
theorem Reps.append : ∀ {vs ws : List V} {ds es : List D}, Reps K fa G vs ds → Reps K fa G ws es → Reps K fa G (vs ++ ws) (ds ++ es)
  | _, _, _, _, .nil, s => s
  | _, _, _, _, .cons a r, s => .cons a (Reps.append r s)
theorem Reps.take : ∀ {vs : List V} {ds : List D} (n : Nat), Reps K fa G vs ds → Reps K fa G (vs.take n) (ds.take n)
  | _, _, 0, _ => .nil
  | _, _, _ + 1, .nil => .nil
  | _, _, n + 1, .cons a r => .cons a (Reps.take n r)
theorem Reps.drop : ∀ {vs : List V} {ds : List D} (n : Nat), Reps K fa G vs ds → Reps K fa G (vs.drop n) (ds.drop n)
  | _, _, 0, r => r
  | _, _, _ + 1, .nil => .nil
  | _, _, n + 1, .cons _ r => Reps.drop n r
theorem Reps.set {v : V} {d : D} (h : Rep K fa G v d) : ∀ {vs : List V} {ds : List D} (i : Nat), Reps K fa G vs ds → Reps K fa G (vs.set i v) (ds.set i d)
  | _, _, _, .nil => .nil
  | _, _, 0, .cons _ r => .cons h r
  | _, _, i + 1, .cons a r => .cons a (Reps.set h i r)
theorem Reps.reverse : ∀ {vs : List V} {ds : List D}, Reps K fa G vs ds → Reps K fa G vs.reverse ds.reverse
  | _, _, .nil => .nil
  | _, _, .cons a r => by
    rw [List.reverse_cons, List.reverse_cons]
    exact (Reps.reverse r).append (.cons a .nil)
theorem Reps.rep {vs : List V} {ds : List D} (h : Reps K fa G vs ds) : ∀ k : Nat, Reps K fa G (List.replicate k vs).flatten (List.replicate k ds).flatten
  | 0 => .nil
  | k + 1 => by
    rw [List.replicate_succ, List.replicate_succ, List.flatten_cons, List.flatten_cons]
    exact h.append (Reps.rep h k)
theorem Rep.int_inv {v : V} {i : Int} (h : Rep K fa G v (.int i)) : v = .int i := by cases h; rfl
theorem Rep.str_inv {v : V} {i : Str} (h : Rep K fa G v (.str i)) : v = .str i := by cases h; rfl
theorem Rep.bl_inv {v : V} {i : Bool} (h : Rep K fa G v (.bl i)) : v = .bl i := by cases h; rfl
theorem Rep.non_inv {v : V} (h : Rep K fa G v .non) : v = .non := by cases h; rfl
theorem Reps.map_int : ∀ {vs : List V} {ns : List Int}, Reps K fa G vs (ns.map D.int) → vs = ns.map V.int
  | _, [], .nil => rfl
  | _, n :: ns, .cons a r => by
    rw [List.map_cons, Rep.int_inv a, Reps.map_int (ns := ns) r]
theorem Reps.map_bl : ∀ {vs : List V} {ns : List Bool}, Reps K fa G vs (ns.map D.bl) → vs = ns.map V.bl
  | _, [], .nil => rfl
  | _, n :: ns, .cons a r => by
    rw [List.map_cons, Rep.bl_inv a, Reps.map_bl (ns := ns) r]
theorem Reps.map_str : ∀ {vs : List V} {ns : List Str}, Reps K fa G vs (ns.map D.str) → vs = ns.map V.str
  | _, [], .nil => rfl
  | _, n :: ns, .cons a r => by
    rw [List.map_cons, Rep.str_inv a, Reps.map_str (ns := ns) r]
theorem Reps.ints : ∀ ns : List Int, Reps K fa G (ns.map V.int) (ns.map D.int)
  | [] => .nil
  | n :: ns => .cons (.int n) (Reps.ints ns)
theorem Reps.strs : ∀ ns : List Str, Reps K fa G (ns.map V.str) (ns.map D.str)
  | [] => .nil
  | n :: ns => .cons (.str n) (Reps.strs ns)
end

/-! ### top values, cells, the store -/
inductive W where
  | p (d : D) | o (n : Nat)
inductive Cell where
  | lst (xs : List D) | ins (C : Nat) (fs : List (Str × D))
abbrev Sto := List (Option Cell)
/-- the addresses of the cells; none: the cell is no more -/
abbrev Als := List (Option Addr)
def hide (al : Als) (H : Hp) : Hp := fun b => if some b ∈ al then none else H b
theorem hide_of {al : Als} {H : Hp} {b : Addr} {o : HO} (h : hide al H b = some o) : H b = some o ∧ some b ∉ al := by
  unfold hide at h
  by_cases m : some b ∈ al
  · rw [if_pos m] at h; cases h
  · rw [if_neg m] at h; exact ⟨h, m⟩
theorem hide_in {al : Als} {H : Hp} {b : Addr} {o : HO} (h : H b = some o) (m : some b ∉ al) : hide al H b = some o := by
  unfold hide
  rw [if_neg m]; exact h
theorem hide_sqL {K : PySem.W.Frag} {al : Als} {H : Hp} {a : Addr} {xs : List V} (e : SqL K (hide al H) a xs) : SqL K H a xs := by
  rcases e with (e | ⟨o, e⟩) | e
  · exact .inl (.inl (hide_of e).1)
  · exact .inl (.inr ⟨o, (hide_of e).1⟩)
  · exact .inr e
theorem hide_sqT {K : PySem.W.Frag} {al : Als} {H : Hp} {a : Addr} {xs : List V} (e : SqT K (hide al H) a xs) : SqT K H a xs := by
  rcases e with (e | ⟨o, e⟩) | e
  · exact .inl (.inl (hide_of e).1)
  · exact .inl (.inr ⟨o, (hide_of e).1⟩)
  · exact .inr e

/-- what is fixed through a law: the written part, the module's names, the addresses of its defs, the tables of code objects -/
structure Fx where
  P : Program
  w : World
  K : PySem.W.Frag
  mg : Str → Option Value
  base : Heap
  fa : Nat → Addr
  fx : Nat → Addr
  T : List (Addr × Str)

abbrev Fx.R (x : Fx) (G : Hp) : V → D → Prop := Rep x.K x.fa G
abbrev Fx.Rs (x : Fx) (G : Hp) : List V → List D → Prop := Reps x.K x.fa G

def Flds (x : Fx) (G : Hp) (ps : List (Str × V)) (fs : List (Str × D)) : Prop := ps.map (·.1) = fs.map (·.1) ∧ x.Rs G (ps.map (·.2)) (fs.map (·.2))
def CellAt (x : Fx) (G H : Hp) (a : Addr) : Cell → Prop
  | .lst ds => ∃ vs, H a = some (.lst vs) ∧ x.Rs G vs ds
  | .ins C fs => ∃ dx ps, H a = some (.ins (x.fx C) dx ps) ∧ Flds x G ps fs
theorem CellAt.mono {x : Fx} {G G' H H' : Hp} {a : Addr} (h : Ext G G') (k : H' a = H a) : ∀ {c : Cell}, CellAt x G H a c → CellAt x G' H' a c
  | .lst _, ⟨vs, e, r⟩ => ⟨vs, by rw [k]; exact e, Reps.mono h r⟩
  | .ins _ _, ⟨dx, ps, e, n, r⟩ => ⟨dx, ps, by rw [k]; exact e, n, Reps.mono h r⟩
theorem CellAt.some {x : Fx} {G H : Hp} {a : Addr} : ∀ {c : Cell}, CellAt x G H a c → ∃ o, H a = some o ∧ (∀ ps, o ≠ .tbl ps) ∧ ∀ f, o ≠ .ext f
  | .lst _, ⟨vs, e, r⟩ => ⟨_, e, (fun _ z => nomatch z), fun _ z => nomatch z⟩
  | .ins _ _, ⟨dx, ps, e, n, r⟩ => ⟨_, e, (fun _ z => nomatch z), fun _ z => nomatch z⟩
/-- the store stands in the heap -/
structure StR (x : Fx) (al : Als) (S : Sto) (H : Hp) : Prop where
  len : al.length = S.length
  inj : ∀ (m n : Nat) (a : Addr), al[m]? = some (some a) → al[n]? = some (some a) → m = n
  cell : ∀ (n : Nat) (c : Cell), S[n]? = some (some c) → ∃ a, al[n]? = some (some a) ∧ CellAt x (hide al H) H a c
  live : ∀ (n : Nat) (a : Addr), al[n]? = some (some a) → ∃ c, S[n]? = some (some c)
  tabs : LamX.Tabs x.T H
/-- a top value's standing -/
def OAt (v : V) : Option (Option Addr) → Prop
  | some (some a) => v = .ref a
  | some none => True
  | none => False
def RepW (x : Fx) (al : Als) (G : Hp) (v : V) : W → Prop
  | .p d => x.R G v d
  | .o n => OAt v al[n]?
inductive RepWs (x : Fx) (al : Als) (G : Hp) : List V → List W → Prop
  | nil : RepWs x al G [] []
  | cons {v : V} {vs : List V} {d : W} {ds : List W} : RepW x al G v d → RepWs x al G vs ds → RepWs x al G (v :: vs) (d :: ds)
/-- some cells from n0 on may be no more; there may be more cells -/
def Kl (n0 : Nat) (al al' : Als) : Prop := al.length ≤ al'.length ∧ ∀ n : Nat, n < al.length → al'[n]? = al[n]? ∨ (n0 ≤ n ∧ al'[n]? = some none)
theorem Kl.refl (n0 : Nat) (al : Als) : Kl n0 al al := ⟨Nat.le_refl _, fun _ _ => .inl rfl⟩
theorem Kl.trans {n0 : Nat} {a b c : Als} (h : Kl n0 a b) (k : Kl n0 b c) : Kl n0 a c := by
  refine ⟨Nat.le_trans h.1 k.1, fun n hn => ?_⟩
  rcases k.2 n (Nat.lt_of_lt_of_le hn h.1) with e | ⟨l, e⟩
  · rcases h.2 n hn with e' | e'
    · exact .inl (e.trans e')
    · exact .inr ⟨e'.1, e.trans e'.2⟩
  · exact .inr ⟨l, e⟩
theorem Kl.weak {n0 n1 : Nat} {a b : Als} (h : Kl n1 a b) (l : n0 ≤ n1) : Kl n0 a b := ⟨h.1, fun n hn => (h.2 n hn).imp id fun e => ⟨Nat.le_trans l e.1, e.2⟩⟩
theorem Kl.take {a b : Als} {n : Nat} (h : Kl n a b) (hn : a.length = n) : b.take n = a := by
  subst hn
  apply List.ext_getElem?
  intro i
  by_cases hi : i < a.length
  · rw [List.getElem?_take_of_lt hi]
    rcases h.2 i hi with e | e
    · exact e
    · omega
  · rw [List.getElem?_eq_none (by rw [List.length_take]; omega), List.getElem?_eq_none (by omega)]
theorem Kl.snoc (n0 : Nat) (al : Als) (o : Option Addr) : Kl n0 al (al ++ [o]) := ⟨by simp, fun n hn => .inl (List.getElem?_append_left hn)⟩
theorem RepW.mono {x : Fx} {n0 : Nat} {al al' : Als} {G G' : Hp} (h : Ext G G') (k : Kl n0 al al') {v : V} {w : W} (r : RepW x al G v w) : RepW x al' G' v w := by
  cases w with
  | p d => exact Rep.mono h r
  | o n =>
    show OAt v al'[n]?
    have r' : OAt v al[n]? := r
    by_cases hn : n < al.length
    · rcases k.2 n hn with e | e
      · rw [e]; exact r
      · rw [e.2]; trivial
    · rw [List.getElem?_eq_none (by omega)] at r'
      exact r'.elim
theorem RepWs.mono {x : Fx} {n0 : Nat} {al al' : Als} {G G' : Hp} (h : Ext G G') (k : Kl n0 al al') : ∀ {vs : List V} {ws : List W}, RepWs x al G vs ws → RepWs x al' G' vs ws
  | _, _, .nil => .nil
  | _, _, .cons a r => .cons (a.mono h k) (RepWs.mono h k r)
theorem RepWs.length {x : Fx} {al : Als} {G : Hp} : ∀ {vs : List V} {ws : List W}, RepWs x al G vs ws → vs.length = ws.length
  | _, _, .nil => rfl
  | _, _, .cons _ r => congrArg (· + 1) (RepWs.length r)
/-- the names' values -/
abbrev Rho := List (Option W)
def EnvR (x : Fx) (al : Als) (G : Hp) (σ : L2.St) (ρ : Rho) : Prop := σ.length = ρ.length ∧ ∀ (i : Nat) (w : W), ρ[i]? = some (some w) → ∃ v, σ[i]? = some (some v) ∧ RepW x al G v w
theorem EnvR.mono {x : Fx} {n0 : Nat} {al al' : Als} {G G' : Hp} (h : Ext G G') (k : Kl n0 al al') {σ : L2.St} {ρ : Rho} (r : EnvR x al G σ ρ) : EnvR x al' G' σ ρ :=
  ⟨r.1, fun i w e => let ⟨v, h1, h2⟩ := r.2 i w e; ⟨v, h1, h2.mono h k⟩⟩
theorem EnvR.set {x : Fx} {al : Als} {G : Hp} {σ : L2.St} {ρ : Rho} (r : EnvR x al G σ ρ) {i : Nat} {v : V} {w : W} (q : RepW x al G v w) : EnvR x al G (σ.set i (some v)) (ρ.set i (some w)) := by
  refine ⟨by rw [List.length_set, List.length_set]; exact r.1, fun j u e => ?_⟩
  by_cases h : i = j
  · subst h
    have hl : i < ρ.length := by
      by_cases hl : i < ρ.length
      · exact hl
      · rw [List.getElem?_eq_none (by simpa using hl)] at e; cases e
    rw [List.getElem?_set_self hl] at e
    cases e
    exact ⟨v, by rw [List.getElem?_set_self (by rw [r.1]; exact hl)], q⟩
  · rw [List.getElem?_set_ne h] at e
    obtain ⟨v', h1, h2⟩ := r.2 j u e
    exact ⟨v', by rw [List.getElem?_set_ne h]; exact h1, h2⟩

/-! ### what evaluation gives -/
structure Exn where
  cls : Nat
  fs : List (Str × D)
inductive EV where
  | sh (w : W) | fr (c : Cell)
inductive R (α : Type) where
  | ok (a : α) (S : Sto) | exc (x : Exn) (S : Sto) | bad
def R.bind {α β : Type} (r : R α) (f : α → Sto → R β) : R β := match r with
  | .ok a S => f a S
  | .exc x S => .exc x S
  | .bad => .bad
@[simp] theorem R.bind_ok {α β : Type} (a : α) (S : Sto) (f : α → Sto → R β) : (R.ok a S).bind f = f a S := (id rfl)
@[simp] theorem R.bind_exc {α β : Type} (x : Exn) (S : Sto) (f : α → Sto → R β) : (R.exc x S : R α).bind f = .exc x S := (id rfl)
@[simp] theorem R.bind_bad {α β : Type} (f : α → Sto → R β) : (R.bad : R α).bind f = .bad := (id rfl)

/-- an exception's standing: its class, its own dict -/
def XRep (x : Fx) (G : Hp) (e : Exn) (cls : Value) (d : Option Addr) : Prop := cls = .ref (x.fx e.cls) ∧ match e.fs with
  | [] => d = none
  | f :: fs => ∃ dx ps, d = some dx ∧ G dx = some (.xd ps) ∧ Flds x G ps (f :: fs)

/-- what is wanted of a result -/
def Pst {β : Type} (XP : Exn → Sto → Prop) (Φ : β → Sto → Prop) : R β → Prop
  | .bad => False
  | .ok b S => Φ b S
  | .exc e S => XP e S
theorem Pst.mono {β : Type} {XP XP' : Exn → Sto → Prop} {Φ Φ' : β → Sto → Prop} {r : R β} (h : Pst XP Φ r) (hx : ∀ e S, XP e S → XP' e S) (hp : ∀ b S, Φ b S → Φ' b S) : Pst XP' Φ' r := by
  cases r with
  | bad => exact h
  | ok b S => exact hp b S h
  | exc e S => exact hx e S h
theorem Pst.bind {α β : Type} {XP : Exn → Sto → Prop} {Φ : β → Sto → Prop} {r : R α} {f : α → Sto → R β} (h : Pst XP Φ (r.bind f)) : Pst XP (fun a S => Pst XP Φ (f a S)) r := by
  cases r with
  | bad => exact h
  | ok b S => exact h
  | exc e S => exact h
section
variable (x : Fx) (n0 : Nat) (al : Als) (H : Hp)
/-- an error that leaves -/
def XPo (Wx : Value → Option Addr → Hp → Prop) (e : Exn) (S' : Sto) : Prop := ∀ cls d H' al', Kl n0 al al' → Ext (hide al H) (hide al' H') → StR x al' S' H' → XRep x (hide al' H') e cls d → Wx cls d H'
/-- a top value -/
def VD (Q : VK) (w : W) (S' : Sto) : Prop := ∀ v H' al', Kl n0 al al' → Ext (hide al H) (hide al' H') → StR x al' S' H' → RepW x al' (hide al' H') v w → Q v H'
/-- what an expression gives: a fresh thing stands at a new address, told as one more cell -/
def VE (Q : VK) (v : EV) (S' : Sto) : Prop := match v with
  | .sh w => VD x n0 al H Q w S'
  | .fr c => ∀ a H' al', Kl n0 al al' → Ext (hide al H) (hide (al' ++ [some a]) H') → StR x (al' ++ [some a]) (S' ++ [some c]) H' → Q (.ref a) H'
def VL (Q : List V → Hp → Prop) (ws : List W) (S' : Sto) : Prop := ∀ vs H' al', Kl n0 al al' → Ext (hide al H) (hide al' H') → StR x al' S' H' → RepWs x al' (hide al' H') vs ws → Q vs H'
def VB (Q : Bool → Hp → Prop) (b : Bool) (S' : Sto) : Prop := ∀ H' al', Kl n0 al al' → Ext (hide al H) (hide al' H') → StR x al' S' H' → Q b H'
end
section
variable {x : Fx} {n0 : Nat} {al al1 : Als} {H H1 : Hp}
theorem XPo.re (k : Kl n0 al al1) (e : Ext (hide al H) (hide al1 H1)) {Wx : Value → Option Addr → Hp → Prop} {a : Exn} {S : Sto} (h : XPo x n0 al H Wx a S) : XPo x n0 al1 H1 Wx a S :=
  fun cls d H' al' k' e' s r => h cls d H' al' (k.trans k') (e.trans e') s r
theorem VD.re (k : Kl n0 al al1) (e : Ext (hide al H) (hide al1 H1)) {Q : VK} {a : W} {S : Sto} (h : VD x n0 al H Q a S) : VD x n0 al1 H1 Q a S :=
  fun v H' al' k' e' s r => h v H' al' (k.trans k') (e.trans e') s r
theorem VE.re (k : Kl n0 al al1) (e : Ext (hide al H) (hide al1 H1)) {Q : VK} {a : EV} {S : Sto} (h : VE x n0 al H Q a S) : VE x n0 al1 H1 Q a S := by
  cases a with
  | sh w => exact VD.re k e h
  | fr c => exact fun v H' al' k' e' s => h v H' al' (k.trans k') (e.trans e') s
theorem VL.re (k : Kl n0 al al1) (e : Ext (hide al H) (hide al1 H1)) {Q : List V → Hp → Prop} {a : List W} {S : Sto} (h : VL x n0 al H Q a S) : VL x n0 al1 H1 Q a S :=
  fun v H' al' k' e' s r => h v H' al' (k.trans k') (e.trans e') s r
theorem VB.re (k : Kl n0 al al1) (e : Ext (hide al H) (hide al1 H1)) {Q : Bool → Hp → Prop} {a : Bool} {S : Sto} (h : VB x n0 al H Q a S) : VB x n0 al1 H1 Q a S :=
  fun H' al' k' e' s => h H' al' (k.trans k') (e.trans e') s
end
abbrev PostD (x : Fx) (n0 : Nat) (al : Als) (H : Hp) (Wx : Value → Option Addr → Hp → Prop) (Q : VK) : R W → Prop := Pst (XPo x n0 al H Wx) (VD x n0 al H Q)
abbrev PostE (x : Fx) (n0 : Nat) (al : Als) (H : Hp) (Wx : Value → Option Addr → Hp → Prop) (Q : VK) : R EV → Prop := Pst (XPo x n0 al H Wx) (VE x n0 al H Q)
abbrev PostL (x : Fx) (n0 : Nat) (al : Als) (H : Hp) (Wx : Value → Option Addr → Hp → Prop) (Q : List V → Hp → Prop) : R (List W) → Prop := Pst (XPo x n0 al H Wx) (VL x n0 al H Q)
abbrev PostB (x : Fx) (n0 : Nat) (al : Als) (H : Hp) (Wx : Value → Option Addr → Hp → Prop) (Q : Bool → Hp → Prop) : R Bool → Prop := Pst (XPo x n0 al H Wx) (VB x n0 al H Q)

/-- a def's promise, from its evaluation F -/
def spF (x : Fx) (F : List W → Sto → R EV) : Sp := fun vs H Q E => ∃ (al : Als) (S : Sto) (ws : List W), StR x al S H ∧ RepWs x al (hide al H) vs ws ∧ PostE x S.length al H E Q (F ws S)
end DL

set_option Elab.async false
set_option linter.all false
set_option maxRecDepth 100000
set_option maxHeartbeats 4000000
/-! DL2: the terms of defs, and what they give. -/
namespace DL
open PySem PySem.Spec PyProof.Rows L2

inductive BO where
  | add | sub | mul | fdiv | mod | pow
inductive CO where
  | eq | ne | lt | le | gt | ge | inn | nin
inductive Ty where
  | bool | int | str | lst | tup
inductive Bl where
  | len | abs | max2 | min2 | int | str | tuple | list | all | any | sum
inductive Mt where
  | split | join
mutual
inductive CE where
  | var (i : Nat) | int (i : Int) | str (x : Str) | bl (b : Bool) | non | cst (n : Nat) | fnv (n : Nat)
  | bin (o : BO) (a b : CE) | neg (a : CE) | cmp (o : CO) (a b : CE) | chain (o p : CO) (a b c : CE) | isN (k : Bool) (a : CE) | isB (k b : Bool) (a : CE)
  | nt (a : CE) | and_ (a b : CE) | or_ (a b : CE) | ife (c : CT) (a b : CE)
  | tup (es : CL) | lst (es : CL) | ix (a b : CE) | slL (a lo : CE) | slH (a hi : CE) | slB (a lo hi : CE) | rev (a : CE)
  | call (n : Nat) (es : CL) | blt (b : Bl) (es : CL) | ist (a : CE) (t : Ty) | isT (a : CE) (ts : List Ty) | mth (m : Mt) (a b : CE)
  | comp (e : CE) (tg : List Nat) (one : Bool) (it : CI) | compC (e : CE) (tg : List Nat) (one : Bool) (it : CI) (c : CT)
  | disp (ks : List Str) (vs : CL) | dix (a b : CE) | din (k : Bool) (a b : CE) | callD (ns : List Nat) (f : CE) (es : CL) | fst (es : CL) | tryL (e : CE) | bad
inductive CL where
  | nil | cons (e : CE) (es : CL)
inductive CT where
  | v (e : CE) | nt (t : CT) | and_ (a b : CT) | or_ (a b : CT)
inductive CI where
  | seq (e : CE) | rng (e : CE) | rng2 (a b : CE) | enu (e : CE) | zip (a b : CE)
end
inductive CS where
  | asg (i : Nat) (e : CE) | asgO (i : Nat) (e : CE) | tasg (tg : List Nat) (es : CL) | unp (tg : List Nat) (e : CE) | sub (i : Nat) (k e : CE) | aug (i : Nat) (k e : CE)
  | app (i : Nat) (e : CE) | expr (e : CE) | ret (e : CE) | retN | ifs (c : CT) (a b : CS) | whl (c : CT) (b : CS) | for_ (tg : List Nat) (one : Bool) (it : CI) (b : CS)
  | rai (n : Nat) | raiA (n : Nat) (e : CE) | bad
  | nil | seq (a b : CS)

/-! ### views -/
/-- a list as it stands, or as it is held -/
def den (S : Sto) : W → Option D
  | .p d => some d
  | .o n => match S[n]? with
    | some (some (.lst ds)) => some (.lst ds)
    | _ => none
def seqD : D → Option (List D)
  | .lst ds => some ds
  | .tup ds => some ds
  | _ => none
def seqW (S : Sto) (w : W) : Option (List D) := (den S w).bind seqD
def EV.w : EV → Option W
  | .sh w => some w
  | .fr (.lst ds) => some (.p (.lst ds))
  | .fr _ => none
def rOpt {α : Type} (o : Option α) (S : Sto) : R α := match o with
  | some a => .ok a S
  | none => .bad
@[simp] theorem rOpt_some {α : Type} (a : α) (S : Sto) : rOpt (some a) S = .ok a S := (id rfl)
@[simp] theorem rOpt_none {α : Type} (S : Sto) : rOpt (none : Option α) S = .bad := (id rfl)
def R.w (r : R EV) : R W := r.bind fun e S => rOpt e.w S
def shD (d : D) (S : Sto) : R EV := .ok (.sh (.p d)) S
def frL (ds : List D) (S : Sto) : R EV := .ok (.fr (.lst ds)) S

def D.py : D → Option PyData
  | .non => some .none
  | .bl b => some (.bool b)
  | .int i => some (.int i)
  | .str x => some (.str x)
  | .lst xs => (pyL xs).map .list
  | .tup xs => (pyL xs).map .tuple
  | .fn _ => none
  | .dic _ _ => none
where pyL : List D → Option (List PyData)
  | [] => some []
  | x :: xs => do
    let d ← x.py
    let ds ← pyL xs
    pure (d :: ds)
/-- == of data -/
def eqD (a b : D) : Option Bool := do
  let x ← a.py
  let y ← b.py
  if SeqAt.shaped x && SeqAt.shaped y then some (PyData.eqv x y) else none
def inD (a : D) (ds : List D) : Option Bool := do
  let x ← a.py
  let ys ← D.py.pyL ds
  if SeqAt.shaped x && SeqAt.shaped (.list ys) then some (ys.any fun z => PyData.eqv z x) else none

def binI (o : BO) (i j : Int) : Option Int := match o with
  | .add => some (i + j)
  | .sub => some (i - j)
  | .mul => if i.natAbs.log2 + j.natAbs.log2 < 1000000 then some (i * j) else none
  | .fdiv => if 0 < j ∧ j.natAbs.log2 < 9000 then some (i / j) else none
  | .mod => if 0 < j then some (i % j) else none
  | .pow => if 0 ≤ j ∧ j ≤ 1000000 ∧ i.natAbs < 2 ^ 64 then some (i ^ j.toNat) else none
def binD (o : BO) (a b : D) (S : Sto) : R EV := match a, b with
  | .int i, .int j => rOpt ((binI o i j).map fun k => .sh (.p (.int k))) S
  | .str x, .str y => match o with
    | .add => if x.length + y.length ≤ sizeLine then shD (.str (x ++ y)) S else .bad
    | _ => .bad
  | .lst xs, .lst ys => match o with
    | .add => if xs.length + ys.length ≤ sizeLine then frL (xs ++ ys) S else .bad
    | _ => .bad
  | .tup xs, .tup ys => match o with
    | .add => if xs.length + ys.length ≤ sizeLine then shD (.tup (xs ++ ys)) S else .bad
    | _ => .bad
  | .lst xs, .int k => match o with
    | .mul => if -(2 ^ 63) ≤ k ∧ k < 2 ^ 63 ∧ xs.length * k.toNat ≤ sizeLine then frL (List.replicate k.toNat xs).flatten S else .bad
    | _ => .bad
  | .tup xs, .int k => match o with
    | .mul => if 2 ≤ k ∧ k ≤ 1000 ∧ xs.length ≤ 1000 then shD (.tup (List.replicate k.toNat xs).flatten) S else .bad
    | _ => .bad
  | _, _ => .bad
def binW (o : BO) (a b : W) (S : Sto) : R EV := match den S a, den S b with
  | some x, some y => binD o x y S
  | _, _ => .bad
def cmpI (o : CO) (i j : Int) : Option Bool := match o with
  | .lt => some (decide (i < j))
  | .le => some (decide (i ≤ j))
  | .gt => some (decide (j < i))
  | .ge => some (decide (j ≤ i))
  | _ => none
def cmpD (o : CO) (a b : D) : Option Bool := match o with
  | .eq => eqD a b
  | .ne => (eqD a b).map not
  | .inn => match b with
    | .str y => match a with
      | .str x => some (!(Builtin.Str.occurrences y x 0 y.length 1).isEmpty)
      | _ => none
    | .dic _ _ => none
    | _ => (seqD b).bind (inD a)
  | .nin => match b with
    | .str y => match a with
      | .str x => some (!(!(Builtin.Str.occurrences y x 0 y.length 1).isEmpty))
      | _ => none
    | .dic _ _ => none
    | _ => ((seqD b).bind (inD a)).map not
  | _ => match a, b with
    | .int i, .int j => cmpI o i j
    | _, _ => none
def cmpW (o : CO) (a b : W) (S : Sto) : Option Bool := match den S a, den S b with
  | some x, some y => cmpD o x y
  | _, _ => none
def truD : D → Option Bool
  | .non => some false
  | .bl b => some b
  | .int i => some (i != 0)
  | .str x => if x.length ≤ sizeLine then some ((x.length : Int) != 0) else none
  | .lst xs => some (!xs.isEmpty)
  | .tup xs => some (!xs.isEmpty)
  | _ => none
def truW (S : Sto) (w : W) : Option Bool := (den S w).bind truD
def isTy (d : D) (t : Ty) : Option Bool := match d with
  | .non => some false
  | .bl _ => some (match t with | .bool => true | .int => true | _ => false)
  | .int _ => some (match t with | .int => true | _ => false)
  | .str _ => some (match t with | .str => true | _ => false)
  | .lst _ => some (match t with | .lst => true | _ => false)
  | .tup _ => some (match t with | .tup => true | _ => false)
  | _ => none
def ixD (a b : D) : Option D := match a, b with
  | .lst xs, .int i => atI xs i
  | .tup xs, .int i => atI xs i
  | .str z, .int i => if z.length ≤ sizeLine then (atI z.cps.toList i).map fun c => .str ⟨#[c]⟩ else none
  | _, _ => none
def intO : Option W → Option (Option Int)
  | none => some none
  | some (.p (.int i)) => some (some i)
  | some _ => none
/-- a[lo:hi] -/
def cutD (xs : List D) (lo hi : Option Int) : List D := (xs.drop (HT.sIx xs.length 0 lo)).take (HT.sIx xs.length xs.length hi - HT.sIx xs.length 0 lo)
def slD (a : D) (lo hi : Option Int) (S : Sto) : R EV := match a with
  | .lst xs => frL (cutD xs lo hi) S
  | .tup xs => shD (.tup (cutD xs lo hi)) S
  | .str z => if z.length ≤ sizeLine then shD (.str (cutS z lo hi)) S else .bad
  | _ => .bad
def slW (a : W) (lo hi : Option W) (S : Sto) : R EV := match den S a, intO lo, intO hi with
  | some d, some l, some h => slD d l h S
  | _, _, _ => .bad
def strD : D → Option Str
  | .str x => if x.length ≤ sizeLine then some x else none
  | .int i => if i.natAbs.log2 < 1920 then some (toString i) else none
  | _ => none
def boolsD : List D → Option (List Bool)
  | [] => some []
  | .bl b :: r => (boolsD r).map (b :: ·)
  | _ => none
def intsD : List D → Option (List Int)
  | [] => some []
  | .int b :: r => (intsD r).map (b :: ·)
  | _ => none
def strsD : List D → Option (List Str)
  | [] => some []
  | .str b :: r => (strsD r).map (b :: ·)
  | _ => none
def lenD : D → Option Nat
  | .str x => if x.length ≤ sizeLine then some x.length else none
  | .lst xs => some xs.length
  | .tup xs => some xs.length
  | _ => none
def bltD (b : Bl) (ws : List D) (S : Sto) : R EV := match b, ws with
  | .len, [d] => rOpt ((lenD d).map fun (n : Nat) => .sh (.p (.int (n : Int)))) S
  | .abs, [.int i] => shD (.int (if i < 0 then -i else i)) S
  | .max2, [.int i, .int j] => shD (.int (if j > i then j else i)) S
  | .min2, [.int i, .int j] => shD (.int (if j < i then j else i)) S
  | .int, [.int i] => shD (.int i) S
  | .int, [.str z] => if z.length ≤ 640 then rOpt ((PySem.intText? z).map fun n => .sh (.p (.int n))) S else .bad
  | .str, [d] => rOpt ((strD d).map fun x => .sh (.p (.str x))) S
  | .tuple, [.lst xs] => shD (.tup xs) S
  | .tuple, [.tup xs] => shD (.tup xs) S
  | .list, [.lst xs] => frL xs S
  | .list, [.tup xs] => frL xs S
  | .all, [.lst xs] => rOpt ((boolsD xs).map fun bs => .sh (.p (.bl (bs.all id)))) S
  | .any, [.lst xs] => rOpt ((boolsD xs).map fun bs => .sh (.p (.bl (bs.any id)))) S
  | .sum, [.lst xs] => rOpt ((intsD xs).map fun ns => .sh (.p (.int ns.sum))) S
  | _, _ => .bad
def mapO {α β : Type} (f : α → Option β) : List α → Option (List β)
  | [] => some []
  | a :: r => (f a).bind fun b => (mapO f r).map (b :: ·)
def bltW (b : Bl) (ws : List W) (S : Sto) : R EV := match mapO (den S) ws with
  | some ds => bltD b ds S
  | none => .bad
def mthD (m : Mt) (x : Str) (d : D) (S : Sto) : R EV := match m with
  | .split => match d with
    | .str y => if (y.length == 0) = false ∧ x.length + 2 ≤ sizeLine then frL ((Txt.split x y).map .str) S else .bad
    | _ => .bad
  | .join => match (seqD d).bind strsD with
    | some ys => if (ys.map (·.length)).sum + ys.length * x.length ≤ 16777216 then shD (.str (Txt.join x ys)) S else .bad
    | none => .bad
/-- the items of a display, of what is stored: an own list of this call is given up -/
def giveW (n0 : Nat) (w : W) (S : Sto) : Option (D × Sto) := match w with
  | .p d => some (d, S)
  | .o n => if n0 ≤ n then (match S[n]? with
    | some (some (.lst ds)) => some (.lst ds, S.set n none)
    | _ => none) else none
def giveL (n0 : Nat) : List W → Sto → Option (List D × Sto)
  | [], S => some ([], S)
  | w :: ws, S => (giveW n0 w S).bind fun q => (giveL n0 ws q.2).map fun r => (q.1 :: r.1, r.2)
def conV : CE → Option D
  | .int i => some (.int i)
  | .fnv n => some (.fn n)
  | _ => none
def dispV : CL → Option (List D)
  | .nil => some []
  | .cons e es => (conV e).bind fun d => (dispV es).map (d :: ·)
def dGet : List Str → List D → Str → Option D
  | k :: ks, v :: vs, z => if k = z then some v else dGet ks vs z
  | _, _, _ => none
/-- the kin of an error, as the laws tell it -/
def tryD (kin : Nat → Option (Str × Option Str)) (x : Exn) : Option D := match kin x.cls, x.fs with
  | some (z, none), [] => some (.str z)
  | some (z, some f), [(g, v)] => if f = g then some (.tup [.str z, v]) else none
  | _, _ => none
def tryR (kin : Nat → Option (Str × Option Str)) (r : R W) : R EV := match r with
  | .ok (.p d) S => shD (.tup [.str "told", d]) S
  | .ok _ _ => .bad
  | .exc x S => match tryD kin x with
    | some d => shD d S
    | none => .bad
  | .bad => .bad

/-! ### names -/
def bindT (one : Bool) (tg : List Nat) (d : D) (ρ : Rho) : Option Rho := match one with
  | true => match tg with
    | [i] => some (ρ.set i (some (.p d)))
    | _ => none
  | false => match d with
    | .tup ds => if ds.length = tg.length then some ((tg.zip ds).foldl (fun r p => r.set p.1 (some (.p p.2))) ρ) else none
    | _ => none
def setL (tg : List Nat) (ws : List W) (ρ : Rho) : Rho := (tg.zip ws).foldl (fun r p => r.set p.1 (some p.2)) ρ
def wipeR (ρ : Rho) : List Nat → Rho
  | [] => ρ
  | v :: vs => (wipeR ρ vs).set v none

/-! ### evaluation -/
structure Sg where
  F : Nat → List W → Sto → R EV
  C : Nat → D
  kin : Nat → Option (Str × Option Str)
  at_ : Nat → Str
/-- the held lists that are walked: they must stay as they are -/
abbrev Wt := List (Nat × List D)
def wtOf (w : W) (ds : List D) : Wt := match w with
  | .p _ => []
  | .o n => [(n, ds)]
/-- the signs of a text -/
def signsD (z : Str) : List D := z.cps.toList.map fun c => .str ⟨#[c]⟩
/-- what is walked -/
def iterW (S : Sto) (w : W) : Option (List D × Wt) := match w with
  | .p (.str z) => some (signsD z, [])
  | w => (seqW S w).map fun ds => (ds, wtOf w ds)
def Keeps (t : Wt) (S : Sto) : Prop := ∀ p ∈ t, S[p.1]? = some (some (.lst p.2))
@[simp] theorem keeps_nil (S : Sto) : Keeps [] S := fun _ h => nomatch h
open Classical in
/-- a comprehension's turns; the new list is the cell n -/
noncomputable def cLoop (n : Nat) (t : Wt) (f : D → Sto → R (Option D)) : List D → Sto → List D → R (List D)
  | [], S, acc => if S[n]? = some (some (.lst acc)) ∧ S.length = n + 1 then .ok acc (S.take n) else .bad
  | d :: ds, S, acc => match f d S with
    | .ok (some y) S' => if Keeps t S' ∧ S'[n]? = some (some (.lst acc)) ∧ acc.length < sizeLine then cLoop n t f ds (S'.set n (some (.lst (acc ++ [y])))) (acc ++ [y]) else .bad
    | .ok none S' => if Keeps t S' ∧ S'[n]? = some (some (.lst acc)) then cLoop n t f ds S' acc else .bad
    | _ => .bad
def giveR (n0 : Nat) (r : R W) : R D := r.bind fun w S => match giveW n0 w S with
  | some q => .ok q.1 q.2
  | none => .bad
section
variable (g : Sg) (n0 : Nat)
mutual
noncomputable def evE : CE → Rho → Sto → R EV
  | .var i, ρ, S => match ρ[i]? with
    | some (some w) => .ok (.sh w) S
    | _ => .bad
  | .int i, _, S => shD (.int i) S
  | .str x, _, S => shD (.str x) S
  | .bl b, _, S => shD (.bl b) S
  | .non, _, S => shD .non S
  | .cst n, _, S => shD (g.C n) S
  | .fnv n, _, S => shD (.fn n) S
  | .bin o a b, ρ, S => (evE a ρ S).w.bind fun x S => (evE b ρ S).w.bind fun y S => binW o x y S
  | .neg a, ρ, S => (evE a ρ S).w.bind fun x S => match x with
    | .p (.int i) => shD (.int (-i)) S
    | _ => .bad
  | .cmp o a b, ρ, S => (evE a ρ S).w.bind fun x S => (evE b ρ S).w.bind fun y S => rOpt ((cmpW o x y S).map fun k => .sh (.p (.bl k))) S
  | .chain o p a b c, ρ, S => (evE a ρ S).w.bind fun x S => (evE b ρ S).w.bind fun y S => match cmpW o x y S with
    | some true => (evE c ρ S).w.bind fun z S => rOpt ((cmpW p y z S).map fun k => .sh (.p (.bl k))) S
    | some false => shD (.bl false) S
    | none => .bad
  | .isN k a, ρ, S => (evE a ρ S).w.bind fun x S => match x with
    | .p .non => shD (.bl k) S
    | .p _ => shD (.bl !k) S
    | .o _ => .bad
  | .isB k b a, ρ, S => (evE a ρ S).w.bind fun x S => match x with
    | .p (.bl c) => shD (.bl ((c == b) == k)) S
    | _ => .bad
  | .nt a, ρ, S => (evE a ρ S).w.bind fun x S => match x with
    | .p (.bl c) => shD (.bl !c) S
    | _ => .bad
  | .and_ a b, ρ, S => (evE a ρ S).w.bind fun x S => match x with
    | .p (.bl c) => if c = true then evE b ρ S else shD (.bl false) S
    | _ => .bad
  | .or_ a b, ρ, S => (evE a ρ S).w.bind fun x S => match x with
    | .p (.bl c) => if c = true then shD (.bl true) S else evE b ρ S
    | _ => .bad
  | .ife c a b, ρ, S => (evT c ρ S).bind fun k S => if k = true then evE a ρ S else evE b ρ S
  | .tup es, ρ, S => (evL es ρ S).bind fun ws S => match giveL n0 ws S with
    | some q => if q.1.length ≤ sizeLine then shD (.tup q.1) q.2 else .bad
    | none => .bad
  | .lst es, ρ, S => (evL es ρ S).bind fun ws S => match giveL n0 ws S with
    | some q => if q.1.length ≤ sizeLine then frL q.1 q.2 else .bad
    | none => .bad
  | .ix a b, ρ, S => (evE a ρ S).w.bind fun x S => (evE b ρ S).w.bind fun y S => match den S x, y with
    | some d, .p k => rOpt ((ixD d k).map fun d => .sh (.p d)) S
    | _, _ => .bad
  | .slL a lo, ρ, S => (evE a ρ S).w.bind fun x S => (evE lo ρ S).w.bind fun y S => slW x (some y) none S
  | .slH a hi, ρ, S => (evE a ρ S).w.bind fun x S => (evE hi ρ S).w.bind fun y S => slW x none (some y) S
  | .slB a lo hi, ρ, S => (evE a ρ S).w.bind fun x S => (evE lo ρ S).w.bind fun y S => match intO (some y) with
    | some _ => (evE hi ρ S).w.bind fun z S => slW x (some y) (some z) S
    | none => .bad
  | .rev a, ρ, S => (evE a ρ S).w.bind fun x S => match den S x with
    | some (.lst xs) => frL xs.reverse S
    | some (.tup xs) => shD (.tup xs.reverse) S
    | _ => .bad
  | .call n es, ρ, S => (evL es ρ S).bind fun ws S => g.F n ws S
  | .blt b es, ρ, S => (evL es ρ S).bind fun ws S => bltW b ws S
  | .ist a t, ρ, S => (evE a ρ S).w.bind fun x S => rOpt (((den S x).bind fun d => isTy d t).map fun k => .sh (.p (.bl k))) S
  | .isT a ts, ρ, S => (evE a ρ S).w.bind fun x S => rOpt (((den S x).bind fun d => (mapO (isTy d) ts)).map fun ks => .sh (.p (.bl (ks.any id)))) S
  | .mth m a b, ρ, S => (evE a ρ S).w.bind fun x S => match x with
    | .p (.str z) => (evE b ρ S).w.bind fun y S => match den S y with
      | some d => mthD m z d S
      | none => .bad
    | _ => .bad
  | .comp e tg one it, ρ, S => (evI it ρ S).bind fun q S => (match cLoop S.length q.2 (fun d S => match bindT one tg d (wipeR ρ tg) with
        | some ρ' => (giveR n0 (evE e ρ' S).w).bind fun y S => .ok (some y) S
        | none => .bad) q.1 (S ++ [some (.lst [])]) [] with
      | .ok ys S => frL ys S
      | _ => .bad)
  | .compC e tg one it c, ρ, S => (evI it ρ S).bind fun q S => (match cLoop S.length q.2 (fun d S => match bindT one tg d (wipeR ρ tg) with
        | some ρ' => (evT c ρ' S).bind fun k S => if k = true then (giveR n0 (evE e ρ' S).w).bind fun y S => .ok (some y) S else .ok none S
        | none => .bad) q.1 (S ++ [some (.lst [])]) [] with
      | .ok ys S => frL ys S
      | _ => .bad)
  | .disp ks vs, ρ, S => match dispV vs with
    | some ds => if ks ≠ [] ∧ ks.Nodup ∧ ks.length = ds.length ∧ ks.length ≤ 15 then shD (.dic ks ds) S else .bad
    | none => .bad
  | .dix a b, ρ, S => (evE a ρ S).w.bind fun x S => (evE b ρ S).w.bind fun y S => match x, y with
    | .p (.dic ks vs), .p (.str z) => rOpt ((dGet ks vs z).map fun d => .sh (.p d)) S
    | _, _ => .bad
  | .din k a b, ρ, S => (evE a ρ S).w.bind fun x S => (evE b ρ S).w.bind fun y S => match y, x with
    | .p (.dic ks vs), .p (.str z) => if ks.length = vs.length then shD (.bl ((dGet ks vs z).isSome == k)) S else .bad
    | _, _ => .bad
  | .callD ns f es, ρ, S => (evE f ρ S).w.bind fun x S => match x with
    | .p (.fn n) => if n ∈ ns then (evL es ρ S).bind fun ws S => g.F n ws S else .bad
    | _ => .bad
  | .fst es, ρ, S => evF Str.empty es ρ S
  | .tryL e, ρ, S => tryR g.kin (evE e ρ S).w
  | .bad, _, _ => .bad
noncomputable def evL : CL → Rho → Sto → R (List W)
  | .nil, _, S => .ok [] S
  | .cons e es, ρ, S => (evE e ρ S).w.bind fun w S => (evL es ρ S).bind fun ws S => .ok (w :: ws) S
noncomputable def evF (acc : Str) : CL → Rho → Sto → R EV
  | .nil, _, S => shD (.str acc) S
  | .cons e es, ρ, S => (evE e ρ S).w.bind fun w S => match (den S w).bind strD with
    | some y => if (acc ++ y).length ≤ sizeLine then evF (acc ++ y) es ρ S else .bad
    | none => .bad
noncomputable def evT : CT → Rho → Sto → R Bool
  | .v e, ρ, S => (evE e ρ S).w.bind fun w S => rOpt (truW S w) S
  | .nt t, ρ, S => (evT t ρ S).bind fun k S => .ok (!k) S
  | .and_ a b, ρ, S => (evT a ρ S).bind fun k S => if k = true then evT b ρ S else .ok false S
  | .or_ a b, ρ, S => (evT a ρ S).bind fun k S => if k = true then .ok true S else evT b ρ S
noncomputable def evI : CI → Rho → Sto → R (List D × Wt)
  | .seq e, ρ, S => (evE e ρ S).w.bind fun w S => rOpt (iterW S w) S
  | .rng e, ρ, S => (evE e ρ S).w.bind fun w S => match w with
    | .p (.int j) => if -(2 ^ 62) ≤ j ∧ j < 2 ^ 62 then .ok ((List.range j.toNat).map fun i => .int (i : Nat), []) S else .bad
    | _ => .bad
  | .rng2 a b, ρ, S => (evE a ρ S).w.bind fun v S => (evE b ρ S).w.bind fun w S => match v, w with
    | .p (.int i), .p (.int j) => if -(2 ^ 62) ≤ i ∧ i < 2 ^ 62 ∧ -(2 ^ 62) ≤ j ∧ j < 2 ^ 62 then .ok ((List.range (j - i).toNat).map fun k => .int (i + (k : Nat)), []) S else .bad
    | _, _ => .bad
  | .enu e, ρ, S => (evE e ρ S).w.bind fun w S => rOpt ((seqW S w).map fun ds => (ds.zipIdx.map fun p => .tup [.int (p.2 : Nat), p.1], wtOf w ds)) S
  | .zip a b, ρ, S => (evE a ρ S).w.bind fun v S => (evE b ρ S).w.bind fun w S => match seqW S v, seqW S w with
    | some xs, some ys => .ok ((xs.zip ys).map fun p => .tup [p.1, p.2], wtOf v xs ++ wtOf w ys) S
    | _, _ => .bad
end

/-- values for names: a new list becomes a held one -/
noncomputable def evM (g : Sg) (n0 : Nat) : CL → Rho → Sto → R (List W)
  | .nil, _, S => .ok [] S
  | .cons e es, ρ, S => (evE g n0 e ρ S).bind fun v S => match v with
    | .sh w => (evM g n0 es ρ S).bind fun ws S => .ok (w :: ws) S
    | .fr c => (evM g n0 es ρ (S ++ [some c])).bind fun ws S' => .ok (.o S.length :: ws) S'

/-! ### statements -/
inductive SR where
  | nx (ρ : Rho) (S : Sto) | rt (e : EV) (S : Sto) | exc (x : Exn) (S : Sto) | bad
def SR.bind (r : SR) (f : Rho → Sto → SR) : SR := match r with
  | .nx ρ S => f ρ S
  | .rt e S => .rt e S
  | .exc x S => .exc x S
  | .bad => .bad
@[simp] theorem SR.bind_nx (ρ : Rho) (S : Sto) (f : Rho → Sto → SR) : (SR.nx ρ S).bind f = f ρ S := (id rfl)
@[simp] theorem SR.bind_rt (e : EV) (S : Sto) (f : Rho → Sto → SR) : (SR.rt e S).bind f = .rt e S := (id rfl)
@[simp] theorem SR.bind_exc (x : Exn) (S : Sto) (f : Rho → Sto → SR) : (SR.exc x S).bind f = .exc x S := (id rfl)
@[simp] theorem SR.bind_bad (f : Rho → Sto → SR) : SR.bad.bind f = .bad := (id rfl)
def R.st {α : Type} (r : R α) (f : α → Sto → SR) : SR := match r with
  | .ok a S => f a S
  | .exc x S => .exc x S
  | .bad => .bad
@[simp] theorem R.st_ok {α : Type} (a : α) (S : Sto) (f : α → Sto → SR) : (R.ok a S).st f = f a S := (id rfl)
@[simp] theorem R.st_exc {α : Type} (x : Exn) (S : Sto) (f : α → Sto → SR) : (R.exc x S : R α).st f = .exc x S := (id rfl)
@[simp] theorem R.st_bad {α : Type} (f : α → Sto → SR) : (R.bad : R α).st f = .bad := (id rfl)
/-- the list at a name that is held -/
def objL (ρ : Rho) (S : Sto) (i : Nat) : Option (Nat × List D) := match ρ[i]? with
  | some (some (.o n)) => match S[n]? with
    | some (some (.lst ds)) => some (n, ds)
    | _ => none
  | _ => none
open Classical in
noncomputable def fLoop (t : Wt) (f : D → Rho → Sto → SR) : List D → Rho → Sto → SR
  | [], ρ, S => .nx ρ S
  | d :: ds, ρ, S => (f d ρ S).bind fun ρ S => if Keeps t S then fLoop t f ds ρ S else .bad
def wIter (c : Rho → Sto → R Bool) (b : Rho → Sto → SR) : Nat → Rho → Sto → Option SR
  | 0, _, _ => none
  | n + 1, ρ, S => match c ρ S with
    | .ok true S => match b ρ S with
      | .nx ρ S => wIter c b n ρ S
      | r => some r
    | .ok false S => some (.nx ρ S)
    | .exc x S => some (.exc x S)
    | .bad => some .bad
open Classical in
noncomputable def wLoop (c : Rho → Sto → R Bool) (b : Rho → Sto → SR) (ρ : Rho) (S : Sto) : SR :=
  if h : ∃ r n, wIter c b n ρ S = some r then h.choose else .bad
open Classical in
noncomputable def evS : CS → Rho → Sto → SR
  | .asg i e, ρ, S => (evE g n0 e ρ S).w.st fun w S => .nx (ρ.set i (some w)) S
  | .asgO i e, ρ, S => (evE g n0 e ρ S).st fun v S => match v with
    | .sh w => .nx (ρ.set i (some w)) S
    | .fr c => .nx (ρ.set i (some (.o S.length))) (S ++ [some c])
  | .tasg tg es, ρ, S => (evM g n0 es ρ S).st fun ws S => if ws.length = tg.length then .nx (setL tg ws ρ) S else .bad
  | .unp tg e, ρ, S => (evE g n0 e ρ S).w.st fun w S => match w with
    | .p d => match bindT false tg d ρ with
      | some ρ => .nx ρ S
      | none => .bad
    | _ => .bad
  | .sub i k e, ρ, S => (evE g n0 e ρ S).w.st fun w S => match w, objL ρ S i with
    | .p d, some _ => (evE g n0 k ρ S).w.st fun y S => match y, objL ρ S i with
      | .p (.int j), some (n, ds) => match ixN ds.length j with
        | some m => .nx ρ (S.set n (some (.lst (ds.set m d))))
        | none => .bad
      | _, _ => .bad
    | _, _ => .bad
  | .aug i k e, ρ, S => match objL ρ S i with
    | some _ => (evE g n0 k ρ S).w.st fun y S => match y, objL ρ S i with
      | .p (.int j), some (_, ds) => match atI ds j with
        | some (.int a) => (evE g n0 e ρ S).w.st fun w S => match w, objL ρ S i with
          | .p (.int b), some (n, ds) => match ixN ds.length j with
            | some m => .nx ρ (S.set n (some (.lst (ds.set m (.int (a + b))))))
            | none => .bad
          | _, _ => .bad
        | _ => .bad
      | _, _ => .bad
    | none => .bad
  | .app i e, ρ, S => match objL ρ S i with
    | some _ => (evE g n0 e ρ S).w.st fun w S => match giveW n0 w S with
      | some (d, S) => match objL ρ S i with
        | some (n, ds) => if ds.length < sizeLine then .nx ρ (S.set n (some (.lst (ds ++ [d])))) else .bad
        | none => .bad
      | none => .bad
    | none => .bad
  | .expr e, ρ, S => (evE g n0 e ρ S).w.st fun _ S => .nx ρ S
  | .ret e, ρ, S => (evE g n0 e ρ S).st fun v S => .rt v S
  | .retN, ρ, S => .rt (.sh (.p .non)) S
  | .ifs c a b, ρ, S => (evT g n0 c ρ S).st fun k S => if k = true then evS a ρ S else evS b ρ S
  | .whl c b, ρ, S => wLoop (evT g n0 c) (evS b) ρ S
  | .for_ tg one it b, ρ, S => (evI g n0 it ρ S).st fun q S => fLoop q.2 (fun d ρ S => match bindT one tg d ρ with
      | some ρ => evS b ρ S
      | none => .bad) q.1 ρ S
  | .rai n, _, S => .exc ⟨n, []⟩ S
  | .raiA n e, ρ, S => (evE g n0 e ρ S).w.st fun w S => match w with
    | .p d => .exc ⟨n, [(g.at_ n, d)]⟩ S
    | _ => .bad
  | .bad, _, _ => .bad
  | .nil, ρ, S => .nx ρ S
  | .seq a b, ρ, S => (evS a ρ S).bind fun ρ S => evS b ρ S
end
/-- a def's end: what the call made is left behind -/
def fin (n0 : Nat) : SR → R EV
  | .nx _ S => .ok (.sh (.p .non)) (S.take n0)
  | .rt (.sh (.p d)) S => .ok (.sh (.p d)) (S.take n0)
  | .rt (.sh (.o n)) S => if n < n0 then .ok (.sh (.o n)) (S.take n0) else match S[n]? with
    | some (some c) => .ok (.fr c) (S.take n0)
    | _ => .bad
  | .rt (.fr c) S => .ok (.fr c) (S.take n0)
  | .exc x S => .exc x (S.take n0)
  | .bad => .bad
/-- a def: np parameters, nv names in all -/
noncomputable def evDef (g : Sg) (np nv : Nat) (b : CS) (ws : List W) (S : Sto) : R EV :=
  if ws.length = np then fin S.length (evS g S.length b (ws.map some ++ List.replicate (nv - np) none) S) else .bad
end DL

set_option Elab.async false
set_option linter.all false
set_option maxRecDepth 100000
set_option maxHeartbeats 4000000
/-! DL3: the store's steps. -/
namespace DL
open PySem PySem.Spec PyProof.Rows L2
variable {x : Fx} {al : Als} {S : Sto} {H H' : Hp} {n0 : Nat}

theorem Tabs_keep {T : List (Addr × Str)} {H H' : Hp} (t : LamX.Tabs T H) (e : ∀ b o, H b = some o → ((∃ ps, o = .tbl ps) ∨ ∃ f, o = .ext f) → H' b = some o) : LamX.Tabs T H' := fun p hp => by
  obtain ⟨ps, h1, h2, h3⟩ := t p hp
  refine ⟨ps, e _ _ h1 (.inl ⟨_, rfl⟩), h2, fun pos cv hc => ?_⟩
  obtain ⟨c, e1, e2⟩ := h3 pos cv hc
  exact ⟨c, e1, e _ _ e2 (.inr ⟨_, rfl⟩)⟩
theorem StR.cellAddr (s : StR x al S H) {a : Addr} (m : some a ∈ al) : ∃ o, H a = some o ∧ (∀ ps, o ≠ .tbl ps) ∧ ∀ f, o ≠ .ext f := by
  obtain ⟨n, e⟩ := List.getElem?_of_mem m
  obtain ⟨c, hc⟩ := s.live n a e
  obtain ⟨a', e', q⟩ := s.cell n c hc
  rw [e] at e'; cases e'
  exact q.some
theorem StR.newNot (s : StR x al S H) {a : Addr} (h : H a = none) : some a ∉ al := fun m => by
  obtain ⟨o, e, _⟩ := s.cellAddr m
  rw [h] at e; cases e
theorem ext_upd {al : Als} {H : Hp} {p : Addr} {o : HO} (h : H p = none) : Ext (hide al H) (hide al (upd H p o)) := fun b u e n => by
  obtain ⟨e1, m⟩ := hide_of e
  exact hide_in (by rw [upd_ne (ne_of_none e1 h)]; exact e1) m
/-- a thing is laid -/
theorem StR.laid (s : StR x al S H) {p : Addr} {o : HO} (h : H p = none) : StR x al S (upd H p o) where
  len := s.len
  inj := s.inj
  cell := fun n c e => by
    obtain ⟨a, e1, q⟩ := s.cell n c e
    refine ⟨a, e1, q.mono (ext_upd h) ?_⟩
    obtain ⟨u, e2, _⟩ := q.some
    exact upd_ne (ne_of_none e2 h)
  live := s.live
  tabs := s.tabs.ext fun b u e => by rw [upd_ne (ne_of_none e h)]; exact e
theorem hide_new (s : StR x al S H) {p : Addr} {o : HO} (h : H p = none) : hide al (upd H p o) p = some o := hide_in upd_same (s.newNot h)
theorem hide_snoc {al : Als} {H : Hp} {p : Addr} (h : H p = none) : hide (al ++ [some p]) H = hide al H := by
  funext b
  unfold hide
  by_cases hb : b = p
  · subst hb
    rw [h]
    split <;> split <;> rfl
  · have : (some b ∈ al ++ [some p]) ↔ some b ∈ al := by simp [hb]
    by_cases m : some b ∈ al
    · rw [if_pos m, if_pos (this.mpr m)]
    · rw [if_neg m, if_neg (fun z => m (this.mp z))]
theorem hide_updIn {al : Als} {H : Hp} {p : Addr} {o : HO} (m : some p ∈ al) : hide al (upd H p o) = hide al H := by
  funext b
  unfold hide
  by_cases hb : b = p
  · subst hb; rw [if_pos m, if_pos m]
  · by_cases mb : some b ∈ al
    · rw [if_pos mb, if_pos mb]
    · rw [if_neg mb, if_neg mb, upd_ne hb]
theorem hide_le {al al' : Als} {H : Hp} (h : ∀ a, some a ∈ al' → some a ∈ al) : Ext (hide al H) (hide al' H) := fun b o e _ => by
  obtain ⟨e1, m⟩ := hide_of e
  exact hide_in e1 fun z => m (h b z)
/-- a new cell -/
theorem StR.snoc (s : StR x al S H) {p : Addr} {o : HO} {c : Cell} (h : H p = none) (q : CellAt x (hide al H) (upd H p o) p c) :
    StR x (al ++ [some p]) (S ++ [some c]) (upd H p o) ∧ Ext (hide al H) (hide (al ++ [some p]) (upd H p o)) := by
  have hm : some p ∉ al := s.newNot h
  have e0 : hide (al ++ [some p]) (upd H p o) = hide al H := by
    rw [hide_updIn (by simp), hide_snoc h]
  refine ⟨⟨by simp [s.len], fun m n a e1 e2 => ?_, fun n c' e => ?_, fun n a e => ?_, s.tabs.ext fun b u e => by rw [upd_ne (ne_of_none e h)]; exact e⟩, by rw [e0]; exact Ext.refl _⟩
  · have key : ∀ (m : Nat) (a : Addr), (al ++ [some p])[m]? = some (some a) → (m < al.length ∧ al[m]? = some (some a)) ∨ (m = al.length ∧ a = p) := fun m a e => by
      by_cases hl : m < al.length
      · rw [List.getElem?_append_left hl] at e; exact .inl ⟨hl, e⟩
      · rw [List.getElem?_append_right (by omega)] at e
        by_cases h0 : m = al.length
        · subst h0; simp at e; exact .inr ⟨rfl, e.symm⟩
        · rw [List.getElem?_eq_none (by simp; omega)] at e; cases e
    rcases key m a e1 with ⟨l1, q1⟩ | ⟨l1, q1⟩ <;> rcases key n a e2 with ⟨l2, q2⟩ | ⟨l2, q2⟩
    · exact s.inj m n a q1 q2
    · subst q2; exact absurd (List.mem_of_getElem? q1) hm
    · subst q1; exact absurd (List.mem_of_getElem? q2) hm
    · omega
  · by_cases hl : n < S.length
    · rw [List.getElem?_append_left hl] at e
      obtain ⟨a, e1, q1⟩ := s.cell n c' e
      refine ⟨a, by rw [List.getElem?_append_left (by rw [s.len]; exact hl)]; exact e1, ?_⟩
      rw [e0]
      obtain ⟨u, e2, _⟩ := q1.some
      exact q1.mono (Ext.refl _) (upd_ne (ne_of_none e2 h))
    · rw [List.getElem?_append_right (by omega)] at e
      have hn : n = S.length := by
        by_cases h0 : n - S.length = 0
        · omega
        · rw [List.getElem?_eq_none (by simp; omega)] at e; cases e
      subst hn
      simp at e
      subst e
      refine ⟨p, by rw [← s.len]; simp, ?_⟩
      rw [e0]; exact q
  · by_cases hl : n < al.length
    · rw [List.getElem?_append_left hl] at e
      obtain ⟨c', q1⟩ := s.live n a e
      exact ⟨c', by rw [List.getElem?_append_left (by rw [← s.len]; exact hl)]; exact q1⟩
    · rw [List.getElem?_append_right (by omega)] at e
      have hn : n = al.length := by
        by_cases h0 : n - al.length = 0
        · omega
        · rw [List.getElem?_eq_none (by simp; omega)] at e; cases e
      subst hn
      exact ⟨c, by rw [s.len]; simp⟩
theorem StR.newL (s : StR x al S H) {p : Addr} {vs : List V} {ds : List D} (h : H p = none) (q : x.Rs (hide al H) vs ds) :
    StR x (al ++ [some p]) (S ++ [some (.lst ds)]) (upd H p (.lst vs)) ∧ Ext (hide al H) (hide (al ++ [some p]) (upd H p (.lst vs))) := s.snoc h ⟨vs, upd_same, q⟩
/-- the last cell becomes plain data -/
theorem StR.last {a : Addr} {c : Cell} (s : StR x (al ++ [some a]) (S ++ [some c]) H) : al.length = S.length ∧ some a ∉ al ∧ CellAt x (hide (al ++ [some a]) H) H a c := by
  have hl : al.length = S.length := by have := s.len; simpa using this
  refine ⟨hl, fun m => ?_, ?_⟩
  · obtain ⟨n, e⟩ := List.getElem?_of_mem m
    have hn : n < al.length := (List.getElem?_eq_some_iff.mp e).1
    have := s.inj n al.length a (by rw [List.getElem?_append_left hn]; exact e) (by simp)
    omega
  · obtain ⟨a', e1, q⟩ := s.cell S.length c (by simp)
    rw [← hl] at e1
    simp at e1
    subst e1
    exact q
theorem StR.pre {a : Addr} {c : Cell} (s : StR x (al ++ [some a]) (S ++ [some c]) H) : StR x al S H ∧ Ext (hide (al ++ [some a]) H) (hide al H) := by
  obtain ⟨hl, hm, _⟩ := s.last
  have e0 : Ext (hide (al ++ [some a]) H) (hide al H) := hide_le fun b z => List.mem_append_left _ z
  refine ⟨⟨hl, fun m n b e1 e2 => ?_, fun n c' e => ?_, fun n b e => ?_, s.tabs⟩, e0⟩
  · have h1 := (List.getElem?_eq_some_iff.mp e1).1
    have h2 := (List.getElem?_eq_some_iff.mp e2).1
    exact s.inj m n b (by rw [List.getElem?_append_left h1]; exact e1) (by rw [List.getElem?_append_left h2]; exact e2)
  · have h1 := (List.getElem?_eq_some_iff.mp e).1
    obtain ⟨b, e1, q⟩ := s.cell n c' (by rw [List.getElem?_append_left h1]; exact e)
    rw [List.getElem?_append_left (by omega)] at e1
    exact ⟨b, e1, q.mono e0 rfl⟩
  · have h1 := (List.getElem?_eq_some_iff.mp e).1
    obtain ⟨c', q⟩ := s.live n b (by rw [List.getElem?_append_left h1]; exact e)
    rw [List.getElem?_append_left (by omega)] at q
    exact ⟨c', q⟩
theorem StR.thaw {a : Addr} {ds : List D} (s : StR x (al ++ [some a]) (S ++ [some (.lst ds)]) H) : x.R (hide al H) (.ref a) (.lst ds) := by
  obtain ⟨hl, hm, vs, e, r⟩ := s.last
  exact .lst (.inl (.inl (hide_in e hm))) (Reps.mono s.pre.2 r)
/-- a held list -/
theorem StR.held (s : StR x al S H) {n : Nat} {ds : List D} (e : S[n]? = some (some (.lst ds))) : ∃ a vs, al[n]? = some (some a) ∧ H a = some (.lst vs) ∧ x.Rs (hide al H) vs ds := by
  obtain ⟨a, e1, vs, e2, r⟩ := s.cell n _ e
  exact ⟨a, vs, e1, e2, r⟩
theorem StR.write (s : StR x al S H) {n : Nat} {a : Addr} {o : HO} {c : Cell} (e : al[n]? = some (some a)) (q : CellAt x (hide al H) (upd H a o) a c) :
    StR x al (S.set n (some c)) (upd H a o) ∧ hide al (upd H a o) = hide al H := by
  have hm : some a ∈ al := List.mem_of_getElem? e
  have e0 := hide_updIn (o := o) (H := H) hm
  have hn : n < S.length := by rw [← s.len]; exact (List.getElem?_eq_some_iff.mp e).1
  obtain ⟨oa, ea, na, xa⟩ := s.cellAddr hm
  refine ⟨⟨by rw [List.length_set]; exact s.len, s.inj, fun m c' e' => ?_, fun m b e' => ?_, Tabs_keep s.tabs fun b u eb hb => ?_⟩, e0⟩
  · by_cases hmn : n = m
    · subst hmn
      rw [List.getElem?_set_self hn] at e'
      cases e'
      exact ⟨a, e, by rw [e0]; exact q⟩
    · rw [List.getElem?_set_ne hmn] at e'
      obtain ⟨b, e1, q1⟩ := s.cell m c' e'
      refine ⟨b, e1, ?_⟩
      rw [e0]
      refine q1.mono (Ext.refl _) (upd_ne ?_)
      rintro rfl
      exact hmn (s.inj n m b e e1)
  · by_cases hmn : n = m
    · subst hmn
      exact ⟨c, by rw [List.getElem?_set_self hn]⟩
    · obtain ⟨c', q1⟩ := s.live m b e'
      exact ⟨c', by rw [List.getElem?_set_ne hmn]; exact q1⟩
  · have hne : b ≠ a := by
      rintro rfl
      rw [ea] at eb; cases eb
      rcases hb with ⟨ps, z⟩ | ⟨f, z⟩
      · exact na ps z
      · exact xa f z
    rw [upd_ne hne]; exact eb
/-- a held list is given up: it is plain data from now on -/
theorem StR.give (s : StR x al S H) {n : Nat} {ds : List D} (e : S[n]? = some (some (.lst ds))) (hn : n0 ≤ n) :
    ∃ a al', al[n]? = some (some a) ∧ Kl n0 al al' ∧ Ext (hide al H) (hide al' H) ∧ StR x al' (S.set n none) H ∧ x.R (hide al' H) (.ref a) (.lst ds) := by
  obtain ⟨a, vs, e1, e2, r⟩ := s.held e
  have hl : n < al.length := (List.getElem?_eq_some_iff.mp e1).1
  have sub : ∀ b, some b ∈ al.set n none → some b ∈ al ∧ b ≠ a := fun b z => by
    obtain ⟨m, em⟩ := List.getElem?_of_mem z
    by_cases hmn : n = m
    · subst hmn
      rw [List.getElem?_set_self hl] at em; cases em
    · rw [List.getElem?_set_ne hmn] at em
      refine ⟨List.mem_of_getElem? em, ?_⟩
      rintro rfl
      exact hmn (s.inj n m b e1 em)
  have ex : Ext (hide al H) (hide (al.set n none) H) := hide_le fun b z => (sub b z).1
  refine ⟨a, al.set n none, e1, ⟨by rw [List.length_set]; exact Nat.le_refl _, fun m hm => ?_⟩, ex, ⟨by rw [List.length_set, List.length_set]; exact s.len, fun m k b q1 q2 => ?_, fun m c q => ?_, fun m b q => ?_, s.tabs⟩, ?_⟩
  · by_cases hmn : n = m
    · subst hmn; exact .inr ⟨hn, List.getElem?_set_self hl⟩
    · exact .inl (List.getElem?_set_ne hmn)
  · have key : ∀ m, (al.set n none)[m]? = some (some b) → al[m]? = some (some b) := fun m q => by
      by_cases hmn : n = m
      · subst hmn
        rw [List.getElem?_set_self hl] at q; cases q
      · rw [List.getElem?_set_ne hmn] at q; exact q
    exact s.inj m k b (key m q1) (key k q2)
  · by_cases hmn : n = m
    · subst hmn
      rw [List.getElem?_set_self (by rw [← s.len]; exact hl)] at q; cases q
    · rw [List.getElem?_set_ne hmn] at q
      obtain ⟨b, q1, q2⟩ := s.cell m c q
      exact ⟨b, by rw [List.getElem?_set_ne hmn]; exact q1, q2.mono ex rfl⟩
  · by_cases hmn : n = m
    · subst hmn
      rw [List.getElem?_set_self hl] at q; cases q
    · rw [List.getElem?_set_ne hmn] at q ⊢
      exact s.live m b q
  · exact .lst (.inl (.inl (hide_in e2 fun z => (sub a z).2 rfl))) (Reps.mono ex r)
/-- what a call made is left behind -/
theorem StR.cut (s : StR x al S H) (n : Nat) : StR x (al.take n) (S.take n) H ∧ Ext (hide al H) (hide (al.take n) H) := by
  have ex : Ext (hide al H) (hide (al.take n) H) := hide_le fun b z => List.mem_of_mem_take z
  have key : ∀ {α : Type} {l : List α} {m : Nat} {a : α}, (l.take n)[m]? = some a → m < n ∧ l[m]? = some a := fun {α l m a} q => by
    have hm := (List.getElem?_eq_some_iff.mp q).1
    rw [List.length_take] at hm
    have hm' : m < n := by omega
    rw [List.getElem?_take_of_lt hm'] at q
    exact ⟨hm', q⟩
  refine ⟨⟨by rw [List.length_take, List.length_take, s.len], fun m k b q1 q2 => s.inj m k b (key q1).2 (key q2).2, fun m c q => ?_, fun m b q => ?_, s.tabs⟩, ex⟩
  · obtain ⟨hm, q⟩ := key q
    obtain ⟨b, q1, q2⟩ := s.cell m c q
    exact ⟨b, by rw [List.getElem?_take_of_lt hm]; exact q1, q2.mono ex rfl⟩
  · obtain ⟨hm, q⟩ := key q
    obtain ⟨c, q1⟩ := s.live m b q
    exact ⟨c, by rw [List.getElem?_take_of_lt hm]; exact q1⟩

/-! ### views -/
/-- data at a top value, as it stands or as it is held -/
inductive View (x : Fx) (al : Als) (H : Hp) : V → D → Prop where
  | p {v : V} {d : D} : x.R (hide al H) v d → View x al H v d
  | o {a : Addr} {vs : List V} {ds : List D} : H a = some (.lst vs) → x.Rs (hide al H) vs ds → View x al H (.ref a) (.lst ds)
theorem view_of (s : StR x al S H) {v : V} {w : W} {d : D} (r : RepW x al (hide al H) v w) (e : den S w = some d) : View x al H v d := by
  cases w with
  | p d' =>
    have : d' = d := Option.some.inj e
    subst this
    exact .p r
  | o n =>
    unfold den at e
    dsimp only at e
    split at e
    · rename_i ds q
      cases e
      obtain ⟨a, vs, e1, e2, rr⟩ := s.held q
      have r' : OAt v al[n]? := r
      rw [e1] at r'
      have : v = .ref a := r'
      subst this
      exact .o e2 rr
    · cases e
theorem View.lst {v : V} {ds : List D} (h : View x al H v (.lst ds)) : ∃ a vs, v = .ref a ∧ SqL x.K H a vs ∧ x.Rs (hide al H) vs ds := by
  cases h with
  | p r =>
    cases r with
    | lst e q => exact ⟨_, _, rfl, hide_sqL e, q⟩
  | o e q => exact ⟨_, _, rfl, .inl (.inl e), q⟩
theorem View.tup {v : V} {ds : List D} (h : View x al H v (.tup ds)) : ∃ a vs, v = .ref a ∧ SqT x.K H a vs ∧ x.Rs (hide al H) vs ds := by
  cases h with
  | p r =>
    cases r with
    | tup e q => exact ⟨_, _, rfl, hide_sqT e, q⟩
theorem View.int {v : V} {i : Int} (h : View x al H v (.int i)) : v = .int i := by
  cases h with
  | p r => exact r.int_inv
theorem View.str {v : V} {i : Str} (h : View x al H v (.str i)) : v = .str i := by
  cases h with
  | p r => exact r.str_inv
theorem View.bl {v : V} {i : Bool} (h : View x al H v (.bl i)) : v = .bl i := by
  cases h with
  | p r => exact r.bl_inv
theorem View.non {v : V} (h : View x al H v .non) : v = .non := by
  cases h with
  | p r => exact r.non_inv
/-- a list or a tuple -/
theorem View.seq {v : V} {d : D} {ds : List D} (h : View x al H v d) (e : seqD d = some ds) : ∃ a vs, v = .ref a ∧ (SqL x.K H a vs ∨ SqT x.K H a vs) ∧ x.Rs (hide al H) vs ds := by
  cases d with
  | lst ds' =>
    have : ds' = ds := Option.some.inj e
    subst this
    obtain ⟨a, vs, e1, e2, e3⟩ := h.lst
    exact ⟨a, vs, e1, .inl e2, e3⟩
  | tup ds' =>
    have : ds' = ds := Option.some.inj e
    subst this
    obtain ⟨a, vs, e1, e2, e3⟩ := h.tup
    exact ⟨a, vs, e1, .inr e2, e3⟩
  | _ => cases e
end DL

set_option Elab.async false
set_option linter.all false
set_option maxRecDepth 100000
set_option maxHeartbeats 4000000
/-! DLi: walks over lists and tuples in any mix: iter, enumerate, zip. -/
namespace DL
open PySem PySem.Spec PyProof.Rows L2
/-- a list (true) or a tuple -/
def SqK (k : Bool) (K : PySem.W.Frag) (H : Hp) (a : Addr) (xs : List V) : Prop := if k = true then SqL K H a xs else SqT K H a xs
def IsK (k : Bool) (h : Heap) (a : Addr) (its : Array Value) : Prop := if k = true then h.IsList a its else h.IsTuple a its
def IterK (k : Bool) (h : Heap) (it a : Addr) (i : Nat) : Prop := if k = true then h.IsListIter it a i else h.IsTupleIter it a i
section
variable {X : Cx} {pins : List (Addr × Obj)} {σ : L2.St} {H : Hp} {s : Shared} {k : Bool} {a it : Addr} {xs ys : List V}
theorem sqK_has (I : Inv X pins σ H s) (h : SqK k X.K H a xs) : ∃ its : List Value, Vals xs its ∧ IsK k s.heap a its.toArray := by
  cases k with
  | true => obtain ⟨its, r, p, _⟩ := I.list h; exact ⟨its, r, p.isList⟩
  | false => obtain ⟨its, r, p, _⟩ := I.tuple h; exact ⟨its, r, p⟩
theorem sqK_inj (I : Inv X pins σ H s) (h : SqK k X.K H a xs) (h' : SqK k X.K H a ys) : xs = ys := by
  cases k with
  | true => exact I.list_inj h h'
  | false => exact I.tuple_inj h h'
theorem IterK.obj {h : Heap} {i : Nat} (x : IterK k h it a i) : ∃ o, h.get? it = some o ∧ o.data = .fields #[.ref a, .int i 0] := by
  cases k with
  | true => obtain ⟨o, e, _, d⟩ := x; exact ⟨o, e, d⟩
  | false => obtain ⟨o, e, _, d⟩ := x; exact ⟨o, e, d⟩
theorem IterK.up {h h' : Heap} {i : Nat} (x : IterK k h it a i) (e : ∀ o, h.get? it = some o → h'.get? it = some o) : IterK k h' it a i := by
  cases k with
  | true => obtain ⟨o, q, r⟩ := x; exact ⟨o, e o q, r⟩
  | false => obtain ⟨o, q, r⟩ := x; exact ⟨o, e o q, r⟩
theorem IsK.obj {h : Heap} {its : Array Value} (x : IsK k h a its) : ∃ o n, h.get? a = some o ∧ o.data = .seq its n ∧ o.cls = .type (if k = true then "list" else "tuple") := by
  cases k with
  | true => obtain ⟨o, e, c, n, d⟩ := x; exact ⟨o, n, e, d, c⟩
  | false => obtain ⟨o, e, c, n, d⟩ := x; exact ⟨o, n, e, d, c⟩
theorem IsK.ne_iter {h : Heap} {its : Array Value} {i : Nat} {k' : Bool} {b : Addr} (x : IsK k h a its) (y : IterK k' h it b i) : a ≠ it := by
  rintro rfl
  obtain ⟨o, n, e, d, _⟩ := x.obj
  obtain ⟨o', e', d'⟩ := y.obj
  rw [e] at e'; cases e'
  rw [d] at d'; cases d'
theorem draws_k {prog : Program} {w : World} {A : Around} (hh : A.handled = none) (k : Bool) (it a : Addr) (hne : a ≠ it) (items : Array Value) :
    Draws prog w A it [it, a] items.size (fun i v => items[i]? = some v) (fun i h => IterK k h it a i ∧ IsK k h a items) := by
  cases k with
  | true => exact .list hh it a hne items
  | false => exact .tuple hh it a hne items
def itObj (k : Bool) (a : Addr) : Obj := if k = true then { cls := .type "list_iterator", data := .fields #[.ref a, .int 0 0] } else { cls := .type "tuple_iterator", data := .fields #[.ref a, .int 0 0] }
theorem begins_k (k : Bool) (a : Addr) (items : Array Value) : Begins (.ref a) (itObj k a) fun h => IsK k h a items := by
  cases k with
  | true => exact begins_list a items
  | false => exact begins_tuple a items
theorem iterK_new {h : Heap} (e : h.get? it = some (itObj k a)) : IterK k h it a 0 := by
  cases k with
  | true => exact ⟨_, e, rfl, rfl⟩
  | false => exact ⟨_, e, rfl, rfl⟩
end

/-! ### enumerate -/
def IteK (k : Bool) (K : PySem.W.Frag) (a : Addr) : It :=
  ⟨fun i H => ∃ (xs : List V) (x : V), SqK k K H a xs ∧ xs[i]? = some x, fun i H v H' => ∃ T x, v = .ref T ∧ H T = none ∧ H' = upd H T (.tup [.int (i : Nat), x]) ∧ ∀ xs, SqK k K H a xs → xs[i]? = some x, fun i H => ∃ xs : List V, SqK k K H a xs ∧ xs.length ≤ i⟩
theorem turn_enumK {P : Program} {w : World} {K : PySem.W.Frag} {elts : List Expr} {kk : Nat} {tpos : Pos} {k : Bool} (a e it : Addr) :
    Turn P w K (.Tuple elts kk tpos) (IteK k K a) [e, it] e (fun i h => (∃ old, IsEnum h e it ((i : Nat) : Int) old) ∧ IterK k h it a i ∧ e ≠ it) where
  mem := List.mem_cons_self
  obj := fun i h st b hb => by
    obtain ⟨⟨old, he⟩, hi, _⟩ := st
    rcases List.mem_cons.mp hb with z | hb
    · rw [z]; exact ⟨_, he, fun v q => nomatch q⟩
    · rw [List.mem_singleton.mp hb]
      obtain ⟨o, ho, hd⟩ := hi.obj
      exact ⟨o, ho, fun v q => by rw [hd] at q; cases q⟩
  keep := fun i h h' st kp => by
    obtain ⟨⟨old, he⟩, hi, hne⟩ := st
    exact ⟨⟨old, kp e List.mem_cons_self _ he⟩, hi.up fun o q => kp it (by simp) o q, hne⟩
  item := by
    intro X hP hw hK hc i pins s σ H E I hf st hg
    subst hP hw hK
    obtain ⟨⟨old, he⟩, hit, hne⟩ := st
    obtain ⟨xs, x, hq, hx⟩ := hg
    obtain ⟨its, rv, p⟩ := sqK_has I hq
    obtain ⟨u, hu, ru⟩ := rv.get hx
    have hai : a ≠ it := p.ne_iter hit
    have hea : e ≠ a := by
      rintro rfl
      obtain ⟨o, n, e1, d, _⟩ := p.obj
      rw [he] at e1; cases e1
      cases d
    have hel : e < s.heap.objs.size := Heap.lt_size he
    have hil : it < s.heap.objs.size := by obtain ⟨o, q, _⟩ := hit.obj; exact Heap.lt_size q
    have hlt : i < its.toArray.size := by
      have := (List.getElem?_eq_some_iff.mp hu).1
      simpa using this
    have D := draws_k (prog := X.prog) (w := X.w) (A := X.A.in1) (I.ok.hd hc) k it a hai its.toArray
    refine wpAny_pyNext_enum_itemD D he ⟨hit, p⟩ hlt hne (by simp [hne, hea]) fun y h' tk hy ho st' hT hsz hk => ?_
    have ey : y = u := by
      have h1 : its.toArray[i]? = some u := by simpa using hu
      rw [h1] at hy; cases hy; rfl
    subst ey
    refine ⟨_, rfl, wpAny_letOwnedTupleGo_enum (s := { s with heap := h', toks := tk + 1 }) ho fun h'' he' sb => ?_⟩
    have hT2 : h''.get? s.heap.objs.size = some { cls := .type "tuple", data := .seq #[.int i tk, y] } := (sb.2 _ (Nat.ne_of_gt hel)).trans hT
    have new : ObjOk X.prog X.w (upd H s.heap.objs.size (.tup [.int (i : Nat), x])) h'' s.heap.objs.size (.tup [.int (i : Nat), x]) :=
      ⟨by show 2 ≤ sizeLine; decide, [.int i tk, y], .cons ⟨_, rfl⟩ (.cons ru .nil), ⟨_, hT2, rfl, _, rfl⟩⟩
    have I1 : Inv X pins σ (upd H s.heap.objs.size (.tup [.int (i : Nat), x])) { s with heap := h'', toks := tk + 1 } :=
      I.turnedNew (ch := [e, it]) (fun b ob hb q => (sb.2 b (fun z => hb (by simp [z]))).trans (hk b ob (fun z => hb (by simp [z])) (fun z => hb (by simp [z])) q)) hf (Nat.le_refl _) new
    refine ⟨.ref s.heap.objs.size, _, I1, rfl, ⟨_, x, rfl, I.hok.fresh (Nat.le_refl _), rfl, fun ys hy => by rw [sqK_inj I hy hq]; exact hx⟩, ⟨⟨y, ?_⟩, st'.1.up fun o q => (sb.2 it (Ne.symm hne)).trans q, hne⟩, fun b hb => ?_⟩
    · have e1 : ((i + 1 : Nat) : Int) = (i : Int) + 1 := by omega
      rw [e1]; exact he'
    · have hb' : b < s.heap.objs.size := by
        rcases List.mem_cons.mp hb with z | z
        · rw [z]; exact hel
        · rw [List.mem_singleton.mp z]; exact hil
      rw [upd_ne (Nat.ne_of_lt hb')]
      exact (hf b hb).1
  done := by
    intro X hP hw hK hc i pins s σ H E I hf st hg
    subst hP hw hK
    obtain ⟨⟨old, he⟩, hit, hne⟩ := st
    obtain ⟨xs, hq, hx⟩ := hg
    obtain ⟨its, rv, p⟩ := sqK_has I hq
    have hai : a ≠ it := p.ne_iter hit
    have hl := rv.length
    obtain ⟨f0, f1, f2, f3, f4, f5⟩ := hf it (by simp)
    cases k with
    | true => exact wpAny_pyNext_enum_end (I.ok.hd hc) he hit p (by simp; omega) fun h' eb => ⟨rfl, I.turned (t' := s.toks) (fun b o hb q => eb b o hb q) f0 f1 f3 f4 f5⟩
    | false =>
      have hT : s.TypeIs (.ref e) "enumerate" := ⟨_, he, rfl⟩
      unfold pyNext
      refine wpAny_bind (wpAny_attempt (wpAny_callSpecial?_slot (name := Str.ofString "__next__") hT F.slot_enumerate_next
        (wpAny_call_entry F.slot_enumerate_next hT F.entry_enumerate_next ?_ (F.args_enumerate_next_1 _))))
      show wpAny _ _ (field (.ref e) 2 >>= _) _ _ _
      refine wpAny_bind (wpAny_field he rfl (x := .ref it) rfl ?_)
      refine wpAny_bind (wpAny_nextOf_tuple_end (I.ok.hd hc) hit p (by simp; omega) fun h' x he' hx' => ?_)
      obtain ⟨o, ho, hc'⟩ := hx'
      refine wpAny_bind (wpAny_isInstance (T := "StopIteration") (b := true) ⟨o, ho, hc'⟩ isSubtype_stop ?_)
      exact wpAny_pure ⟨rfl, I.turned (t' := s.toks) (fun b o hb q => he' b o hb q) f0 f1 f3 f4 f5⟩
  self := fun A i s Q E st h => by
    obtain ⟨⟨_, he⟩, _⟩ := st
    exact wpAny_pyIter_enum he h
theorem meets_enum1 {v : Value} {o : Obj} {H : Heap → Prop} (B : Begins v o H) :
    Meets (Builtin.«enumerate.__new__» ⟨[.type "enumerate", v], []⟩) (fun _ R s => H s.heap ∧
      R (.ok (.ret (.ref (s.heap.push o).objs.size))) { s with heap := (s.heap.push o).push { cls := .type "enumerate", data := .fields #[.none, .bool false, .ref s.heap.objs.size, rawInt 0, .none, .none] } }) :=
  .of_wp fun prog w A R s h => by
    obtain ⟨hp, g, d, tk, os⟩ := s
    obtain ⟨h1, h⟩ := h
    have hsub := sub_enumerate
    have q1 : ∀ {A' : Around} {E : Value → Shared → Prop} {Q : Value → Shared → Prop}, Q (.ref hp.objs.size) ⟨hp.push o, g, d, tk, os⟩ → wpAny (model prog w) A' (pyIter v) Q E ⟨hp, g, d, tk, os⟩ :=
      fun q => B.iter prog w _ _ ⟨hp, g, d, tk, os⟩ _ h1 q
    wp_walk using q1
    refine wpAny_stack_any fun st => wpAny_pure ?_
    split
    · rename_i c _ _ _ _ _
      cases (c == Value.type "enumerate")
      · wp_walk using q1
        exact ⟨_, rfl, h⟩
      · wp_walk using q1
        exact ⟨_, rfl, h⟩
    · wp_walk using q1
      exact ⟨_, rfl, h⟩
theorem enum1_begins {prog : Program} {w : World} {A : Around} {E : Value → Shared → Prop} {s : Shared} {v : Value} {o : Obj} {H : Heap → Prop} {Q : Value → Shared → Prop} (B : Begins v o H) (h1 : H s.heap)
    (h : ∀ h', IsEnum h' (s.heap.objs.size + 1) s.heap.objs.size 0 .none → h'.get? s.heap.objs.size = some o → h'.objs.size = s.heap.objs.size + 2 →
      (∀ b o, s.heap.get? b = some o → h'.get? b = some o) → Q (.ref (s.heap.objs.size + 1)) { s with heap := h' }) :
    wpAny (model prog w) A (call (.type "enumerate") [v]) Q E s := by
  refine callType_new F.called_enumerate (by decide) (F.typeCall_enumerate_1 _) (F.newCall_enumerate_1 _) (fun obj => F.args_object_init_2 obj _) F.entry_enumerate_new
    (meets_enum1 B) ⟨h1, ?_⟩
  have hz : (s.heap.push o).objs.size = s.heap.objs.size + 1 := Heap.size_push ..
  show _ ∧ _
  rw [hz]
  have he : IsEnum ((s.heap.push o).push { cls := .type "enumerate", data := .fields #[.none, .bool false, .ref s.heap.objs.size, rawInt 0, .none, .none] }) (s.heap.objs.size + 1) s.heap.objs.size 0 .none := by
    have := Heap.get?_push_size (s.heap.push o) (o := { cls := .type "enumerate", data := .fields #[.none, .bool false, .ref s.heap.objs.size, rawInt 0, .none, .none] }) rfl
    rw [hz] at this; exact this
  exact ⟨⟨_, he, rfl⟩, h _ he (Heap.get?_push_of_some _ (Heap.get?_push_size _ B.free)) (by rw [Heap.size_push, hz]) fun b o x => Heap.get?_push_of_some _ (Heap.get?_push_of_some _ x)⟩
def iEnumK (K : PySem.W.Frag) (ta : TA) : TI := fun σ H R => ta σ H fun vs H1 => ∃ k a xs, vs = [.ref a] ∧ SqK k K H1 a xs ∧ R (IteK k K a) H1
theorem pi_enumK {X : Cx} {e : Expr} {ta : TA} {p pos tpos : Pos} {elts : List Expr} {kk : Nat} (hg : Gl X "enumerate") (hm : X.mg "enumerate" = none) (ha : PA X [e] ta) (hs : starEach [e] X.env = [(false, eval e X.env)]) :
    PI X (.Tuple elts kk tpos) (.Call (.Name "enumerate" p) [e] [] pos) (iEnumK X.K ta) := by
  refine ⟨fun pins s σ H R I h => ?_⟩
  refine Call_ (ld_blt I hg hm boot_enumerate (PyProof.Rows.callWith_type1 (thn (ha.run pos pins s σ H _ I h) fun us s1 ⟨vs, H1, I1, r1, q1⟩ => ?_) hs rfl))
  obtain ⟨k, a, xs, ex, hq, q⟩ := q1
  subst ex
  cases r1 with
  | cons r rr =>
    cases rr
    cases r
    obtain ⟨its, rv, p'⟩ := sqK_has I1 hq
    refine enum1_begins (begins_k k a its.toArray) p' fun h' he hit hsz hk => wpAny_pyIter_enum he ?_
    have I2 : Inv X pins σ H1 { s1 with heap := h' } := I1.kept (t' := s1.toks) hk
    refine ⟨s1.heap.objs.size + 1, [s1.heap.objs.size + 1, s1.heap.objs.size], _, _, H1, rfl, I2, turn_enumK (k := k) a (s1.heap.objs.size + 1) s1.heap.objs.size, ⟨⟨.none, he⟩, iterK_new hit, Nat.succ_ne_self _⟩, fun b hb => ?_, q⟩
    have hle : s1.heap.objs.size ≤ b := by
      rcases List.mem_cons.mp hb with z | z
      · rw [z]; exact Nat.le_add_right _ _
      · rw [List.mem_singleton.mp z]; exact Nat.le_refl _
    exact I1.fpOk hle (I1.hok.fresh hle)

/-! ### zip -/
def ItzK (k k2 : Bool) (K : PySem.W.Frag) (a b : Addr) : It :=
  ⟨fun i H => ∃ (xs ys : List V) (x y : V), SqK k K H a xs ∧ SqK k2 K H b ys ∧ xs[i]? = some x ∧ ys[i]? = some y,
    fun i H v H' => ∃ T x y, v = .ref T ∧ H T = none ∧ H' = upd H T (.tup [x, y]) ∧ (∀ xs, SqK k K H a xs → xs[i]? = some x) ∧ ∀ ys, SqK k2 K H b ys → ys[i]? = some y,
    fun i H => ∃ xs ys : List V, SqK k K H a xs ∧ SqK k2 K H b ys ∧ i ≤ xs.length ∧ i ≤ ys.length ∧ (xs.length ≤ i ∨ ys.length ≤ i)⟩
theorem sep_of {z TI TO i1 i2 a b : Addr} (D : ZipApart z TI TO i1 i2 a b) : ZipSep2 z TI TO i1 i2 [i1, a] [i2, b] where
  TIz := D.TIz
  TOz := D.TOz
  TITO := D.TITO
  TIi1 := D.TIi1
  mem1 := List.mem_cons_self
  zf1 := by simp [D.i1z.symm, D.l1z.symm]
  Tf1 := by simp [D.TOi1, D.l1TO.symm]
  TIi2 := D.TIi2
  mem2 := List.mem_cons_self
  zf2 := by simp [D.i2z.symm, D.l2z.symm]
  Tf2 := by simp [D.TOi2, D.l2TO.symm]
  sep1_2 := by simp [D.i12, D.l2i1.symm]
  sep2_1 := by simp [D.i12.symm, D.l1i2.symm]
theorem turn_zipK {P : Program} {w : World} {K : PySem.W.Frag} {elts : List Expr} {kk : Nat} {tpos : Pos} {k k2 : Bool} {a b z TI TO i1 i2 : Addr} (D : ZipApart z TI TO i1 i2 a b) :
    Turn P w K (.Tuple elts kk tpos) (ItzK k k2 K a b) [z, TI, TO, i1, i2] z (fun i h => IsZip h z TI TO .none ∧ IsPair h TI (.ref i1) (.ref i2) ∧ (∃ x y, IsPair h TO x y) ∧ IterK k h i1 a i ∧ IterK k2 h i2 b i) where
  mem := List.mem_cons_self
  obj := fun i h st c hc => by
    obtain ⟨hz, hTI, ⟨x, y, hTO⟩, h1, h2⟩ := st
    have e' : c = z ∨ c = TI ∨ c = TO ∨ c = i1 ∨ c = i2 := by simpa using hc
    rcases e' with q | q | q | q | q
    · rw [q]; exact ⟨_, hz, fun v q => nomatch q⟩
    · rw [q]; exact ⟨_, hTI, fun v q => nomatch q⟩
    · rw [q]; exact ⟨_, hTO, fun v q => nomatch q⟩
    · rw [q]; obtain ⟨o, e, d⟩ := h1.obj; exact ⟨o, e, fun v q => by rw [d] at q; cases q⟩
    · rw [q]; obtain ⟨o, e, d⟩ := h2.obj; exact ⟨o, e, fun v q => by rw [d] at q; cases q⟩
  keep := fun i h h' st kp => by
    obtain ⟨hz, hTI, ⟨x, y, hTO⟩, h1, h2⟩ := st
    exact ⟨kp z (by simp) _ hz, kp TI (by simp) _ hTI, ⟨x, y, kp TO (by simp) _ hTO⟩, h1.up fun o q => kp i1 (by simp) o q, h2.up fun o q => kp i2 (by simp) o q⟩
  item := by
    intro X hP hw hK hc i pins s σ H E I hf st hg
    subst hP hw hK
    obtain ⟨hz, hTI, ⟨x0, y0, hTO⟩, h1, h2⟩ := st
    obtain ⟨xs, ys, x, y, hqx, hqy, hx, hy⟩ := hg
    obtain ⟨its, rv, p⟩ := sqK_has I hqx
    obtain ⟨its2, rv2, p2⟩ := sqK_has I hqy
    obtain ⟨u, hu, ru⟩ := rv.get hx
    obtain ⟨u2, hu2, ru2⟩ := rv2.get hy
    have hzl : z < s.heap.objs.size := Heap.lt_size hz
    have D1 := draws_k (prog := X.prog) (w := X.w) (A := X.A.in1) (I.ok.hd hc) k i1 a D.l1i1 its.toArray
    have D2 := draws_k (prog := X.prog) (w := X.w) (A := X.A.in1) (I.ok.hd hc) k2 i2 b D.l2i2 its2.toArray
    have l1 : i < its.toArray.size := by have := (List.getElem?_eq_some_iff.mp hu).1; simpa using this
    have l2 : i < its2.toArray.size := by have := (List.getElem?_eq_some_iff.mp hu2).1; simpa using this
    refine wpAny_pyNext_zipD2_item (sep_of D) D1 D2 hz hTI hTO ⟨h1, p⟩ ⟨h2, p2⟩ l1 l2 fun v1 v2 h' tk w1 w2 z' TO' st1 st2 hT hsz hk => ?_
    have ev1 : v1 = u := by
      have q1 : its.toArray[i]? = some u := by simpa using hu
      rw [q1] at w1; cases w1; rfl
    have ev2 : v2 = u2 := by
      have q1 : its2.toArray[i]? = some u2 := by simpa using hu2
      rw [q1] at w2; cases w2; rfl
    subst ev1 ev2
    refine ⟨_, rfl, wpAny_letOwnedTupleGo_zip (s := { s with heap := h', toks := tk }) z' fun h'' z'' sb => ?_⟩
    have hT2 : h''.get? s.heap.objs.size = some { cls := .type "tuple", data := .seq #[v1, v2] } := (sb.2 _ (Nat.ne_of_gt hzl)).trans hT
    have new : ObjOk X.prog X.w (upd H s.heap.objs.size (.tup [x, y])) h'' s.heap.objs.size (.tup [x, y]) :=
      ⟨by show 2 ≤ sizeLine; decide, [v1, v2], .cons ru (.cons ru2 .nil), ⟨_, hT2, rfl, _, rfl⟩⟩
    have I1 : Inv X pins σ (upd H s.heap.objs.size (.tup [x, y])) { s with heap := h'', toks := tk } :=
      I.turnedNew (t' := tk) (ch := [z, TI, TO, i1, i2]) (fun c o hb q => (sb.2 c (fun q' => hb (by simp [q']))).trans (hk c o (fun q' => hb (by simp [q'])) (fun q' => hb (by simp [q'])) (fun q' => hb (by simp [q'])) (fun q' => hb (by simp [q'])) q)) hf (Nat.le_refl _) new
    refine ⟨.ref s.heap.objs.size, _, I1, rfl, ⟨_, x, y, rfl, I.hok.fresh (Nat.le_refl _), rfl, fun l hl => by rw [sqK_inj I hl hqx]; exact hx, fun l hl => by rw [sqK_inj I hl hqy]; exact hy⟩, ⟨z'', ?_, ⟨v1, v2, ?_⟩, ?_, ?_⟩, fun c hcm => ?_⟩
    · exact (sb.2 _ D.TIz).trans (hk _ _ D.TIz D.TITO D.TIi1 D.TIi2 hTI)
    · exact (sb.2 _ D.TOz).trans TO'
    · exact st1.1.up fun o q => (sb.2 _ D.i1z).trans q
    · exact st2.1.up fun o q => (sb.2 _ D.i2z).trans q
    · have hlt : c < s.heap.objs.size := by
        have e' : c = z ∨ c = TI ∨ c = TO ∨ c = i1 ∨ c = i2 := by simpa using hcm
        rcases e' with q | q | q | q | q
        · rw [q]; exact hzl
        · rw [q]; exact Heap.lt_size hTI
        · rw [q]; exact Heap.lt_size hTO
        · rw [q]; obtain ⟨o, e1, _⟩ := h1.obj; exact Heap.lt_size e1
        · rw [q]; obtain ⟨o, e2, _⟩ := h2.obj; exact Heap.lt_size e2
      rw [upd_ne (Nat.ne_of_lt hlt)]
      exact (hf c hcm).1
  done := by
    intro X hP hw hK hc i pins s σ H E I hf st hg
    subst hP hw hK
    obtain ⟨hz, hTI, ⟨x0, y0, hTO⟩, h1, h2⟩ := st
    obtain ⟨xs, ys, hqx, hqy, b1, b2, hend⟩ := hg
    obtain ⟨its, rv, p⟩ := sqK_has I hqx
    obtain ⟨its2, rv2, p2⟩ := sqK_has I hqy
    have l1 := rv.length
    have l2 := rv2.length
    have D1 := draws_k (prog := X.prog) (w := X.w) (A := X.A.in1) (I.ok.hd hc) k i1 a D.l1i1 its.toArray
    have D2 := draws_k (prog := X.prog) (w := X.w) (A := X.A.in1) (I.ok.hd hc) k2 i2 b D.l2i2 its2.toArray
    exact wpAny_pyNext_zipD2_end (sep_of D) D1 D2 hz hTI hTO ⟨h1, p⟩ ⟨h2, p2⟩ (by simp; omega) (by simp; omega) (by simp; omega) fun h' tk hk => ⟨rfl, I.turnedL (t' := tk) (ch := [z, TI, TO, i1, i2]) (fun c o hb q =>
      hk c o (fun q' => hb (by simp [q'])) (fun q' => hb (by simp [q'])) (fun q' => hb (by simp [q'])) (fun q' => hb (by simp [q'])) q) hf⟩
  self := fun A i s Q E st h => wpAny_pyIter_zip st.1 h
def iZipK (K : PySem.W.Frag) (ta : TA) : TI := fun σ H R => ta σ H fun vs H1 => ∃ k k2 a b xs ys, vs = [.ref a, .ref b] ∧ SqK k K H1 a xs ∧ SqK k2 K H1 b ys ∧ R (ItzK k k2 K a b) H1
theorem pi_zipK {X : Cx} {e e2 : Expr} {ta : TA} {p pos tpos : Pos} {elts : List Expr} {kk : Nat} (hg : Gl X "zip") (hm : X.mg "zip" = none) (ha : PA X [e, e2] ta)
    (hs : starEach [e, e2] X.env = (false, eval e X.env) :: starEach [e2] X.env) (hpl : (backTo pos (starEach [e2] X.env)).any (·.1) = false) :
    PI X (.Tuple elts kk tpos) (.Call (.Name "zip" p) [e, e2] [] pos) (iZipK X.K ta) := by
  refine ⟨fun pins s σ H R I h => ?_⟩
  refine Call_ (ld_blt I hg hm PyProof.Rows.boot_zip (PyProof.Rows.callWith_type1 (thn (ha.run pos pins s σ H _ I h) fun us s1 ⟨vs, H1, I1, r1, q1⟩ => ?_) hs hpl))
  obtain ⟨k, k2, a, b, xs, ys, ex, hqx, hqy, q⟩ := q1
  subst ex
  cases r1 with
  | cons r rr =>
    cases rr with
    | cons r' rr =>
      cases rr
      cases r
      cases r'
      obtain ⟨its, rv, p1⟩ := sqK_has I1 hqx
      obtain ⟨its2, rv2, p2⟩ := sqK_has I1 hqy
      have la : a < s1.heap.objs.size := by obtain ⟨o, n, e, _⟩ := p1.obj; exact Heap.lt_size e
      have lb : b < s1.heap.objs.size := by obtain ⟨o, n, e, _⟩ := p2.obj; exact Heap.lt_size e
      refine zip_begins2 (begins_k k a its.toArray) (begins_k k2 b its2.toArray) p1 p2 fun h' hz hTI hTO h1 h2 hsz hk => wpAny_pyIter_zip hz ?_
      have I2 : Inv X pins σ H1 { s1 with heap := h' } := I1.kept (t' := s1.toks) hk
      refine ⟨s1.heap.objs.size + 4, [s1.heap.objs.size + 4, s1.heap.objs.size + 2, s1.heap.objs.size + 3, s1.heap.objs.size, s1.heap.objs.size + 1], _, _, H1, rfl, I2, turn_zipK (PySem.W.ktu_apart s1.heap.objs.size a b la lb), ⟨hz, hTI, ⟨_, _, hTO⟩, iterK_new h1, iterK_new h2⟩, fun c hcm => ?_, q⟩
      have e' : c = s1.heap.objs.size + 4 ∨ c = s1.heap.objs.size + 2 ∨ c = s1.heap.objs.size + 3 ∨ c = s1.heap.objs.size ∨ c = s1.heap.objs.size + 1 := by simpa using hcm
      have hle : s1.heap.objs.size ≤ c := by
        rcases e' with z | z | z | z | z <;> (rw [z]) <;> first | exact Nat.le_add_right _ _ | exact Nat.le_refl _
      exact I1.fpOk hle (I1.hok.fresh hle)

/-! ### a list or a tuple itself -/
def ItsK (k : Bool) (K : PySem.W.Frag) (a : Addr) : It := if k = true then Itl K a else Itt K a
def iSeqK (K : PySem.W.Frag) (tl : TE) : TI := fun σ H R => tl σ H fun x H1 => ∃ k a xs, x = .ref a ∧ SqK k K H1 a xs ∧ R (ItsK k K a) H1
theorem pi_seqK {X : Cx} {tg l : Expr} {tl : TE} (hl : PE X l tl) : PI X tg l (iSeqK X.K tl) := by
  refine ⟨fun pins s σ H R I h => ?_⟩
  refine thn (hl.run pins s σ H _ I h) fun v s1 ⟨x, H1, I1, r1, k, a, xs, e, hq, q⟩ => ?_
  subst e
  cases r1
  have one : ∀ b ∈ [s1.heap.objs.size], FpOk X pins H1 b := fun b hb => by
    rw [List.mem_singleton.mp hb]
    exact I1.fpOk (Nat.le_refl _) (I1.hok.fresh (Nat.le_refl _))
  cases k with
  | true =>
    obtain ⟨its, rv, p, hz⟩ := I1.list hq
    exact wpAny_pyIter_list p.isList ⟨s1.heap.objs.size, [s1.heap.objs.size], _, _, H1, rfl, I1.kept (t' := s1.toks) fun b o e => Heap.get?_push_of_some _ e, turn_list a _, ⟨_, Heap.get?_push_size _ rfl, rfl, rfl⟩, one, q⟩
  | false =>
    obtain ⟨its, rv, p, hz⟩ := I1.tuple hq
    exact wpAny_pyIter_tuple (show s1.heap.IsTuple a its.toArray from p) ⟨s1.heap.objs.size, [s1.heap.objs.size], _, _, H1, rfl, I1.kept (t' := s1.toks) fun b o e => Heap.get?_push_of_some _ e, turn_tuple a _, ⟨_, Heap.get?_push_size _ rfl, rfl, rfl⟩, one, q⟩
/-- a list, a tuple or a text -/
def iSeqS (K : PySem.W.Frag) (tl : TE) : TI := fun σ H R => tl σ H fun x H1 => (∃ k a xs, x = .ref a ∧ SqK k K H1 a xs ∧ R (ItsK k K a) H1) ∨ (∃ z, x = .str z ∧ R (Its z) H1)
theorem pi_seqS {X : Cx} {tg l : Expr} {tl : TE} (hl : PE X l tl) : PI X tg l (iSeqS X.K tl) := by
  refine ⟨fun pins s σ H R I h => ?_⟩
  refine thn (hl.run pins s σ H _ I h) fun v s1 ⟨x, H1, I1, r1, hx⟩ => ?_
  rcases hx with ⟨k, a, xs, e, hq, q⟩ | ⟨x, ex, q⟩
  · subst e
    cases r1
    have one : ∀ b ∈ [s1.heap.objs.size], FpOk X pins H1 b := fun b hb => by
      rw [List.mem_singleton.mp hb]
      exact I1.fpOk (Nat.le_refl _) (I1.hok.fresh (Nat.le_refl _))
    cases k with
    | true =>
      obtain ⟨its, rv, p, hz⟩ := I1.list hq
      exact wpAny_pyIter_list p.isList ⟨s1.heap.objs.size, [s1.heap.objs.size], _, _, H1, rfl, I1.kept (t' := s1.toks) fun b o e => Heap.get?_push_of_some _ e, turn_list a _, ⟨_, Heap.get?_push_size _ rfl, rfl, rfl⟩, one, q⟩
    | false =>
      obtain ⟨its, rv, p, hz⟩ := I1.tuple hq
      exact wpAny_pyIter_tuple (show s1.heap.IsTuple a its.toArray from p) ⟨s1.heap.objs.size, [s1.heap.objs.size], _, _, H1, rfl, I1.kept (t' := s1.toks) fun b o e => Heap.get?_push_of_some _ e, turn_tuple a _, ⟨_, Heap.get?_push_size _ rfl, rfl, rfl⟩, one, q⟩
  · subst ex
    obtain ⟨t, rfl⟩ := r1
    cases ha : x.cps.all (· < 128)
    · exact wpAny_pyIter_wide ha (pi_one (tk := s1.toks) I1 _ (turn_str _ x t "str_iterator" (.inr rfl)) ⟨_, Heap.get?_push_size _ rfl, rfl, rfl⟩ q)
    · exact wpAny_pyIter_ascii ha (pi_one (tk := s1.toks) I1 _ (turn_str _ x t "str_ascii_iterator" (.inl rfl)) ⟨_, Heap.get?_push_size _ rfl, rfl, rfl⟩ q)
end DL

set_option Elab.async false
set_option linter.all false
set_option maxRecDepth 100000
set_option maxHeartbeats 4000000
/-! DLh: while an exception is handled: the ends of walks, unpacking, comprehensions. -/
namespace DL
open PySem PySem.Spec PyProof.Rows L2 HotX
section
variable {prog : Program} {w : World} {A : Around} {E : Value → Shared → Prop} {s : Shared}
theorem HotAt.keep {x1 : Addr} {h h' : Heap} (q : HotAt A x1 h) (k : ∀ o, h.get? x1 = some o → h'.get? x1 = some o) : HotAt A x1 h' := by
  obtain ⟨hh, o, vs, e, d, c⟩ := q
  exact ⟨hh, o, vs, k _ e, d, c⟩
/-- StopIteration is made and raised -/
theorem stop_hot {α : Type} {x1 : Addr} {Q : α → Shared → Prop} (hot : HotAt A x1 s.heap) (hE : ∀ h' e, (∀ b o, s.heap.get? b = some o → h'.get? b = some o) → (∃ o, h'.get? e = some o ∧ o.cls = .type "StopIteration") → E (.ref e) { s with heap := h' }) :
    wpAny (model prog w) A (do let e ← newExc (.type "StopIteration") []; raiseNew e : Sem α) Q E s := by
  obtain ⟨hh, o1, vs1, h1, d1, c1⟩ := hot
  refine wpAny_bind ?_
  simp only [newExc, newTuple]
  refine wpAny_bind (wpAny_newObj_type ?_ (by size_fits))
  refine wpAny_bind (m := firstArgMember _ _) (wpAny_of_eq (a := Value.none) (by first | rfl | (simp only [firstArgMember]; rfl)) ?_)
  refine wpAny_newObj_type ?_ (by size_fits)
  refine raiseNew_hot ⟨hh, o1, vs1, Heap.get?_push_of_some _ (Heap.get?_push_of_some _ h1), d1, c1⟩ (Nat.ne_of_lt (Heap.lt_size (Heap.get?_push_of_some _ h1))) (Heap.get?_push_size _ rfl) rfl (by first | (simp; done) | (simp; omega) | (simp only [Array.size_append]; simp; omega)) ?_
  refine hE _ _ (fun b o e => ?_) ⟨_, Heap.get?_update_self _ (Heap.get?_push_size _ rfl) rfl, rfl⟩
  rw [Heap.get?_update_other _ _ (Nat.ne_of_gt (Heap.lt_size (Heap.get?_push_of_some _ e)))]
  exact Heap.get?_push_of_some _ (Heap.get?_push_of_some _ e)
theorem nextOf_list_end_hot {it l x1 : Addr} {i : Nat} {items : Array Value} {Q : Value → Shared → Prop} (hot : HotAt A x1 s.heap) (hit : s.heap.IsListIter it l i) (hl : s.heap.IsList l items) (hx : items[i]? = none) (hne : x1 ≠ it)
    (hE : ∀ h' e, Heap.ExtBut it s.heap h' → (∃ o, h'.get? e = some o ∧ o.cls = .type "StopIteration") → E (.ref e) { s with heap := h' }) :
    wpAny (model prog w) A (Builtin.SmallTypes.nextOf (.ref it)) Q E s := by
  obtain ⟨o, ho, hc, hd⟩ := id hit
  obtain ⟨ol, hol, _, nl, hdl⟩ := hl
  unfold Builtin.SmallTypes.nextOf
  refine wpAny_bind (wpAny_callSpecial?_slot (name := Str.ofString "__next__") hit.typeIs slot_listiter_next
    (wpAny_call_entry slot_listiter_next hit.typeIs entry_listiter_next ?_ (args_listiter_next _)))
  show wpAny _ _ (field (.ref it) 0 >>= _) _ _ s
  refine wpAny_bind (wpAny_field ho hd (x := .ref l) rfl ?_)
  show wpAny _ _ (if (Value.ref l == Value.none) = true then _ else _) _ _ s
  rw [if_neg (show ¬ ((Value.ref l == Value.none) = true) from Bool.false_ne_true)]
  show wpAny _ _ (field (.ref it) 1 >>= _) _ _ s
  refine wpAny_bind (wpAny_field ho hd (x := .int i 0) rfl ?_)
  show wpAny _ _ (seqItems? (.ref l) >>= _) _ _ s
  refine wpAny_bind (wpAny_seqItems hol hdl ?_)
  simp only [Int.toNat_natCast, hx]
  refine wpAny_bind (wpAny_rule (wpAny_bind (wpAny_setField ho hd (by simp) ?_)))
  have hb : Heap.SameBut it s.heap (s.heap.update it (Obj.mapFields (·.setIfInBounds 0 .none))) := Heap.SameBut.update ..
  have hot2 : HotAt A x1 (s.heap.update it (Obj.mapFields (·.setIfInBounds 0 .none))) := HotAt.keep hot fun o e => hb.extBut x1 o hne e
  exact stop_hot (A := A.in1) hot2 fun h' e k q => hE h' e (fun b o hbi hb' => k b o (hb.extBut b o hbi hb')) q
theorem next_tuple_end_hot {it t x1 : Addr} {i : Nat} {items : Array Value} {Q : Option Value → Shared → Prop} (hot : HotAt A x1 s.heap) (hit : IsTupIter s.heap it t i) (ht : IsTup s.heap t items) (hx : items[i]? = none) (hne : x1 ≠ it)
    (hQ : ∀ h', Heap.ExtBut it s.heap h' → Q none { s with heap := h' }) : wpAny (model prog w) A (pyNext (.ref it)) Q E s := by
  obtain ⟨o, ho, hc, hd⟩ := id hit
  obtain ⟨ol, hol, _, nl, hdl⟩ := ht
  unfold pyNext
  refine wpAny_bind (wpAny_attempt (wpAny_callSpecial?_slot (name := Str.ofString "__next__") hit.typeIs slot_tupleiter_next
    (wpAny_call_entry slot_tupleiter_next hit.typeIs entry_tupleiter_next ?_ (args_tupleiter_next _))))
  show wpAny _ _ (field (.ref it) 0 >>= _) _ _ s
  refine wpAny_bind (wpAny_field ho hd (x := .ref t) rfl ?_)
  show wpAny _ _ (if (Value.ref t == Value.none) = true then _ else _) _ _ s
  rw [if_neg (show ¬ ((Value.ref t == Value.none) = true) from Bool.false_ne_true)]
  show wpAny _ _ (field (.ref it) 1 >>= _) _ _ s
  refine wpAny_bind (wpAny_field ho hd (x := .int i 0) rfl ?_)
  show wpAny _ _ (seqItems? (.ref t) >>= _) _ _ s
  refine wpAny_bind (wpAny_seqItems hol hdl ?_)
  simp only [Int.toNat_natCast, hx]
  refine wpAny_bind (wpAny_rule (wpAny_bind (wpAny_setField ho hd (by simp) ?_)))
  have hb : Heap.SameBut it s.heap (s.heap.update it (Obj.mapFields (·.setIfInBounds 0 .none))) := Heap.SameBut.update ..
  have hot2 : HotAt A x1 (s.heap.update it (Obj.mapFields (·.setIfInBounds 0 .none))) := HotAt.keep hot fun o e => hb.extBut x1 o hne e
  refine stop_hot (A := A.in1) hot2 fun h' e k q => ?_
  obtain ⟨oe, he, hce⟩ := q
  refine wpAny_bind (wpAny_isInstance (T := "StopIteration") (b := true) ⟨oe, he, hce⟩ isSubtype_stop ?_)
  exact wpAny_pure (hQ _ fun b o hbi hb' => k b o (hb.extBut b o hbi hb'))
theorem unpack_hot {t x1 : Addr} {items : Array Value} {Q : List Value → Shared → Prop} (hot : HotAt A x1 s.heap) (ht : IsTup s.heap t items)
    (hQ : ∀ h', Heap.ExtBut s.heap.objs.size s.heap h' → Q items.toList { s with heap := h' }) : wpAny (model prog w) A (unpackItems (.ref t) items.size none) Q E s := by
  have hlt : t ≠ s.heap.objs.size := by obtain ⟨o, ho, _⟩ := ht; exact Nat.ne_of_lt (Heap.lt_size ho)
  have hx1 : x1 ≠ s.heap.objs.size := by obtain ⟨_, o, _, ho, _⟩ := hot; exact Nat.ne_of_lt (Heap.lt_size ho)
  unfold unpackItems
  refine wpAny_bind ?_
  unfold notIterableAtAll
  refine wpAny_bind (wpAny_specialOf ht.typeIs slot_tuple_iter.lookup ?_)
  refine wpAny_pure ?_
  simp only [Bool.false_eq_true, if_false]
  refine wpAny_bind (wpAny_holding (iter_tuple ht ?_))
  refine wpAny_bind (wpAny_holding (draw_tuple hlt items.size 0 _ _ ⟨_, Heap.get?_push_size _ rfl, rfl, rfl⟩ (ht.push _) (by omega) fun h₁ hit₁ hs₁ => ?_))
  have hall : List.take items.size (List.drop 0 items.toList) = items.toList := by
    rw [List.drop_zero]
    exact List.take_of_length_le (by simp)
  rw [hall, if_neg (by simp)]
  have ht₁ : IsTup h₁ t items := (ht.push _).extBut hs₁.extBut hlt
  have hot₁ : HotAt A x1 h₁ := HotAt.keep hot fun o e => hs₁.extBut x1 o hx1 (Heap.get?_push_of_some _ e)
  refine wpAny_bind (wpAny_holding (next_tuple_end_hot (s := { s with heap := h₁ }) hot₁ hit₁ ht₁ (by simp) hx1 fun h₂ he₂ => ?_))
  simp only [Option.isSome_none, Bool.false_eq_true, if_false]
  exact wpAny_pure (hQ h₂ fun b o hb e => he₂ b o hb (hs₁.extBut b o hb (Heap.get?_push_of_some _ e)))
theorem assign_tuple_hot {env : Env} {elts : List Expr} {k : Nat} {pos : Pos} {t x1 : Addr} {items : Array Value} {Q : Unit → Shared → Prop} (hot : HotAt A x1 s.heap) (ht : IsTup s.heap t items)
    (hn : (assignEach elts env).length = items.size) (hstar : (assignEach elts env).findIdx? (·.1) = none)
    (h : ∀ h', Heap.ExtBut s.heap.objs.size s.heap h' → wpAny (model prog w) A (assignInOrder ((assignEach elts env).map (·.2)) items.toList) Q E { s with heap := h' }) :
    wpAny (model prog w) A (assign (.Tuple elts k pos) env (.ref t)) Q E s := by
  rw [assign_Tuple]
  refine wpAny_bind (wpAny_standAt ?_)
  unfold unpack
  rw [hn, hstar]
  exact wpAny_bind (wpAny_holding (unpack_hot hot ht h))
/-- a list's iterator beside the handled exception -/
theorem draws_hot (x1 it l : Addr) (hne : l ≠ it) (hx : x1 ≠ it) (items : Array Value) :
    Draws prog w A it [it, l, x1] items.size (fun i v => items[i]? = some v) (fun i h => h.IsListIter it l i ∧ h.IsList l items ∧ HotAt A x1 h) where
  live := fun _ _ st => let ⟨o, ho, _⟩ := st.1; ⟨o, ho⟩
  frame := fun _ _ _ st hk => ⟨st.1.at fun o e => hk it (by simp) o e, st.2.1.at fun o e => hk l (by simp) o e, HotAt.keep st.2.2 fun o e => hk x1 (by simp) o e⟩
  item := fun i s Q E hi st hQ => by
    refine wpAny_nextOf_list_item st.1 st.2.1 (x := items[i]) (by simp [hi]) fun h' hit' hs' => ?_
    exact hQ _ h' s.toks (by simp [hi]) ⟨hit', st.2.1.extBut hs'.extBut hne, HotAt.keep st.2.2 fun o e => hs'.extBut x1 o hx e⟩ hs'
  done := fun s Q E st hE => nextOf_list_end_hot st.2.2 st.1 st.2.1 (by simp) hx hE
end
/-! ### what is walked there -/
structure TurnX (P : Program) (w : World) (K : PySem.W.Frag) (tg : Expr) (J : It) (fp : List Addr) (it : Addr) (tn : Nat → Heap → Prop) : Prop where
  mem : it ∈ fp
  obj : ∀ i h, tn i h → ∀ b ∈ fp, ∃ o, h.get? b = some o ∧ ∀ v, o.data ≠ .cell v
  keep : ∀ i h h', tn i h → (∀ b ∈ fp, ∀ o, h.get? b = some o → h'.get? b = some o) → tn i h'
  item : ∀ (X : Cx), X.prog = P → X.w = w → X.K = K → ∀ (x1 : Addr) (i : Nat) (pins : List (Addr × Obj)) (s : Shared) (σ : L2.St) (H : Hp) (E : Value → Shared → Prop), x1 ∉ fp → HotAt X.A x1 s.heap → Inv X pins σ H s → (∀ b ∈ fp, FpOk X pins H b) → tn i s.heap → J.go i H →
    wpAny (model P w) X.A (pyNext (.ref it)) (fun r s1 => ∃ u, r = some u ∧
      wpAny (model P w) X.A (letOwnedTupleGo tg (.ref it) u) (fun _ s2 => ∃ x H', Inv X pins σ H' s2 ∧ RelV x u ∧ J.yld i H x H' ∧ tn (i + 1) s2.heap ∧ (∀ b ∈ fp, H' b = none) ∧ HotAt X.A x1 s2.heap) E s1) E s
  done : ∀ (X : Cx), X.prog = P → X.w = w → X.K = K → ∀ (x1 : Addr) (i : Nat) (pins : List (Addr × Obj)) (s : Shared) (σ : L2.St) (H : Hp) (E : Value → Shared → Prop), x1 ∉ fp → HotAt X.A x1 s.heap → Inv X pins σ H s → (∀ b ∈ fp, FpOk X pins H b) → tn i s.heap → J.stop i H →
    wpAny (model P w) X.A (pyNext (.ref it)) (fun r s1 => r = none ∧ Inv X pins σ H s1) E s
  self : ∀ (A : Around) (i : Nat) (s : Shared) (Q : Value → Shared → Prop) (E : Value → Shared → Prop), tn i s.heap → Q (.ref it) s → wpAny (model P w) A (pyIter (.ref it)) Q E s
def PIEX (X : Cx) (pins : List (Addr × Obj)) (σ : L2.St) (x1 : Addr) (tg : Expr) (R : It → Hp → Prop) (itv : Value) (s2 : Shared) : Prop :=
  ∃ (it : Addr) (fp : List Addr) (tn : Nat → Heap → Prop) (J : It) (H' : Hp), itv = .ref it ∧ Inv X pins σ H' s2 ∧ TurnX X.prog X.w X.K tg J fp it tn ∧ tn 0 s2.heap ∧ (∀ b ∈ fp, FpOk X pins H' b) ∧ x1 ∉ fp ∧ R J H'
/-- zip of two lists -/
theorem turn_zipX {P : Program} {w : World} {K : PySem.W.Frag} {elts : List Expr} {kk : Nat} {tpos : Pos} {a b z TI TO i1 i2 : Addr} (D : ZipApart z TI TO i1 i2 a b) :
    TurnX P w K (.Tuple elts kk tpos) (ItzK true true K a b) [z, TI, TO, i1, i2] z (fun i h => IsZip h z TI TO .none ∧ IsPair h TI (.ref i1) (.ref i2) ∧ (∃ x y, IsPair h TO x y) ∧ h.IsListIter i1 a i ∧ h.IsListIter i2 b i) where
  mem := (turn_zipK (P := P) (w := w) (K := K) (elts := elts) (kk := kk) (tpos := tpos) (k := true) (k2 := true) D).mem
  obj := (turn_zipK (P := P) (w := w) (K := K) (elts := elts) (kk := kk) (tpos := tpos) (k := true) (k2 := true) D).obj
  keep := (turn_zipK (P := P) (w := w) (K := K) (elts := elts) (kk := kk) (tpos := tpos) (k := true) (k2 := true) D).keep
  item := by
    intro X hP hw hK x1 i pins s σ H E hx1 hot I hf st hg
    subst hP hw hK
    obtain ⟨hz, hTI, ⟨x0, y0, hTO⟩, h1, h2⟩ := st
    obtain ⟨xs, ys, x, y, hqx, hqy, hx, hy⟩ := hg
    obtain ⟨its, rv, p⟩ := sqK_has I hqx
    obtain ⟨its2, rv2, p2⟩ := sqK_has I hqy
    obtain ⟨u, hu, ru⟩ := rv.get hx
    obtain ⟨u2, hu2, ru2⟩ := rv2.get hy
    have p : s.heap.IsList a its.toArray := p
    have p2 : s.heap.IsList b its2.toArray := p2
    have hzl : z < s.heap.objs.size := Heap.lt_size hz
    refine wpAny_pyNext_zip_item D hz hTI hTO h1 h2 p p2 (x := u) (y := u2) (by simpa using hu) (by simpa using hu2) fun h' z' TO' h1' h2' hT hsz hk => ?_
    refine ⟨_, rfl, wpAny_letOwnedTupleGo_zip (s := { s with heap := h' }) z' fun h'' z'' sb => ?_⟩
    have hT2 : h''.get? s.heap.objs.size = some { cls := .type "tuple", data := .seq #[u, u2] } := (sb.2 _ (Nat.ne_of_gt hzl)).trans hT
    have new : ObjOk X.prog X.w (upd H s.heap.objs.size (.tup [x, y])) h'' s.heap.objs.size (.tup [x, y]) :=
      ⟨by show 2 ≤ sizeLine; decide, [u, u2], .cons ru (.cons ru2 .nil), ⟨_, hT2, rfl, _, rfl⟩⟩
    have hkk : ∀ c o, c ∉ [z, TI, TO, i1, i2] → s.heap.get? c = some o → h''.get? c = some o := fun c o hb q => (sb.2 c (fun q' => hb (by simp [q']))).trans (hk c o (fun q' => hb (by simp [q'])) (fun q' => hb (by simp [q'])) (fun q' => hb (by simp [q'])) (fun q' => hb (by simp [q'])) q)
    have I1 : Inv X pins σ (upd H s.heap.objs.size (.tup [x, y])) { s with heap := h'' } := I.turnedNew (t' := s.toks) (ch := [z, TI, TO, i1, i2]) hkk hf (Nat.le_refl _) new
    refine ⟨.ref s.heap.objs.size, _, I1, rfl, ⟨_, x, y, rfl, I.hok.fresh (Nat.le_refl _), rfl, fun l hl => by rw [sqK_inj I hl hqx]; exact hx, fun l hl => by rw [sqK_inj I hl hqy]; exact hy⟩, ⟨z'', ?_, ⟨u, u2, ?_⟩, ?_, ?_⟩, fun c hcm => ?_, HotAt.keep hot fun o e => hkk x1 o hx1 e⟩
    · exact (sb.2 _ D.TIz).trans (hk _ _ D.TIz D.TITO D.TIi1 D.TIi2 hTI)
    · exact (sb.2 _ D.TOz).trans TO'
    · exact h1'.at fun o q => (sb.2 _ D.i1z).trans q
    · exact h2'.at fun o q => (sb.2 _ D.i2z).trans q
    · have hlt : c < s.heap.objs.size := by
        have e' : c = z ∨ c = TI ∨ c = TO ∨ c = i1 ∨ c = i2 := by simpa using hcm
        rcases e' with q | q | q | q | q
        · rw [q]; exact hzl
        · rw [q]; exact Heap.lt_size hTI
        · rw [q]; exact Heap.lt_size hTO
        · rw [q]; obtain ⟨o, e1, _⟩ := h1; exact Heap.lt_size e1
        · rw [q]; obtain ⟨o, e2, _⟩ := h2; exact Heap.lt_size e2
      rw [upd_ne (Nat.ne_of_lt hlt)]
      exact (hf c hcm).1
  done := by
    intro X hP hw hK x1 i pins s σ H E hx1 hot I hf st hg
    subst hP hw hK
    obtain ⟨hz, hTI, ⟨x0, y0, hTO⟩, h1, h2⟩ := st
    obtain ⟨xs, ys, hqx, hqy, b1, b2, hend⟩ := hg
    obtain ⟨its, rv, p⟩ := sqK_has I hqx
    obtain ⟨its2, rv2, p2⟩ := sqK_has I hqy
    have p : s.heap.IsList a its.toArray := p
    have p2 : s.heap.IsList b its2.toArray := p2
    have l1 := rv.length
    have l2 := rv2.length
    have n1 : x1 ≠ z ∧ x1 ≠ TI ∧ x1 ≠ TO ∧ x1 ≠ i1 ∧ x1 ≠ i2 := by simpa using hx1
    have D1 := draws_hot (prog := X.prog) (w := X.w) (A := X.A.in1) x1 i1 a D.l1i1 n1.2.2.2.1 its.toArray
    have D2 := draws_hot (prog := X.prog) (w := X.w) (A := X.A.in1) x1 i2 b D.l2i2 n1.2.2.2.2 its2.toArray
    have S0 := sep_of D
    have S : ZipSep2 z TI TO i1 i2 [i1, a, x1] [i2, b, x1] := ⟨S0.TIz, S0.TOz, S0.TITO, S0.TIi1, List.mem_cons_self, by simp [D.i1z.symm, D.l1z.symm, n1.1.symm], by simp [D.TOi1, D.l1TO.symm, n1.2.2.1.symm], S0.TIi2, List.mem_cons_self, by simp [D.i2z.symm, D.l2z.symm, n1.1.symm], by simp [D.TOi2, D.l2TO.symm, n1.2.2.1.symm], by simp [D.i12, D.l2i1.symm, n1.2.2.2.1.symm], by simp [D.i12.symm, D.l1i2.symm, n1.2.2.2.2.symm]⟩
    exact wpAny_pyNext_zipD2_end S D1 D2 hz hTI hTO ⟨h1, p, hot⟩ ⟨h2, p2, hot⟩ (by simp; omega) (by simp; omega) (by simp; omega) fun h' tk hk => ⟨rfl, I.turnedL (t' := tk) (ch := [z, TI, TO, i1, i2]) (fun c o hb q =>
      hk c o (fun q' => hb (by simp [q'])) (fun q' => hb (by simp [q'])) (fun q' => hb (by simp [q'])) (fun q' => hb (by simp [q'])) q) hf⟩
  self := fun A i s Q E st h => wpAny_pyIter_zip st.1 h
end DL

set_option Elab.async false
set_option linter.all false
set_option maxRecDepth 100000
set_option maxHeartbeats 4000000
/-! DLh2: a comprehension while an exception is handled. -/
namespace DL
open PySem PySem.Spec PyProof.Rows L2 HotX L2H
structure PIX (X : Cx) (tg iter : Expr) (wi : TI) : Prop where
  run : ∀ (p : Addr × Obj) (pins : List (Addr × Obj)) (s : Shared) (σ : L2.St) (H : Hp) (R : It → Hp → Prop), Hot1 X.A p → p ∈ X.pn → Inv X pins σ H s → wi σ H R →
    wpAny (model X.prog X.w) X.A (eval iter X.env) (fun v s1 => wpAny (model X.prog X.w) X.A (pyIter v) (PIEX X pins σ p.1 tg R) X.xe s1) X.xe s
structure PGX (X : Cx) (x1 : Addr) (target : Expr) (t : TG) : Prop where
  run : ∀ (pins : List (Addr × Obj)) (s : Shared) (σ : L2.St) (H : Hp) (v : V) (u : Value) (Q : L2.St → Hp → Prop), HotAt X.A x1 s.heap → Inv X pins σ H s → RelV v u → t v σ H Q →
    wpAny (model X.prog X.w) X.A (assign target X.env u) (fun _ s' => ∃ σ' H', Inv X pins σ' H' s' ∧ Q σ' H') X.xe s
theorem hot_at {X : Cx} {p : Addr × Obj} {pins : List (Addr × Obj)} {σ : L2.St} {H : Hp} {s : Shared} (h : Hot1 X.A p) (hp : p ∈ X.pn) (I : Inv X pins σ H s) : HotAt X.A p.1 s.heap := by
  obtain ⟨hh, v1, e1, c1⟩ := h
  exact ⟨hh, p.2, v1, (I.pin p (List.mem_append_left _ hp)).1, e1, c1⟩
def iZipX (K : PySem.W.Frag) (ta : TA) : TI := fun σ H R => ta σ H fun vs H1 => ∃ a b xs ys, vs = [.ref a, .ref b] ∧ SqL K H1 a xs ∧ SqL K H1 b ys ∧ R (ItzK true true K a b) H1
theorem pi_zipX {X : Cx} {e e2 : Expr} {ta : TA} {p pos tpos : Pos} {elts : List Expr} {kk : Nat} (hg : Gl X "zip") (hm : X.mg "zip" = none) (ha : PA X [e, e2] ta)
    (hs : starEach [e, e2] X.env = (false, eval e X.env) :: starEach [e2] X.env) (hpl : (backTo pos (starEach [e2] X.env)).any (·.1) = false) :
    PIX X (.Tuple elts kk tpos) (.Call (.Name "zip" p) [e, e2] [] pos) (iZipX X.K ta) := by
  refine ⟨fun px pins s σ H R hot hpx I h => ?_⟩
  refine Call_ (ld_blt I hg hm PyProof.Rows.boot_zip (PyProof.Rows.callWith_type1 (thn (ha.run pos pins s σ H _ I h) fun us s1 ⟨vs, H1, I1, r1, q1⟩ => ?_) hs hpl))
  obtain ⟨a, b, xs, ys, ex, hqx, hqy, q⟩ := q1
  subst ex
  have hx1 : px.1 < s1.heap.objs.size := by obtain ⟨_, o, _, ho, _⟩ := hot_at hot hpx I1; exact Heap.lt_size ho
  cases r1 with
  | cons r rr =>
    cases rr with
    | cons r' rr =>
      cases rr
      cases r
      cases r'
      obtain ⟨its, rv, p1, _⟩ := I1.list hqx
      obtain ⟨its2, rv2, p2, _⟩ := I1.list hqy
      refine call_zip_2 p1.isList p2.isList fun h' hz hTI hTO h1 h2 hsz hk => wpAny_pyIter_zip hz ?_
      have I2 : Inv X pins σ H1 { s1 with heap := h' } := I1.kept (t' := s1.toks) hk
      refine ⟨s1.heap.objs.size + 4, [s1.heap.objs.size + 4, s1.heap.objs.size + 2, s1.heap.objs.size + 3, s1.heap.objs.size, s1.heap.objs.size + 1], _, _, H1, rfl, I2, turn_zipX (PySem.W.ktu_apart s1.heap.objs.size a b p1.lt p2.lt), ⟨hz, hTI, ⟨_, _, hTO⟩, h1, h2⟩, fun c hcm => ?_, fun hm => ?_, q⟩
      · have e' : c = s1.heap.objs.size + 4 ∨ c = s1.heap.objs.size + 2 ∨ c = s1.heap.objs.size + 3 ∨ c = s1.heap.objs.size ∨ c = s1.heap.objs.size + 1 := by simpa using hcm
        have hle : s1.heap.objs.size ≤ c := by
          rcases e' with z | z | z | z | z <;> (rw [z]) <;> first | exact Nat.le_add_right _ _ | exact Nat.le_refl _
        exact I1.fpOk hle (I1.hok.fresh hle)
      · have e' : px.1 = s1.heap.objs.size + 4 ∨ px.1 = s1.heap.objs.size + 2 ∨ px.1 = s1.heap.objs.size + 3 ∨ px.1 = s1.heap.objs.size ∨ px.1 = s1.heap.objs.size + 1 := by simpa using hm
        have hx2 : s1.heap.objs.size ≤ px.1 := by
          rcases e' with z | z | z | z | z <;> (rw [z]) <;> first | exact Nat.le_add_right _ _ | exact Nat.le_refl _
        exact Nat.not_lt.2 hx2 hx1
theorem pg_tupX {X : Cx} {es : List Expr} {k : Nat} {t : TGs} {n : Nat} {pos : Pos} {x1 : Addr} (h : PGs X es t) (hn : (assignEach es X.env).length = n) (hst : (assignEach es X.env).findIdx? (·.1) = none) : PGX X x1 (.Tuple es k pos) (gTup X.K n t) := by
  refine ⟨fun pins s σ H v u Q hot I r hw => ?_⟩
  obtain ⟨a, xs, e1, hq, hl, hw⟩ := hw
  subst e1
  cases r
  obtain ⟨its, rv, ht, hz⟩ := I.tuple hq
  refine assign_tuple_hot hot ht (by simp [hn, ← hl, rv.length]) hst fun h' hx => ?_
  have I1 : Inv X pins σ H { s with heap := h' } := I.kept (t' := s.toks) fun b o e => hx b o (Nat.ne_of_lt (Heap.lt_size e)) e
  exact h.run pins _ σ H xs _ Q I1 (by simpa using rv) hw
section
variable {X : Cx}
theorem lc_coreX {p : Addr × Obj} {pins : List (Addr × Obj)} {s : Shared} {σ : L2.St} {H : Hp} {Q : VK} {elt tg iter : Expr} {ifs : List Expr} {scope : Scope} {own : List (Str × Nat)} {pos pos' : Pos} {wi : TI} {g : TG} {tt : TT} {te : TE} {use : Option (Value → Sem Unit)} {Qf : Value → Shared → Prop}
    (hot : Hot1 X.A p) (hpx : p ∈ X.pn) (hN : X.N.Nodup) (I : Inv X pins σ H s) (hi : PIX X tg iter wi) (ok : BlkOk X.N X.env.scope scope own)
    (hg : ∀ (s : Shared) (H : Hp) (C : Addr) (cl : List (Str × Addr)) (fp : List Addr), PGX (X.blk s H scope (compEnvC scope cl C X.env) fp) p.1 tg g) (ht : ∀ (s : Shared) (H : Hp) (C : Addr) (cl : List (Str × Addr)) (fp : List Addr), PTs (X.blk s H scope (compEnvC scope cl C X.env) fp) ifs tt)
    (he : ∀ (s : Shared) (H : Hp) (C : Addr) (cl : List (Str × Addr)) (fp : List Addr), PE (X.blk s H scope (compEnvC scope cl C X.env) fp) elt te) (hs : ∀ x, foldedSetIterable iter X.env x = pure x)
    (h : tLc wi g tt te (own.map (·.2)) σ H Q)
    (hRR : ∀ D C s' m H', Inv X pins σ H' s' → Q (.ref D) H' → s'.heap.Ns C m → FpOk X pins H' C → compPost (model X.prog X.w) X.A X.xe use Qf (.ref D) C (.ok .next) s') :
    wpAny (model X.prog X.w) X.A (comprehension (.ListComp elt [⟨tg, iter, ifs, 0⟩] scope pos) scope X.env pos' (newList []) false (eval iter X.env) use) Qf X.xe s := by
  have hfree : ∀ y ∈ scope.names, y.2 = .free → ∃ c, X.env.cells.lookup y.1 = some c := fun y hy e => by
    rcases ok.free y hy e with k | k
    · exact I.ok.has _ (.inl k)
    · exact I.ok.has _ (.inr k)
  refine wpAny_comprehension_free (use := use) rfl hs (closure_ok hfree) ok.kind (fun y hy e => by rw [ok.uniq y hy, e])
    (thn (hi.run p pins s σ H _ hot hpx I h) fun xv s1 hx => thn hx fun itv s2 h2 => ?_)
  obtain ⟨it, fp, tn, J, H2, e, I2, T, st2, f2, hx1, q⟩ := h2
  subst e
  refine wpAny_newObj_type (newEnv_comp ?_) (by show 0 ≤ sizeLine; decide)
  generalize hD : s2.heap.objs.size = D
  have hDn : H2 D = none := I2.hok.fresh (Nat.le_of_eq hD)
  obtain ⟨W, ⟨m0, w0⟩, turn⟩ := q D hDn
  generalize hs3 : ({ s2 with heap := s2.heap.push { cls := .type "list", data := .seq ([] : List Value).toArray } } : Shared) = s3
  have I3 : Inv X pins σ (upd H2 D (.lst [])) s3 := by
    rw [← hs3]
    refine I2.laid (t' := s2.toks) (fun b o e => Heap.get?_push_of_some _ e) (Nat.le_of_eq hD) ⟨Nat.zero_le _, [], 0, .nil, ?_⟩
    rw [← hD]
    exact Heap.get?_push_size _ rfl
  have h3 : s3.heap = s2.heap.push { cls := .type "list", data := .seq ([] : List Value).toArray } := by rw [← hs3]
  have sz : ∀ b ∈ fp, b < s2.heap.objs.size := fun b hb => by
    obtain ⟨o, e, _⟩ := T.obj _ _ st2 b hb
    exact Heap.lt_size e
  have f3 : ∀ b ∈ fp, FpOk X pins (upd H2 D (.lst [])) b ∧ b < s3.heap.objs.size := fun b hb => by
    have hlt := sz b hb
    refine ⟨⟨?_, (f2 b hb).2⟩, by rw [h3, Heap.size_push]; exact Nat.lt_succ_of_lt hlt⟩
    rw [upd_ne (by rw [← hD]; exact Nat.ne_of_lt hlt)]
    exact (f2 b hb).1
  have st3 : tn 0 s3.heap := T.keep _ _ _ st2 fun b _ o e => by rw [h3]; exact Heap.get?_push_of_some _ e
  have I4 := block_start I3 ok hN f3
  -- the handled exception lies out of reach
  have P3 := I3.pin p (List.mem_append_left _ hpx)
  have nofs : p.1 ∉ frs X.stack := fun hm => (List.mem_cons.mp (I3.stkSub p.1 hm)).elim P3.2.2.1 P3.2.2.2.1
  have hotS := hot_at hot hpx I3
  have pg := hg s3 (upd H2 D (.lst [])) s3.heap.objs.size (cellsFrom (s3.heap.objs.size + 1) scope.names (cloFrom X.env.cells scope.names [])) fp
  have pt := ht s3 (upd H2 D (.lst [])) s3.heap.objs.size (cellsFrom (s3.heap.objs.size + 1) scope.names (cloFrom X.env.cells scope.names [])) fp
  have pe := he s3 (upd H2 D (.lst [])) s3.heap.objs.size (cellsFrom (s3.heap.objs.size + 1) scope.names (cloFrom X.env.cells scope.names [])) fp
  show codeAny _ _ (.compStart (.ListComp elt [⟨tg, iter, ifs, 0⟩] scope pos) 0 (.ref it) (.ref D) (compEnvC scope (cellsFrom (s3.heap.objs.size + 1) scope.names (cloFrom X.env.cells scope.names [])) s3.heap.objs.size X.env)) (compPost (model X.prog X.w) X.A X.xe use Qf (.ref D) s3.heap.objs.size) { s3 with heap := pushCells (s3.heap.push { cls := .type "dict", data := .dict #[] }) scope.names }
  have nfp : ∀ b ∈ fp, (upd H2 D (.lst [])) b = none := fun b hb => (f3 b hb).1.1
  have P3n : (upd H2 D (.lst [])) p.1 = none := P3.2.1
  generalize hce : compEnvC scope (cellsFrom (s3.heap.objs.size + 1) scope.names (cloFrom X.env.cells scope.names [])) s3.heap.objs.size X.env = ce at I4 pg pt pe ⊢
  have cL : ce.locals = s3.heap.objs.size := by subst hce; rfl
  generalize hH3 : upd H2 D (.lst []) = H3 at I3 I4 pg pt pe w0 nfp f3 P3 P3n
  have hotB : ∀ {pins' : List (Addr × Obj)} {σ' : L2.St} {H' : Hp} {s' : Shared}, Inv (X.blk s3 H3 scope ce fp) pins' σ' H' s' → HotAt X.A p.1 s'.heap := fun {pins' σ' H' s'} I' =>
    HotAt.keep hotS fun o e => I'.base.keep p.1 o e P3n nofs hx1
  generalize hs4 : ({ s3 with heap := pushCells (s3.heap.push { cls := .type "dict", data := .dict #[] }) scope.names } : Shared) = s4 at I4 ⊢
  have st4 : tn 0 s4.heap := T.keep _ _ _ st3 fun b _ o e => by rw [← hs4]; exact pushCells_keeps _ _ _ _ (Heap.get?_push_of_some _ e)
  have stat : ∀ {σ' : L2.St} {H' : Hp} {s' : Shared}, Inv (X.blk s3 H3 scope ce fp) [] σ' H' s' → (∀ b ∈ fp, H' b = none) → ∀ b ∈ fp, FpOk (X.blk s3 H3 scope ce fp) [] H' b := fun {σ' H' s'} I' hn b hb =>
    ⟨hn b hb, (I'.ok.exf b hb).1, I'.ok.exfs b hb, .inl hb, fun x c e => (I'.ok.exf b hb).2 x c e, fun p hp => absurd (show p ∈ ([] : List (Addr × Obj)) ++ [] from hp) (by simp)⟩
  have loop : codeAny (model X.prog X.w) X.A (.compLoop (.ListComp elt [⟨tg, iter, ifs, 0⟩] scope pos) 0 (.ref it) (.ref D) ce) (compPost (model X.prog X.w) X.A X.xe use Qf (.ref D) s3.heap.objs.size) s4 := by
    refine compLoop_any (fun n s' => ∃ i H', Inv (X.blk s3 H3 scope ce fp) [] (wipe σ (own.map (·.2))) H' s' ∧ tn i s'.heap ∧ (∀ b ∈ fp, H' b = none) ∧ W i n H') ?_ m0 ⟨0, H3, I4, st4, nfp, w0⟩
    rintro n s5 ⟨i, H5, I5, st5, n5, w5⟩
    rcases turn i n H5 w5 with ⟨stop, qq⟩ | ⟨go, Nx, hNx, step⟩
    · have td := T.done (X.blk s3 H3 scope ce fp) rfl rfl rfl p.1 i [] s5 _ H5 (fun _ _ => False) hx1 (hotB I5) I5 (stat I5 n5) st5 stop
      refine thnF td fun r s6 ⟨hr, I6⟩ => ?_
      subst hr
      have I7 : Inv X pins σ H5 s6 := I3.call' (ch := fp) I6.os I6.base I6.hok I6.bare fun b hb => ⟨(f3 b hb).1.2.2.2.1, (f3 b hb).1.2.1, (f3 b hb).1.2.2.2.2.1, (f3 b hb).1.2.2.2.2.2⟩
      have nC : H5 s3.heap.objs.size = none := by
        have z : H5 ce.locals = none := I6.free
        rw [cL] at z
        exact z
      obtain ⟨m, hn, _⟩ := I6.loc
      have hn : s6.heap.Ns ce.locals m := hn
      rw [cL] at hn
      exact hRR D s3.heap.objs.size s6 m H5 I7 qq hn (I3.fpOk (Nat.le_refl _) nC)
    · have ti := T.item (X.blk s3 H3 scope ce fp) rfl rfl rfl p.1 i [] s5 _ H5 (fun _ _ => False) hx1 (hotB I5) I5 (stat I5 n5) st5 go
      refine thnF ti fun r s6 ⟨u, hr, h6⟩ => ?_
      subst hr
      refine thnF h6 fun _ s7 ⟨x, H7, I7, r7, y7, st7, n7, hot7⟩ => ?_
      have I7' := I7.pinned (stat I7 n7) (T.obj _ _ st7)
      refine thnF (pg.run _ s7 _ H7 x u _ hot7 I7' r7 (step x H7 y7)) fun _ s8 ⟨σ8, H8, I8, hw8, q8⟩ => ?_
      refine thnF (pt.run _ s8 σ8 H8 _ I8 q8) fun b s9 ⟨H9, I9, q9⟩ => ?_
      have fin : ∀ {s' : Shared} {H' : Hp}, Inv (X.blk s3 H3 scope ce fp) ([] ++ pinsAt fp s7.heap) σ8 H' s' → Nx H' → ∃ m, m < n ∧ ∃ i H', Inv (X.blk s3 H3 scope ce fp) [] (wipe σ (own.map (·.2))) H' s' ∧ tn i s'.heap ∧ (∀ b ∈ fp, H' b = none) ∧ W i m H' := fun {s' H'} I' nx => by
        obtain ⟨m', hm, w'⟩ := hNx H' nx
        have pin' : ∀ b ∈ fp, ∀ o, s7.heap.get? b = some o → s'.heap.get? b = some o ∧ H' b = none := fun b hb o e =>
          let z := I'.pin (b, o) (List.mem_append_right _ (List.mem_append_right _ (mem_pinsAt hb e)))
          ⟨z.1, z.2.1⟩
        have hl : (wipe σ (own.map (·.2))).length = σ8.length := by rw [← hw8, wipe_length]
        refine ⟨m', hm, i + 1, H', (I'.unpinned (pins := [])).weak hl (fun j v e => ?_), T.keep _ _ _ st7 fun b hb o e => (pin' b hb o e).1, fun b hb => ?_, w'⟩
        · rw [← hw8] at e
          exact (wipe_some e).1
        · obtain ⟨o, e, _⟩ := T.obj _ _ st7 b hb
          exact (pin' b hb o e).2
      cases b with
      | false =>
        simp only [Bool.false_eq_true, if_false] at q9 ⊢
        exact fin I9 q9
      | true =>
        simp only [if_true] at q9 ⊢
        refine thnF (pe.run _ s9 σ8 H9 _ I9 q9) fun z s10 ⟨yv, H10, I10, r10, acc, hD10, hz10, nx⟩ => ?_
        exact app_ok (X := X.blk s3 H3 scope ce fp) I10 hD10 hz10 r10 fun s11 I11 => fin I11 nx
  exact codeAny_compStart_list loop (T.self X.A 0 _ _ _ st4 loop)
theorem pe_lcX {elt tg iter : Expr} {ifs : List Expr} {scope : Scope} {own : List (Str × Nat)} {pos : Pos} {wi : TI} {g : TG} {tt : TT} {te : TE} {p : Addr × Obj} (hot : Hot1 X.A p) (hpx : p ∈ X.pn) (hN : X.N.Nodup) (hi : PIX X tg iter wi) (ok : BlkOk X.N X.env.scope scope own)
    (hg : ∀ (s : Shared) (H : Hp) (C : Addr) (cl : List (Str × Addr)) (fp : List Addr), PGX (X.blk s H scope (compEnvC scope cl C X.env) fp) p.1 tg g) (ht : ∀ (s : Shared) (H : Hp) (C : Addr) (cl : List (Str × Addr)) (fp : List Addr), PTs (X.blk s H scope (compEnvC scope cl C X.env) fp) ifs tt)
    (he : ∀ (s : Shared) (H : Hp) (C : Addr) (cl : List (Str × Addr)) (fp : List Addr), PE (X.blk s H scope (compEnvC scope cl C X.env) fp) elt te) (hs : ∀ x, foldedSetIterable iter X.env x = pure x) :
    PE X (.ListComp elt [⟨tg, iter, ifs, 0⟩] scope pos) (tLc wi g tt te (own.map (·.2))) := by
  refine ⟨fun pins s σ H Q I h => ?_⟩
  rw [eval_ListComp]
  refine lc_coreX hot hpx hN I hi ok hg ht he hs h fun D C s' m H' I' q hn f => ⟨m, hn, fun h'' sb => ?_⟩
  obtain ⟨f0, f1, f2, f3, f4, f5⟩ := f
  exact ⟨.ref D, H', I'.turned (t' := s'.toks) (fun b o hb e => (sb.2 b hb).trans e) f0 f1 f3 f4 f5, rfl, q⟩
end
end DL

set_option Elab.async false
set_option linter.all false
set_option maxRecDepth 100000
set_option maxHeartbeats 4000000
/-! DLk: which classes a caught error is of (with and without fields). -/
namespace DL
open PySem PySem.Spec PySem.Calls PyProof.Rows L2
section
variable {prog : Program} {w : World} {A : Around} {E : Value → Shared → Prop} {s : Shared} {K : PySem.W.Frag} {x D : Addr} {ox : Obj} {od : Option Obj}
theorem findObj_dataG {C : Addr} {name : Str} {a g : Value} (hc : (PySem.W.clsIn K C).isSome = true) (ha : PySem.W.findIn K (.ref C) name = some (some a)) (hg : PySem.W.specialIn K a "__get__" = some (some g)) (ht : PySem.W.takesIn K a = some true) : PySem.W.findObj K C od name = some (.bind g a) := by
  obtain ⟨cd, hc⟩ := Option.isSome_iff_exists.mp hc
  unfold PySem.W.findObj
  rw [hc, Option.bind_some, ha, Option.bind_some]
  simp [hg, ht]
theorem classOfG {Q : Option Value → Shared → Prop} (hC : ExcC K D) (X : K.In s.heap) (I : PySem.W.InstAt s.heap x ox D od) (h : Q (some (.ref D)) { s with toks := s.toks + 1 }) : wpAny (model prog w) A (getAttr? (.ref x) "__class__") Q E s := by
  have hf : PySem.W.findObj K D od "__class__" = some (.bind (.builtin "getset_descriptor.__get__") (.builtin "object.__class__")) := findObj_dataG (by obtain ⟨cd, hc, _⟩ := PySem.W.any_some hC.hd; rw [hc]; rfl) hC.ha hC.hn hC.ht
  obtain ⟨hp, g, d, t, os⟩ := s
  have L0 := I.type (M := model prog w)
  have L1 := PySem.W.looks_findIn (M := model prog w) X hC.hg
  have L2 := PySem.W.looks_findIn (M := model prog w) X hC.hk
  have L3 := PySem.W.looks_find (M := model prog w) X I hf
  have sub : PySem.W.Looks (model prog w) hp (isInstance (.ref x) (.type "BaseException")) true := L0.andThen (PySem.W.looks_subIn X hC.hs)
  have e2 : (Value.builtin "BaseException.__getattribute__" == Value.builtin "object.__getattribute__") = false := by decide +kernel
  have e1 : (onTheHeap (Value.ref D) && Value.builtin "BaseException.__getattribute__" == Value.builtin "object.__getattribute__") = false := by rw [e2]; rfl
  unfold getAttr? getAttrBy? getAttrBy
  refine wpAny_bind (wpAny_mkText (wpAny_bind (wpAny_attempt (wpAny_holding (wpAny_bind (L0.at (wpAny_bind (L1.at ?_))))))))
  show wpAny _ _ (if (onTheHeap (Value.ref D) && Value.builtin "BaseException.__getattribute__" == Value.builtin "object.__getattribute__") = true then _ else _) _ _ _
  rw [e1, if_neg Bool.false_ne_true]
  unfold getAttrByItsOwn hookBefore
  refine wpAny_bind ?_
  rw [if_pos (show onTheHeap (Value.ref D) = true from rfl)]
  refine L2.at ?_
  refine wpAny_bind (wpAny_attempt (wpAny_holding ?_))
  unfold callGetattribute
  rw [show (false && onTheHeap (Value.builtin "BaseException.__getattribute__")) = false from rfl, if_neg Bool.false_ne_true]
  unfold boundAndCalled
  rw [PySem.F.excAttr_ValueError.ga.bind (.ref x)]
  refine wpAny_bind (wpAny_pure ?_)
  show wpAny _ _ (call (.builtin "BaseException.__getattribute__") [.ref x, .str "__class__" t]) _ _ _
  refine wpAny_call (codeAny_call_builtin PySem.F.excAttr_ValueError.ga.plain PySem.F.entry_bexc_ga ?_)
  refine @PySem.W.check_slot (model prog w) _ _ ⟨hp, g, d, t + 1, os⟩ "BaseException.__getattribute__" "BaseException" "__getattribute__" (.ref x) [.str "__class__" t] [] _ (by decide +kernel) (by decide +kernel) sub (PySem.F.args_bexc_ga (.ref x) (.str "__class__" t)) ?_
  unfold Builtin.«object.__getattribute__»
  refine wpAny_bind (wpAny_of_eq (a := ((Value.ref x : Value), [Value.str "__class__" t])) (by first | rfl | (simp only [slotArgs]; rfl)) ?_)
  refine wpAny_bind (wpAny_pure (wpAny_bind (L0.at (wpAny_bind (L3.at ?_)))))
  show wpAny _ _ (holding [Value.builtin "object.__class__"] (call (.builtin "getset_descriptor.__get__") [.builtin "object.__class__", .ref x, .ref D]) >>= ret) _ _ _
  refine wpAny_bind (wpAny_holding (wpAny_call (PySem.W.class_get (s := ⟨hp, g, d, t + 1, os⟩) (ox := ox) (od := od) X I hC.hm ?_)))
  refine wpAny_pure ?_
  show wpAny _ _ (handedOut (.ref D)) _ _ _
  rw [PySem.W.handedOut_of (v := .ref D) rfl]
  first
    | exact wpAny_pure (wpAny_pure h)
    | exact wpAny_pure h
    | exact wpAny_pure (wpAny_bind (wpAny_pure (wpAny_pure h)))
theorem kitxG (hC : ExcC K D) : PySem.W.KitX K (.ref x) (.ref D) (fun h => PySem.W.InstAt h x ox D od) where
  ty := fun _ _ _ I => I.type
  it := fun _ _ X _ => by
    obtain ⟨cdD, hcD, _⟩ := PySem.W.any_some hC.hd
    unfold PySem.W.clsIn at hcD
    split at hcD
    · rename_i c' d' cd' sl' ho
      intro A' Q' E' s' k q
      unfold isType loadHead
      exact wpAny_bind (wpAny_loadPart (k _ _ (X _ _ ho)) (wpAny_pure q))
    · cases hcD
  ne := fun h tp dd its n sl X htp => by
    obtain ⟨cdD, hcD, _⟩ := PySem.W.any_some hC.hd
    refine Bool.eq_false_iff.mpr fun q => ?_
    have e : D = tp := Value.ref.inj (beq_iff_eq.mp q)
    subst e
    unfold PySem.W.clsIn at hcD
    split at hcD
    · rename_i c' d' cd' sl' ho
      have z := (X _ _ ho).symm.trans htp
      cases z
    · cases hcD
  ca := fun X I k => classOfG hC X I k
end
/-- the pinned exception: its class, its fields' dict -/
def PinX (X : Cx) (a D : Addr) (d : Option Addr) : Prop := ∃ oe : Obj, (a, oe) ∈ X.pn ∧ oe.cls = .ref D ∧ oe.dict = d ∧ ∃ vs, oe.data = .fields vs
/-- its fields stand, where it has some -/
def FldOk (d : Option Addr) (H : Hp) : Prop := ∀ dd, d = some dd → ∃ fs, H dd = some (.xd fs)
theorem inst_of {X : Cx} {pins : List (Addr × Obj)} {σ : L2.St} {H : Hp} {s : Shared} {a D : Addr} {d : Option Addr} (P : PinX X a D d) (I : Inv X pins σ H s) (f : FldOk d H) : ∃ ox od, PySem.W.InstAt s.heap a ox D od := by
  obtain ⟨oe, hp, hc, hd, vs, hv⟩ := P
  obtain ⟨hget, _⟩ := I.pin (a, oe) (List.mem_append_left _ hp)
  cases d with
  | none =>
    refine ⟨oe, none, hget, hc, ?_, ?_⟩
    · unfold PySem.W.notCls; rw [hv] <;> rfl
    · rw [hd]; trivial
  | some dd =>
    obtain ⟨fs, hf⟩ := f dd rfl
    obtain ⟨mA, hns, _⟩ := (I.hok dd _ hf : ObjOk X.prog X.w H s.heap dd (.xd fs))
    obtain ⟨od, ho, _⟩ := lookIn_ns hns
    refine ⟨oe, some od, hget, hc, ?_, ?_⟩
    · unfold PySem.W.notCls; rw [hv] <;> rfl
    · rw [hd]; exact ho
/-- isinstance(e, c), e the pinned exception -/
theorem call_isG {X : Cx} {a D : Addr} {d : Option Addr} (C : ExcC X.K D) (P : PinX X a D d) : CallR X (.builtin "isinstance") (fun xs H Q => FldOk d H ∧ rIsE X.K D a xs H Q) := by
  intro pins s σ H xs us Q I r h
  obtain ⟨hf, c, cv, b, rfl, hcv, e, q⟩ := h
  cases r with
  | cons rx rr =>
    cases rr with
    | cons rt rr =>
      cases rr
      cases rx
      have ec := hcv _ rt
      subst ec
      obtain ⟨ox, od, J⟩ := inst_of P I hf
      exact PySem.W.kia_one (kitxG C) I.kIn J e (fun z => nomatch z) fun tk => ⟨.bl b, H, I.kept (t' := tk) fun _ _ z => z, rfl, q⟩
end DL

set_option Elab.async false
set_option linter.all false
set_option maxRecDepth 100000
set_option maxHeartbeats 4000000
/-! DLa: a few further rules of values. -/
namespace DL
open PySem PySem.Spec PyProof.Rows L2
theorem intRmulList (a : Int) (t : Tok) (l : Addr) (items : Array Value) (n : Nat) (dd : Option Addr) (sl : Array (Option Value)) :
    Meets (Builtin.«int.__rmul__» ⟨[.int a t, .ref l], []⟩) (fun _ R s => s.heap.get? l = some { cls := .type "list", dict := dd, data := .seq items n, slots := sl } ∧ R (.ok (.ret Value.notImplemented)) s) :=
  .of_wp fun _ _ _ _ s z => by
    obtain ⟨hp, g, d, tk, os⟩ := s
    obtain ⟨hl, z⟩ := z
    wp_walk using wpAny_loadPart' hl
    exact ⟨_, rfl, z⟩
theorem listMulG (l : Addr) (items : Array Value) (n : Nat) (dd : Option Addr) (sl : Array (Option Value)) (x : Int) (u : Tok) (hc0 : ¬(!Builtin.List.listFitsIndex x) = true) (hc1 : ¬items.size * x.toNat > (2 ^ 63 - 1) / 8) (hc2 : ¬Builtin.List.listTooLong (items.size * x.toNat) = true) :
    Meets (Builtin.«list.__mul__» ⟨[.ref l, .int x u], []⟩) (fun _ R s => s.heap.get? l = some { cls := .type "list", dict := dd, data := .seq items n, slots := sl } ∧
      R (.ok (.ret (Value.ref s.heap.objs.size))) { s with heap := s.heap.push { cls := Value.type "list", data := Data.seq (List.foldl (fun x1 x2 => x1 ++ x2) #[] (List.replicate (if items.isEmpty = true then 0 else x.toNat) items)) }, toks := s.toks }) :=
  .of_wp fun _ _ _ _ s z => by
    obtain ⟨hp, g, d, tk, os⟩ := s
    obtain ⟨hl, z⟩ := z
    have hsz := AutoListH.joined_fits hc2
    wp_walk using wpAny_loadPart' hl
    refine wpAny_ite_false (decide_eq_false (Nat.not_lt.mpr hsz)) ?_
    wp_walk using wpAny_loadPart' hl
    exact ⟨_, rfl, z⟩
def rRepS (K : PySem.W.Frag) : R2 := fun x y H Q => ∃ l k xs, x = .ref l ∧ y = .int k ∧ SqL K H l xs ∧ -(2 ^ 63) ≤ k ∧ k < 2 ^ 63 ∧ xs.length * k.toNat ≤ sizeLine ∧
  ∀ p, H p = none → Q (.ref p) (upd H p (.lst (List.replicate k.toNat xs).flatten))
def rCatS (K : PySem.W.Frag) : R2 := fun x y H Q => ∃ l b xs zs, x = .ref l ∧ y = .ref b ∧ SqL K H l xs ∧ SqL K H b zs ∧ xs.length + zs.length ≤ sizeLine ∧ ∀ p, H p = none → Q (.ref p) (upd H p (.lst (xs ++ zs)))
section
variable {X : Cx}
theorem op_catS : OpR X (binaryOp .Add) (rCatS X.K) := by
  intro pins s σ H x y v u Q I rx ry h
  obtain ⟨l, b, xs, zs, rfl, rfl, h1, h2, hz, q⟩ := h
  cases rx
  cases ry
  obtain ⟨its, r, ⟨⟨c1, d1, t1, s1⟩, n, e, ec, ed, et⟩, _⟩ := I.list h1
  obtain ⟨its2, r2, ⟨⟨c2, d2, t2, s2⟩, n2, e2, ec2, ed2, et2⟩, _⟩ := I.list h2
  simp only at ec ed et ec2 ed2 et2
  subst ec ed et ec2 ed2 et2
  have l1 := r.length
  have l2 := r2.length
  refine concat_meets ⟨_, e, rfl⟩ ⟨_, e2, rfl⟩ noFill_list_add seq_list_add PySem.F.slot_list_add PySem.F.entry_list_add (PySem.F.args_list_add_2 _ _) (list_addW l b its.toArray its2.toArray n n2 none none s1 s2 (by simp only [List.size_toArray]; omega)) ⟨e, e2, ?_⟩
  have ea : its.toArray ++ its2.toArray = (its ++ its2).toArray := by simp
  rw [ea]
  exact ⟨.ref _, _, I.lnew (t' := s.toks) (r.append r2) (by rw [List.length_append]; omega), rfl, q _ I.fresh⟩
theorem op_repS : OpR X (binaryOp .Mult) (rRepS X.K) := by
  intro pins s σ H x y v u Q I rx ry h
  obtain ⟨l, k, xs, rfl, rfl, hH, h1, h2, hz, q⟩ := h
  cases rx
  obtain ⟨t, rfl⟩ := ry
  obtain ⟨its, r, ⟨⟨c1, d1, t1, s1⟩, n, e, ec, ed, et⟩, _⟩ := I.list hH
  simp only at ec ed et
  subst ec ed et
  have hl := r.length
  have a1 : its.toArray.size * k.toNat ≤ sizeLine := by rw [List.size_toArray, ← hl]; exact hz
  have a2 : ¬ its.toArray.size * k.toNat > (2 ^ 63 - 1) / 8 := by
    have : (sizeLine : Nat) ≤ (2 ^ 63 - 1) / 8 := by decide
    omega
  have a3 : ¬ (!Builtin.List.listFitsIndex k) = true := by
    rw [fitsIndex_both h1 h2]
    exact Bool.false_ne_true
  have a4 : ¬ Builtin.List.listTooLong (its.toArray.size * k.toNat) = true := by
    rw [notLongL a1]
    exact Bool.false_ne_true
  have a5 : List.foldl (fun x1 x2 => x1 ++ x2) #[] (List.replicate (if its.toArray.isEmpty = true then 0 else k.toNat) its.toArray) = (List.replicate k.toNat its).flatten.toArray := by
    have f0 : ∀ m : Nat, List.foldl (fun x1 x2 => x1 ++ x2) #[] (List.replicate m its.toArray) = (List.replicate m its).flatten.toArray := fun m => by
      have z := foldl_rep its m []
      rw [List.nil_append] at z
      exact z
    rw [f0]
    cases its with
    | nil => simp
    | cons a r' => rw [if_neg (by simp)]
  refine wpAny_binaryOp_repeat_ref (T := "list") (U := "int") (by decide) ⟨_, e, rfl⟩ (fun s' => typeIs_int s' k t) noFill_list_mul F.fills_int_mul F.slot_int_rmul repeat_list F.slot_int_index.lookup
    (call_meets F.slot_int_rmul (typeIs_int s k t) F.entry_int_rmul (F.args_int_rmul_2 _ _) (intRmulList k t l its.toArray n none s1)
      ⟨e, rfl, ⟨_, e, rfl⟩, call_meets F.slot_list_mul ⟨_, e, rfl⟩ F.entry_list_mul (F.args_list_mul_2 _ _) (listMulG l its.toArray n none s1 k t a3 a2 a4) ⟨e, ?_⟩⟩)
  rw [a5]
  exact ⟨.ref _, _, I.lnew (t' := s.toks) (r.rep k.toNat) (by rw [PyProof.Rows.lm_len_rep_flat, Nat.mul_comm]; exact hz), rfl, q _ I.fresh⟩
end
end DL

set_option Elab.async false
set_option linter.all false
set_option maxRecDepth 100000
set_option maxHeartbeats 4000000
/-! DLr: a list or a tuple turned about. -/
namespace DL
open PySem PySem.Spec PyProof.Rows L2 HT
section
variable {prog : Program} {w : World} {A : Around} {E : Value → Shared → Prop} {s : Shared}
theorem adjust_back (n : Nat) : Builtin.Slice.sliceAdjust none none (-1) (n : Int) = ((n : Int) - 1, -1) := by
  unfold Builtin.Slice.sliceAdjust
  simp
theorem places_back (n : Nat) : Builtin.Slice.slicePlaces ((n : Int) - 1) (-1) (-1) = n := by
  unfold Builtin.Slice.slicePlaces
  have h1 : ¬ ((-1 : Int) > 0) := by omega
  simp only [h1, if_false]
  split
  · have : ((n : Int) - 1 - -1 - 1) / - -1 = (n : Int) - 1 := by
      rw [show ((n : Int) - 1 - -1 - 1) = (n : Int) - 1 by omega, show (- -1 : Int) = 1 by decide, Int.ediv_one]
    rw [this]; omega
  · omega
theorem sliceApplied_back {sl : Addr} {vl vu vs : Value} {n : Nat} {Q : Int × Int × Nat → Shared → Prop} (hs : s.heap.IsSliceOf sl vl vu vs) (pl : IsPart vl none) (pu : IsPart vu none) (ps : IsPart vs (some (-1)))
    (h : Q ((n : Int) - 1, -1, n) s) : wpAny (model prog w) A (Builtin.Slice.sliceApplied (.ref sl) (pure (n : Int))) Q E s := by
  obtain ⟨os, hos, hcs, hds⟩ := id hs
  unfold Builtin.Slice.sliceApplied Builtin.Slice.sliceFields
  refine wpAny_bind (wpAny_bind (wpAny_field hos hds (x := vl) rfl (wpAny_bind (wpAny_field hos hds (x := vu) rfl (wpAny_bind (wpAny_field hos hds (x := vs) rfl (wpAny_pure ?_)))))))
  refine wpAny_bind (slicePart_ ps ?_)
  show wpAny _ _ (if ((-1 : Int) == 0) = true then _ else _) _ _ s
  rw [if_neg (by decide)]
  refine wpAny_bind (slicePart_ pl (wpAny_bind (slicePart_ pu (wpAny_bind (wpAny_pure ?_)))))
  show wpAny _ _ (match Builtin.Slice.sliceAdjust none none (-1) (n : Int) with | (lo, hi) => pure (lo, (-1 : Int), Builtin.Slice.slicePlaces lo hi (-1))) _ _ s
  rw [adjust_back n]
  show wpAny _ _ (pure ((n : Int) - 1, (-1 : Int), Builtin.Slice.slicePlaces ((n : Int) - 1) (-1) (-1))) _ _ s
  rw [places_back]
  exact wpAny_pure h
theorem pick_upto (xs : List Value) : ∀ k, k ≤ xs.length → ((List.range k).filterMap fun (m : Nat) => xs.toArray[(((xs.length : Int) - 1) + (m : Int) * -1).toNat]?) = xs.reverse.take k
  | 0, _ => rfl
  | k + 1, h => by
    rw [List.range_succ, List.filterMap_append, pick_upto xs k (by omega), List.take_add_one]
    congr 1
    have e : (((xs.length : Int) - 1) + (k : Int) * -1).toNat = xs.length - 1 - k := by omega
    have e2 : xs.reverse[k]? = xs[xs.length - 1 - k]? := List.getElem?_reverse (by omega)
    rw [e2]
    simp only [List.filterMap_cons, List.filterMap_nil, e, List.getElem?_toArray]
    have : xs.length - 1 - k < xs.length := by omega
    rw [List.getElem?_eq_getElem this]; rfl
theorem getItem_tuple_back {t sl : Addr} {its : List Value} {vl vu vs : Value} {Q : Value → Shared → Prop} (ht : IsTup s.heap t its.toArray) (hs : s.heap.IsSliceOf sl vl vu vs) (pl : IsPart vl none) (pu : IsPart vu none) (ps : IsPart vs (some (-1)))
    (h : Q (.ref s.heap.objs.size) { s with heap := s.heap.push { cls := .type "tuple", data := .seq its.reverse.toArray } }) (hsz : its.length ≤ sizeLine) : wpAny (model prog w) A (getItem (.ref t) (.ref sl)) Q E s := by
  have htake : sizeOk (.seq its.reverse.toArray) := by
    show its.reverse.toArray.size ≤ sizeLine
    rw [List.size_toArray, List.length_reverse]
    exact hsz
  obtain ⟨os, hos, hcs, hds⟩ := id hs
  have hTs : s.TypeIs (.ref sl) "slice" := ⟨os, hos, hcs⟩
  unfold getItem
  try with_reducible refine wpAny_holding ?_
  first | refine wpAny_bind (wpAny_pure ?_) | skip
  refine wpAny_bind (wpAny_sequenceKey ht.typeIs (by decide) ?_)
  refine wpAny_bind (wpAny_callSpecial?_slot (name := Str.ofString "__getitem__") ht.typeIs PyProof.Rows.slot_tuple_getitem
    (wpAny_call_entry PyProof.Rows.slot_tuple_getitem ht.typeIs entry_tuple_getitem ?_ (args_tuple_getitem _ _)))
  show wpAny _ _ (Builtin.Tuple.tupleItemsOf (.ref t) >>= _) _ _ s
  refine wpAny_bind (tupleItemsOf_ ht ?_)
  refine wpAny_bind (wpAny_typeOf hTs ?_)
  rw [if_pos (by decide)]
  refine wpAny_bind (sliceApplied_back hs pl pu ps ?_)
  have hno : ¬ (((its.toArray.size : Int) - 1 == 0 && (-1 : Int) == 1 && its.toArray.size == its.toArray.size) = true) := by
    intro q
    rw [Bool.and_eq_true, Bool.and_eq_true] at q
    have q1 : (-1 : Int) = 1 := eq_of_beq q.1.2
    omega
  show wpAny _ _ (if ((its.toArray.size : Int) - 1 == 0 && (-1 : Int) == 1 && its.toArray.size == its.toArray.size) = true then _ else _) _ _ s
  rw [if_neg hno]
  have e : ((List.range its.toArray.size).filterMap fun (m : Nat) => its.toArray[(((its.toArray.size : Int) - 1) + (m : Int) * -1).toNat]?) = its.reverse := by
    rw [List.size_toArray, pick_upto its its.length (Nat.le_refl _), List.take_of_length_le (by rw [List.length_reverse]; exact Nat.le_refl _)]
  rw [e]
  first
    | exact wpAny_bind (m := Builtin.Tuple.tupleExact _) (wpAny_newObj_type (wpAny_pure ⟨_, rfl, wpAny_pure h⟩) htake)
    | exact wpAny_bind (m := Builtin.Tuple.tupleExact _) (wpAny_newObj_type (wpAny_bind (wpAny_pure (wpAny_pure ⟨_, rfl, wpAny_pure h⟩))) htake)
    | exact wpAny_bind (wpAny_bind (m := Builtin.Tuple.tupleExact _) (wpAny_newObj_type (wpAny_pure (wpAny_pure ⟨_, rfl, wpAny_pure h⟩)) htake))
    | exact wpAny_bind (wpAny_bind (m := Builtin.Tuple.tupleExact _) (wpAny_newObj_type (wpAny_pure ⟨_, rfl, wpAny_pure h⟩) htake))
end
section
variable {X : Cx}
def tRevA (K : PySem.W.Frag) (te : TE) : TE := fun σ H Q => te σ H fun x H1 => ∃ a xs, x = .ref a ∧
  ((SqL K H1 a xs ∧ ∀ p, H1 p = none → Q (.ref p) (upd H1 p (.lst xs.reverse))) ∨ (SqT K H1 a xs ∧ ∀ p, H1 p = none → Q (.ref p) (upd H1 p (.tup xs.reverse))))
theorem pe_revA {e : Expr} {te : TE} {k : Nat} {p1 p2 p3 pos : Pos} (he : PE X e te) : PE X (.Subscript e (.Slice none none (some (.UnaryOp .USub (.Constant (.int 1) k p1) p2)) p3) pos) (tRevA X.K te) := by
  refine ⟨fun pins s σ H Q I h => ?_⟩
  refine Subscript_ (thn (he.run pins s σ H _ I h) fun v s1 ⟨x, H1, I1, r1, q1⟩ => ?_)
  obtain ⟨a, xs, ex, hx⟩ := q1
  subst ex
  cases r1
  have hst : PO X (some (.UnaryOp .USub (.Constant (.int 1) k p1) p2)) (tPart (tUn (rU fun i => .int (-i)) (tC (.int 1)))) := po_some (pe_un un_neg pe_int)
  refine wpAny_Slice (thn (po_none.run pins s1 σ H1 (fun o H2 => o = none ∧ H2 = H1) I1 ⟨rfl, rfl⟩) fun vl s2 ⟨l, H2, I2, pl, el, e2⟩ => ?_)
  subst el e2
  refine thn (po_none.run pins s2 σ H2 (fun o H3 => o = none ∧ H3 = H2) I2 ⟨rfl, rfl⟩) fun vu s3 ⟨u, H3, I3, pu, eu, e3⟩ => ?_
  subst eu e3
  refine thn (hst.run pins s3 σ H3 (fun o H4 => o = some (-1) ∧ H4 = H3) I3 ⟨1, rfl, -1, rfl, rfl, rfl⟩) fun vs s4 ⟨o, H4, I4, ps, eo, e4⟩ => ?_
  subst eo e4
  have I5 : Inv X pins σ H4 { s4 with heap := s4.heap.push { cls := .type "slice", data := .fields #[vl, vu, vs] } } := I4.kept (t' := s4.toks) fun b ob q => Heap.get?_push_of_some _ q
  show wpAny (model X.prog X.w) X.A (subscriptTail e (.Slice none none (some (.UnaryOp .USub (.Constant (.int 1) k p1) p2)) p3) (.ref a) (.ref s4.heap.objs.size)) (EP X pins σ Q) X.xe { s4 with heap := s4.heap.push { cls := .type "slice", data := .fields #[vl, vu, vs] } }
  rcases hx with ⟨hx, q⟩ | ⟨hx, q⟩
  · obtain ⟨its, r, ht, hz⟩ := I5.list hx
    have hlen := r.length
    refine tail_any (ops := [.ref a, .ref s4.heap.objs.size]) ht.isList.typeIs (PySem.slot_list_getitem.lookup) ?_ (by with_unfolding_all rfl)
    refine wpAny_getItem_list_slice ht.isList (Heap.IsSliceOf.new _ vl vu vs) pl pu ps (by decide) ?_ (by rw [List.size_toArray]; omega)
    rw [PySem.W.krv_pick]
    refine ⟨.ref _, _, I5.laid (t' := s4.toks) (o := .lst xs.reverse) (fun b ob q => Heap.get?_push_of_some _ q) (Nat.le_refl _) ?_, rfl, q _ (I5.hok.fresh (Nat.le_refl _))⟩
    exact ⟨by rw [List.length_reverse]; exact hz, _, 0, r.reverse, Heap.get?_push_size _ rfl⟩
  · obtain ⟨its, r, ht, hz⟩ := I5.tuple hx
    have hlen := r.length
    refine tail_any (ops := [.ref a, .ref s4.heap.objs.size]) ht.typeIs (PyProof.Rows.slot_tuple_getitem.lookup) ?_ (by with_unfolding_all rfl)
    refine getItem_tuple_back ht (Heap.IsSliceOf.new _ vl vu vs) pl pu ps ?_ (by omega)
    refine ⟨.ref _, _, I5.laid (t' := s4.toks) (o := .tup xs.reverse) (fun b ob q => Heap.get?_push_of_some _ q) (Nat.le_refl _) ?_, rfl, q _ (I5.hok.fresh (Nat.le_refl _))⟩
    exact ⟨by rw [List.length_reverse]; exact hz, _, r.reverse, IsTup.new _ _⟩
end
end DL

set_option Elab.async false
set_option linter.all false
set_option maxRecDepth 100000
set_option maxHeartbeats 4000000
/-! DLq: an empty tuple times an int. -/
namespace DL
open PySem PySem.Spec PyProof.Rows L2
theorem tuple_mul0 (l : Addr) (n : Nat) (dd : Option Addr) (sl : Array (Option Value)) (x : Int) (u : Tok) (c0 : (decide (x < -(2 ^ 63)) || decide (x ≥ 2 ^ 63)) = false) :
    Meets (Builtin.«tuple.__mul__» ⟨[.ref l, .int x u], []⟩) (fun _ R s => s.heap.get? l = some { cls := .type "tuple", dict := dd, data := .seq #[] n, slots := sl } ∧ ∀ t, R (.ok (.ret (.ref l))) { s with toks := t }) :=
  .of_wp fun prog w A R s h => by
    obtain ⟨hp, g, d, tk, os⟩ := s
    obtain ⟨hl, h⟩ := h
    have f1 := AutoSeq1.idx_int
    wp_walk using wpAny_loadPart' hl
    repeat (first
      | (refine wpAny_ite_false (decide_eq_false (by rw [c0]; exact Bool.false_ne_true)) ?_; wp_walk using wpAny_loadPart' hl))
    exact ⟨_, rfl, h _⟩
section
variable {X : Cx}
def rRep0 (K : PySem.W.Frag) : R2 := fun x y H Q => ∃ l k, x = .ref l ∧ y = .int k ∧ SqT K H l [] ∧ 2 ≤ k ∧ k ≤ 1000 ∧ Q (.ref l) H
theorem op_rep0 : OpR X (binaryOp .Mult) (rRep0 X.K) := by
  intro pins s σ H x y v u Q I rx ry h
  obtain ⟨l, k, rfl, rfl, hT, h1, h2, q⟩ := h
  cases rx
  obtain ⟨t, rfl⟩ := ry
  obtain ⟨its, r, ⟨⟨cls, dd, data, sl⟩, ho, hc, n, hd⟩, hs⟩ := I.tuple hT
  simp only at hc hd
  subst hc hd
  cases r
  have c0 : (decide (k < -(2 ^ 63)) || decide (k ≥ 2 ^ 63)) = false := by
    rw [decide_eq_false (by omega), decide_eq_false (by omega)] <;> rfl
  refine wpAny_binaryOp_repeat_ref (T := "tuple") (U := "int") (by decide) ⟨_, ho, rfl⟩ (fun s' => typeIs_int s' k t) noFill_tuple_mul F.fills_int_mul F.slot_int_rmul repeat_tuple F.slot_int_index.lookup
    (call_meets F.slot_int_rmul (typeIs_int s k t) F.entry_int_rmul (F.args_int_rmul_2 _ _) (int_rmul_tuple k t l #[] n dd sl)
      ⟨ho, rfl, ⟨_, ho, rfl⟩, call_meets F.slot_tuple_mul ⟨_, ho, rfl⟩ F.entry_tuple_mul (F.args_tuple_mul_2 _ _) (tuple_mul0 l n dd sl k t c0) ⟨ho, fun tk => ?_⟩⟩)
  exact ⟨.ref l, _, I.tok tk, rfl, q⟩
end
end DL

set_option Elab.async false
set_option linter.all false
set_option maxRecDepth 100000
set_option maxHeartbeats 4000000
/-! DL4: the rules of expressions, one by one. -/
namespace DL
open PySem PySem.Spec PyProof.Rows L2

/-- what the terms of a def are read in -/
structure Ct where
  x : Fx
  g : Sg
  n0 : Nat
  lam : Bool
/-- names: of the defs, of the constants -/
structure Nm where
  fn : List (Option Str)
  cst : List (Option Str)
  exc : List Str
  lam : Bool
/-- a class of errors without own __init__ -/
structure ExcK (x : Fx) (C : Addr) : Prop where
  base : ∃ B newId initId bmB, ExcBaseFacts B newId initId bmB ∧ PySem.W.excIn x.K C bmB newId = true
  kp : PySem.W.keepIn x.K (.ref C) = true
  sub : PySem.W.subIn x.K (.ref C) (.type "BaseException") = some true
  ty : PySem.W.typeIn x.K (.ref C) = some (.type "type")
def bltNames : List Str := ["len", "abs", "max", "min", "int", "str", "tuple", "list", "all", "any", "sum", "range", "enumerate", "zip", "isinstance", "bool", "sorted"]
/-- a def's code object and the table of its lambda -/
def LX (x : Fx) (X : Cx) : Prop := ∃ cA P, X.env.code = .ref cA ∧ LamX.TabB X.base X.mg cA P ∧ (P, X.env.qual ++ "<lambda>") ∈ x.T ∧ ∀ p ∈ x.T, p.1 = P → p.2 = X.env.qual ++ "<lambda>"
structure Sx (c : Ct) (k : Nat) (N : List Str) (sc : Scope) (X : Cx) : Prop where
  prog : X.prog = c.x.P
  w : X.w = c.x.w
  K : X.K = c.x.K
  mg : X.mg = c.x.mg
  base : X.base = c.x.base
  hN : X.N = N
  nd : N.Nodup
  sc : X.env.scope = sc
  calm : X.calm = true
  room : Room k X.A
  lx : c.lam = true → LX c.x X
structure Fns0 (c : Ct) (q : Nm) (k : Nat) : Prop where
  fn : ∀ (n : Nat) (x : Str), q.fn[n]? = some (some x) → c.x.mg x = some (.ref (c.x.fa n)) ∧ PySem.W.keepIn c.x.K (.ref (c.x.fa n)) = true ∧ ∃ fd ps, FnOk c.x.P c.x.w c.x.K c.x.mg c.x.base (L2N.CX c.x.P c.x.w) k (c.x.fa n) fd ps (spF c.x (c.g.F n)) ∧ Binds c.x.K fd ps []
  cst : ∀ (n : Nat) (x : Str), q.cst[n]? = some (some x) → ∃ u v, c.x.mg x = some u ∧ RelV v u ∧ ∀ G, c.x.R G v (c.g.C n)
  blt : ∀ x ∈ bltNames, c.x.mg x = none
  exc : ∀ (n : Nat) (x : Str), q.exc[n]? = some x → c.x.mg x = some (.ref (c.x.fx n)) ∧ ExcK c.x (c.x.fx n)

abbrev WH := Value → Option Addr → Hp → Prop
abbrev OkE (c : Ct) (X : Cx) (Wx : WH) (ce : CE) (e : Expr) : Prop := ∃ t, PE X e t ∧ ∀ σ ρ al S H Q, StR c.x al S H → EnvR c.x al (hide al H) σ ρ → PostE c.x c.n0 al H Wx Q (evE c.g c.n0 ce ρ S) → t σ H Q
abbrev OkD (c : Ct) (X : Cx) (Wx : WH) (ce : CE) (e : Expr) : Prop := ∃ t, PE X e t ∧ ∀ σ ρ al S H Q, StR c.x al S H → EnvR c.x al (hide al H) σ ρ → PostD c.x c.n0 al H Wx Q (evE c.g c.n0 ce ρ S).w → t σ H Q
/-- a comparison: as a value, as a test -/
abbrev OkP (c : Ct) (X : Cx) (Wx : WH) (ce : CE) (e : Expr) : Prop := ∃ t, PE X e t ∧ PT X e (tTest t) ∧ ∀ σ ρ al S H Q, StR c.x al S H → EnvR c.x al (hide al H) σ ρ → PostE c.x c.n0 al H Wx Q (evE c.g c.n0 ce ρ S) → t σ H Q
theorem OkP.e {c : Ct} {X : Cx} {Wx : WH} {ce : CE} {e : Expr} (h : OkP c X Wx ce e) : OkE c X Wx ce e := let ⟨t, p, _, r⟩ := h; ⟨t, p, r⟩
abbrev OkL (c : Ct) (X : Cx) (Wx : WH) (cl : CL) (es : List Expr) : Prop := ∃ t, PA X es t ∧ ∀ σ ρ al S H Q, StR c.x al S H → EnvR c.x al (hide al H) σ ρ → PostL c.x c.n0 al H Wx Q (evL c.g c.n0 cl ρ S) → t σ H Q
abbrev OkT (c : Ct) (X : Cx) (Wx : WH) (ct : CT) (e : Expr) : Prop := ∃ t, PT X e t ∧ ∀ σ ρ al S H Q, StR c.x al S H → EnvR c.x al (hide al H) σ ρ → PostB c.x c.n0 al H Wx Q (evT c.g c.n0 ct ρ S) → t σ H Q

/-- the def that tries a lambda -/
def TryR (c : Ct) (k k0 : Nat) : Prop := ∀ (n0 : Nat) (N : List Str) (sc scope : Scope) (X : Cx) (Wx : WH) (a : CE) (body : Expr) (p lpos pos : Pos), Sx ⟨c.x, c.g, n0, c.lam⟩ k N sc X → sc.names.lookup ("_law_try" : Str) = some .globalImplicit → LamX.LamS sc scope →
  (∀ (X' : Cx) (E : WH), Sx ⟨c.x, c.g, n0, false⟩ k0 N scope X' → L2N.Takes X' (fun cls d _ H => E cls d H) → OkD ⟨c.x, c.g, n0, false⟩ X' E a body) →
  OkE ⟨c.x, c.g, n0, c.lam⟩ X Wx (.tryL a) (.Call (.Name "_law_try" p) [.Lambda ⟨[], [], none, [], [], none, []⟩ body scope lpos] [] pos)
structure Fns (c : Ct) (q : Nm) (k : Nat) : Prop extends Fns0 c q k where
  lam : q.lam = true → c.lam = true ∧ ∃ k0, Fns0 c q k0 ∧ TryR c k k0

section
variable {x : Fx} {n0 : Nat} {al : Als} {S : Sto} {H : Hp} {Q : VK} {Wx : WH}
theorem VE.of_w {r : R EV} (h : PostD x n0 al H Wx Q r.w) : PostE x n0 al H Wx Q r := by
  cases r with
  | bad => exact h
  | exc e S => exact h
  | ok v S =>
    cases v with
    | sh w => exact h
    | fr c =>
      cases c with
      | ins C fs => exact (show False from h).elim
      | lst ds =>
        intro a H' al' k e s
        exact h (.ref a) H' al' k (e.trans s.pre.2) s.pre.1 s.thaw
theorem OkE.d {c : Ct} {X : Cx} {Wx : WH} {ce : CE} {e : Expr} (h : OkE c X Wx ce e) : OkD c X Wx ce e := by
  obtain ⟨t, p, q⟩ := h
  exact ⟨t, p, fun σ ρ al S H Q s r z => q σ ρ al S H Q s r (VE.of_w z)⟩
theorem fin_sh {d : D} {v : V} (h : VE x n0 al H Q (.sh (.p d)) S) (s : StR x al S H) (r : x.R (hide al H) v d) : Q v H := h v H al (Kl.refl _ _) (Ext.refl _) s r
theorem fin_w {d : W} {v : V} (h : VD x n0 al H Q d S) (s : StR x al S H) (r : RepW x al (hide al H) v d) : Q v H := h v H al (Kl.refl _ _) (Ext.refl _) s r
theorem fin_new {d : D} {p : Addr} {o : HO} (h : VE x n0 al H Q (.sh (.p d)) S) (s : StR x al S H) (n : H p = none) (r : x.R (hide al (upd H p o)) (.ref p) d) : Q (.ref p) (upd H p o) :=
  h _ _ al (Kl.refl _ _) (ext_upd n) (s.laid n) r
theorem fin_lst {ds : List D} {vs : List V} {p : Addr} (h : VE x n0 al H Q (.fr (.lst ds)) S) (s : StR x al S H) (n : H p = none) (r : x.Rs (hide al H) vs ds) : Q (.ref p) (upd H p (.lst vs)) :=
  let ⟨a, b⟩ := s.newL n r
  h p _ al (Kl.refl _ _) b a
theorem fin_tup {ds : List D} {vs : List V} {p : Addr} (h : VE x n0 al H Q (.sh (.p (.tup ds))) S) (s : StR x al S H) (n : H p = none) (r : x.Rs (hide al H) vs ds) : Q (.ref p) (upd H p (.tup vs)) :=
  fin_new h s n (.tup (.inl (.inl (hide_new s n))) (Reps.mono (ext_upd n) r))
end

/-! ### an operand, then the rest -/
section
variable {c : Ct} {X : Cx} {Wx : WH}
/-- behind one operand -/
theorem thenD {β : Type} {ce : CE} {t : TE} {ρ : Rho} {Φ : Als → Hp → β → Sto → Prop} (hre : ∀ {al al1 H H1 b S}, Kl c.n0 al al1 → Ext (hide al H) (hide al1 H1) → Φ al H b S → Φ al1 H1 b S)
    (ok : ∀ σ ρ al S H Q, StR c.x al S H → EnvR c.x al (hide al H) σ ρ → PostD c.x c.n0 al H Wx Q (evE c.g c.n0 ce ρ S).w → t σ H Q) {f : W → Sto → R β} {σ : L2.St} {al : Als} {S : Sto} {H : Hp} {Q : VK}
    (s : StR c.x al S H) (r : EnvR c.x al (hide al H) σ ρ) (p : Pst (XPo c.x c.n0 al H Wx) (Φ al H) ((evE c.g c.n0 ce ρ S).w.bind f))
    (k : ∀ w S1 v al1 H1, Kl c.n0 al al1 → Ext (hide al H) (hide al1 H1) → StR c.x al1 S1 H1 → EnvR c.x al1 (hide al1 H1) σ ρ → RepW c.x al1 (hide al1 H1) v w → Pst (XPo c.x c.n0 al1 H1 Wx) (Φ al1 H1) (f w S1) → Q v H1) : t σ H Q := by
  refine ok σ ρ al S H Q s r (p.bind.mono (fun _ _ z => z) fun w S1 z => ?_)
  intro v H1 al1 k1 e1 s1 r1
  exact k w S1 v al1 H1 k1 e1 s1 (r.mono e1 k1) r1 (z.mono (fun _ _ => XPo.re k1 e1) fun _ _ => hre k1 e1)
theorem thenL {β : Type} {cl : CL} {t : TA} {ρ : Rho} {Φ : Als → Hp → β → Sto → Prop} (hre : ∀ {al al1 H H1 b S}, Kl c.n0 al al1 → Ext (hide al H) (hide al1 H1) → Φ al H b S → Φ al1 H1 b S)
    (ok : ∀ σ ρ al S H Q, StR c.x al S H → EnvR c.x al (hide al H) σ ρ → PostL c.x c.n0 al H Wx Q (evL c.g c.n0 cl ρ S) → t σ H Q) {f : List W → Sto → R β} {σ : L2.St} {al : Als} {S : Sto} {H : Hp} {Q : List V → Hp → Prop}
    (s : StR c.x al S H) (r : EnvR c.x al (hide al H) σ ρ) (p : Pst (XPo c.x c.n0 al H Wx) (Φ al H) ((evL c.g c.n0 cl ρ S).bind f))
    (k : ∀ w S1 v al1 H1, Kl c.n0 al al1 → Ext (hide al H) (hide al1 H1) → StR c.x al1 S1 H1 → EnvR c.x al1 (hide al1 H1) σ ρ → RepWs c.x al1 (hide al1 H1) v w → Pst (XPo c.x c.n0 al1 H1 Wx) (Φ al1 H1) (f w S1) → Q v H1) : t σ H Q := by
  refine ok σ ρ al S H Q s r (p.bind.mono (fun _ _ z => z) fun w S1 z => ?_)
  intro v H1 al1 k1 e1 s1 r1
  exact k w S1 v al1 H1 k1 e1 s1 (r.mono e1 k1) r1 (z.mono (fun _ _ => XPo.re k1 e1) fun _ _ => hre k1 e1)
theorem thenT {β : Type} {ct : CT} {t : TT} {ρ : Rho} {Φ : Als → Hp → β → Sto → Prop} (hre : ∀ {al al1 H H1 b S}, Kl c.n0 al al1 → Ext (hide al H) (hide al1 H1) → Φ al H b S → Φ al1 H1 b S)
    (ok : ∀ σ ρ al S H Q, StR c.x al S H → EnvR c.x al (hide al H) σ ρ → PostB c.x c.n0 al H Wx Q (evT c.g c.n0 ct ρ S) → t σ H Q) {f : Bool → Sto → R β} {σ : L2.St} {al : Als} {S : Sto} {H : Hp} {Q : Bool → Hp → Prop}
    (s : StR c.x al S H) (r : EnvR c.x al (hide al H) σ ρ) (p : Pst (XPo c.x c.n0 al H Wx) (Φ al H) ((evT c.g c.n0 ct ρ S).bind f))
    (k : ∀ b S1 al1 H1, Kl c.n0 al al1 → Ext (hide al H) (hide al1 H1) → StR c.x al1 S1 H1 → EnvR c.x al1 (hide al1 H1) σ ρ → Pst (XPo c.x c.n0 al1 H1 Wx) (Φ al1 H1) (f b S1) → Q b H1) : t σ H Q := by
  refine ok σ ρ al S H Q s r (p.bind.mono (fun _ _ z => z) fun w S1 z => ?_)
  intro H1 al1 k1 e1 s1
  exact k w S1 al1 H1 k1 e1 s1 (r.mono e1 k1) (z.mono (fun _ _ => XPo.re k1 e1) fun _ _ => hre k1 e1)
end
theorem pst_rOpt {β : Type} {XP : Exn → Sto → Prop} {Φ : β → Sto → Prop} {o : Option β} {S : Sto} (h : Pst XP Φ (rOpt o S)) : ∃ b, o = some b ∧ Φ b S := by
  cases o with
  | none => exact (show False from h).elim
  | some b => exact ⟨b, rfl, h⟩
theorem EnvR.var {x : Fx} {al : Als} {G : Hp} {σ : L2.St} {ρ : Rho} (r : EnvR x al G σ ρ) {i : Nat} {w : W} (e : ρ[i]? = some (some w)) : ∃ v, σ[i]? = some (some v) ∧ RepW x al G v w := r.2 i w e

section
variable {c : Ct} {q : Nm} {k : Nat} {N : List Str} {sc : Scope} {X : Cx} {Wx : WH}

theorem ok_var {i : Nat} {y : Str} {pos : Pos} (sx : Sx c k N sc X) (hN : N[i]? = some y) (hv : Vis sc y) (hd : (y == ("__debug__" : Str)) = false) (hcd : (y == ("__classdict__" : Str)) = false) : OkE c X Wx (.var i) (.Name y pos) := by
  refine ⟨tVar i, pe_var (by rw [sx.hN]; exact hN) (by rw [sx.sc]; exact hv) hd hcd, fun σ ρ al S H Q s r h => ?_⟩
  unfold evE at h
  split at h
  · rename_i w e
    obtain ⟨v, e1, r1⟩ := r.var e
    exact ⟨v, e1, fin_w h s r1⟩
  · exact (show False from h).elim
theorem ok_int {i : Int} {j : Nat} {pos : Pos} : OkE c X Wx (.int i) (.Constant (.int i) j pos) :=
  ⟨_, pe_int, fun σ ρ al S H Q s r h => fin_sh (x := c.x) (n0 := c.n0) (d := .int i) (by unfold evE at h; exact h) s (.int i)⟩
theorem ok_str {i : Str} {j : Nat} {pos : Pos} : OkE c X Wx (.str i) (.Constant (.str i) j pos) :=
  ⟨_, pe_str, fun σ ρ al S H Q s r h => fin_sh (x := c.x) (n0 := c.n0) (d := .str i) (by unfold evE at h; exact h) s (.str i)⟩
theorem ok_bl {i : Bool} {j : Nat} {pos : Pos} : OkE c X Wx (.bl i) (.Constant (.bool i) j pos) :=
  ⟨_, pe_bl, fun σ ρ al S H Q s r h => fin_sh (x := c.x) (n0 := c.n0) (d := .bl i) (by unfold evE at h; exact h) s (.bl i)⟩
theorem ok_non {j : Nat} {pos : Pos} : OkE c X Wx .non (.Constant .none j pos) :=
  ⟨_, pe_non, fun σ ρ al S H Q s r h => fin_sh (x := c.x) (n0 := c.n0) (d := .non) (by unfold evE at h; exact h) s .non⟩
theorem ok_cst {n : Nat} {y : Str} {pos : Pos} (sx : Sx c k N sc X) (F : Fns c q k) (hq : q.cst[n]? = some (some y)) (hg : sc.names.lookup y = some .globalImplicit) (hd : (y == ("__debug__" : Str)) = false) : OkE c X Wx (.cst n) (.Name y pos) := by
  obtain ⟨u, v, e, r1, r2⟩ := F.cst n y hq
  exact ⟨_, pe_glob (show X.env.scope.names.lookup y = _ by rw [sx.sc]; exact hg) (by rw [sx.mg]; exact e) r1 hd, fun σ ρ al S H Q s r h => fin_sh (x := c.x) (n0 := c.n0) (d := c.g.C n) (by unfold evE at h; exact h) s (r2 _)⟩
theorem ok_fnv {n : Nat} {y : Str} {pos : Pos} (sx : Sx c k N sc X) (F : Fns c q k) (hq : q.fn[n]? = some (some y)) (hg : sc.names.lookup y = some .globalImplicit) (hd : (y == ("__debug__" : Str)) = false) : OkE c X Wx (.fnv n) (.Name y pos) := by
  obtain ⟨e, _⟩ := F.fn n y hq
  exact ⟨_, pe_glob (v := .ref (c.x.fa n)) (show X.env.scope.names.lookup y = _ by rw [sx.sc]; exact hg) (by rw [sx.mg]; exact e) rfl hd, fun σ ρ al S H Q s r h => fin_sh (x := c.x) (n0 := c.n0) (d := .fn n) (by unfold evE at h; exact h) s (.fn n)⟩

/-! ### operators -/
def opOf : BO → Operator
  | .add => .Add
  | .sub => .Sub
  | .mul => .Mult
  | .fdiv => .FloorDiv
  | .mod => .Mod
  | .pow => .Pow
def rBin (x : Fx) (n0 : Nat) (Wx : WH) (o : BO) : R2 := fun u v H Q => ∃ al S d1 d2, StR x al S H ∧ View x al H u d1 ∧ View x al H v d2 ∧ PostE x n0 al H Wx Q (binD o d1 d2 S)
theorem opBin (hK : X.K = c.x.K) (o : BO) : OpR X (binaryOp (opOf o)) (rBin c.x c.n0 Wx o) := by
  intro pins s σ H u v uv vv Q I ru rv h
  obtain ⟨al, S, d1, d2, st, v1, v2, p⟩ := h
  cases d1 with
  | int i =>
    have e1 := v1.int
    subst e1
    cases d2 with
    | int j =>
      have e2 := v2.int
      subst e2
      have p' : Pst (XPo c.x c.n0 al H Wx) (VE c.x c.n0 al H Q) (rOpt ((binI o i j).map fun k => .sh (.p (.int k))) S) := p
      obtain ⟨b, eb, q⟩ := pst_rOpt p'
      obtain ⟨k, ek, e3⟩ := Option.map_eq_some_iff.mp eb
      subst e3
      have q' : Q (.int k) H := fin_sh q st (.int k)
      cases o with
      | add =>
        have : i + j = k := Option.some.inj ek
        subst this
        exact op_add pins s σ H _ _ uv vv Q I ru rv ⟨i, j, rfl, rfl, q'⟩
      | sub =>
        have : i - j = k := Option.some.inj ek
        subst this
        exact op_sub pins s σ H _ _ uv vv Q I ru rv ⟨i, j, rfl, rfl, q'⟩
      | mul =>
        have ek : (if i.natAbs.log2 + j.natAbs.log2 < 1000000 then some (i * j) else none) = some k := ek
        by_cases hc : i.natAbs.log2 + j.natAbs.log2 < 1000000
        · rw [if_pos hc] at ek
          cases ek
          exact op_mulW pins s σ H _ _ uv vv Q I ru rv ⟨i, j, rfl, rfl, hc, q'⟩
        · rw [if_neg hc] at ek; cases ek
      | fdiv =>
        have ek : (if 0 < j ∧ j.natAbs.log2 < 9000 then some (i / j) else none) = some k := ek
        by_cases hc : 0 < j ∧ j.natAbs.log2 < 9000
        · rw [if_pos hc] at ek
          cases ek
          exact op_fdivW pins s σ H _ _ uv vv Q I ru rv ⟨i, j, rfl, rfl, hc, q'⟩
        · rw [if_neg hc] at ek; cases ek
      | mod =>
        have ek : (if 0 < j then some (i % j) else none) = some k := ek
        by_cases hc : 0 < j
        · rw [if_pos hc] at ek
          cases ek
          exact op_mod pins s σ H _ _ uv vv Q I ru rv ⟨i, j, rfl, rfl, hc, q'⟩
        · rw [if_neg hc] at ek; cases ek
      | pow =>
        have ek : (if 0 ≤ j ∧ j ≤ 1000000 ∧ i.natAbs < 2 ^ 64 then some (i ^ j.toNat) else none) = some k := ek
        by_cases hc : 0 ≤ j ∧ j ≤ 1000000 ∧ i.natAbs < 2 ^ 64
        · rw [if_pos hc] at ek
          cases ek
          exact op_pow pins s σ H _ _ uv vv Q I ru rv ⟨i, j, rfl, rfl, hc, q'⟩
        · rw [if_neg hc] at ek; cases ek
    | _ => exact (show False from p).elim
  | str a =>
    have e1 := v1.str
    subst e1
    cases d2 with
    | str b =>
      have e2 := v2.str
      subst e2
      cases o with
      | add =>
        have p : Pst (XPo c.x c.n0 al H Wx) (VE c.x c.n0 al H Q) (if a.length + b.length ≤ sizeLine then shD (.str (a ++ b)) S else .bad) := p
        by_cases hc : a.length + b.length ≤ sizeLine
        · rw [if_pos hc] at p
          exact op_add_str pins s σ H _ _ uv vv Q I ru rv ⟨a, b, rfl, rfl, hc, fin_sh (d := .str (a ++ b)) p st (.str _)⟩
        · rw [if_neg hc] at p; exact (show False from p).elim
      | _ => exact (show False from p).elim
    | _ => exact (show False from p).elim
  | lst ds =>
    obtain ⟨a, vs, rfl, e1, r1⟩ := v1.lst
    cases d2 with
    | lst es =>
      obtain ⟨b, ws, rfl, e2, r2⟩ := v2.lst
      cases o with
      | add =>
        have p : Pst (XPo c.x c.n0 al H Wx) (VE c.x c.n0 al H Q) (if ds.length + es.length ≤ sizeLine then frL (ds ++ es) S else .bad) := p
        by_cases hc : ds.length + es.length ≤ sizeLine
        · rw [if_pos hc] at p
          exact op_catS pins s σ H _ _ uv vv Q I ru rv ⟨a, b, vs, ws, rfl, rfl, by rw [hK]; exact e1, by rw [hK]; exact e2, by rw [r1.length, r2.length]; exact hc, fun l nl => fin_lst (ds := ds ++ es) p st nl (r1.append r2)⟩
        · rw [if_neg hc] at p; exact (show False from p).elim
      | _ => exact (show False from p).elim
    | int k =>
      have e2 := v2.int
      subst e2
      cases o with
      | mul =>
        have p : Pst (XPo c.x c.n0 al H Wx) (VE c.x c.n0 al H Q) (if -(2 ^ 63) ≤ k ∧ k < 2 ^ 63 ∧ ds.length * k.toNat ≤ sizeLine then frL (List.replicate k.toNat ds).flatten S else .bad) := p
        by_cases hc : -(2 ^ 63) ≤ k ∧ k < 2 ^ 63 ∧ ds.length * k.toNat ≤ sizeLine
        · rw [if_pos hc] at p
          exact op_repS pins s σ H _ _ uv vv Q I ru rv ⟨a, k, vs, rfl, rfl, by rw [hK]; exact e1, hc.1, hc.2.1, by rw [r1.length]; exact hc.2.2, fun l nl => fin_lst (ds := (List.replicate k.toNat ds).flatten) p st nl (r1.rep _)⟩
        · rw [if_neg hc] at p; exact (show False from p).elim
      | _ => exact (show False from p).elim
    | _ => exact (show False from p).elim
  | tup ds =>
    obtain ⟨a, vs, rfl, e1, r1⟩ := v1.tup
    cases d2 with
    | tup es =>
      obtain ⟨b, ws, rfl, e2, r2⟩ := v2.tup
      cases o with
      | add =>
        have p : Pst (XPo c.x c.n0 al H Wx) (VE c.x c.n0 al H Q) (if ds.length + es.length ≤ sizeLine then shD (.tup (ds ++ es)) S else .bad) := p
        by_cases hc : ds.length + es.length ≤ sizeLine
        · rw [if_pos hc] at p
          have l1 := r1.length
          have l2 := r2.length
          refine op_catA pins s σ H _ _ uv vv Q I ru rv ⟨a, b, vs, ws, rfl, rfl, by rw [hK]; exact e1, by rw [hK]; exact e2, by omega, fun h0 => ?_, fun h0 h1 => ?_, fun _ _ l nl => fin_tup (ds := ds ++ es) p st nl (r1.append r2)⟩
          · subst h0
            have : ds = [] := List.eq_nil_of_length_eq_zero l1.symm
            subst this
            cases v2 with
            | p rr => exact fin_sh p st rr
          · subst h1
            have : es = [] := List.eq_nil_of_length_eq_zero l2.symm
            subst this
            rw [List.append_nil] at p
            cases v1 with
            | p rr => exact fin_sh p st rr
        · rw [if_neg hc] at p; exact (show False from p).elim
      | _ => exact (show False from p).elim
    | int k =>
      have e2 := v2.int
      subst e2
      cases o with
      | mul =>
        have p : Pst (XPo c.x c.n0 al H Wx) (VE c.x c.n0 al H Q) (if 2 ≤ k ∧ k ≤ 1000 ∧ ds.length ≤ 1000 then shD (.tup (List.replicate k.toNat ds).flatten) S else .bad) := p
        by_cases hc : 2 ≤ k ∧ k ≤ 1000 ∧ ds.length ≤ 1000
        · rw [if_pos hc] at p
          have l1 := r1.length
          by_cases h0 : ds = []
          · subst h0
            have : vs = [] := List.eq_nil_of_length_eq_zero l1
            subst this
            have e0 : (List.replicate k.toNat ([] : List D)).flatten = [] := by simp
            rw [e0] at p
            refine op_rep0 pins s σ H _ _ uv vv Q I ru rv ⟨a, k, rfl, rfl, by rw [hK]; exact e1, hc.1, hc.2.1, ?_⟩
            cases v1 with
            | p rr => exact fin_sh (d := .tup []) p st rr
          · refine op_repT pins s σ H _ _ uv vv Q I ru rv ⟨a, k, vs, rfl, rfl, by rw [hK]; exact e1, fun h0' => h0 ?_, hc.1, hc.2.1, by omega, fun l nl => fin_tup (ds := (List.replicate k.toNat ds).flatten) p st nl (r1.rep _)⟩
            subst h0'
            exact List.eq_nil_of_length_eq_zero l1.symm
        · rw [if_neg hc] at p; exact (show False from p).elim
      | _ => exact (show False from p).elim
    | _ => exact (show False from p).elim
  | _ => exact (show False from p).elim
theorem ok_bin {o : BO} {a b : CE} {ea eb : Expr} {pos : Pos} (sx : Sx c k N sc X) (ha : OkD c X Wx a ea) (hb : OkD c X Wx b eb) : OkE c X Wx (.bin o a b) (.BinOp ea (opOf o) eb pos) := by
  obtain ⟨ta, pa, qa⟩ := ha
  obtain ⟨tb, pb, qb⟩ := hb
  refine ⟨_, pe_op (opBin (Wx := Wx) sx.K o) pa pb, fun σ ρ al S H Q s r h => ?_⟩
  unfold evE at h
  refine thenD (Φ := fun al H => VE c.x c.n0 al H Q) (fun k e h => VE.re k e h) qa s r h fun w1 S1 v1 al1 H1 k1 e1 s1 r1 rw1 h1 => ?_
  refine thenD (Φ := fun al H => VE c.x c.n0 al H Q) (fun k e h => VE.re k e h) qb s1 r1 h1 fun w2 S2 v2 al2 H2 k2 e2 s2 r2 rw2 h2 => ?_
  have rw1' := rw1.mono e2 k2
  unfold binW at h2
  split at h2
  · rename_i d1 d2 q1 q2
    exact ⟨al2, S2, d1, d2, s2, view_of s2 rw1' q1, view_of s2 rw2 q2, h2⟩
  · exact (show False from h2).elim
end
end DL

set_option Elab.async false
set_option linter.all false
set_option maxRecDepth 100000
set_option maxHeartbeats 4000000
/-! DL5: comparisons, tests, displays, subscripts. -/
namespace DL
open PySem PySem.Spec PyProof.Rows L2

/-! ### data as the library's data -/
section
variable {x : Fx} {al : Als} {H : Hp}
mutual
theorem rep_dp : ∀ {d : D} {v : V} {pd : PyData}, x.R (hide al H) v d → d.py = some pd → Dp x.K H v pd
  | .non, _, _, h, e => by cases h; cases e; exact .non
  | .bl b, _, _, h, e => by cases h; cases e; exact .bl b
  | .int i, _, _, h, e => by cases h; cases e; exact .int i
  | .str i, _, _, h, e => by cases h; cases e; exact .str i
  | .lst ds, _, _, h, e => by
    cases h with
    | lst hs hr =>
      have e : (D.py.pyL ds).map PyData.list = some _ := e
      obtain ⟨ps, e1, e2⟩ := Option.map_eq_some_iff.mp e
      subst e2
      exact .lst (hide_sqL hs) (reps_dp hr e1)
  | .tup ds, _, _, h, e => by
    cases h with
    | tup hs hr =>
      have e : (D.py.pyL ds).map PyData.tuple = some _ := e
      obtain ⟨ps, e1, e2⟩ := Option.map_eq_some_iff.mp e
      subst e2
      exact .tup (hide_sqT hs) (reps_dp hr e1)
  | .fn _, _, _, _, e => by cases e
  | .dic _ _, _, _, _, e => by cases e
theorem reps_dp : ∀ {ds : List D} {vs : List V} {ps : List PyData}, x.Rs (hide al H) vs ds → D.py.pyL ds = some ps → DpAll x.K H vs ps
  | [], _, _, h, e => by cases h; cases e; exact .nil
  | d :: ds, _, _, h, e => by
    cases h with
    | cons h1 h2 =>
      have e : (d.py.bind fun p => (D.py.pyL ds).bind fun ps => pure (p :: ps)) = some _ := e
      obtain ⟨p, e1, e⟩ := Option.bind_eq_some_iff.mp e
      obtain ⟨ps, e2, e⟩ := Option.bind_eq_some_iff.mp e
      cases e
      exact .cons (rep_dp h1 e1) (reps_dp h2 e2)
end
theorem View.dp {v : V} {d : D} {pd : PyData} (h : View x al H v d) (e : d.py = some pd) : Dp x.K H v pd := by
  cases h with
  | p r => exact rep_dp r e
  | o e1 r =>
    rename_i a vs ds
    have e : (D.py.pyL ds).map PyData.list = some _ := e
    obtain ⟨ps, e2, e3⟩ := Option.map_eq_some_iff.mp e
    subst e3
    exact .lst (.inl (.inl e1)) (reps_dp r e2)
end

section
variable {c : Ct} {q : Nm} {k : Nat} {N : List Str} {sc : Scope} {X : Cx} {Wx : WH}
def copOf : CO → CmpOp
  | .eq => .Eq
  | .ne => .NotEq
  | .lt => .Lt
  | .le => .LtE
  | .gt => .Gt
  | .ge => .GtE
  | .inn => .In
  | .nin => .NotIn
def rCmp (x : Fx) (o : CO) : R2 := fun u v H Q => ∃ al S d1 d2 b, StR x al S H ∧ View x al H u d1 ∧ View x al H v d2 ∧ cmpD o d1 d2 = some b ∧ Q (.bl b) H
theorem op_inDT (hu : X.A.units + 65 < cLine) : OpR X (compareOp .In) (fun x y H Q => ∃ d ds, Dp X.K H x d ∧ Dp X.K H y (.tuple ds) ∧ SeqAt.shaped d = true ∧ SeqAt.shaped (.tuple ds) = true ∧ Q (.bl (ds.any fun z => PyData.eqv z d)) H) := by
  intro pins s σ H x y v u Q I rx ry h
  obtain ⟨d, ds, hd, he, sd, se, q⟩ := h
  obtain ⟨as, r1⟩ := Dp.reads I d x v hd rx
  obtain ⟨bs, r2⟩ := Dp.reads I (.tuple ds) y u he ry
  exact SeqAt.in_tuple_reads r2 r1 (SeqAt.canLay_of_shaped se) (SeqAt.canLay_of_shaped sd) (room_in_shaped sd hu) ⟨.bl _, H, I, rfl, q⟩
theorem op_ninDT (hu : X.A.units + 65 < cLine) : OpR X (compareOp .NotIn) (fun x y H Q => ∃ d ds, Dp X.K H x d ∧ Dp X.K H y (.tuple ds) ∧ SeqAt.shaped d = true ∧ SeqAt.shaped (.tuple ds) = true ∧ Q (.bl (!ds.any fun z => PyData.eqv z d)) H) := by
  intro pins s σ H x y v u Q I rx ry h
  obtain ⟨d, ds, hd, he, sd, se, q⟩ := h
  obtain ⟨as, r1⟩ := Dp.reads I d x v hd rx
  obtain ⟨bs, r2⟩ := Dp.reads I (.tuple ds) y u he ry
  exact SeqAt.notIn_tuple_reads r2 r1 (SeqAt.canLay_of_shaped se) (SeqAt.canLay_of_shaped sd) (room_in_shaped sd hu) ⟨.bl _, H, I, rfl, q⟩
theorem eqD_some {a b : D} {r : Bool} (h : eqD a b = some r) : ∃ p p', a.py = some p ∧ b.py = some p' ∧ SeqAt.shaped p = true ∧ SeqAt.shaped p' = true ∧ PyData.eqv p p' = r := by
  have h : (a.py.bind fun x => b.py.bind fun y => if (SeqAt.shaped x && SeqAt.shaped y) = true then some (PyData.eqv x y) else none) = some r := h
  obtain ⟨p, e1, h⟩ := Option.bind_eq_some_iff.mp h
  obtain ⟨p', e2, h⟩ := Option.bind_eq_some_iff.mp h
  by_cases hc : (SeqAt.shaped p && SeqAt.shaped p') = true
  · rw [if_pos hc] at h
    obtain ⟨c1, c2⟩ := Bool.and_eq_true_iff.mp hc
    exact ⟨p, p', e1, e2, c1, c2, Option.some.inj h⟩
  · rw [if_neg hc] at h; cases h
theorem inD_some {a : D} {ds : List D} {r : Bool} (h : inD a ds = some r) : ∃ p ps, a.py = some p ∧ D.py.pyL ds = some ps ∧ SeqAt.shaped p = true ∧ SeqAt.shaped (.list ps) = true ∧ (ps.any fun z => PyData.eqv z p) = r := by
  have h : (a.py.bind fun x => (D.py.pyL ds).bind fun ys => if (SeqAt.shaped x && SeqAt.shaped (.list ys)) = true then some (ys.any fun z => PyData.eqv z x) else none) = some r := h
  obtain ⟨p, e1, h⟩ := Option.bind_eq_some_iff.mp h
  obtain ⟨p', e2, h⟩ := Option.bind_eq_some_iff.mp h
  by_cases hc : (SeqAt.shaped p && SeqAt.shaped (.list p')) = true
  · rw [if_pos hc] at h
    obtain ⟨c1, c2⟩ := Bool.and_eq_true_iff.mp hc
    exact ⟨p, p', e1, e2, c1, c2, Option.some.inj h⟩
  · rw [if_neg hc] at h; cases h
theorem shaped_lt {ps : List PyData} (h : SeqAt.shaped (.list ps) = true) : SeqAt.shaped (.tuple ps) = true := h
theorem opCmp (hK : X.K = c.x.K) (hu : X.A.units + 65 < cLine) (o : CO) : OpR X (compareOp (copOf o)) (rCmp c.x o) := by
  intro pins s σ H u v uv vv Q I ru rv h
  obtain ⟨al, S, d1, d2, b, st, v1, v2, e, q⟩ := h
  have inL : ∀ {ds : List D} {r : Bool}, d2 = .lst ds → inD d1 ds = some r → ∃ d es, Dp X.K H u d ∧ Dp X.K H v (.list es) ∧ SeqAt.shaped d = true ∧ SeqAt.shaped (.list es) = true ∧ (es.any fun z => PyData.eqv z d) = r := by
    intro ds r e0 e1
    subst e0
    obtain ⟨p, ps, a1, a2, a3, a4, a5⟩ := inD_some e1
    exact ⟨p, ps, by rw [hK]; exact v1.dp a1, by rw [hK]; exact v2.dp (show (D.py.pyL ds).map PyData.list = _ by rw [a2]; rfl), a3, a4, a5⟩
  have inT : ∀ {ds : List D} {r : Bool}, d2 = .tup ds → inD d1 ds = some r → ∃ d es, Dp X.K H u d ∧ Dp X.K H v (.tuple es) ∧ SeqAt.shaped d = true ∧ SeqAt.shaped (.tuple es) = true ∧ (es.any fun z => PyData.eqv z d) = r := by
    intro ds r e0 e1
    subst e0
    obtain ⟨p, ps, a1, a2, a3, a4, a5⟩ := inD_some e1
    exact ⟨p, ps, by rw [hK]; exact v1.dp a1, by rw [hK]; exact v2.dp (show (D.py.pyL ds).map PyData.tuple = _ by rw [a2]; rfl), a3, shaped_lt a4, a5⟩
  cases o with
  | eq =>
    obtain ⟨p, p', a1, a2, a3, a4, a5⟩ := eqD_some (show eqD d1 d2 = some b from e)
    exact op_eqD (by omega) pins s σ H _ _ uv vv Q I ru rv ⟨p, p', by rw [hK]; exact v1.dp a1, by rw [hK]; exact v2.dp a2, a3, a4, by rw [a5]; exact q⟩
  | ne =>
    obtain ⟨r, e1, e2⟩ := Option.map_eq_some_iff.mp (show (eqD d1 d2).map not = some b from e)
    obtain ⟨p, p', a1, a2, a3, a4, a5⟩ := eqD_some e1
    exact op_neD (by omega) pins s σ H _ _ uv vv Q I ru rv ⟨p, p', by rw [hK]; exact v1.dp a1, by rw [hK]; exact v2.dp a2, a3, a4, by rw [a5, e2]; exact q⟩
  | inn =>
    cases d2 with
    | str y =>
      have ey := v2.str
      subst ey
      cases d1 with
      | str z =>
        have ez := v1.str
        subst ez
        exact op_in_str pins s σ H _ _ uv vv Q I ru rv ⟨z, y, rfl, rfl, by rw [Option.some.inj (show some (!(Builtin.Str.occurrences y z 0 y.length 1).isEmpty) = some b from e)]; exact q⟩
      | _ => cases (show (none : Option Bool) = some b from e)
    | lst ds =>
      obtain ⟨d, es, a1, a2, a3, a4, a5⟩ := inL rfl (show inD d1 ds = some b from e)
      exact op_inD hu pins s σ H _ _ uv vv Q I ru rv ⟨d, es, a1, a2, a3, a4, by rw [a5]; exact q⟩
    | tup ds =>
      obtain ⟨d, es, a1, a2, a3, a4, a5⟩ := inT rfl (show inD d1 ds = some b from e)
      exact op_inDT hu pins s σ H _ _ uv vv Q I ru rv ⟨d, es, a1, a2, a3, a4, by rw [a5]; exact q⟩
    | _ => cases (show (none : Option Bool) = some b from e)
  | nin =>
    cases d2 with
    | str y =>
      have ey := v2.str
      subst ey
      cases d1 with
      | str z =>
        have ez := v1.str
        subst ez
        exact op_notIn_str pins s σ H _ _ uv vv Q I ru rv ⟨z, y, rfl, rfl, by rw [Option.some.inj (show some (!(!(Builtin.Str.occurrences y z 0 y.length 1).isEmpty)) = some b from e)]; exact q⟩
      | _ => cases (show (none : Option Bool) = some b from e)
    | lst ds =>
      obtain ⟨r, e1, e2⟩ := Option.map_eq_some_iff.mp (show (inD d1 ds).map not = some b from e)
      obtain ⟨d, es, a1, a2, a3, a4, a5⟩ := inL rfl e1
      exact op_notInD hu pins s σ H _ _ uv vv Q I ru rv ⟨d, es, a1, a2, a3, a4, by rw [a5, e2]; exact q⟩
    | tup ds =>
      obtain ⟨r, e1, e2⟩ := Option.map_eq_some_iff.mp (show (inD d1 ds).map not = some b from e)
      obtain ⟨d, es, a1, a2, a3, a4, a5⟩ := inT rfl e1
      exact op_ninDT hu pins s σ H _ _ uv vv Q I ru rv ⟨d, es, a1, a2, a3, a4, by rw [a5, e2]; exact q⟩
    | _ => cases (show (none : Option Bool) = some b from e)
  | lt =>
    cases d1 with
    | int i =>
      cases d2 with
      | int j =>
        have e1 := v1.int
        have e2 := v2.int
        subst e1 e2
        obtain rfl : decide (i < j) = b := Option.some.inj e
        exact op_lt pins s σ H _ _ uv vv Q I ru rv ⟨i, j, rfl, rfl, q⟩
      | _ => cases (show (none : Option Bool) = some b from e)
    | _ => cases (show (none : Option Bool) = some b from e)
  | le =>
    cases d1 with
    | int i =>
      cases d2 with
      | int j =>
        have e1 := v1.int
        have e2 := v2.int
        subst e1 e2
        obtain rfl : decide (i ≤ j) = b := Option.some.inj e
        exact op_le pins s σ H _ _ uv vv Q I ru rv ⟨i, j, rfl, rfl, q⟩
      | _ => cases (show (none : Option Bool) = some b from e)
    | _ => cases (show (none : Option Bool) = some b from e)
  | gt =>
    cases d1 with
    | int i =>
      cases d2 with
      | int j =>
        have e1 := v1.int
        have e2 := v2.int
        subst e1 e2
        obtain rfl : decide (j < i) = b := Option.some.inj e
        exact op_gt pins s σ H _ _ uv vv Q I ru rv ⟨i, j, rfl, rfl, q⟩
      | _ => cases (show (none : Option Bool) = some b from e)
    | _ => cases (show (none : Option Bool) = some b from e)
  | ge =>
    cases d1 with
    | int i =>
      cases d2 with
      | int j =>
        have e1 := v1.int
        have e2 := v2.int
        subst e1 e2
        obtain rfl : decide (j ≤ i) = b := Option.some.inj e
        exact op_ge pins s σ H _ _ uv vv Q I ru rv ⟨i, j, rfl, rfl, q⟩
      | _ => cases (show (none : Option Bool) = some b from e)
    | _ => cases (show (none : Option Bool) = some b from e)
theorem Sx.u65 (sx : Sx c k N sc X) : X.A.units + 65 < cLine := by
  have := sx.room.un
  omega
theorem Sx.u64 (sx : Sx c k N sc X) : X.A.units + 64 < cLine := sx.room.units
theorem cmpW_some {o : CO} {a b : W} {S : Sto} {r : Bool} (h : cmpW o a b S = some r) : ∃ d1 d2, den S a = some d1 ∧ den S b = some d2 ∧ cmpD o d1 d2 = some r := by
  unfold cmpW at h
  split at h
  · rename_i d1 d2 q1 q2
    exact ⟨d1, d2, q1, q2, h⟩
  · cases h
theorem okP_cmp {o : CO} {a b : CE} {ea eb : Expr} {pos : Pos} (sx : Sx c k N sc X) (ha : OkD c X Wx a ea) (hb : OkD c X Wx b eb) (hm : behindInMarks (copOf o) eb = false) : OkP c X Wx (.cmp o a b) (.Compare ea [copOf o] [eb] pos) := by
  obtain ⟨ta, pa, qa⟩ := ha
  obtain ⟨tb, pb, qb⟩ := hb
  refine ⟨_, pe_cmpR (opCmp sx.K sx.u65 o) pa pb hm, pt_cmpR (opCmp sx.K sx.u65 o) pa pb hm, fun σ ρ al S H Q s r h => ?_⟩
  unfold evE at h
  refine thenD (Φ := fun al H => VE c.x c.n0 al H Q) (fun k e h => VE.re k e h) qa s r h fun w1 S1 v1 al1 H1 k1 e1 s1 r1 rw1 h1 => ?_
  refine thenD (Φ := fun al H => VE c.x c.n0 al H Q) (fun k e h => VE.re k e h) qb s1 r1 h1 fun w2 S2 v2 al2 H2 k2 e2 s2 r2 rw2 h2 => ?_
  obtain ⟨b, eb, q⟩ := pst_rOpt h2
  obtain ⟨kk, ek, e3⟩ := Option.map_eq_some_iff.mp eb
  subst e3
  obtain ⟨d1, d2, q1, q2, q3⟩ := cmpW_some ek
  exact ⟨al2, S2, d1, d2, kk, s2, view_of s2 (rw1.mono e2 k2) q1, view_of s2 rw2 q2, q3, fin_sh q s2 (.bl kk)⟩
theorem ok_neg {a : CE} {ea : Expr} {pos : Pos} (ha : OkD c X Wx a ea) : OkE c X Wx (.neg a) (.UnaryOp .USub ea pos) := by
  obtain ⟨ta, pa, qa⟩ := ha
  refine ⟨_, pe_un un_neg pa, fun σ ρ al S H Q s r h => ?_⟩
  unfold evE at h
  refine thenD (Φ := fun al H => VE c.x c.n0 al H Q) (fun k e h => VE.re k e h) qa s r h fun w1 S1 v1 al1 H1 k1 e1 s1 r1 rw1 h1 => ?_
  split at h1
  · rename_i i
    have := Rep.int_inv (show c.x.R _ v1 (.int i) from rw1)
    subst this
    exact ⟨i, rfl, fin_sh (d := .int (-i)) h1 s1 (.int _)⟩
  · exact (show False from h1).elim
theorem okP_isN {a : CE} {ea : Expr} {j : Nat} {pos pos' : Pos} (ha : OkD c X Wx a ea) : OkP c X Wx (.isN true a) (.Compare ea [.Is] [.Constant .none j pos'] pos) := by
  obtain ⟨ta, pa, qa⟩ := ha
  refine ⟨_, pe_cmpR op_isN pa pe_non (nomark _), pt_cmpR op_isN pa pe_non (nomark _), fun σ ρ al S H Q s r h => ?_⟩
  unfold evE at h
  refine thenD (Φ := fun al H => VE c.x c.n0 al H Q) (fun k e h => VE.re k e h) qa s r h fun w1 S1 v1 al1 H1 k1 e1 s1 r1 rw1 h1 => ?_
  refine ⟨rfl, ?_⟩
  split at h1
  · have := Rep.non_inv (show c.x.R _ v1 .non from rw1)
    subst this
    exact fin_sh (d := .bl true) h1 s1 (.bl _)
  · rename_i d hd
    have hne : v1 ≠ .non := by
      rintro rfl
      have rr : c.x.R (hide al1 H1) .non d := rw1
      cases rr
      exact hd rfl
    rw [decide_eq_false hne]
    exact fin_sh (d := .bl false) h1 s1 (.bl _)
  · exact (show False from h1).elim
theorem okP_notN {a : CE} {ea : Expr} {j : Nat} {pos pos' : Pos} (ha : OkD c X Wx a ea) : OkP c X Wx (.isN false a) (.Compare ea [.IsNot] [.Constant .none j pos'] pos) := by
  obtain ⟨ta, pa, qa⟩ := ha
  refine ⟨_, pe_cmpR op_notN pa pe_non (nomark _), pt_cmpR op_notN pa pe_non (nomark _), fun σ ρ al S H Q s r h => ?_⟩
  unfold evE at h
  refine thenD (Φ := fun al H => VE c.x c.n0 al H Q) (fun k e h => VE.re k e h) qa s r h fun w1 S1 v1 al1 H1 k1 e1 s1 r1 rw1 h1 => ?_
  refine ⟨rfl, ?_⟩
  split at h1
  · have := Rep.non_inv (show c.x.R _ v1 .non from rw1)
    subst this
    exact fin_sh (d := .bl false) h1 s1 (.bl _)
  · rename_i d hd
    have hne : v1 ≠ .non := by
      rintro rfl
      have rr : c.x.R (hide al1 H1) .non d := rw1
      cases rr
      exact hd rfl
    rw [decide_eq_false hne]
    exact fin_sh (d := .bl true) h1 s1 (.bl _)
  · exact (show False from h1).elim
/-! ### and, or, not, if -/
theorem ok_not {a : CE} {ea : Expr} {pos : Pos} (ha : OkD c X Wx a ea) : OkE c X Wx (.nt a) (.UnaryOp .Not ea pos) := by
  obtain ⟨ta, pa, qa⟩ := ha
  refine ⟨_, pe_not pa, fun σ ρ al S H Q s r h => ?_⟩
  unfold evE at h
  refine thenD (Φ := fun al H => VE c.x c.n0 al H Q) (fun k e h => VE.re k e h) qa s r h fun w1 S1 v1 al1 H1 k1 e1 s1 r1 rw1 h1 => ?_
  split at h1
  · rename_i b
    have := Rep.bl_inv (show c.x.R _ v1 (.bl b) from rw1)
    subst this
    exact ⟨b, rfl, fin_sh (d := .bl !b) h1 s1 (.bl _)⟩
  · exact (show False from h1).elim
theorem ok_one {o : BoolOp} {a : CE} {ea : Expr} {pos : Pos} (ha : OkE c X Wx a ea) : OkE c X Wx a (.BoolOp o [ea] pos) := by
  obtain ⟨ta, pa, qa⟩ := ha
  exact ⟨_, pe_one pa, qa⟩
theorem ok_and {a b : CE} {ea eb : Expr} {rest : List Expr} {pos : Pos} (ha : OkD c X Wx a ea) (hb : OkE c X Wx b (.BoolOp .And (eb :: rest) pos)) : OkE c X Wx (.and_ a b) (.BoolOp .And (ea :: eb :: rest) pos) := by
  obtain ⟨ta, pa, qa⟩ := ha
  obtain ⟨tb, pb, qb⟩ := hb
  refine ⟨_, pe_and pa pb, fun σ ρ al S H Q s r h => ?_⟩
  unfold evE at h
  refine thenD (Φ := fun al H => VE c.x c.n0 al H Q) (fun k e h => VE.re k e h) qa s r h fun w1 S1 v1 al1 H1 k1 e1 s1 r1 rw1 h1 => ?_
  split at h1
  · rename_i b
    have := Rep.bl_inv (show c.x.R _ v1 (.bl b) from rw1)
    subst this
    refine ⟨b, rfl, ?_⟩
    cases b with
    | true => exact qb σ ρ al1 S1 H1 Q s1 r1 h1
    | false => exact fin_sh (d := .bl false) h1 s1 (.bl _)
  · exact (show False from h1).elim
theorem ok_or {a b : CE} {ea eb : Expr} {rest : List Expr} {pos : Pos} (ha : OkD c X Wx a ea) (hb : OkE c X Wx b (.BoolOp .Or (eb :: rest) pos)) : OkE c X Wx (.or_ a b) (.BoolOp .Or (ea :: eb :: rest) pos) := by
  obtain ⟨ta, pa, qa⟩ := ha
  obtain ⟨tb, pb, qb⟩ := hb
  refine ⟨_, pe_or pa pb, fun σ ρ al S H Q s r h => ?_⟩
  unfold evE at h
  refine thenD (Φ := fun al H => VE c.x c.n0 al H Q) (fun k e h => VE.re k e h) qa s r h fun w1 S1 v1 al1 H1 k1 e1 s1 r1 rw1 h1 => ?_
  split at h1
  · rename_i b
    have := Rep.bl_inv (show c.x.R _ v1 (.bl b) from rw1)
    subst this
    refine ⟨b, rfl, ?_⟩
    cases b with
    | false => exact qb σ ρ al1 S1 H1 Q s1 r1 h1
    | true => exact fin_sh (d := .bl true) h1 s1 (.bl _)
  · exact (show False from h1).elim
theorem ok_ife {t : CT} {a b : CE} {et ea eb : Expr} {pos : Pos} (ht : OkT c X Wx t et) (ha : OkE c X Wx a ea) (hb : OkE c X Wx b eb) : OkE c X Wx (.ife t a b) (.IfExp et ea eb pos) := by
  obtain ⟨tt, pt, qt⟩ := ht
  obtain ⟨ta, pa, qa⟩ := ha
  obtain ⟨tb, pb, qb⟩ := hb
  refine ⟨_, pe_ifExp pt pa pb, fun σ ρ al S H Q s r h => ?_⟩
  unfold evE at h
  refine thenT (Φ := fun al H => VE c.x c.n0 al H Q) (fun k e h => VE.re k e h) qt s r h fun b1 S1 al1 H1 k1 e1 s1 r1 h1 => ?_
  cases b1 with
  | true => exact qa σ ρ al1 S1 H1 Q s1 r1 h1
  | false => exact qb σ ρ al1 S1 H1 Q s1 r1 h1

/-! ### tests -/
theorem tru_of {x : Fx} {al : Als} {H : Hp} {v : V} {d : D} {b : Bool} (h : View x al H v d) (e : truD d = some b) : TruV x.K v H b := by
  cases d with
  | non =>
    rw [h.non]
    exact (Option.some.inj e).symm
  | bl i =>
    rw [h.bl]
    exact (Option.some.inj e).symm
  | int i =>
    rw [h.int]
    exact (Option.some.inj e).symm
  | str y =>
    rw [h.str]
    have e : (if y.length ≤ sizeLine then some ((y.length : Int) != 0) else none) = some b := e
    by_cases hc : y.length ≤ sizeLine
    · rw [if_pos hc] at e
      exact ⟨hc, (Option.some.inj e).symm⟩
    · rw [if_neg hc] at e; cases e
  | lst ds =>
    obtain ⟨a, vs, rfl, e1, r1⟩ := h.lst
    have hl := r1.length
    refine .inl ⟨vs, e1, ?_⟩
    rw [← Option.some.inj (show some (!ds.isEmpty) = some b from e)]
    cases r1 <;> rfl
  | tup ds =>
    obtain ⟨a, vs, rfl, e1, r1⟩ := h.tup
    refine .inr (.inl ⟨vs, e1, ?_⟩)
    rw [← Option.some.inj (show some (!ds.isEmpty) = some b from e)]
    cases r1 <;> rfl
  | _ => cases e
theorem okT_v {a : CE} {ea : Expr} (sx : Sx c k N sc X) (ha : OkD c X Wx a ea) (he : ∀ whole, isTrue ea X.env whole = (do let v ← whole; standAt ea.pos; holding [v] (truthy v))) : OkT c X Wx (.v a) ea := by
  obtain ⟨ta, pa, qa⟩ := ha
  refine ⟨_, pt_truth pa he, fun σ ρ al S H Q s r h => ?_⟩
  unfold evT at h
  refine thenD (Φ := fun al H => VB c.x c.n0 al H Q) (fun k e h => VB.re k e h) qa s r h fun w1 S1 v1 al1 H1 k1 e1 s1 r1 rw1 h1 => ?_
  obtain ⟨b, eb, q⟩ := pst_rOpt h1
  obtain ⟨d, ed, et⟩ := Option.bind_eq_some_iff.mp eb
  exact ⟨b, by rw [sx.K]; exact tru_of (view_of s1 rw1 ed) et, q H1 al1 (Kl.refl _ _) (Ext.refl _) s1⟩
/-- a comparison as a test -/
theorem okT_b {a : CE} {ea : Expr} (ha : OkP c X Wx a ea) (hb : ∀ ρ S w S', (evE c.g c.n0 a ρ S).w = .ok w S' → ∃ b, w = .p (.bl b)) : OkT c X Wx (.v a) ea := by
  obtain ⟨ta, pa, pt, qa⟩ := ha
  refine ⟨_, pt, fun σ ρ al S H Q s r h => ?_⟩
  unfold evT at h
  refine qa σ ρ al S H _ s r (VE.of_w ?_)
  cases e : (evE c.g c.n0 a ρ S).w with
  | bad => rw [e] at h; exact h
  | exc x S' => rw [e] at h; exact h
  | ok w S' =>
    obtain ⟨b, rfl⟩ := hb ρ S w S' e
    rw [e] at h
    intro v H' al' k e' s' r'
    have := Rep.bl_inv (show c.x.R _ v (.bl b) from r')
    subst this
    exact ⟨b, rfl, (show VB c.x c.n0 al H Q b S' from h) H' al' k e' s'⟩
theorem okT_not {a : CT} {ea : Expr} {pos : Pos} (ha : OkT c X Wx a ea) : OkT c X Wx (.nt a) (.UnaryOp .Not ea pos) := by
  obtain ⟨ta, pa, qa⟩ := ha
  refine ⟨_, pt_not pa, fun σ ρ al S H Q s r h => ?_⟩
  unfold evT at h
  refine thenT (Φ := fun al H => VB c.x c.n0 al H Q) (fun k e h => VB.re k e h) qa s r h fun b1 S1 al1 H1 k1 e1 s1 r1 h1 => ?_
  exact h1 H1 al1 (Kl.refl _ _) (Ext.refl _) s1
abbrev OkW (c : Ct) (X : Cx) (Wx : WH) (ct : CT) (e : Expr) : Prop := ∃ t, PW X e t ∧ ∀ σ ρ al S H Q, StR c.x al S H → EnvR c.x al (hide al H) σ ρ → PostB c.x c.n0 al H Wx Q (evT c.g c.n0 ct ρ S) → t σ H Q
theorem okT_w {a : CT} {ea : Expr} (h : OkW c X Wx a ea) : OkT c X Wx a ea := by
  obtain ⟨t, p, q⟩ := h
  exact ⟨t, p.pt, q⟩
theorem okW_and1 {a : CT} {ea : Expr} {pos : Pos} (ha : OkT c X Wx a ea) : OkW c X Wx a (.BoolOp .And [ea] pos) := by
  obtain ⟨ta, pa, qa⟩ := ha
  exact ⟨_, pw_and1 pa, qa⟩
theorem okW_or1 {a : CT} {ea : Expr} {pos : Pos} (ha : OkT c X Wx a ea) : OkW c X Wx a (.BoolOp .Or [ea] pos) := by
  obtain ⟨ta, pa, qa⟩ := ha
  exact ⟨_, pw_or1 pa, qa⟩
theorem okW_and {a b : CT} {ea eb : Expr} {rest : List Expr} {pos : Pos} (ha : OkT c X Wx a ea) (hb : OkW c X Wx b (.BoolOp .And (eb :: rest) pos)) : OkW c X Wx (.and_ a b) (.BoolOp .And (ea :: eb :: rest) pos) := by
  obtain ⟨ta, pa, qa⟩ := ha
  obtain ⟨tb, pb, qb⟩ := hb
  refine ⟨_, pw_and pa pb, fun σ ρ al S H Q s r h => ?_⟩
  unfold evT at h
  refine thenT (Φ := fun al H => VB c.x c.n0 al H Q) (fun k e h => VB.re k e h) qa s r h fun b1 S1 al1 H1 k1 e1 s1 r1 h1 => ?_
  cases b1 with
  | true => exact qb σ ρ al1 S1 H1 Q s1 r1 h1
  | false => exact (show VB c.x c.n0 al1 H1 Q false S1 from h1) H1 al1 (Kl.refl _ _) (Ext.refl _) s1
theorem okW_or {a b : CT} {ea eb : Expr} {rest : List Expr} {pos : Pos} (ha : OkT c X Wx a ea) (hb : OkW c X Wx b (.BoolOp .Or (eb :: rest) pos)) : OkW c X Wx (.or_ a b) (.BoolOp .Or (ea :: eb :: rest) pos) := by
  obtain ⟨ta, pa, qa⟩ := ha
  obtain ⟨tb, pb, qb⟩ := hb
  refine ⟨_, pw_or pa pb, fun σ ρ al S H Q s r h => ?_⟩
  unfold evT at h
  refine thenT (Φ := fun al H => VB c.x c.n0 al H Q) (fun k e h => VB.re k e h) qa s r h fun b1 S1 al1 H1 k1 e1 s1 r1 h1 => ?_
  cases b1 with
  | false => exact qb σ ρ al1 S1 H1 Q s1 r1 h1
  | true => exact (show VB c.x c.n0 al1 H1 Q true S1 from h1) H1 al1 (Kl.refl _ _) (Ext.refl _) s1
end
end DL

set_option Elab.async false
set_option linter.all false
set_option maxRecDepth 100000
set_option maxHeartbeats 4000000
/-! DL6: chains, displays, arguments, places, cuts. -/
namespace DL
open PySem PySem.Spec PyProof.Rows L2
section
variable {c : Ct} {q : Nm} {k : Nat} {N : List Str} {sc : Scope} {X : Cx} {Wx : WH}
theorem okP_chain {o p : CO} {a b d : CE} {ea eb ed : Expr} {pos : Pos} (sx : Sx c k N sc X) (ha : OkD c X Wx a ea) (hb : OkD c X Wx b eb) (hd : OkD c X Wx d ed) (hm : lastMarks [copOf o, copOf p] [eb, ed] = false) :
    OkP c X Wx (.chain o p a b d) (.Compare ea [copOf o, copOf p] [eb, ed] pos) := by
  obtain ⟨ta, pa, qa⟩ := ha
  obtain ⟨tb, pb, qb⟩ := hb
  obtain ⟨td, pd, qd⟩ := hd
  refine ⟨_, pe_chain (opCmp sx.K sx.u65 o) (opCmp sx.K sx.u65 p) pa pb pd hm, pt_chain (opCmp sx.K sx.u65 o) (opCmp sx.K sx.u65 p) pa pb pd hm, fun σ ρ al S H Q s r h => ?_⟩
  unfold evE at h
  refine thenD (Φ := fun al H => VE c.x c.n0 al H Q) (fun k e h => VE.re k e h) qa s r h fun w1 S1 v1 al1 H1 k1 e1 s1 r1 rw1 h1 => ?_
  refine thenD (Φ := fun al H => VE c.x c.n0 al H Q) (fun k e h => VE.re k e h) qb s1 r1 h1 fun w2 S2 v2 al2 H2 k2 e2 s2 r2 rw2 h2 => ?_
  split at h2
  · rename_i e
    obtain ⟨d1, d2, q1, q2, q3⟩ := cmpW_some e
    refine ⟨al2, S2, d1, d2, true, s2, view_of s2 (rw1.mono e2 k2) q1, view_of s2 rw2 q2, q3, true, rfl, ?_⟩
    rw [if_pos rfl]
    refine thenD (Φ := fun al H => VE c.x c.n0 al H Q) (fun k e h => VE.re k e h) qd s2 r2 h2 fun w3 S3 v3 al3 H3 k3 e3 s3 r3 rw3 h3 => ?_
    obtain ⟨b', eb, q⟩ := pst_rOpt h3
    obtain ⟨kk, ek, e5⟩ := Option.map_eq_some_iff.mp eb
    subst e5
    obtain ⟨d3, d4, q4, q5, q6⟩ := cmpW_some ek
    exact ⟨al3, S3, d3, d4, kk, s3, view_of s3 (rw2.mono e3 k3) q4, view_of s3 rw3 q5, q6, fin_sh q s3 (.bl kk)⟩
  · rename_i e
    obtain ⟨d1, d2, q1, q2, q3⟩ := cmpW_some e
    refine ⟨al2, S2, d1, d2, false, s2, view_of s2 (rw1.mono e2 k2) q1, view_of s2 rw2 q2, q3, false, rfl, ?_⟩
    rw [if_neg Bool.false_ne_true]
    exact fin_sh (d := .bl false) h2 s2 (.bl _)
  · exact (show False from h2).elim
theorem ok_isB {b : Bool} {a : CE} {ea : Expr} {j : Nat} {pos pos' : Pos} (ha : OkD c X Wx a ea) : OkE c X Wx (.isB true b a) (.Compare ea [.Is] [.Constant (.bool b) j pos'] pos) := by
  obtain ⟨ta, pa, qa⟩ := ha
  refine ⟨_, pe_cmpR op_isBl pa pe_bl (nomark _), fun σ ρ al S H Q s r h => ?_⟩
  unfold evE at h
  refine thenD (Φ := fun al H => VE c.x c.n0 al H Q) (fun k e h => VE.re k e h) qa s r h fun w1 S1 v1 al1 H1 k1 e1 s1 r1 rw1 h1 => ?_
  split at h1
  · rename_i b'
    have := Rep.bl_inv (show c.x.R _ v1 (.bl b') from rw1)
    subst this
    refine ⟨b', b, rfl, rfl, ?_⟩
    have : decide (b' = b) = ((b' == b) == true) := by cases b' <;> cases b <;> rfl
    rw [this]
    exact fin_sh (d := .bl ((b' == b) == true)) h1 s1 (.bl _)
  · exact (show False from h1).elim

/-! ### arguments -/
def starX : Expr → Bool
  | .Starred .. => true
  | _ => false
theorem star_of {e : Expr} {es : List Expr} {env : Env} (h : starX e = false) : starEach (e :: es) env = (false, eval e env) :: starEach es env := by
  cases e <;> first | rfl | (exact absurd h (by simp [starX])) | (simp [starEach])
theorem stars_of {env : Env} {pos : Pos} : ∀ {es : List Expr}, es.any starX = false → (backTo pos (starEach es env)).any (·.1) = false
  | [], _ => by simp [starEach, backTo]
  | e :: es, h => by
    rw [List.any_cons, Bool.or_eq_false_iff] at h
    rw [star_of h.1]
    have := stars_of (env := env) (pos := pos) h.2
    simp only [backTo, List.map_cons, List.any_cons] at this ⊢
    simpa using this
theorem okL_nil : OkL c X Wx .nil [] := ⟨_, pa_nil, fun σ ρ al S H Q s r h => by
  unfold evL at h
  exact (show VL c.x c.n0 al H Q [] S from h) [] H al (Kl.refl _ _) (Ext.refl _) s .nil⟩
theorem okL_cons {a : CE} {l : CL} {e : Expr} {es : List Expr} (ha : OkD c X Wx a e) (hl : OkL c X Wx l es) (hs : starX e = false) : OkL c X Wx (.cons a l) (e :: es) := by
  obtain ⟨ta, pa, qa⟩ := ha
  obtain ⟨tl, pl, ql⟩ := hl
  refine ⟨_, pa_cons pa pl (star_of hs), fun σ ρ al S H Q s r h => ?_⟩
  unfold evL at h
  refine thenD (Φ := fun al H => VL c.x c.n0 al H Q) (fun k e h => VL.re k e h) qa s r h fun w1 S1 v1 al1 H1 k1 e1 s1 r1 rw1 h1 => ?_
  refine thenL (Φ := fun al H => VL c.x c.n0 al H Q) (fun k e h => VL.re k e h) ql s1 r1 h1 fun w2 S2 v2 al2 H2 k2 e2 s2 r2 rw2 h2 => ?_
  exact (show VL c.x c.n0 al2 H2 Q (w1 :: w2) S2 from h2) _ H2 al2 (Kl.refl _ _) (Ext.refl _) s2 (.cons (rw1.mono e2 k2) rw2)
theorem okL_one {a : CE} {e : Expr} (ha : OkD c X Wx a e) (hs : starX e = false) : OkL c X Wx (.cons a .nil) [e] := okL_cons ha okL_nil hs

/-! ### displays -/
theorem give_one {x : Fx} {n0 : Nat} {al : Als} {S S' : Sto} {H : Hp} {w : W} {v : V} {d : D} (s : StR x al S H) (r : RepW x al (hide al H) v w) (e : giveW n0 w S = some (d, S')) :
    ∃ al', Kl n0 al al' ∧ Ext (hide al H) (hide al' H) ∧ StR x al' S' H ∧ x.R (hide al' H) v d := by
  cases w with
  | p d' =>
    obtain ⟨rfl, rfl⟩ := Prod.mk.inj (Option.some.inj (show some (d', S) = some (d, S') from e))
    exact ⟨al, Kl.refl _ _, Ext.refl _, s, r⟩
  | o n =>
    unfold giveW at e
    dsimp only at e
    by_cases hn : n0 ≤ n
    · rw [if_pos hn] at e
      split at e
      · rename_i ds q
        cases e
        obtain ⟨a, al', e1, k, ex, s', rr⟩ := s.give q hn
        have r' : OAt v al[n]? := r
        rw [e1] at r'
        have : v = .ref a := r'
        subst this
        exact ⟨al', k, ex, s', rr⟩
      · cases e
    · rw [if_neg hn] at e; cases e
theorem give_all {x : Fx} {n0 : Nat} {H : Hp} : ∀ {ws : List W} {vs : List V} {al : Als} {S S' : Sto} {ds : List D}, StR x al S H → RepWs x al (hide al H) vs ws → giveL n0 ws S = some (ds, S') →
    ∃ al', Kl n0 al al' ∧ Ext (hide al H) (hide al' H) ∧ StR x al' S' H ∧ x.Rs (hide al' H) vs ds
  | [], _, al, S, S', ds, s, .nil, e => by
    obtain ⟨rfl, rfl⟩ := Prod.mk.inj (Option.some.inj (show some ([], S) = some (ds, S') from e))
    exact ⟨al, Kl.refl _ _, Ext.refl _, s, .nil⟩
  | w :: ws, _, al, S, S', ds, s, .cons r rs, e => by
    unfold giveL at e
    obtain ⟨⟨d, S1⟩, e1, e2⟩ := Option.bind_eq_some_iff.mp e
    obtain ⟨⟨es, S2⟩, e3, e4⟩ := Option.map_eq_some_iff.mp e2
    cases e4
    obtain ⟨al1, k1, x1, s1, r1⟩ := give_one s r e1
    obtain ⟨al2, k2, x2, s2, r2⟩ := give_all s1 (rs.mono x1 k1) e3
    exact ⟨al2, k1.trans k2, x1.trans x2, s2, .cons (Rep.mono x2 r1) r2⟩
theorem ok_tup {l : CL} {es : List Expr} {x1 : Nat} {pos : Pos} (hl : OkL c X Wx l es) : OkE c X Wx (.tup l) (.Tuple es x1 pos) := by
  obtain ⟨tl, pl, ql⟩ := hl
  refine ⟨_, pe_tup pl, fun σ ρ al S H Q s r h => ?_⟩
  unfold evE at h
  refine thenL (Φ := fun al H => VE c.x c.n0 al H Q) (fun k e h => VE.re k e h) ql s r h fun ws S1 vs al1 H1 k1 e1 s1 r1 rw1 h1 => ?_
  split at h1
  · rename_i p hp
    obtain ⟨ds, S2⟩ := p
    obtain ⟨al2, k2, x2, s2, r2⟩ := give_all s1 rw1 hp
    have hl := r2.length
    by_cases hc : ds.length ≤ sizeLine
    · rw [if_pos (show (ds, S2).1.length ≤ sizeLine from hc)] at h1
      refine ⟨by omega, fun p np => fin_tup (ds := ds) (VE.re k2 x2 h1) s2 np r2⟩
    · rw [if_neg (show ¬ (ds, S2).1.length ≤ sizeLine from hc)] at h1
      exact (show False from h1).elim
  · exact (show False from h1).elim
theorem ok_lst {l : CL} {es : List Expr} {pos : Pos} (hl : OkL c X Wx l es) : OkE c X Wx (.lst l) (.List es pos) := by
  obtain ⟨tl, pl, ql⟩ := hl
  refine ⟨_, pe_lst pl, fun σ ρ al S H Q s r h => ?_⟩
  unfold evE at h
  refine thenL (Φ := fun al H => VE c.x c.n0 al H Q) (fun k e h => VE.re k e h) ql s r h fun ws S1 vs al1 H1 k1 e1 s1 r1 rw1 h1 => ?_
  split at h1
  · rename_i p hp
    obtain ⟨ds, S2⟩ := p
    obtain ⟨al2, k2, x2, s2, r2⟩ := give_all s1 rw1 hp
    have hl := r2.length
    by_cases hc : ds.length ≤ sizeLine
    · rw [if_pos (show (ds, S2).1.length ≤ sizeLine from hc)] at h1
      refine ⟨by omega, fun p np => fin_lst (ds := ds) (VE.re k2 x2 h1) s2 np r2⟩
    · rw [if_neg (show ¬ (ds, S2).1.length ≤ sizeLine from hc)] at h1
      exact (show False from h1).elim
  · exact (show False from h1).elim

/-! ### places -/
theorem atI_reps {x : Fx} {G : Hp} {vs : List V} {ds : List D} (r : x.Rs G vs ds) {i : Int} {d : D} (e : atI ds i = some d) : ∃ v, atI vs i = some v ∧ x.R G v d := by
  have hl := r.length
  unfold atI at e ⊢
  unfold ixN at e ⊢
  rw [hl]
  obtain ⟨m, e1, e2⟩ := Option.bind_eq_some_iff.mp e
  obtain ⟨v, e3, r3⟩ := r.get e2
  exact ⟨v, Option.bind_eq_some_iff.mpr ⟨m, e1, e3⟩, r3⟩
def sliceX : Expr → Bool
  | .Slice .. => true
  | _ => false
theorem plain_ix {b : Expr} (h : sliceX b = false) : PlainIx b := fun o i => by
  cases b <;> first | rfl | (exact absurd h (by simp [sliceX])) | (simp [subscripted])
theorem ok_ix {a b : CE} {ea eb : Expr} {pos : Pos} (sx : Sx c k N sc X) (ha : OkD c X Wx a ea) (hb : OkD c X Wx b eb) (hs : sliceX eb = false) : OkE c X Wx (.ix a b) (.Subscript ea eb pos) := by
  obtain ⟨ta, pa, qa⟩ := ha
  obtain ⟨tb, pb, qb⟩ := hb
  refine ⟨_, pe_ix ix_seq pa pb (plain_ix hs), fun σ ρ al S H Q s r h => ?_⟩
  unfold evE at h
  refine thenD (Φ := fun al H => VE c.x c.n0 al H Q) (fun k e h => VE.re k e h) qa s r h fun w1 S1 v1 al1 H1 k1 e1 s1 r1 rw1 h1 => ?_
  refine thenD (Φ := fun al H => VE c.x c.n0 al H Q) (fun k e h => VE.re k e h) qb s1 r1 h1 fun w2 S2 v2 al2 H2 k2 e2 s2 r2 rw2 h2 => ?_
  have rw1' := rw1.mono e2 k2
  split at h2
  · rename_i _ _ d1 d2 hd
    obtain ⟨b', eb, q⟩ := pst_rOpt h2
    obtain ⟨d, ed, e5⟩ := Option.map_eq_some_iff.mp eb
    subst e5
    have V1 := view_of s2 rw1' hd
    have R2 : c.x.R (hide al2 H2) v2 d2 := rw2
    have hK := sx.K
    cases d1 with
    | lst xs =>
      cases d2 with
      | int i =>
        obtain ⟨p, vs, rfl, e3, r3⟩ := V1.lst
        have := R2.int_inv; subst this
        obtain ⟨v, e6, r6⟩ := atI_reps r3 (show atI xs i = some d from ed)
        exact .inl ⟨p, vs, i, v, rfl, rfl, by rw [hK]; exact e3, e6, fin_sh q s2 r6⟩
      | _ => cases (show (none : Option D) = some d from ed)
    | tup xs =>
      cases d2 with
      | int i =>
        obtain ⟨p, vs, rfl, e3, r3⟩ := V1.tup
        have := R2.int_inv; subst this
        obtain ⟨v, e6, r6⟩ := atI_reps r3 (show atI xs i = some d from ed)
        exact .inr (.inl ⟨p, vs, i, v, rfl, rfl, by rw [hK]; exact e3, e6, fin_sh q s2 r6⟩)
      | _ => cases (show (none : Option D) = some d from ed)
    | str z =>
      cases d2 with
      | int i =>
        have := V1.str; subst this
        have := R2.int_inv; subst this
        have ed' : (if z.length ≤ sizeLine then (atI z.cps.toList i).map fun c => D.str ⟨#[c]⟩ else none) = some d := ed
        by_cases hz : z.length ≤ sizeLine
        · rw [if_pos hz] at ed'
          obtain ⟨ch, e6, e7⟩ := Option.map_eq_some_iff.mp ed'
          subst e7
          exact .inr (.inr ⟨z, i, ch, rfl, rfl, hz, e6, fin_sh q s2 (.str _)⟩)
        · rw [if_neg hz] at ed'; cases ed'
      | _ => cases (show (none : Option D) = some d from ed)
    | _ => cases (show (none : Option D) = some d from ed)
  · exact (show False from h2).elim

/-! ### cuts -/
theorem cut_reps {x : Fx} {G : Hp} {vs : List V} {ds : List D} (r : x.Rs G vs ds) (lo hi : Option Int) : x.Rs G (cutV vs lo hi) (cutD ds lo hi) := by
  unfold cutV cutD
  rw [r.length]
  exact (Reps.drop _ r).take _
def rCut (x : Fx) (n0 : Nat) (Wx : WH) : V → Option Int → Option Int → Hp → VK → Prop := fun v lo hi H Q => ∃ al S d, StR x al S H ∧ View x al H v d ∧ PostE x n0 al H Wx Q (slD d lo hi S)
theorem slCut (hK : X.K = c.x.K) : SlR X (rCut c.x c.n0 Wx) := by
  intro pins s σ H v u vl vu lo hi sl Q I rx hs pl pu h
  obtain ⟨al, S, d, st, V1, p⟩ := h
  cases d with
  | lst xs =>
    obtain ⟨a, vs, rfl, e3, r3⟩ := V1.lst
    exact sl_list pins s σ H _ u vl vu lo hi sl Q I rx hs pl pu ⟨a, vs, rfl, by rw [hK]; exact e3, fun l nl => fin_lst (ds := cutD xs lo hi) p st nl (cut_reps r3 lo hi)⟩
  | tup xs =>
    obtain ⟨a, vs, rfl, e3, r3⟩ := V1.tup
    have hl := r3.length
    refine sl_tupA pins s σ H _ u vl vu lo hi sl Q I rx hs pl pu ⟨a, vs, rfl, by rw [hK]; exact e3, fun hw => ?_, fun _ l nl => fin_tup (ds := cutD xs lo hi) p st nl (cut_reps r3 lo hi)⟩
    have p : VE c.x c.n0 al H Q (.sh (.p (.tup (cutD xs lo hi)))) S := p
    have : cutD xs lo hi = xs := by
      unfold cutD
      rw [← hl, hw.1, hw.2, List.drop_zero, hl]
      simp
    rw [this] at p
    cases V1 with
    | p rr => exact fin_sh p st rr
  | str z =>
    have := V1.str; subst this
    have p : Pst (XPo c.x c.n0 al H Wx) (VE c.x c.n0 al H Q) (if z.length ≤ sizeLine then shD (.str (cutS z lo hi)) S else .bad) := p
    by_cases hz : z.length ≤ sizeLine
    · rw [if_pos hz] at p
      exact sl_str pins s σ H _ u vl vu lo hi sl Q I rx hs pl pu ⟨z, rfl, hz, fin_sh (d := .str (cutS z lo hi)) p st (.str _)⟩
    · rw [if_neg hz] at p; exact (show False from p).elim
  | _ => exact (show False from p).elim
theorem intO_some {w : W} {o : Option Int} (h : intO (some w) = some o) : ∃ i, w = .p (.int i) ∧ o = some i := by
  cases w with
  | o n => cases h
  | p d => cases d <;> first | cases h | skip
           exact ⟨_, rfl, rfl⟩
theorem slW_ok {x : Fx} {n0 : Nat} {al : Als} {S : Sto} {H : Hp} {Q : VK} {Wx : WH} {a : W} {lo hi : Option W} {v : V} (s : StR x al S H) (r : RepW x al (hide al H) v a) (h : PostE x n0 al H Wx Q (slW a lo hi S)) : ∃ l u, intO lo = some l ∧ intO hi = some u ∧ rCut x n0 Wx v l u H Q := by
  unfold slW at h
  split at h
  · rename_i d l u e1 e2 e3
    exact ⟨l, u, e2, e3, al, S, d, s, view_of s r e1, h⟩
  · exact (show False from h).elim
theorem ok_slL {a b : CE} {ea eb : Expr} {p2 pos : Pos} (sx : Sx c k N sc X) (ha : OkD c X Wx a ea) (hb : OkD c X Wx b eb) : OkE c X Wx (.slL a b) (.Subscript ea (.Slice (some eb) none none p2) pos) := by
  obtain ⟨ta, pa, qa⟩ := ha
  obtain ⟨tb, pb, qb⟩ := hb
  refine ⟨_, pe_slice (slCut (Wx := Wx) sx.K) pa (po_some pb) po_none, fun σ ρ al S H Q s r h => ?_⟩
  unfold evE at h
  refine thenD (Φ := fun al H => VE c.x c.n0 al H Q) (fun k e h => VE.re k e h) qa s r h fun w1 S1 v1 al1 H1 k1 e1 s1 r1 rw1 h1 => ?_
  refine thenD (Φ := fun al H => VE c.x c.n0 al H Q) (fun k e h => VE.re k e h) qb s1 r1 h1 fun w2 S2 v2 al2 H2 k2 e2 s2 r2 rw2 h2 => ?_
  obtain ⟨l, u, el, eu, q⟩ := slW_ok s2 (rw1.mono e2 k2) h2
  obtain ⟨i, rfl, rfl⟩ := intO_some el
  have := (show c.x.R (hide al2 H2) v2 (.int i) from rw2).int_inv; subst this
  cases eu
  exact ⟨i, rfl, q⟩
theorem ok_slH {a b : CE} {ea eb : Expr} {p2 pos : Pos} (sx : Sx c k N sc X) (ha : OkD c X Wx a ea) (hb : OkD c X Wx b eb) : OkE c X Wx (.slH a b) (.Subscript ea (.Slice none (some eb) none p2) pos) := by
  obtain ⟨ta, pa, qa⟩ := ha
  obtain ⟨tb, pb, qb⟩ := hb
  refine ⟨_, pe_slice (slCut (Wx := Wx) sx.K) pa po_none (po_some pb), fun σ ρ al S H Q s r h => ?_⟩
  unfold evE at h
  refine thenD (Φ := fun al H => VE c.x c.n0 al H Q) (fun k e h => VE.re k e h) qa s r h fun w1 S1 v1 al1 H1 k1 e1 s1 r1 rw1 h1 => ?_
  refine thenD (Φ := fun al H => VE c.x c.n0 al H Q) (fun k e h => VE.re k e h) qb s1 r1 h1 fun w2 S2 v2 al2 H2 k2 e2 s2 r2 rw2 h2 => ?_
  obtain ⟨l, u, el, eu, q⟩ := slW_ok s2 (rw1.mono e2 k2) h2
  obtain ⟨i, rfl, rfl⟩ := intO_some eu
  have := (show c.x.R (hide al2 H2) v2 (.int i) from rw2).int_inv; subst this
  cases el
  exact ⟨i, rfl, q⟩
theorem ok_slB {a b d : CE} {ea eb ed : Expr} {p2 pos : Pos} (sx : Sx c k N sc X) (ha : OkD c X Wx a ea) (hb : OkD c X Wx b eb) (hd : OkD c X Wx d ed) : OkE c X Wx (.slB a b d) (.Subscript ea (.Slice (some eb) (some ed) none p2) pos) := by
  obtain ⟨ta, pa, qa⟩ := ha
  obtain ⟨tb, pb, qb⟩ := hb
  obtain ⟨td, pd, qd⟩ := hd
  refine ⟨_, pe_slice (slCut (Wx := Wx) sx.K) pa (po_some pb) (po_some pd), fun σ ρ al S H Q s r h => ?_⟩
  unfold evE at h
  refine thenD (Φ := fun al H => VE c.x c.n0 al H Q) (fun k e h => VE.re k e h) qa s r h fun w1 S1 v1 al1 H1 k1 e1 s1 r1 rw1 h1 => ?_
  refine thenD (Φ := fun al H => VE c.x c.n0 al H Q) (fun k e h => VE.re k e h) qb s1 r1 h1 fun w2 S2 v2 al2 H2 k2 e2 s2 r2 rw2 h2 => ?_
  split at h2
  · rename_i o eo
    obtain ⟨i, rfl, e4⟩ := intO_some eo
    have := (show c.x.R (hide al2 H2) v2 (.int i) from rw2).int_inv; subst this
    refine ⟨i, rfl, ?_⟩
    refine thenD (Φ := fun al H => VE c.x c.n0 al H Q) (fun k e h => VE.re k e h) qd s2 r2 h2 fun w3 S3 v3 al3 H3 k3 e3 s3 r3 rw3 h3 => ?_
    obtain ⟨l, u, el, eu, q⟩ := slW_ok s3 ((rw1.mono e2 k2).mono e3 k3) h3
    obtain ⟨i', e5, rfl⟩ := intO_some el
    cases e5
    obtain ⟨j, rfl, rfl⟩ := intO_some eu
    have := (show c.x.R (hide al3 H3) v3 (.int j) from rw3).int_inv; subst this
    exact ⟨j, rfl, q⟩
  · exact (show False from h2).elim
end
end DL

set_option Elab.async false
set_option linter.all false
set_option maxRecDepth 100000
set_option maxHeartbeats 4000000
/-! DL7: calls. -/
namespace DL
open PySem PySem.Spec PyProof.Rows L2
theorem Kl.any {n m : Nat} {a b : Als} (h : Kl n a b) (l : a.length ≤ n) : Kl m a b := ⟨h.1, fun i hi => (h.2 i hi).imp id fun e => absurd e.1 (by omega)⟩
section
variable {c : Ct} {q : Nm} {k : Nat} {N : List Str} {sc : Scope} {X : Cx} {Wx : WH}
/-! ### own functions -/
abbrev Tk (X : Cx) (Wx : WH) : Prop := L2N.Takes X fun cls d _ H => Wx cls d H
theorem tk_none {X : Cx} : Tk X (fun _ _ _ => False) := fun _ _ x => by
  obtain ⟨_, _, _, _, _, _, _, _, _, _, _, _, _, _, _, _, z⟩ := x
  exact z.elim
/-- what a call gives, in the caller's eyes -/
theorem call_post {x : Fx} {n0 : Nat} {al : Als} {S : Sto} {H : Hp} {Q : VK} {F : List W → Sto → R EV} {ws : List W} {vs : List V} (s : StR x al S H) (r : RepWs x al (hide al H) vs ws)
    (h : PostE x n0 al H Wx Q (F ws S)) : spF x F vs H Q Wx := by
  have hl : al.length ≤ S.length := Nat.le_of_eq s.len
  refine ⟨al, S, ws, s, r, h.mono (fun e S' z => ?_) fun b S' z => ?_⟩
  · exact fun cls d H' al' k' e' => z cls d H' al' (k'.any hl) e'
  · cases b with
    | sh w => exact fun v H' al' k' e' => z v H' al' (k'.any hl) e'
    | fr cc => exact fun a H' al' k' e' => z a H' al' (k'.any hl) e'
theorem ok_call {n : Nat} {y : Str} {l : CL} {e : Expr} {es : List Expr} {p pos : Pos} (sx : Sx c k N sc X) (F : Fns c q k) (tk : Tk X Wx) (hq : q.fn[n]? = some (some y)) (hg : sc.names.lookup y = some .globalImplicit)
    (hd : (y == ("__debug__" : Str)) = false) (hl : OkL c X Wx l (e :: es)) (hs : (e :: es).any starX = false) : OkE c X Wx (.call n l) (.Call (.Name y p) (e :: es) [] pos) := by
  obtain ⟨tl, pl, ql⟩ := hl
  obtain ⟨e1, e2, fd, ps, f, hb⟩ := F.fn n y hq
  rw [List.any_cons, Bool.or_eq_false_iff] at hs
  have f' : FnOk X.prog X.w X.K X.mg X.base (L2N.CX X.prog X.w) k (c.x.fa n) fd ps (spF c.x (c.g.F n)) := by
    rw [sx.prog, sx.w, sx.K, sx.mg, sx.base]; exact f
  refine ⟨_, pe_callS (E := WE fun cls d _ H => Wx cls d H) f' sx.room (show X.env.scope.names.lookup y = _ by rw [sx.sc]; exact hg) (by rw [sx.mg]; exact e1) (by rw [sx.K]; exact e2) (by rw [sx.K]; exact hb) (L2N.passAt tk) pl hd (star_of hs.1) (stars_of hs.2), fun σ ρ al S H Q s r h => ?_⟩
  unfold evE at h
  refine thenL (Φ := fun al H => VE c.x c.n0 al H Q) (fun k e h => VE.re k e h) ql s r h fun ws S1 vs al1 H1 k1 e1 s1 r1 rw1 h1 => ?_
  exact call_post s1 rw1 h1
/-- a call without arguments -/
theorem ok_call0 {n : Nat} {y : Str} {p pos : Pos} (sx : Sx c k N sc X) (F : Fns c q k) (tk : Tk X Wx) (hq : q.fn[n]? = some (some y)) (hg : sc.names.lookup y = some .globalImplicit)
    (hd : (y == ("__debug__" : Str)) = false) : OkE c X Wx (.call n .nil) (.Call (.Name y p) [] [] pos) := by
  obtain ⟨e1, e2, fd, ps, f, hb⟩ := F.fn n y hq
  have f' : FnOk X.prog X.w X.K X.mg X.base (L2N.CX X.prog X.w) k (c.x.fa n) fd ps (spF c.x (c.g.F n)) := by
    rw [sx.prog, sx.w, sx.K, sx.mg, sx.base]; exact f
  have hg' : Gl X y := by show X.env.scope.names.lookup y = _; rw [sx.sc]; exact hg
  refine ⟨fun σ H Q => spF c.x (c.g.F n) [] H Q Wx, ⟨fun pins s σ H Q I h => ?_⟩, fun σ ρ al S H Q s r h => ?_⟩
  · refine wpAny_Call_Name_kw (ld_glob I hg' (by rw [sx.mg]; exact e1) ?_ hd)
    exact PySem.W.callWith_K0 I.kIn (by rw [sx.K]; exact e2) (run_fnS (E := WE fun cls d _ H => Wx cls d H) (us := []) f' sx.room (by rw [sx.K]; exact hb) (L2N.passAt tk σ) I .nil h)
  · unfold evE evL at h
    exact call_post s .nil h
def attrX : Expr → Bool
  | .Attribute .. => true
  | _ => false
theorem call_eq {f : Expr} {args : List Expr} {kws : List Keyword} {pos : Pos} {env : Env} (h : attrX f = false) :
    eval (.Call f args kws pos) env = (do callWith pos (← eval f env) [] (backTo pos (starEach args env)) (backToKw pos (keywordEach kws env))) := by
  cases f <;> first | rfl | (exact absurd h (by simp [attrX]))
/-- a call of what an expression gives, a def -/
theorem ok_callD {ns : List Nat} {a : CE} {l : CL} {f e : Expr} {es : List Expr} {pos : Pos} (sx : Sx c k N sc X) (F : Fns c q k) (tk : Tk X Wx) (hns : ∀ n ∈ ns, ∃ y, q.fn[n]? = some (some y)) (ha : OkD c X Wx a f) (hf : attrX f = false)
    (hl : OkL c X Wx l (e :: es)) (hs : (e :: es).any starX = false) : OkE c X Wx (.callD ns a l) (.Call f (e :: es) [] pos) := by
  obtain ⟨ta, pa, qa⟩ := ha
  obtain ⟨tl, pl, ql⟩ := hl
  rw [List.any_cons, Bool.or_eq_false_iff] at hs
  refine ⟨fun σ H Q => ta σ H fun v H1 => ∃ n y, v = .ref (c.x.fa n) ∧ q.fn[n]? = some (some y) ∧ tl σ H1 fun vs H2 => spF c.x (c.g.F n) vs H2 Q Wx, ⟨fun pins s σ H Q I h => ?_⟩, fun σ ρ al S H Q s r h => ?_⟩
  · rw [call_eq hf]
    refine wpAny_bind (thn (pa.run pins s σ H _ I h) fun u s1 ⟨v, H1, I1, r1, n, y, ev, hq, q1⟩ => ?_)
    subst ev
    cases r1
    obtain ⟨e1, e2, fd, ps, f, hb⟩ := F.fn n y hq
    have f' : FnOk X.prog X.w X.K X.mg X.base (L2N.CX X.prog X.w) k (c.x.fa n) fd ps (spF c.x (c.g.F n)) := by
      rw [sx.prog, sx.w, sx.K, sx.mg, sx.base]; exact f
    refine PySem.W.callWith_K (h₀ := X.base) I1.ok.mod.kin (by rw [sx.K]; exact e2) (thn (pl.run pos pins s1 σ H1 _ I1 q1) fun us s2 ⟨vs, H2, I2, r2, q2⟩ => ⟨I2.kIn, ?_⟩) (star_of hs.1) (stars_of hs.2)
    exact run_fnS (E := WE fun cls d _ H => Wx cls d H) f' sx.room (by rw [sx.K]; exact hb) (L2N.passAt tk σ) I2 r2 q2
  · unfold evE at h
    refine thenD (Φ := fun al H => VE c.x c.n0 al H Q) (fun k e h => VE.re k e h) qa s r h fun w1 S1 v1 al1 H1 k1 e1 s1 r1 rw1 h1 => ?_
    split at h1
    · rename_i n
      have rr : c.x.R (hide al1 H1) v1 (.fn n) := rw1
      cases rr
      by_cases hh : n ∈ ns
      · rw [if_pos hh] at h1
        obtain ⟨y, hq⟩ := hns n hh
        refine ⟨n, y, rfl, hq, ?_⟩
        refine thenL (Φ := fun al H => VE c.x c.n0 al H Q) (fun k e h => VE.re k e h) ql s1 r1 h1 fun ws S2 vs al2 H2 k2 e2 s2 r2 rw2 h2 => ?_
        exact call_post s2 rw2 h2
      · rw [if_neg hh] at h1
        exact (show False from h1).elim
    · exact (show False from h1).elim
end
end DL

set_option Elab.async false
set_option linter.all false
set_option maxRecDepth 100000
set_option maxHeartbeats 4000000
/-! DL8: built-in functions. -/
namespace DL
open PySem PySem.Spec PyProof.Rows L2
inductive Views (x : Fx) (al : Als) (H : Hp) : List V → List D → Prop where
  | nil : Views x al H [] []
  | cons {v : V} {vs : List V} {d : D} {ds : List D} : View x al H v d → Views x al H vs ds → Views x al H (v :: vs) (d :: ds)
theorem views_of {x : Fx} {al : Als} {S : Sto} {H : Hp} (s : StR x al S H) : ∀ {ws : List W} {vs : List V} {ds : List D}, RepWs x al (hide al H) vs ws → mapO (den S) ws = some ds → Views x al H vs ds
  | [], _, _, .nil, e => by
    obtain rfl := Option.some.inj e
    exact .nil
  | w :: ws, _, _, .cons r rs, e => by
    unfold mapO at e
    obtain ⟨d, e1, e2⟩ := Option.bind_eq_some_iff.mp e
    obtain ⟨ds, e3, e4⟩ := Option.map_eq_some_iff.mp e2
    subst e4
    exact .cons (view_of s r e1) (views_of s rs e3)
theorem Views.one {x : Fx} {al : Als} {H : Hp} {vs : List V} {d : D} (h : Views x al H vs [d]) : ∃ v, vs = [v] ∧ View x al H v d := by
  cases h with
  | cons a r => cases r; exact ⟨_, rfl, a⟩
theorem Views.two {x : Fx} {al : Als} {H : Hp} {vs : List V} {d d' : D} (h : Views x al H vs [d, d']) : ∃ v v', vs = [v, v'] ∧ View x al H v d ∧ View x al H v' d' := by
  cases h with
  | cons a r =>
    obtain ⟨v', rfl, b⟩ := r.one
    exact ⟨_, v', rfl, a, b⟩
theorem bools_eq : ∀ {ds : List D} {bs : List Bool}, boolsD ds = some bs → ds = bs.map D.bl
  | [], _, e => by cases e; rfl
  | d :: ds, bs, e => by
    cases d with
    | bl b =>
      obtain ⟨r, e1, e2⟩ := Option.map_eq_some_iff.mp (show (boolsD ds).map (b :: ·) = some bs from e)
      subst e2
      rw [bools_eq e1]; rfl
    | _ => cases (show (none : Option (List Bool)) = some bs from e)
theorem ints_eq : ∀ {ds : List D} {bs : List Int}, intsD ds = some bs → ds = bs.map D.int
  | [], _, e => by cases e; rfl
  | d :: ds, bs, e => by
    cases d with
    | int b =>
      obtain ⟨r, e1, e2⟩ := Option.map_eq_some_iff.mp (show (intsD ds).map (b :: ·) = some bs from e)
      subst e2
      rw [ints_eq e1]; rfl
    | _ => cases (show (none : Option (List Int)) = some bs from e)
theorem strs_eq : ∀ {ds : List D} {bs : List Str}, strsD ds = some bs → ds = bs.map D.str
  | [], _, e => by cases e; rfl
  | d :: ds, bs, e => by
    cases d with
    | str b =>
      obtain ⟨r, e1, e2⟩ := Option.map_eq_some_iff.mp (show (strsD ds).map (b :: ·) = some bs from e)
      subst e2
      rw [strs_eq e1]; rfl
    | _ => cases (show (none : Option (List Str)) = some bs from e)
def bltV : Bl → Value
  | .len => .builtin "len"
  | .abs => .builtin "abs"
  | .max2 => .builtin "max"
  | .min2 => .builtin "min"
  | .int => .type "int"
  | .str => .type "str"
  | .tuple => .type "tuple"
  | .list => .type "list"
  | .all => .builtin "all"
  | .any => .builtin "any"
  | .sum => .builtin "sum"
def bltN : Bl → Str
  | .len => "len"
  | .abs => "abs"
  | .max2 => "max"
  | .min2 => "min"
  | .int => "int"
  | .str => "str"
  | .tuple => "tuple"
  | .list => "list"
  | .all => "all"
  | .any => "any"
  | .sum => "sum"
theorem blt_boot (b : Bl) : bootBuiltins (bltN b) = some (bltV b) := by cases b <;> with_unfolding_all rfl
theorem blt_mem (b : Bl) : bltN b ∈ bltNames := by cases b <;> decide +kernel
def rBlt (x : Fx) (n0 : Nat) (Wx : WH) (b : Bl) : List V → Hp → VK → Prop := fun vs H Q => ∃ al S ds, StR x al S H ∧ Views x al H vs ds ∧ PostE x n0 al H Wx Q (bltD b ds S)
theorem len_of {x : Fx} {al : Als} {H : Hp} {v : V} {d : D} {n : Nat} (h : View x al H v d) (e : lenD d = some n) : LenV x.K v H n := by
  cases d with
  | str y =>
    have := h.str; subst this
    have e : (if y.length ≤ sizeLine then some y.length else none) = some n := e
    by_cases hc : y.length ≤ sizeLine
    · rw [if_pos hc] at e
      exact ⟨hc, (Option.some.inj e).symm⟩
    · rw [if_neg hc] at e; cases e
  | lst ds =>
    obtain ⟨a, vs, rfl, e1, r1⟩ := h.lst
    exact .inl ⟨vs, e1, by rw [r1.length]; exact (Option.some.inj e).symm⟩
  | tup ds =>
    obtain ⟨a, vs, rfl, e1, r1⟩ := h.tup
    exact .inr ⟨vs, e1, by rw [r1.length]; exact (Option.some.inj e).symm⟩
  | _ => cases e
variable {c : Ct} {q : Nm} {k : Nat} {N : List Str} {sc : Scope} {X : Cx} {Wx : WH}
theorem str_of {x : Fx} {al : Als} {H : Hp} {v : V} {d : D} {y : Str} (h : View x al H v d) (e : strD d = some y) : (∃ z : Str, v = .str z ∧ z.length ≤ sizeLine ∧ y = z) ∨ ∃ i : Int, v = .int i ∧ i.natAbs.log2 < 1920 ∧ y = toString i := by
  cases d with
  | str z =>
    have := h.str; subst this
    have e : (if z.length ≤ sizeLine then some z else none) = some y := e
    by_cases hc : z.length ≤ sizeLine
    · rw [if_pos hc] at e
      exact .inl ⟨z, rfl, hc, (Option.some.inj e).symm⟩
    · rw [if_neg hc] at e; cases e
  | int i =>
    have := h.int; subst this
    have e : (if i.natAbs.log2 < 1920 then some ((toString i : String) : Str) else none) = some y := e
    by_cases hc : i.natAbs.log2 < 1920
    · rw [if_pos hc] at e
      exact .inr ⟨i, rfl, hc, (Option.some.inj e).symm⟩
    · rw [if_neg hc] at e; cases e
  | _ => cases e
theorem callBlt (sx : Sx c k N sc X) (b : Bl) : CallR X (bltV b) (rBlt c.x c.n0 Wx b) := by
  intro pins s σ H vs us Q I r h
  obtain ⟨al, S, ds, st, V, p⟩ := h
  have hK := sx.K
  have hc := sx.calm
  cases b with
  | len =>
    match ds, V, p with
    | [d], V, p =>
      obtain ⟨v, rfl, V1⟩ := V.one
      unfold bltD at p
      dsimp only at p
      obtain ⟨e, ee, q⟩ := pst_rOpt p
      obtain ⟨n, en, e2⟩ := Option.map_eq_some_iff.mp ee
      subst e2
      exact call_len pins s σ H _ us Q I r ⟨v, n, rfl, by rw [hK]; exact len_of V1 en, fin_sh q st (.int _)⟩
    | [], _, p => exact (show False from p).elim
    | _ :: _ :: _, _, p => exact (show False from p).elim
  | abs =>
    by_cases hd : ∃ i, ds = [.int i]
    · obtain ⟨i, rfl⟩ := hd
      obtain ⟨v, rfl, V1⟩ := V.one
      have := V1.int; subst this
      exact call_abs pins s σ H _ us Q I r ⟨i, rfl, fin_sh (d := .int _) p st (.int _)⟩
    · unfold bltD at p
      split at p <;> first | exact (show False from p).elim | (exfalso; rename_i h; cases h) | skip
      exact absurd ⟨_, rfl⟩ hd
  | max2 =>
    by_cases hd : ∃ i j, ds = [.int i, .int j]
    · obtain ⟨i, j, rfl⟩ := hd
      obtain ⟨v, v', rfl, V1, V2⟩ := V.two
      have := V1.int; subst this
      have := V2.int; subst this
      exact call_max2 hc pins s σ H _ us Q I r ⟨i, j, rfl, fin_sh (d := .int _) p st (.int _)⟩
    · unfold bltD at p
      split at p <;> first | exact (show False from p).elim | (exfalso; rename_i h; cases h) | skip
      exact absurd ⟨_, _, rfl⟩ hd
  | min2 =>
    by_cases hd : ∃ i j, ds = [.int i, .int j]
    · obtain ⟨i, j, rfl⟩ := hd
      obtain ⟨v, v', rfl, V1, V2⟩ := V.two
      have := V1.int; subst this
      have := V2.int; subst this
      exact call_min2 hc pins s σ H _ us Q I r ⟨i, j, rfl, fin_sh (d := .int _) p st (.int _)⟩
    · unfold bltD at p
      split at p <;> first | exact (show False from p).elim | (exfalso; rename_i h; cases h) | skip
      exact absurd ⟨_, _, rfl⟩ hd
  | int =>
    by_cases hd : ∃ i, ds = [.int i]
    · obtain ⟨i, rfl⟩ := hd
      obtain ⟨v, rfl, V1⟩ := V.one
      have := V1.int; subst this
      exact call_int1 pins s σ H _ us Q I r (.inl ⟨i, rfl, fin_sh (d := .int _) p st (.int _)⟩)
    · by_cases hd2 : ∃ z, ds = [.str z]
      · obtain ⟨z, rfl⟩ := hd2
        obtain ⟨v, rfl, V1⟩ := V.one
        have := V1.str; subst this
        have p : Pst (XPo c.x c.n0 al H Wx) (VE c.x c.n0 al H Q) (if z.length ≤ 640 then rOpt ((PySem.intText? z).map fun n => .sh (.p (.int n))) S else .bad) := p
        by_cases hz : z.length ≤ 640
        · rw [if_pos hz] at p
          obtain ⟨e, ee, q⟩ := pst_rOpt p
          obtain ⟨n, en, e2⟩ := Option.map_eq_some_iff.mp ee
          subst e2
          exact call_int_str pins s σ H _ us Q I r ⟨z, n, rfl, en, hz, fin_sh (d := .int _) q st (.int _)⟩
        · rw [if_neg hz] at p
          exact (show False from p).elim
      · unfold bltD at p
        split at p <;> first | exact (show False from p).elim | (exfalso; rename_i h; cases h) | skip
        · exact absurd ⟨_, rfl⟩ hd
        · exact absurd ⟨_, rfl⟩ hd2
  | str =>
    match ds, V, p with
    | [d], V, p =>
      obtain ⟨v, rfl, V1⟩ := V.one
      obtain ⟨e, ee, q⟩ := pst_rOpt (show Pst (XPo c.x c.n0 al H Wx) (VE c.x c.n0 al H Q) (rOpt ((strD d).map fun n => .sh (.p (.str n))) S) from p)
      obtain ⟨n, en, e2⟩ := Option.map_eq_some_iff.mp ee
      subst e2
      rcases str_of V1 en with ⟨z, rfl, hz, rfl⟩ | ⟨i, rfl, hz, rfl⟩
      · exact SkE.call_str_str pins s σ H _ us Q I r ⟨_, rfl, fin_sh q st (.str _)⟩
      · exact call_str_int pins s σ H _ us Q I r ⟨_, rfl, hz, fin_sh q st (.str _)⟩
    | [], _, p => exact (show False from p).elim
    | _ :: _ :: _, _, p => exact (show False from p).elim
  | tuple =>
    by_cases hd : (∃ xs, ds = [.lst xs]) ∨ ∃ xs, ds = [.tup xs]
    · rcases hd with ⟨xs, rfl⟩ | ⟨xs, rfl⟩
      · obtain ⟨v, rfl, V1⟩ := V.one
        obtain ⟨a, ys, rfl, e1, r1⟩ := V1.lst
        exact call_tuple_of pins s σ H _ us Q I r ⟨a, ys, rfl, .inl ⟨by rw [hK]; exact e1, fun l nl => fin_tup (ds := xs) p st nl r1⟩⟩
      · obtain ⟨v, rfl, V1⟩ := V.one
        have V1' := V1
        obtain ⟨a, ys, rfl, e1, r1⟩ := V1.tup
        refine call_tuple_of pins s σ H _ us Q I r ⟨a, ys, rfl, .inr ⟨by rw [hK]; exact e1, ?_⟩⟩
        cases V1' with
        | p rr => exact fin_sh (d := .tup xs) p st rr
    · unfold bltD at p
      split at p <;> first | exact (show False from p).elim | (exfalso; rename_i h; cases h) | skip
      · exact absurd (.inl ⟨_, rfl⟩) hd
      · exact absurd (.inr ⟨_, rfl⟩) hd
  | list =>
    by_cases hd : (∃ xs, ds = [.lst xs]) ∨ ∃ xs, ds = [.tup xs]
    · rcases hd with ⟨xs, rfl⟩ | ⟨xs, rfl⟩
      · obtain ⟨v, rfl, V1⟩ := V.one
        obtain ⟨a, ys, rfl, e1, r1⟩ := V1.lst
        exact call_list_of pins s σ H _ us Q I r ⟨a, ys, rfl, .inl (by rw [hK]; exact e1), fun l nl => fin_lst (ds := xs) p st nl r1⟩
      · obtain ⟨v, rfl, V1⟩ := V.one
        obtain ⟨a, ys, rfl, e1, r1⟩ := V1.tup
        exact call_list_of pins s σ H _ us Q I r ⟨a, ys, rfl, .inr (by rw [hK]; exact e1), fun l nl => fin_lst (ds := xs) p st nl r1⟩
    · unfold bltD at p
      split at p <;> first | exact (show False from p).elim | (exfalso; rename_i h; cases h) | skip
      · exact absurd (.inl ⟨_, rfl⟩) hd
      · exact absurd (.inr ⟨_, rfl⟩) hd
  | all =>
    by_cases hd : ∃ xs, ds = [.lst xs]
    · obtain ⟨xs, rfl⟩ := hd
      obtain ⟨v, rfl, V1⟩ := V.one
      obtain ⟨a, ys, rfl, e1, r1⟩ := V1.lst
      obtain ⟨e, ee, q⟩ := pst_rOpt (show Pst (XPo c.x c.n0 al H Wx) (VE c.x c.n0 al H Q) (rOpt ((boolsD xs).map fun bs => .sh (.p (.bl (bs.all id)))) S) from p)
      obtain ⟨n, en, e2⟩ := Option.map_eq_some_iff.mp ee
      subst e2
      obtain rfl := bools_eq en
      exact cr_all hc pins s σ H _ us Q I r ⟨a, n, rfl, by rw [hK, ← Reps.map_bl r1]; exact e1, fin_sh q st (.bl _)⟩
    · unfold bltD at p
      split at p <;> first | exact (show False from p).elim | (exfalso; rename_i h; cases h) | skip
      exact absurd ⟨_, rfl⟩ hd
  | any =>
    by_cases hd : ∃ xs, ds = [.lst xs]
    · obtain ⟨xs, rfl⟩ := hd
      obtain ⟨v, rfl, V1⟩ := V.one
      obtain ⟨a, ys, rfl, e1, r1⟩ := V1.lst
      obtain ⟨e, ee, q⟩ := pst_rOpt (show Pst (XPo c.x c.n0 al H Wx) (VE c.x c.n0 al H Q) (rOpt ((boolsD xs).map fun bs => .sh (.p (.bl (bs.any id)))) S) from p)
      obtain ⟨n, en, e2⟩ := Option.map_eq_some_iff.mp ee
      subst e2
      obtain rfl := bools_eq en
      exact cr_any hc pins s σ H _ us Q I r ⟨a, n, rfl, by rw [hK, ← Reps.map_bl r1]; exact e1, fin_sh q st (.bl _)⟩
    · unfold bltD at p
      split at p <;> first | exact (show False from p).elim | (exfalso; rename_i h; cases h) | skip
      exact absurd ⟨_, rfl⟩ hd
  | sum =>
    by_cases hd : ∃ xs, ds = [.lst xs]
    · obtain ⟨xs, rfl⟩ := hd
      obtain ⟨v, rfl, V1⟩ := V.one
      obtain ⟨a, ys, rfl, e1, r1⟩ := V1.lst
      obtain ⟨e, ee, q⟩ := pst_rOpt (show Pst (XPo c.x c.n0 al H Wx) (VE c.x c.n0 al H Q) (rOpt ((intsD xs).map fun bs => .sh (.p (.int bs.sum))) S) from p)
      obtain ⟨n, en, e2⟩ := Option.map_eq_some_iff.mp ee
      subst e2
      obtain rfl := ints_eq en
      exact cr_sum hc pins s σ H _ us Q I r ⟨a, n, rfl, by rw [hK, ← Reps.map_int r1]; exact e1, fin_sh q st (.int _)⟩
    · unfold bltD at p
      split at p <;> first | exact (show False from p).elim | (exfalso; rename_i h; cases h) | skip
      exact absurd ⟨_, rfl⟩ hd
theorem ok_blt {b : Bl} {l : CL} {e : Expr} {es : List Expr} {p pos : Pos} (sx : Sx c k N sc X) (F : Fns c q k) (hg : sc.names.lookup (bltN b) = some .globalImplicit) (hl : OkL c X Wx l (e :: es)) (hs : (e :: es).any starX = false) :
    OkE c X Wx (.blt b l) (.Call (.Name (bltN b) p) (e :: es) [] pos) := by
  obtain ⟨tl, pl, ql⟩ := hl
  rw [List.any_cons, Bool.or_eq_false_iff] at hs
  have h1 := callBlt (Wx := Wx) sx b
  have h2 := blt_boot b
  have h3 : X.mg (bltN b) = none := by rw [sx.mg]; exact F.blt _ (blt_mem b)
  have h4 : Gl X (bltN b) := show X.env.scope.names.lookup _ = _ by rw [sx.sc]; exact hg
  have h5 : bltN b ≠ "__name__" := by cases b <;> decide
  have h6 : (bltN b == ("__debug__" : Str)) = false := by cases b <;> decide
  have pp : PE X (.Call (.Name (bltN b) p) (e :: es) [] pos) (tCB (rBlt c.x c.n0 Wx b) tl) := by
    cases hb : bltV b with
    | builtin id => rw [hb] at h1 h2; exact pe_callB h1 h4 h3 h2 pl h5 h6 (star_of hs.1) (stars_of hs.2)
    | type T => rw [hb] at h1 h2; exact pe_callTy h1 h4 h3 h2 pl h5 h6 (star_of hs.1) (stars_of hs.2)
    | _ => cases b <;> cases hb
  refine ⟨_, pp, fun σ ρ al S H Q s r h => ?_⟩
  unfold evE at h
  refine thenL (Φ := fun al H => VE c.x c.n0 al H Q) (fun k e h => VE.re k e h) ql s r h fun ws S1 vs al1 H1 k1 e1 s1 r1 rw1 h1 => ?_
  unfold bltW at h1
  split at h1
  · rename_i ds hd
    exact ⟨al1, S1, ds, s1, views_of s1 rw1 hd, h1⟩
  · exact (show False from h1).elim
end DL

set_option Elab.async false
set_option linter.all false
set_option maxRecDepth 100000
set_option maxHeartbeats 4000000
/-! DL9: kinds, methods, texts with parts, dicts. -/
namespace DL
open PySem PySem.Spec PyProof.Rows L2
/-! ### kinds -/
def tyS : Ty → String
  | .bool => "bool"
  | .int => "int"
  | .str => "str"
  | .lst => "list"
  | .tup => "tuple"
def tyN : Ty → Str
  | .bool => "bool"
  | .int => "int"
  | .str => "str"
  | .lst => "list"
  | .tup => "tuple"
def tyD : D → String
  | .non => "NoneType"
  | .bl _ => "bool"
  | .int _ => "int"
  | .str _ => "str"
  | .lst _ => "list"
  | .tup _ => "tuple"
  | _ => ""
theorem kit_of_ty {d : D} {t : Ty} {b : Bool} (h : isTy d t = some b) : kitB (tyD d) (tyS t) = some b := by
  cases d <;> cases t <;> first
    | (cases h; done)
    | (obtain rfl := Option.some.inj (show some true = some b from h); simp only [tyD, tyS]; decide +kernel)
    | (obtain rfl := Option.some.inj (show some false = some b from h); simp only [tyD, tyS]; decide +kernel)
theorem tyx_of {x : Fx} {al : Als} {H : Hp} {v : V} {d : D} {t : Ty} {b : Bool} (V : View x al H v d) (h : isTy d t = some b) : TyX x.K H v (.type (tyD d)) := by
  cases d with
  | non => rw [V.non]; exact .base .non
  | bl i => rw [V.bl]; exact .base (.bl i)
  | int i => rw [V.int]; exact .base (.int i)
  | str i => rw [V.str]; exact .base (.str i)
  | lst ds =>
    obtain ⟨a, vs, rfl, e, r⟩ := V.lst
    rcases e with (e | ⟨o, e⟩) | ⟨o, its, n, e, e2, _⟩
    · exact .base (.lst e)
    · exact .base (.frz e)
    · exact .kList e e2
  | tup ds =>
    obtain ⟨a, vs, rfl, e, r⟩ := V.tup
    rcases e with (e | ⟨o, e⟩) | ⟨o, its, n, e, e2, _⟩
    · exact .base (.tup e)
    · exact .fTuple e
    · exact .kTuple e e2
  | _ => cases h
theorem ty_boot (t : Ty) : bootBuiltins (tyN t) = some (.type (tyS t)) := by cases t <;> with_unfolding_all rfl
theorem ty_mem (t : Ty) : tyN t ∈ bltNames := by cases t <;> decide +kernel
variable {c : Ct} {q : Nm} {k : Nat} {N : List Str} {sc : Scope} {X : Cx} {Wx : WH}
theorem pe_tyN (sx : Sx c k N sc X) (F : Fns c q k) (t : Ty) (hg : sc.names.lookup (tyN t) = some .globalImplicit) {pos : Pos} : PE X (.Name (tyN t) pos) (tC (.ty (tyS t))) :=
  pe_bltn (show X.env.scope.names.lookup _ = _ by rw [sx.sc]; exact hg) (by rw [sx.mg]; exact F.blt _ (ty_mem t)) (ty_boot t) (show RelV (.ty (tyS t)) (.type (tyS t)) from rfl) (by cases t <;> decide) (by cases t <;> decide)
theorem ok_ist {a : CE} {t : Ty} {ea : Expr} {p p2 pos : Pos} (sx : Sx c k N sc X) (F : Fns c q k) (hi : sc.names.lookup ("isinstance" : Str) = some .globalImplicit) (ht : sc.names.lookup (tyN t) = some .globalImplicit)
    (ha : OkD c X Wx a ea) (hs : starX ea = false) : OkE c X Wx (.ist a t) (.Call (.Name "isinstance" p) [ea, .Name (tyN t) p2] [] pos) := by
  obtain ⟨ta, pa, qa⟩ := ha
  refine ⟨_, pe_callB call_isi (show X.env.scope.names.lookup _ = _ by rw [sx.sc]; exact hi) (by rw [sx.mg]; exact F.blt _ (by decide +kernel)) (by with_unfolding_all rfl)
    (pa_cons pa (pa_cons (pe_tyN sx F t ht) pa_nil) (star_of hs)) (he := star_of hs), fun σ ρ al S H Q s r h => ?_⟩
  unfold evE at h
  refine thenD (Φ := fun al H => VE c.x c.n0 al H Q) (fun k e h => VE.re k e h) qa s r h fun w1 S1 v1 al1 H1 k1 e1 s1 r1 rw1 h1 => ?_
  obtain ⟨ev, ee, q1⟩ := pst_rOpt h1
  obtain ⟨b, eb, e3⟩ := Option.map_eq_some_iff.mp ee
  subst e3
  obtain ⟨d, ed, et⟩ := Option.bind_eq_some_iff.mp eb
  have Vw := view_of s1 rw1 ed
  exact ⟨v1, .ty (tyS t), .type (tyD d), .type (tyS t), b, rfl, .ty _, by rw [sx.K]; exact tyx_of Vw et, kit_ty (kit_of_ty et), fin_sh q1 s1 (.bl b)⟩
theorem pa_tys (sx : Sx c k N sc X) (F : Fns c q k) : ∀ {ts : List Ty} {es : List Expr}, (∀ t ∈ ts, sc.names.lookup (tyN t) = some .globalImplicit) → Paired (fun t e => ∃ p, e = Expr.Name (tyN t) p) ts es →
    PA X es (fun _ H Q => Q (ts.map fun t => V.ty (tyS t)) H)
  | [], _, _, .nil => pa_nil
  | t :: ts, _, h, .cons ⟨p, e⟩ r => by
    subst e
    exact pa_cons (pe_tyN sx F t (h t List.mem_cons_self)) (pa_tys sx F (fun t ht => h t (List.mem_cons_of_mem _ ht)) r)
theorem kit_any {K : PySem.W.Frag} {d : D} : ∀ {ts : List Ty} {bs : List Bool}, mapO (isTy d) ts = some bs → PySem.W.kitAny K (.type (tyD d)) (ts.map fun t => Value.type (tyS t)) = some (bs.any id)
  | [], bs, e => by
    obtain rfl := Option.some.inj e
    exact kitAny_nil
  | t :: ts, bs, e => by
    unfold mapO at e
    obtain ⟨b, e1, e2⟩ := Option.bind_eq_some_iff.mp e
    obtain ⟨r, e3, e4⟩ := Option.map_eq_some_iff.mp e2
    subst e4
    refine kitAny_cons (kit_ty (kit_of_ty e1)) (fun hb => ?_) fun hb => ?_
    · subst hb
      rw [List.any_cons]
      exact kit_any e3
    · subst hb; rfl
theorem cls_all : ∀ ts : List Ty, Paired ClsV (ts.map fun t => V.ty (tyS t)) (ts.map fun t => Value.type (tyS t))
  | [] => .nil
  | t :: ts => .cons (.ty _) (cls_all ts)
theorem ok_isT {a : CE} {ts : List Ty} {ea : Expr} {es : List Expr} {x1 : Nat} {p p2 pos : Pos} (sx : Sx c k N sc X) (F : Fns c q k) (hi : sc.names.lookup ("isinstance" : Str) = some .globalImplicit) (ht : ∀ t ∈ ts, sc.names.lookup (tyN t) = some .globalImplicit)
    (hes : Paired (fun t e => ∃ p, e = Expr.Name (tyN t) p) ts es) (h15 : ts.length ≤ 15) (h0 : ts ≠ []) (ha : OkD c X Wx a ea) (hs : starX ea = false) : OkE c X Wx (.isT a ts) (.Call (.Name "isinstance" p) [ea, .Tuple es x1 p2] [] pos) := by
  obtain ⟨ta, pa, qa⟩ := ha
  refine ⟨_, pe_callB call_isiT (show X.env.scope.names.lookup _ = _ by rw [sx.sc]; exact hi) (by rw [sx.mg]; exact F.blt _ (by decide +kernel)) (by with_unfolding_all rfl)
    (pa_cons pa (pa_cons (pe_tup (pa_tys sx F ht hes)) pa_nil) (star_of hs)) (he := star_of hs), fun σ ρ al S H Q s r h => ?_⟩
  unfold evE at h
  refine thenD (Φ := fun al H => VE c.x c.n0 al H Q) (fun k e h => VE.re k e h) qa s r h fun w1 S1 v1 al1 H1 k1 e1 s1 r1 rw1 h1 => ?_
  obtain ⟨ev, ee, q1⟩ := pst_rOpt h1
  obtain ⟨bs, eb, e3⟩ := Option.map_eq_some_iff.mp ee
  subst e3
  obtain ⟨d, ed, et⟩ := Option.bind_eq_some_iff.mp eb
  refine ⟨by rw [List.length_map, sizeLine_eq]; omega, fun p np => ?_⟩
  obtain ⟨t0, ht0⟩ := List.exists_mem_of_ne_nil _ h0
  have hb0 : ∃ b, isTy d t0 = some b := by
    have : ∀ {ts : List Ty} {bs : List Bool} {t : Ty}, mapO (isTy d) ts = some bs → t ∈ ts → ∃ b, isTy d t = some b := by
      intro ts
      induction ts with
      | nil => intro bs t _ h; cases h
      | cons t' ts ih =>
        intro bs t e h
        unfold mapO at e
        obtain ⟨b, e1, e2⟩ := Option.bind_eq_some_iff.mp e
        obtain ⟨r, e3, e4⟩ := Option.map_eq_some_iff.mp e2
        rcases List.mem_cons.mp h with rfl | h
        · exact ⟨b, e1⟩
        · exact ih e3 h
    exact this et ht0
  obtain ⟨b0, hb0⟩ := hb0
  have s2 := s1.laid (o := .tup (ts.map fun t => V.ty (tyS t))) np
  have rw2 : RepW c.x al1 (hide al1 (upd H1 p (.tup (ts.map fun t => V.ty (tyS t))))) v1 w1 := rw1.mono (n0 := c.n0) (ext_upd np) (Kl.refl _ _)
  have Vw := view_of s2 rw2 ed
  exact ⟨v1, p, ts.map fun t => V.ty (tyS t), .type (tyD d), ts.map fun t => Value.type (tyS t), bs.any id, rfl, upd_same, cls_all ts, by rw [sx.K]; exact tyx_of Vw hb0, kit_any et,
    q1 _ _ al1 (Kl.refl _ _) (ext_upd np) s2 (.bl _)⟩

/-! ### methods of texts -/
def baseX : Expr → Bool
  | .Name .. => true
  | .Constant .. => true
  | _ => false
theorem base_of {o : Expr} {m : Str} {env : Env} (h : baseX o = true) : attributeBase o m env (eval o env) = eval o env := by
  cases o <;> first | rfl | (exact absurd h (by simp [baseX]))
def mtN : Mt → Str
  | .split => "split"
  | .join => "join"
theorem strs_of_reps {x : Fx} {G : Hp} {vs : List V} {ys : List Str} (r : x.Rs G vs (ys.map D.str)) : vs = ys.map V.str := Reps.map_str r
theorem ok_mth {m : Mt} {a b : CE} {ea eb : Expr} {apos pos : Pos} (sx : Sx c k N sc X) (ha : OkD c X Wx a ea) (hb : OkD c X Wx b eb) (hbase : baseX ea = true) (hs : starX eb = false) (hl : (apos.endLine == pos.line) = true) :
    OkE c X Wx (.mth m a b) (.Call (.Attribute ea (mtN m) apos) [eb] [] pos) := by
  obtain ⟨ta, pa, qa⟩ := ha
  obtain ⟨tb, pb, qb⟩ := hb
  cases m with
  | split =>
    refine ⟨_, pe_split pa pb (star_of hs) (base_of hbase) hl, fun σ ρ al S H Q s r h => ?_⟩
    unfold evE at h
    refine thenD (Φ := fun al H => VE c.x c.n0 al H Q) (fun k e h => VE.re k e h) qa s r h fun w1 S1 v1 al1 H1 k1 e1 s1 r1 rw1 h1 => ?_
    split at h1
    · rename_i z
      have := (show c.x.R (hide al1 H1) v1 (.str z) from rw1).str_inv; subst this
      refine ⟨⟨z, rfl⟩, ?_⟩
      refine thenD (Φ := fun al H => VE c.x c.n0 al H Q) (fun k e h => VE.re k e h) qb s1 r1 h1 fun w2 S2 v2 al2 H2 k2 e2 s2 r2 rw2 h2 => ?_
      split at h2
      · rename_i d hd
        have Vw := view_of s2 rw2 hd
        cases d with
        | str y =>
          have := Vw.str; subst this
          have p : Pst (XPo c.x c.n0 al2 H2 Wx) (VE c.x c.n0 al2 H2 Q) (if (y.length == 0) = false ∧ z.length + 2 ≤ sizeLine then frL ((Txt.split z y).map .str) S2 else .bad) := h2
          by_cases hc : (y.length == 0) = false ∧ z.length + 2 ≤ sizeLine
          · rw [if_pos hc] at p
            exact ⟨z, y, rfl, rfl, hc.1, hc.2, fun l nl => fin_lst (ds := (Txt.split z y).map .str) p s2 nl (Reps.strs _)⟩
          · rw [if_neg hc] at p; exact (show False from p).elim
        | _ => exact (show False from h2).elim
      · exact (show False from h2).elim
    · exact (show False from h1).elim
  | join =>
    refine ⟨_, pe_join pa pb (star_of hs) (base_of hbase) hl, fun σ ρ al S H Q s r h => ?_⟩
    unfold evE at h
    refine thenD (Φ := fun al H => VE c.x c.n0 al H Q) (fun k e h => VE.re k e h) qa s r h fun w1 S1 v1 al1 H1 k1 e1 s1 r1 rw1 h1 => ?_
    split at h1
    · rename_i z
      have := (show c.x.R (hide al1 H1) v1 (.str z) from rw1).str_inv; subst this
      refine ⟨⟨z, rfl⟩, ?_⟩
      refine thenD (Φ := fun al H => VE c.x c.n0 al H Q) (fun k e h => VE.re k e h) qb s1 r1 h1 fun w2 S2 v2 al2 H2 k2 e2 s2 r2 rw2 h2 => ?_
      split at h2
      · rename_i d hd
        have Vw := view_of s2 rw2 hd
        have p : Pst (XPo c.x c.n0 al2 H2 Wx) (VE c.x c.n0 al2 H2 Q) (match (seqD d).bind strsD with
          | some ys => if (ys.map (·.length)).sum + ys.length * z.length ≤ 16777216 then shD (.str (Txt.join z ys)) S2 else .bad
          | none => .bad) := h2
        split at p
        · rename_i ys hy
          obtain ⟨ds, e3, e4⟩ := Option.bind_eq_some_iff.mp hy
          obtain rfl := strs_eq e4
          by_cases hc : (ys.map (·.length)).sum + ys.length * z.length ≤ 16777216
          · rw [if_pos hc] at p
            obtain ⟨a, vs, rfl, e5, r5⟩ := Vw.seq e3
            obtain rfl := Reps.map_str r5
            exact ⟨z, a, ys, rfl, rfl, by rw [sx.K]; exact e5, hc, fin_sh (d := .str (Txt.join z ys)) p s2 (.str _)⟩
          · rw [if_neg hc] at p; exact (show False from p).elim
        · exact (show False from p).elim
      · exact (show False from h2).elim
    · exact (show False from h1).elim

/-! ### dicts -/
theorem con_pe (sx : Sx c k N sc X) (F : Fns c q k) {a : CE} {d : D} {e : Expr} (h : conV a = some d) (ha : OkD c X Wx a e) (hq : ∀ n, a = .fnv n → ∃ y pos, e = .Name y pos ∧ q.fn[n]? = some (some y) ∧ sc.names.lookup y = some .globalImplicit ∧ (y == ("__debug__" : Str)) = false)
    (hi : ∀ i, a = .int i → ∃ j pos, e = .Constant (.int i) j pos) : ∃ v, PE X e (tC v) ∧ ∀ G, c.x.R G v d := by
  cases a <;> first | (cases h; done) | skip
  · rename_i i
    obtain ⟨j, pos, rfl⟩ := hi i rfl
    obtain rfl := Option.some.inj h
    exact ⟨_, pe_int, fun G => .int i⟩
  · rename_i n
    obtain ⟨y, pos, rfl, e1, e2, e3⟩ := hq n rfl
    obtain rfl := Option.some.inj h
    obtain ⟨f1, _⟩ := F.fn n y e1
    exact ⟨.ref (c.x.fa n), pe_glob (v := .ref (c.x.fa n)) (show X.env.scope.names.lookup y = _ by rw [sx.sc]; exact e2) (by rw [sx.mg]; exact f1) rfl e3, fun G => .fn n⟩
end DL

set_option Elab.async false
set_option linter.all false
set_option maxRecDepth 100000
set_option maxHeartbeats 4000000
/-! DL10: dicts, texts with parts, turned lists. -/
namespace DL
open PySem PySem.Spec PyProof.Rows L2
variable {c : Ct} {q : Nm} {k : Nat} {N : List Str} {sc : Scope} {X : Cx} {Wx : WH}
/-! ### dicts -/
abbrev DV (c : Ct) (X : Cx) (d : D) (e : Expr) : Prop := ∃ v, PE X e (tC v) ∧ ∀ G, c.x.R G v d
abbrev KS (k : Str) (e : Option Expr) : Prop := ∃ j p, e = some (Expr.Constant (.str k) j p)
theorem disp_pps {pos : Pos} : ∀ {ks : List Str} {keys : List (Option Expr)} {ds : List D} {vals : List Expr}, Paired KS ks keys → Paired (DV c X) ds vals → ks.length = ds.length →
    ∃ (trs : List (TE × TE)) (kvs : List (Key × V)), PPs X pos keys vals trs ∧ (∀ σ H Q, Q (kvs.map (fun kv => (kV kv.1, kv.2))) H → tPairs trs σ H Q) ∧ kvs.map (·.1) = ks.map Sum.inr ∧ ∀ G, c.x.Rs G (kvs.map (·.2)) ds
  | _, _, _, _, .nil, .nil, _ => ⟨[], [], pps_nil, fun _ _ _ h => h, rfl, fun _ => .nil⟩
  | _, _, _, _, .nil, .cons _ _, h => by cases h
  | _, _, _, _, .cons _ _, .nil, h => by cases h
  | kk :: ks, _, d :: ds, _, .cons ⟨j, p, e⟩ rk, .cons ⟨v, pv, rv⟩ rd, h => by
    subst e
    obtain ⟨trs, kvs, h1, h2, h3, h4⟩ := disp_pps (pos := pos) rk rd (by simpa using h)
    refine ⟨(tC (.str kk), tC v) :: trs, (.inr kk, v) :: kvs, pps_cons pe_str pv h1, fun σ H Q hq => ?_, by rw [List.map_cons, List.map_cons, h3], fun G => .cons (rv G) (h4 G)⟩
    exact h2 σ H _ hq
theorem paired_len {α β : Type} {R : α → β → Prop} : ∀ {as : List α} {bs : List β}, Paired R as bs → as.length = bs.length
  | _, _, .nil => rfl
  | _, _, .cons _ r => congrArg (· + 1) (paired_len r)
theorem merge_nodup : ∀ (more acc : List (Key × V)), ((acc ++ more).map (·.1)).Nodup → mergeK acc more = acc ++ more
  | [], acc, _ => by rw [List.append_nil]; rfl
  | p :: r, acc, h => by
    have hn : (acc.any fun kv => decide (kv.1 = p.1)) = false := by
      rw [List.any_eq_false]
      intro x hx
      have : x.1 ≠ p.1 := by
        rw [List.map_append, List.nodup_append] at h
        exact h.2.2 _ (List.mem_map_of_mem hx) _ (by simp)
      simp [this]
    show mergeK (putK acc p.1 p.2) r = _
    unfold putK
    rw [hn, if_neg Bool.false_ne_true]
    rw [merge_nodup r (acc ++ [(p.1, p.2)]) (by simpa using h)]
    simp
theorem upd_upd {H : Hp} {p : Addr} {o o' : HO} : upd (upd H p o) p o' = upd H p o' := by
  funext b
  by_cases h : b = p
  · subst h; rw [upd_same, upd_same]
  · rw [upd_ne h, upd_ne h, upd_ne h]
theorem all_some : ∀ {ks : List Str} {keys : List (Option Expr)}, Paired KS ks keys → keys.all (·.isSome) = true
  | _, _, .nil => rfl
  | _, _, .cons ⟨j, p, e⟩ r => by subst e; rw [List.all_cons, all_some r]; rfl
theorem ok_disp {ks : List Str} {vs : CL} {keys : List (Option Expr)} {vals : List Expr} {pos : Pos} (hk : Paired KS ks keys) (hv : ∀ ds, dispV vs = some ds → Paired (DV c X) ds vals) (h0 : ks ≠ []) (h15 : ks.length ≤ 15) (hl : ks.length = vals.length) (hs : (dispV vs).isSome = true) :
    OkE c X Wx (.disp ks vs) (.Dict keys vals pos) := by
  obtain ⟨ds, hds⟩ := Option.isSome_iff_exists.mp hs
  have hp := hv ds hds
  have hld := paired_len hp
  obtain ⟨trs, kvs, h1, h2, h3, h4⟩ := disp_pps (pos := pos) hk hp (by rw [hl, hld])
  have hlk := paired_len hk
  refine ⟨_, pe_disp h1 (all_some hk) (by rw [← hlk, hl]) (fun z => h0 (List.eq_nil_of_length_eq_zero (by rw [hlk, z]; rfl))) (by rw [← hlk]; exact h15), fun σ ρ al S H Q s r h => ?_⟩
  unfold evE at h
  rw [hds] at h
  dsimp only at h
  by_cases hc : ks ≠ [] ∧ ks.Nodup ∧ ks.length = ds.length ∧ ks.length ≤ 15
  · rw [if_pos hc] at h
    intro p np
    refine h2 _ _ _ ⟨upd_same, kvs, rfl, ?_, ?_⟩
    · have := congrArg List.length h3
      rw [List.length_map, List.length_map] at this
      omega
    · have hm : mergeK [] kvs = kvs := by
        rw [merge_nodup kvs [] ?_, List.nil_append]
        rw [List.nil_append, h3]
        exact hc.2.1.map (f := Sum.inr) fun a b hab he => hab (Sum.inr.inj he)
      rw [hm, upd_upd]
      exact fin_new (d := .dic ks ds) h s np (.dic (hide_new s np) h3 (h4 _))
  · rw [if_neg hc] at h
    exact (show False from h).elim
theorem dget_val {x : Fx} {G : Hp} {z : Str} : ∀ {kvs : List (Key × V)} {ks : List Str} {ds : List D}, kvs.map (·.1) = ks.map Sum.inr → x.Rs G (kvs.map (·.2)) ds →
    (∀ d, dGet ks ds z = some d → ∃ v, valV kvs (Sum.inr z : Key) = some v ∧ x.R G v d) ∧ (dGet ks ds z = none → valV kvs (Sum.inr z : Key) = none)
  | [], [], _, _, _ => ⟨fun d e => by simp [dGet] at e, fun _ => rfl⟩
  | [], _ :: _, _, h, _ => by simp at h
  | p :: r, [], _, h, _ => by simp at h
  | p :: kvs, kk :: ks, ds, h, rs => by
    rw [List.map_cons] at rs
    cases rs with
    | cons r1 r2 =>
      rw [List.map_cons, List.map_cons] at h
      obtain ⟨e1, e2⟩ := List.cons.inj h
      obtain ⟨i1, i2⟩ := dget_val (z := z) e2 r2
      by_cases hz : kk = z
      · subst hz
        refine ⟨fun d e => ⟨p.2, valV_pos e1, ?_⟩, fun e => ?_⟩
        · simp [dGet] at e
          subst e; exact r1
        · simp [dGet] at e
      · have hne : ¬ p.1 = Sum.inr z := by rw [e1]; exact fun q => hz (Sum.inr.inj q)
        refine ⟨fun d e => ?_, fun e => ?_⟩
        · simp [dGet, hz] at e
          rw [valV_neg hne]
          exact i1 d e
        · simp [dGet, hz] at e
          rw [valV_neg hne]
          exact i2 e
theorem ok_dix {a b : CE} {ea eb : Expr} {pos : Pos} (sx : Sx c k N sc X) (ha : OkD c X Wx a ea) (hb : OkD c X Wx b eb) (hs : sliceX eb = false) : OkE c X Wx (.dix a b) (.Subscript ea eb pos) := by
  obtain ⟨ta, pa, qa⟩ := ha
  obtain ⟨tb, pb, qb⟩ := hb
  refine ⟨_, pe_dget (by have := sx.u65; omega) pa pb (plain_ix hs), fun σ ρ al S H Q s r h => ?_⟩
  unfold evE at h
  refine thenD (Φ := fun al H => VE c.x c.n0 al H Q) (fun k e h => VE.re k e h) qa s r h fun w1 S1 v1 al1 H1 k1 e1 s1 r1 rw1 h1 => ?_
  refine thenD (Φ := fun al H => VE c.x c.n0 al H Q) (fun k e h => VE.re k e h) qb s1 r1 h1 fun w2 S2 v2 al2 H2 k2 e2 s2 r2 rw2 h2 => ?_
  have rw1' := rw1.mono e2 k2
  split at h2
  · rename_i ks vs z
    have := (show c.x.R (hide al2 H2) v2 (.str z) from rw2).str_inv; subst this
    have R1 : c.x.R (hide al2 H2) v1 (.dic ks vs) := rw1'
    obtain ⟨e, ee, q⟩ := pst_rOpt h2
    obtain ⟨d, ed, e3⟩ := Option.map_eq_some_iff.mp ee
    subst e3
    cases R1 with
    | @dic a kvs _ _ g1 g2 g3 =>
      obtain ⟨v, f1, f2⟩ := (dget_val (z := z) g2 g3).1 d ed
      refine ⟨a, v, rfl, ?_, fin_sh q s2 f2⟩
      have := DGet.k (k := Sum.inr z) (hide_of g1).1
      rw [f1] at this
      exact this
  · exact (show False from h2).elim
theorem okP_din {a b : CE} {ea eb : Expr} {pos : Pos} {kk : Bool} (sx : Sx c k N sc X) (ha : OkD c X Wx a ea) (hb : OkD c X Wx b eb) (hm : behindInMarks (if kk then .In else .NotIn) eb = false) :
    OkP c X Wx (.din kk a b) (.Compare ea [if kk then .In else .NotIn] [eb] pos) := by
  obtain ⟨ta, pa, qa⟩ := ha
  obtain ⟨tb, pb, qb⟩ := hb
  have hu : X.A.units + 1 < cLine := by have := sx.u65; omega
  have key : ∀ (o : Option V) (w1 w2 : W) (S2 : Sto) (v1 v2 : V) (al2 : Als) (H2 : Hp) (Q : VK), StR c.x al2 S2 H2 → RepW c.x al2 (hide al2 H2) v1 w1 → RepW c.x al2 (hide al2 H2) v2 w2 →
      PostE c.x c.n0 al2 H2 Wx Q (match w2, w1 with
        | .p (.dic ks vs), .p (.str z) => if ks.length = vs.length then shD (.bl ((dGet ks vs z).isSome == kk)) S2 else .bad
        | _, _ => .bad) → ∃ (a : Addr) (o : Option V), v2 = .ref a ∧ DGet H2 a v1 o ∧ Q (.bl (o.isSome == kk)) H2 := by
    intro _ w1 w2 S2 v1 v2 al2 H2 Q s2 rw1 rw2 h2
    split at h2
    · rename_i ks vs z
      have := (show c.x.R (hide al2 H2) v1 (.str z) from rw1).str_inv; subst this
      have R1 : c.x.R (hide al2 H2) v2 (.dic ks vs) := rw2
      by_cases hl : ks.length = vs.length
      · rw [if_pos hl] at h2
        cases R1 with
        | @dic a kvs _ _ g1 g2 g3 =>
          obtain ⟨f1, f2⟩ := dget_val (z := z) g2 g3
          refine ⟨a, valV kvs (Sum.inr z), rfl, DGet.k (k := Sum.inr z) (hide_of g1).1, ?_⟩
          have : (valV kvs (Sum.inr z : Key)).isSome = (dGet ks vs z).isSome := by
            cases hd : dGet ks vs z with
            | none => rw [f2 hd]; rfl
            | some d => obtain ⟨v, e, _⟩ := f1 d hd; rw [e]; rfl
          rw [this]
          exact fin_sh (d := .bl _) h2 s2 (.bl _)
      · rw [if_neg hl] at h2
        exact (show False from h2).elim
    · exact (show False from h2).elim
  cases kk with
  | true =>
    refine ⟨_, pe_cmp (pc_din hu pa pb) hm, pt_cmp (pc_din hu pa pb) hm, fun σ ρ al S H Q s r h => ?_⟩
    unfold evE at h
    refine thenD (Φ := fun al H => VE c.x c.n0 al H Q) (fun k e h => VE.re k e h) qa s r h fun w1 S1 v1 al1 H1 k1 e1 s1 r1 rw1 h1 => ?_
    refine thenD (Φ := fun al H => VE c.x c.n0 al H Q) (fun k e h => VE.re k e h) qb s1 r1 h1 fun w2 S2 v2 al2 H2 k2 e2 s2 r2 rw2 h2 => ?_
    obtain ⟨a, o, e3, g, qq⟩ := key none w1 w2 S2 v1 v2 al2 H2 Q s2 (rw1.mono e2 k2) rw2 h2
    exact ⟨a, o, e3, g, by rw [beq_true] at qq; exact qq⟩
  | false =>
    refine ⟨_, pe_cmp (pc_dnotin hu pa pb) hm, pt_cmp (pc_dnotin hu pa pb) hm, fun σ ρ al S H Q s r h => ?_⟩
    unfold evE at h
    refine thenD (Φ := fun al H => VE c.x c.n0 al H Q) (fun k e h => VE.re k e h) qa s r h fun w1 S1 v1 al1 H1 k1 e1 s1 r1 rw1 h1 => ?_
    refine thenD (Φ := fun al H => VE c.x c.n0 al H Q) (fun k e h => VE.re k e h) qb s1 r1 h1 fun w2 S2 v2 al2 H2 k2 e2 s2 r2 rw2 h2 => ?_
    obtain ⟨a, o, e3, g, qq⟩ := key none w1 w2 S2 v1 v2 al2 H2 Q s2 (rw1.mono e2 k2) rw2 h2
    exact ⟨a, o, e3, g, by rw [beq_false] at qq; exact qq⟩

/-! ### turned lists -/
theorem ok_rev {a : CE} {ea : Expr} {j : Nat} {p1 p2 p3 pos : Pos} (sx : Sx c k N sc X) (ha : OkD c X Wx a ea) : OkE c X Wx (.rev a) (.Subscript ea (.Slice none none (some (.UnaryOp .USub (.Constant (.int 1) j p1) p2)) p3) pos) := by
  obtain ⟨ta, pa, qa⟩ := ha
  refine ⟨_, pe_revA pa, fun σ ρ al S H Q s r h => ?_⟩
  unfold evE at h
  refine thenD (Φ := fun al H => VE c.x c.n0 al H Q) (fun k e h => VE.re k e h) qa s r h fun w1 S1 v1 al1 H1 k1 e1 s1 r1 rw1 h1 => ?_
  split at h1
  · rename_i xs hd
    obtain ⟨p, vs, rfl, e3, r3⟩ := (view_of s1 rw1 hd).lst
    exact ⟨p, vs, rfl, .inl ⟨by rw [sx.K]; exact e3, fun l nl => fin_lst (ds := xs.reverse) h1 s1 nl r3.reverse⟩⟩
  · rename_i xs hd
    obtain ⟨p, vs, rfl, e3, r3⟩ := (view_of s1 rw1 hd).tup
    exact ⟨p, vs, rfl, .inr ⟨by rw [sx.K]; exact e3, fun l nl => fin_tup (ds := xs.reverse) h1 s1 nl r3.reverse⟩⟩
  · exact (show False from h1).elim

/-! ### texts with parts -/
inductive FP (c : Ct) (X : Cx) (Wx : WH) : CL → List Expr → Prop where
  | nil : FP c X Wx .nil []
  | txt {y : Str} {j : Nat} {p : Pos} {l : CL} {es : List Expr} : FP c X Wx l es → FP c X Wx (.cons (.str y) l) (.Constant (.str y) j p :: es)
  | part {a : CE} {e : Expr} {p : Pos} {l : CL} {es : List Expr} : OkD c X Wx a e → FP c X Wx l es → FP c X Wx (.cons a l) (.FormattedValue e (-1) none p :: es)
theorem fp_run {l : CL} {es : List Expr} (h : FP c X Wx l es) : ∃ ts, PJ X es ts ∧ ∀ acc σ ρ al S H Q, StR c.x al S H → EnvR c.x al (hide al H) σ ρ → PostE c.x c.n0 al H Wx Q (evF c.g c.n0 acc l ρ S) → tJs ts acc σ H fun out H1 => Q (.str out) H1 := by
  induction h with
  | nil => exact ⟨[], .nil, fun acc σ ρ al S H Q s r h => by
      unfold evF at h
      exact fin_sh (d := .str acc) h s (.str _)⟩
  | @txt y j p l es _ ih =>
    obtain ⟨ts, h1, h2⟩ := ih
    refine ⟨tC (.str y) :: ts, .cons pe_str h1, fun acc σ ρ al S H Q s r h => ?_⟩
    unfold evF evE at h
    have h : PostE c.x c.n0 al H Wx Q (match strD (.str y) with
      | some y => if (acc ++ y).length ≤ sizeLine then evF c.g c.n0 (acc ++ y) l ρ S else .bad
      | none => .bad) := h
    split at h
    · rename_i z hz
      have hz : (if y.length ≤ sizeLine then some y else none) = some z := hz
      by_cases hy : y.length ≤ sizeLine
      · rw [if_pos hy] at hz
        obtain rfl := Option.some.inj hz
        by_cases hc : (acc ++ y).length ≤ sizeLine
        · rw [if_pos hc] at h
          exact ⟨y, rfl, hc, h2 _ σ ρ al S H Q s r h⟩
        · rw [if_neg hc] at h; exact (show False from h).elim
      · rw [if_neg hy] at hz; cases hz
    · exact (show False from h).elim
  | @part a e p l es ha _ ih =>
    obtain ⟨ts, h1, h2⟩ := ih
    obtain ⟨ta, pa, qa⟩ := ha
    refine ⟨tFmt ta :: ts, .cons (pe_fmt pa) h1, fun acc σ ρ al S H Q s r h => ?_⟩
    unfold evF at h
    refine thenD (Φ := fun al H => VE c.x c.n0 al H Q) (fun k e h => VE.re k e h) qa s r h fun w1 S1 v1 al1 H1 k1 e1 s1 r1 rw1 h1 => ?_
    split at h1
    · rename_i y hy
      obtain ⟨d, e3, e4⟩ := Option.bind_eq_some_iff.mp hy
      by_cases hc : (acc ++ y).length ≤ sizeLine
      · rw [if_pos hc] at h1
        rcases str_of (view_of s1 rw1 e3) e4 with ⟨z, rfl, hz, rfl⟩ | ⟨i, rfl, hz, rfl⟩
        · exact .inl ⟨_, rfl, hz, _, rfl, hc, h2 _ σ ρ al1 S1 H1 Q s1 r1 h1⟩
        · exact .inr ⟨_, rfl, hz, _, rfl, hc, h2 _ σ ρ al1 S1 H1 Q s1 r1 h1⟩
      · rw [if_neg hc] at h1; exact (show False from h1).elim
    · exact (show False from h1).elim
theorem ok_fst {l : CL} {e1 e2 : Expr} {es : List Expr} {pos : Pos} (h : FP c X Wx l (e1 :: e2 :: es)) : OkE c X Wx (.fst l) (.JoinedStr (e1 :: e2 :: es) pos) := by
  obtain ⟨ts, h1, h2⟩ := fp_run h
  refine ⟨_, pe_joined h1, fun σ ρ al S H Q s r h => ?_⟩
  unfold evE at h
  exact h2 _ σ ρ al S H Q s r h
end DL

set_option Elab.async false
set_option linter.all false
set_option maxRecDepth 100000
set_option maxHeartbeats 4000000
/-! DL11: what is walked. -/
namespace DL
open PySem PySem.Spec PyProof.Rows L2
/-! ### one reading for all contexts -/
def canE (c : Ct) (Wx : WH) (ce : CE) : TE := fun σ H Q => ∃ ρ al S, StR c.x al S H ∧ EnvR c.x al (hide al H) σ ρ ∧ PostE c.x c.n0 al H Wx Q (evE c.g c.n0 ce ρ S)
def canD (c : Ct) (Wx : WH) (ce : CE) : TE := fun σ H Q => ∃ ρ al S, StR c.x al S H ∧ EnvR c.x al (hide al H) σ ρ ∧ PostD c.x c.n0 al H Wx Q (evE c.g c.n0 ce ρ S).w
def canT (c : Ct) (Wx : WH) (ct : CT) : TT := fun σ H Q => ∃ ρ al S, StR c.x al S H ∧ EnvR c.x al (hide al H) σ ρ ∧ PostB c.x c.n0 al H Wx Q (evT c.g c.n0 ct ρ S)
theorem OkE.can {c : Ct} {X : Cx} {Wx : WH} {ce : CE} {e : Expr} (h : OkE c X Wx ce e) : PE X e (canE c Wx ce) := by
  obtain ⟨t, p, q⟩ := h
  exact ⟨fun pins s σ H Q I ⟨ρ, al, S, a, b, d⟩ => p.run pins s σ H Q I (q σ ρ al S H Q a b d)⟩
theorem OkD.can {c : Ct} {X : Cx} {Wx : WH} {ce : CE} {e : Expr} (h : OkD c X Wx ce e) : PE X e (canD c Wx ce) := by
  obtain ⟨t, p, q⟩ := h
  exact ⟨fun pins s σ H Q I ⟨ρ, al, S, a, b, d⟩ => p.run pins s σ H Q I (q σ ρ al S H Q a b d)⟩
theorem OkT.can {c : Ct} {X : Cx} {Wx : WH} {ce : CT} {e : Expr} (h : OkT c X Wx ce e) : PT X e (canT c Wx ce) := by
  obtain ⟨t, p, q⟩ := h
  exact ⟨fun pins s σ H Q I ⟨ρ, al, S, a, b, d⟩ => p.run pins s σ H Q I (q σ ρ al S H Q a b d)⟩

/-! ### walks -/
/-- as long as what is held stays, the walk gives the items -/
def Wlk (x : Fx) (n0 : Nat) (J : It) (t : Wt) (ds : List D) (al : Als) (H : Hp) : Prop := ∀ al' S' H', Kl n0 al al' → Ext (hide al H) (hide al' H') → StR x al' S' H' → Keeps t S' →
  (∀ i d, ds[i]? = some d → J.go i H' ∧ ∀ v H'', J.yld i H' v H'' → StR x al' S' H'' ∧ Ext (hide al' H') (hide al' H'') ∧ x.R (hide al' H'') v d) ∧ J.stop ds.length H'
theorem Wlk.re {x : Fx} {n0 : Nat} {J : It} {t : Wt} {ds : List D} {al al1 : Als} {H H1 : Hp} (w : Wlk x n0 J t ds al H) (k : Kl n0 al al1) (e : Ext (hide al H) (hide al1 H1)) : Wlk x n0 J t ds al1 H1 :=
  fun al' S' H' k' e' => w al' S' H' (k.trans k') (e.trans e')
/-- what is wanted of what is walked -/
def VI (x : Fx) (n0 : Nat) (al : Als) (H : Hp) (Rr : It → Hp → Prop) (q : List D × Wt) (S' : Sto) : Prop := ∀ J H' al', Kl n0 al al' → Ext (hide al H) (hide al' H') → StR x al' S' H' → Keeps q.2 S' → Wlk x n0 J q.2 q.1 al' H' → Rr J H'
theorem VI.re {x : Fx} {n0 : Nat} {al al1 : Als} {H H1 : Hp} (k : Kl n0 al al1) (e : Ext (hide al H) (hide al1 H1)) {Q : It → Hp → Prop} {a : List D × Wt} {S : Sto} (h : VI x n0 al H Q a S) : VI x n0 al1 H1 Q a S :=
  fun J H' al' k' e' s r w => h J H' al' (k.trans k') (e.trans e') s r w
abbrev PostI (x : Fx) (n0 : Nat) (al : Als) (H : Hp) (Wx : WH) (Q : It → Hp → Prop) : R (List D × Wt) → Prop := Pst (XPo x n0 al H Wx) (VI x n0 al H Q)
abbrev OkI (c : Ct) (X : Cx) (Wx : WH) (ci : CI) (tg it : Expr) : Prop := ∃ wi, PI X tg it wi ∧ ∀ σ ρ al S H Rr, StR c.x al S H → EnvR c.x al (hide al H) σ ρ → PostI c.x c.n0 al H Wx Rr (evI c.g c.n0 ci ρ S) → wi σ H Rr
theorem view_sq {x : Fx} {al : Als} {H : Hp} {v : V} {d : D} {ds : List D} (Vw : View x al H v d) (e : seqD d = some ds) : ∃ k a vs, v = .ref a ∧ SqK k x.K H a vs ∧ x.Rs (hide al H) vs ds := by
  obtain ⟨a, vs, e1, e2, e3⟩ := Vw.seq e
  rcases e2 with e2 | e2
  · exact ⟨true, a, vs, e1, e2, e3⟩
  · exact ⟨false, a, vs, e1, e2, e3⟩
theorem keeps_wt {S : Sto} {w : W} {ds : List D} (e : seqW S w = some ds) : Keeps (wtOf w ds) S := by
  cases w with
  | p d => exact keeps_nil S
  | o n =>
    obtain ⟨d, e1, e2⟩ := Option.bind_eq_some_iff.mp e
    unfold den at e1
    dsimp only at e1
    split at e1
    · rename_i xs q
      obtain rfl := Option.some.inj e1
      obtain rfl := Option.some.inj (show some xs = some ds from e2)
      intro p hp
      rw [List.mem_singleton.mp hp]
      exact q
    · cases e1
/-- a list or a tuple, later on -/
theorem seq_later {x : Fx} {n0 : Nat} {al : Als} {S : Sto} {H : Hp} {v : V} {w : W} {ds : List D} (s : StR x al S H) (r : RepW x al (hide al H) v w) (e : seqW S w = some ds) :
    ∃ k a, v = .ref a ∧ (∃ vs, SqK k x.K H a vs) ∧ ∀ al' S' H', Kl n0 al al' → Ext (hide al H) (hide al' H') → StR x al' S' H' → Keeps (wtOf w ds) S' → ∃ vs, SqK k x.K H' a vs ∧ x.Rs (hide al' H') vs ds := by
  cases w with
  | p d =>
    have r : x.R (hide al H) v d := r
    obtain ⟨d', e1, e2⟩ := Option.bind_eq_some_iff.mp e
    obtain rfl : d = d' := Option.some.inj e1
    cases d with
    | lst xs =>
      obtain rfl := Option.some.inj (show some xs = some ds from e2)
      cases r with
      | lst q rr => exact ⟨true, _, rfl, ⟨_, hide_sqL q⟩, fun al' S' H' k' e' s' _ => ⟨_, hide_sqL (e'.sqL q), Reps.mono e' rr⟩⟩
    | tup xs =>
      obtain rfl := Option.some.inj (show some xs = some ds from e2)
      cases r with
      | tup q rr => exact ⟨false, _, rfl, ⟨_, hide_sqT q⟩, fun al' S' H' k' e' s' _ => ⟨_, hide_sqT (e'.sqT q), Reps.mono e' rr⟩⟩
    | _ => cases e2
  | o n =>
    have hk := keeps_wt e
    have q : S[n]? = some (some (.lst ds)) := hk (n, ds) (List.mem_singleton.mpr rfl)
    obtain ⟨a, vs, e1, e2, rr⟩ := s.held q
    have r' : OAt v al[n]? := r
    rw [e1] at r'
    have : v = .ref a := r'
    subst this
    refine ⟨true, a, rfl, ⟨vs, .inl (.inl e2)⟩, fun al' S' H' k' e' s' kp => ?_⟩
    have q' : S'[n]? = some (some (.lst ds)) := kp (n, ds) (List.mem_singleton.mpr rfl)
    obtain ⟨a', vs', f1, f2, rr'⟩ := s'.held q'
    rcases k'.2 n (List.getElem?_eq_some_iff.mp e1).1 with z | ⟨_, z⟩
    · rw [e1, f1] at z
      cases z
      exact ⟨vs', .inl (.inl f2), rr'⟩
    · rw [f1] at z; cases z
theorem SqK.upd {k : Bool} {K : PySem.W.Frag} {H : Hp} {a p : Addr} {o : HO} {xs : List V} (h : SqK k K H a xs) (n : H p = none) : SqK k K (upd H p o) a xs := by
  cases k with
  | true =>
    rcases h with (h | ⟨o', h⟩) | h
    · exact .inl (.inl (by rw [upd_ne (ne_of_none h n)]; exact h))
    · exact .inl (.inr ⟨o', by rw [upd_ne (ne_of_none h n)]; exact h⟩)
    · exact .inr h
  | false =>
    rcases h with (h | ⟨o', h⟩) | h
    · exact .inl (.inl (by rw [upd_ne (ne_of_none h n)]; exact h))
    · exact .inl (.inr ⟨o', by rw [upd_ne (ne_of_none h n)]; exact h⟩)
    · exact .inr h
section
variable {x : Fx} {n0 : Nat} {al : Als} {H : Hp}
theorem walk_seq {k : Bool} {a : Addr} {t : Wt} {ds : List D} (h : ∀ al' S' H', Kl n0 al al' → Ext (hide al H) (hide al' H') → StR x al' S' H' → Keeps t S' → ∃ vs, SqK k x.K H' a vs ∧ x.Rs (hide al' H') vs ds) : Wlk x n0 (ItsK k x.K a) t ds al H := by
  intro al' S' H' k' e' s' kp
  obtain ⟨vs, q, r⟩ := h al' S' H' k' e' s' kp
  have hl := r.length
  cases k with
  | true =>
    refine ⟨fun i d hd => ?_, ⟨vs, q, by omega⟩⟩
    obtain ⟨v, hv, rv⟩ := r.get hd
    refine ⟨⟨vs, v, q, hv⟩, fun v' H'' y => ?_⟩
    obtain ⟨rfl, y⟩ := y
    have := y vs q
    rw [hv] at this; cases this
    exact ⟨s', Ext.refl _, rv⟩
  | false =>
    refine ⟨fun i d hd => ?_, ⟨vs, q, by omega⟩⟩
    obtain ⟨v, hv, rv⟩ := r.get hd
    refine ⟨⟨vs, v, q, hv⟩, fun v' H'' y => ?_⟩
    obtain ⟨rfl, y⟩ := y
    have := y vs q
    rw [hv] at this; cases this
    exact ⟨s', Ext.refl _, rv⟩
theorem walk_range (lo : Int) (m : Nat) : Wlk x n0 (Itr lo m) [] ((List.range m).map fun i => .int (lo + (i : Nat))) al H := by
  intro al' S' H' k' e' s' kp
  refine ⟨fun i d hd => ?_, ?_⟩
  · rw [List.getElem?_map] at hd
    obtain ⟨j, hj, rfl⟩ := Option.map_eq_some_iff.mp hd
    have hjm := (List.getElem?_eq_some_iff.mp hj).1
    rw [List.length_range] at hjm
    have : j = i := by
      rw [List.getElem?_range hjm] at hj
      exact (Option.some.inj hj).symm
    subst this
    refine ⟨hjm, fun v H'' y => ?_⟩
    obtain ⟨rfl, rfl⟩ := y
    exact ⟨s', Ext.refl _, .int _⟩
  · show m ≤ _
    rw [List.length_map, List.length_range]
    exact Nat.le_refl _
theorem walk_str (z : Str) : Wlk x n0 (Its z) [] (signsD z) al H := by
  intro al' S' H' k' e' s' kp
  refine ⟨fun i d hd => ?_, ?_⟩
  · unfold signsD at hd
    rw [List.getElem?_map] at hd
    obtain ⟨j, hj, rfl⟩ := Option.map_eq_some_iff.mp hd
    have hjm := (List.getElem?_eq_some_iff.mp hj).1
    refine ⟨show i < z.cps.size by simpa using hjm, fun v H'' y => ?_⟩
    obtain ⟨rfl, c, hc, rfl⟩ := y
    have : c = j := by
      rw [Array.getElem?_toList] at hj
      rw [hj] at hc
      exact (Option.some.inj hc).symm
    subst this
    exact ⟨s', Ext.refl _, .str _⟩
  · show z.cps.size ≤ _
    unfold signsD
    rw [List.length_map]
    simp
theorem walk_enum {k : Bool} {a : Addr} {t : Wt} {ds : List D} (h : ∀ al' S' H', Kl n0 al al' → Ext (hide al H) (hide al' H') → StR x al' S' H' → Keeps t S' → ∃ vs, SqK k x.K H' a vs ∧ x.Rs (hide al' H') vs ds) :
    Wlk x n0 (IteK k x.K a) t (ds.zipIdx.map fun p => .tup [.int (p.2 : Nat), p.1]) al H := by
  intro al' S' H' k' e' s' kp
  obtain ⟨vs, q, r⟩ := h al' S' H' k' e' s' kp
  have hl := r.length
  refine ⟨fun i d hd => ?_, ⟨vs, q, by rw [List.length_map, List.length_zipIdx]; omega⟩⟩
  rw [List.getElem?_map] at hd
  obtain ⟨⟨d0, j⟩, hj, rfl⟩ := Option.map_eq_some_iff.mp hd
  rw [List.getElem?_zipIdx] at hj
  obtain ⟨d1, h1, h2⟩ := Option.map_eq_some_iff.mp hj
  cases h2
  obtain ⟨v, hv, rv⟩ := r.get h1
  refine ⟨⟨vs, v, q, hv⟩, fun v' H'' y => ?_⟩
  obtain ⟨T, u, rfl, hT, rfl, y⟩ := y
  have := y vs q
  rw [hv] at this; cases this
  refine ⟨s'.laid hT, ext_upd hT, .tup (.inl (.inl (hide_new s' hT))) (.cons ?_ (.cons (Rep.mono (ext_upd hT) rv) .nil))⟩
  show Rep _ _ _ (.int (i : Nat)) (.int ((0 + i : Nat)))
  rw [Nat.zero_add]
  exact .int _
theorem walk_zip {k k2 : Bool} {a b : Addr} {t u : Wt} {ds es : List D} (h : ∀ al' S' H', Kl n0 al al' → Ext (hide al H) (hide al' H') → StR x al' S' H' → Keeps t S' → ∃ vs, SqK k x.K H' a vs ∧ x.Rs (hide al' H') vs ds)
    (g : ∀ al' S' H', Kl n0 al al' → Ext (hide al H) (hide al' H') → StR x al' S' H' → Keeps u S' → ∃ vs, SqK k2 x.K H' b vs ∧ x.Rs (hide al' H') vs es) : Wlk x n0 (ItzK k k2 x.K a b) (t ++ u) ((ds.zip es).map fun p => .tup [p.1, p.2]) al H := by
  intro al' S' H' k' e' s' kp
  obtain ⟨vs, q, r⟩ := h al' S' H' k' e' s' fun p hp => kp p (List.mem_append_left _ hp)
  obtain ⟨ws, q2, r2⟩ := g al' S' H' k' e' s' fun p hp => kp p (List.mem_append_right _ hp)
  have hl := r.length
  have hl2 := r2.length
  refine ⟨fun i d hd => ?_, ⟨vs, ws, q, q2, ?_, ?_, ?_⟩⟩
  · rw [List.getElem?_map] at hd
    obtain ⟨⟨d0, d1⟩, hj, rfl⟩ := Option.map_eq_some_iff.mp hd
    rw [List.getElem?_zip_eq_some] at hj
    obtain ⟨v, hv, rv⟩ := r.get hj.1
    obtain ⟨w, hw, rw⟩ := r2.get hj.2
    refine ⟨⟨vs, ws, v, w, q, q2, hv, hw⟩, fun v' H'' y => ?_⟩
    obtain ⟨T, u1, u2, rfl, hT, rfl, y1, y2⟩ := y
    have z1 := y1 vs q
    rw [hv] at z1; cases z1
    have z2 := y2 ws q2
    rw [hw] at z2; cases z2
    exact ⟨s'.laid hT, ext_upd hT, .tup (.inl (.inl (hide_new s' hT))) (.cons (Rep.mono (ext_upd hT) rv) (.cons (Rep.mono (ext_upd hT) rw) .nil))⟩
  all_goals
    rw [List.length_map, List.length_zip]
    omega
end

/-! ### the rules -/
variable {c : Ct} {q : Nm} {k : Nat} {N : List Str} {sc : Scope} {X : Cx} {Wx : WH}
theorem okI_seq {a : CE} {tg e : Expr} (sx : Sx c k N sc X) (ha : OkD c X Wx a e) : OkI c X Wx (.seq a) tg e := by
  obtain ⟨ta, pa, qa⟩ := ha
  refine ⟨_, pi_seqS pa, fun σ ρ al S H Rr s r h => ?_⟩
  unfold evI at h
  refine thenD (Φ := fun al H => VI c.x c.n0 al H Rr) (fun k e h => VI.re k e h) qa s r h fun w1 S1 v1 al1 H1 k1 e1 s1 r1 rw1 h1 => ?_
  obtain ⟨b, eb, q⟩ := pst_rOpt h1
  unfold iterW at eb
  split at eb
  · rename_i z
    obtain rfl := Option.some.inj eb
    have e : v1 = .str z := Rep.str_inv rw1
    exact .inr ⟨z, e, q _ H1 al1 (Kl.refl _ _) (Ext.refl _) s1 (keeps_nil _) (walk_str z)⟩
  · obtain ⟨ds, ed, e3⟩ := Option.map_eq_some_iff.mp eb
    subst e3
    obtain ⟨kk, a, rfl, ⟨vs, hv⟩, hh⟩ := seq_later (n0 := c.n0) s1 rw1 ed
    rw [sx.K]
    exact .inl ⟨kk, a, vs, rfl, hv, q _ H1 al1 (Kl.refl _ _) (Ext.refl _) s1 (keeps_wt ed) (walk_seq hh)⟩
theorem okI_enu {a : CE} {e : Expr} {p pos tpos : Pos} {elts : List Expr} {kk : Nat} (sx : Sx c k N sc X) (F : Fns c q k) (hg : sc.names.lookup ("enumerate" : Str) = some .globalImplicit) (ha : OkD c X Wx a e) (hs : starX e = false) :
    OkI c X Wx (.enu a) (.Tuple elts kk tpos) (.Call (.Name "enumerate" p) [e] [] pos) := by
  obtain ⟨ta, pa, qa⟩ := ha
  refine ⟨_, pi_enumK (show X.env.scope.names.lookup _ = _ by rw [sx.sc]; exact hg) (by rw [sx.mg]; exact F.blt _ (by decide +kernel)) (pa_cons pa pa_nil (star_of hs)) (star_of hs), fun σ ρ al S H Rr s r h => ?_⟩
  unfold evI at h
  refine thenD (Φ := fun al H => VI c.x c.n0 al H Rr) (fun k e h => VI.re k e h) qa s r h fun w1 S1 v1 al1 H1 k1 e1 s1 r1 rw1 h1 => ?_
  obtain ⟨b, eb, q⟩ := pst_rOpt h1
  obtain ⟨ds, ed, e3⟩ := Option.map_eq_some_iff.mp eb
  subst e3
  obtain ⟨kk, a, rfl, ⟨vs, hv⟩, hh⟩ := seq_later (n0 := c.n0) s1 rw1 ed
  rw [sx.K]
  exact ⟨kk, a, vs, rfl, hv, q _ H1 al1 (Kl.refl _ _) (Ext.refl _) s1 (keeps_wt ed) (walk_enum hh)⟩
theorem okI_zip {a b : CE} {e e2 : Expr} {p pos tpos : Pos} {elts : List Expr} {kk : Nat} (sx : Sx c k N sc X) (F : Fns c q k) (hg : sc.names.lookup ("zip" : Str) = some .globalImplicit) (ha : OkD c X Wx a e) (hb : OkD c X Wx b e2) (hs : starX e = false) (hs2 : starX e2 = false) :
    OkI c X Wx (.zip a b) (.Tuple elts kk tpos) (.Call (.Name "zip" p) [e, e2] [] pos) := by
  obtain ⟨ta, pa, qa⟩ := ha
  obtain ⟨tb, pb, qb⟩ := hb
  refine ⟨_, pi_zipK (show X.env.scope.names.lookup _ = _ by rw [sx.sc]; exact hg) (by rw [sx.mg]; exact F.blt _ (by decide +kernel)) (pa_cons pa (pa_cons pb pa_nil (star_of hs2)) (star_of hs)) (star_of hs) (stars_of (by simp [hs2])), fun σ ρ al S H Rr s r h => ?_⟩
  unfold evI at h
  refine thenD (Φ := fun al H => VI c.x c.n0 al H Rr) (fun k e h => VI.re k e h) qa s r h fun w1 S1 v1 al1 H1 k1 e1 s1 r1 rw1 h1 => ?_
  refine thenD (Φ := fun al H => VI c.x c.n0 al H Rr) (fun k e h => VI.re k e h) qb s1 r1 h1 fun w2 S2 v2 al2 H2 k2 e2 s2 r2 rw2 h2 => ?_
  split at h2
  · rename_i xs ys q1 q2
    obtain ⟨kk, a, rfl, ⟨vs, hv⟩, hh⟩ := seq_later (n0 := c.n0) s2 (rw1.mono e2 k2) q1
    obtain ⟨kk2, b, rfl, ⟨us, hu⟩, gg⟩ := seq_later (n0 := c.n0) s2 rw2 q2
    have h2 : VI c.x c.n0 al2 H2 Rr ((xs.zip ys).map fun p => .tup [p.1, p.2], wtOf w1 xs ++ wtOf w2 ys) S2 := h2
    rw [sx.K]
    refine ⟨kk, kk2, a, b, vs, us, rfl, hv, hu, h2 _ H2 al2 (Kl.refl _ _) (Ext.refl _) s2 (fun p hp => ?_) (walk_zip hh gg)⟩
    rcases List.mem_append.mp hp with z | z
    · exact keeps_wt q1 p z
    · exact keeps_wt q2 p z
  · exact (show False from h2).elim
theorem okI_rng {a : CE} {tg e : Expr} {p pos : Pos} (sx : Sx c k N sc X) (F : Fns c q k) (hg : sc.names.lookup ("range" : Str) = some .globalImplicit) (ha : OkD c X Wx a e) (hs : starX e = false) : OkI c X Wx (.rng a) tg (.Call (.Name "range" p) [e] [] pos) := by
  obtain ⟨ta, pa, qa⟩ := ha
  refine ⟨_, pi_range1 (show X.env.scope.names.lookup _ = _ by rw [sx.sc]; exact hg) (by rw [sx.mg]; exact F.blt _ (by decide +kernel)) (pa_cons pa pa_nil (star_of hs)) (star_of hs), fun σ ρ al S H Rr s r h => ?_⟩
  unfold evI at h
  refine thenD (Φ := fun al H => VI c.x c.n0 al H Rr) (fun k e h => VI.re k e h) qa s r h fun w1 S1 v1 al1 H1 k1 e1 s1 r1 rw1 h1 => ?_
  split at h1
  · rename_i j
    have := (show c.x.R (hide al1 H1) v1 (.int j) from rw1).int_inv; subst this
    by_cases hc : -(2 ^ 62) ≤ j ∧ j < 2 ^ 62
    · rw [if_pos hc] at h1
      have h1 : VI c.x c.n0 al1 H1 Rr ((List.range j.toNat).map fun i => .int (i : Nat), []) S1 := h1
      refine ⟨j, rfl, hc.1, hc.2, h1 _ H1 al1 (Kl.refl _ _) (Ext.refl _) s1 (keeps_nil _) ?_⟩
      have := walk_range (x := c.x) (n0 := c.n0) (al := al1) (H := H1) 0 j.toNat
      simpa using this
    · rw [if_neg hc] at h1; exact (show False from h1).elim
  · exact (show False from h1).elim
theorem okI_rng2 {a b : CE} {tg e e2 : Expr} {p pos : Pos} (sx : Sx c k N sc X) (F : Fns c q k) (hg : sc.names.lookup ("range" : Str) = some .globalImplicit) (ha : OkD c X Wx a e) (hb : OkD c X Wx b e2) (hs : starX e = false) (hs2 : starX e2 = false) :
    OkI c X Wx (.rng2 a b) tg (.Call (.Name "range" p) [e, e2] [] pos) := by
  obtain ⟨ta, pa, qa⟩ := ha
  obtain ⟨tb, pb, qb⟩ := hb
  have z2 : starEach [e2] X.env = [(false, eval e2 X.env)] := star_of hs2
  refine ⟨_, pi_range2 (show X.env.scope.names.lookup _ = _ by rw [sx.sc]; exact hg) (by rw [sx.mg]; exact F.blt _ (by decide +kernel)) (pa_cons pa (pa_cons pb pa_nil (star_of hs2)) (star_of hs)) (by rw [star_of hs, z2]) z2, fun σ ρ al S H Rr s r h => ?_⟩
  unfold evI at h
  refine thenD (Φ := fun al H => VI c.x c.n0 al H Rr) (fun k e h => VI.re k e h) qa s r h fun w1 S1 v1 al1 H1 k1 e1 s1 r1 rw1 h1 => ?_
  refine thenD (Φ := fun al H => VI c.x c.n0 al H Rr) (fun k e h => VI.re k e h) qb s1 r1 h1 fun w2 S2 v2 al2 H2 k2 e2 s2 r2 rw2 h2 => ?_
  split at h2
  · rename_i i j
    have := (show c.x.R (hide al2 H2) v1 (.int i) from rw1.mono e2 k2).int_inv; subst this
    have := (show c.x.R (hide al2 H2) v2 (.int j) from rw2).int_inv; subst this
    by_cases hc : -(2 ^ 62) ≤ i ∧ i < 2 ^ 62 ∧ -(2 ^ 62) ≤ j ∧ j < 2 ^ 62
    · rw [if_pos hc] at h2
      have h2 : VI c.x c.n0 al2 H2 Rr ((List.range (j - i).toNat).map fun k => .int (i + (k : Nat)), []) S2 := h2
      exact ⟨i, j, rfl, hc, h2 _ H2 al2 (Kl.refl _ _) (Ext.refl _) s2 (keeps_nil _) (walk_range i _)⟩
    · rw [if_neg hc] at h2; exact (show False from h2).elim
  · exact (show False from h2).elim
end DL

set_option Elab.async false
set_option linter.all false
set_option maxRecDepth 100000
set_option maxHeartbeats 4000000
/-! DL12: targets, comprehensions. -/
namespace DL
open PySem PySem.Spec PyProof.Rows L2
variable {c : Ct} {q : Nm} {k : Nat} {N : List Str} {sc : Scope} {X : Cx} {Wx : WH}
/-! ### targets -/
/-- a name that may be written -/
def StoN (X : Cx) (y : Str) : Prop := Loc X.env.scope y ∧ (X.fn y = true ∨ X.env.scope.names.lookup y = some .local)
def gNames : List Nat → TGs
  | [] => gNil
  | i :: is => gCons (gName i) (gNames is)
def gTg (K : PySem.W.Frag) (one : Bool) (tg : List Nat) : TG := match one with
  | true => match tg with
    | i :: _ => gName i
    | [] => fun _ _ _ _ => False
  | false => gTup K tg.length (gNames tg)
/-- the names of a target -/
inductive TgN (N : List Str) (St : Str → Prop) : List Nat → List Expr → Prop where
  | nil : TgN N St [] []
  | cons {i : Nat} {y : Str} {p : Pos} {is : List Nat} {es : List Expr} : N[i]? = some y → St y → TgN N St is es → TgN N St (i :: is) (.Name y p :: es)
inductive TgE (N : List Str) (St : Str → Prop) : Bool → List Nat → Expr → Prop where
  | one {i : Nat} {y : Str} {p : Pos} : N[i]? = some y → St y → TgE N St true [i] (.Name y p)
  | many {is : List Nat} {es : List Expr} {x1 : Nat} {p : Pos} : TgN N St is es → TgE N St false is (.Tuple es x1 p)
theorem pgs_names (hN : X.N.Nodup) {is : List Nat} {es : List Expr} (h : TgN X.N (StoN X) is es) : PGs X es (gNames is) ∧ (assignEach es X.env).length = is.length ∧ (assignEach es X.env).findIdx? (·.1) = none := by
  induction h with
  | nil => exact ⟨pgs_nil, rfl, rfl⟩
  | cons h1 h2 _ ih =>
    obtain ⟨a, b, d⟩ := ih
    refine ⟨pgs_cons (pg_name hN h1 h2.1 h2.2) a rfl, ?_, ?_⟩
    · simp only [assignEach, List.length_cons, b]
    · simp only [assignEach, List.findIdx?_cons, d]
      rfl
theorem pg_tg (hN : X.N.Nodup) (hc : X.calm = true) {one : Bool} {tg : List Nat} {e : Expr} (h : TgE X.N (StoN X) one tg e) : PG X e (gTg X.K one tg) := by
  cases h with
  | one h1 h2 => exact pg_name hN h1 h2.1 h2.2
  | many h =>
    obtain ⟨a, b, d⟩ := pgs_names hN h
    exact pg_tup hc a b d
theorem wipe_same {σ σ' : L2.St} : ∀ {is : List Nat}, σ.length = σ'.length → (∀ i, i ∉ is → σ'[i]? = σ[i]?) → wipe σ' is = wipe σ is
  | [], hl, h => by
    apply List.ext_getElem?
    intro i
    exact h i (by simp)
  | j :: is, hl, h => by
    apply List.ext_getElem?
    intro i
    unfold wipe
    by_cases hj : j = i
    · subst hj
      by_cases hlt : j < σ.length
      · rw [List.getElem?_set_self (by rw [wipe_length]; omega), List.getElem?_set_self (by rw [wipe_length]; omega)]
      · rw [List.getElem?_eq_none (by rw [List.length_set, wipe_length]; omega), List.getElem?_eq_none (by rw [List.length_set, wipe_length]; omega)]
    · rw [List.getElem?_set_ne hj, List.getElem?_set_ne hj]
      by_cases hm : i ∈ is
      · have gen : ∀ (τ : L2.St) (is : List Nat), i ∈ is → (wipe τ is)[i]? = if i < τ.length then some none else none := by
          intro τ is
          induction is with
          | nil => intro h; cases h
          | cons a r ih =>
            intro h
            unfold wipe
            by_cases ha : a = i
            · subst ha
              by_cases hlt : a < τ.length
              · rw [List.getElem?_set_self (by rw [wipe_length]; exact hlt), if_pos hlt]
              · rw [List.getElem?_eq_none (by rw [List.length_set, wipe_length]; omega), if_neg hlt]
            · rw [List.getElem?_set_ne ha]
              rcases List.mem_cons.mp h with z | z
              · exact absurd z.symm ha
              · exact ih z
        rw [gen _ _ hm, gen _ _ hm, hl]
      · rw [wipe_out hm, wipe_out hm]
        exact h i (by simp [hm]; exact fun z => hj z.symm)
/-- values written at names -/
theorem gNames_run {x : Fx} {al : Als} {G : Hp} : ∀ {is : List Nat} {vs : List V} {ds : List D} {σ : L2.St} {ρ : Rho} {H : Hp} {Q : L2.St → Hp → Prop}, x.Rs G vs ds → ds.length = is.length → EnvR x al G σ ρ →
    (∀ σ', EnvR x al G σ' ((is.zip ds).foldl (fun r p => r.set p.1 (some (.p p.2))) ρ) → σ'.length = σ.length → (∀ i, i ∉ is → σ'[i]? = σ[i]?) → Q σ' H) → gNames is vs σ H Q
  | [], _, _, σ, ρ, H, Q, .nil, _, e, h => ⟨rfl, h σ e rfl fun _ _ => rfl⟩
  | [], _, _, _, _, _, _, .cons _ _, hl, _, _ => by cases hl
  | i :: is, _, _, _, _, _, _, .nil, hl, _, _ => by cases hl
  | i :: is, _, _, σ, ρ, H, Q, .cons (v := v) (vs := vs) (d := d) (ds := ds) r rs, hl, e, h => by
    refine ⟨v, vs, rfl, ?_⟩
    show gNames is vs (σ.set i (some v)) H Q
    refine gNames_run rs (by simpa using hl) (e.set (w := .p d) r) fun σ' e' l' h' => ?_
    refine h σ' e' (by rw [l', List.length_set]) fun j hj => ?_
    rw [h' j fun z => hj (List.mem_cons_of_mem _ z), List.getElem?_set_ne]
    rintro rfl
    exact hj List.mem_cons_self
theorem gTg_run {x : Fx} {al : Als} {S : Sto} {H : Hp} {one : Bool} {tg : List Nat} {v : V} {d : D} {σ : L2.St} {ρ ρ' : Rho} {Q : L2.St → Hp → Prop} (s : StR x al S H) (r : x.R (hide al H) v d) (e : EnvR x al (hide al H) σ ρ) (hb : bindT one tg d ρ = some ρ')
    (h : ∀ σ', EnvR x al (hide al H) σ' ρ' → wipe σ' tg = wipe σ tg → Q σ' H) : gTg x.K one tg v σ H Q := by
  cases one with
  | true =>
    cases tg with
    | nil => cases hb
    | cons i is =>
      cases is with
      | cons j js => cases hb
      | nil =>
        obtain rfl : ρ.set i (some (.p d)) = ρ' := Option.some.inj hb
        refine h _ (e.set (w := .p d) r) (wipe_same (by rw [List.length_set]) fun j hj => ?_)
        rw [List.getElem?_set_ne]
        rintro rfl
        exact hj (List.mem_singleton.mpr rfl)
  | false =>
    cases d with
    | tup ds =>
      have hb : (if ds.length = tg.length then some ((tg.zip ds).foldl (fun r p => r.set p.1 (some (.p p.2))) ρ) else none) = some ρ' := hb
      by_cases hl : ds.length = tg.length
      · rw [if_pos hl] at hb
        obtain rfl := Option.some.inj hb
        cases r with
        | @tup a vs _ q rr =>
          refine ⟨a, vs, rfl, hide_sqT q, by rw [rr.length]; exact hl, gNames_run rr hl e fun σ' e' l' h' => h σ' e' (wipe_same l'.symm h')⟩
      · rw [if_neg hl] at hb; cases hb
    | _ => cases hb

/-! ### comprehensions -/
theorem EnvR.wipe {x : Fx} {al : Als} {G : Hp} {σ : L2.St} {ρ : Rho} (e : EnvR x al G σ ρ) : ∀ is : List Nat, EnvR x al G (wipe σ is) (wipeR ρ is)
  | [] => e
  | i :: is => by
    obtain ⟨h1, h2⟩ := EnvR.wipe e is
    unfold L2.wipe wipeR
    refine ⟨by rw [List.length_set, List.length_set]; exact h1, fun j w hj => ?_⟩
    by_cases hi : i = j
    · subst hi
      by_cases hl : i < (wipeR ρ is).length
      · rw [List.getElem?_set_self hl] at hj; cases hj
      · rw [List.getElem?_eq_none (by simpa using hl)] at hj; cases hj
    · rw [List.getElem?_set_ne hi] at hj ⊢
      exact h2 j w hj
/-- the tests of a clause -/
def tIfs (t : TT) : TT := t
/-- the loop's body as the evaluator has it -/
structure BodyOk (c : Ct) (tt : TT) (te : TE) (f : Rho → Sto → R (Option D)) : Prop where
  run : ∀ (σ : L2.St) (ρ : Rho) (al : Als) (S : Sto) (H : Hp) (Q : Option V → Hp → Prop), StR c.x al S H → EnvR c.x al (hide al H) σ ρ →
    (match f ρ S with
      | .ok (some d) S' => ∀ v H' al', Kl c.n0 al al' → Ext (hide al H) (hide al' H') → StR c.x al' S' H' → c.x.R (hide al' H') v d → Q (some v) H'
      | .ok none S' => ∀ H' al', Kl c.n0 al al' → Ext (hide al H) (hide al' H') → StR c.x al' S' H' → Q none H'
      | _ => False) → tt σ H fun b H3 => if b = true then te σ H3 fun y H4 => Q (some y) H4 else Q none H3
theorem comp_run {al1 : Als} {S1 : Sto} {H1 : Hp} {σ : L2.St} {ρ : Rho} {J : It} {t : Wt} {ds : List D} {one : Bool} {tg : List Nat} {tt : TT} {te : TE} {f : Rho → Sto → R (Option D)} {Q : VK} (s1 : StR c.x al1 S1 H1) (r1 : EnvR c.x al1 (hide al1 H1) σ ρ)
    (kp : Keeps t S1) (wk : Wlk c.x c.n0 J t ds al1 H1) (bo : BodyOk c tt te f)
    (h : Pst (XPo c.x c.n0 al1 H1 Wx) (VE c.x c.n0 al1 H1 Q) (match cLoop S1.length t (fun d S => match bindT one tg d (wipeR ρ tg) with
      | some ρ' => f ρ' S
      | none => .bad) ds (S1 ++ [some (.lst [])]) [] with
      | .ok ys S => frL ys S
      | _ => .bad)) (L : Addr) (hL : H1 L = none) :
    ∃ W : Nat → Nat → Hp → Prop, (∃ m, W 0 m (upd H1 L (.lst []))) ∧ ∀ i m H, W i m H →
      (J.stop i H ∧ Q (.ref L) H) ∨ (J.go i H ∧ ∃ Nx : Hp → Prop, (∀ H', Nx H' → ∃ m', m' < m ∧ W (i + 1) m' H') ∧ ∀ x H', J.yld i H x H' → gTg c.x.K one tg x (wipe σ tg) H' fun σ2 H2 => wipe σ2 tg = wipe σ tg ∧ tt σ2 H2 fun b H3 =>
        if b = true then te σ2 H3 fun y H4 => ∃ acc, H4 L = some (.lst acc) ∧ acc.length < sizeLine ∧ Nx (upd H4 L (.lst (acc ++ [y]))) else Nx H3) := by
  generalize hf : (fun (d : D) (S : Sto) => match bindT one tg d (wipeR ρ tg) with
      | some ρ' => f ρ' S
      | none => R.bad) = ff at h
  generalize hfin : (fun (r : R (List D)) => match r with
      | .ok ys S => frL ys S
      | _ => .bad) = fin
  have h : Pst (XPo c.x c.n0 al1 H1 Wx) (VE c.x c.n0 al1 H1 Q) (fin (cLoop S1.length t ff ds (S1 ++ [some (.lst [])]) [])) := by rw [← hfin]; exact h
  have hl1 : al1.length = S1.length := s1.len
  obtain ⟨s0, e0⟩ := s1.newL (vs := []) (ds := []) hL .nil
  -- the state of the loop
  let St : Nat → Hp → Als → Sto → List D → Prop := fun i H al S acc => StR c.x al S H ∧ S[S1.length]? = some (some (.lst acc)) ∧ al[S1.length]? = some (some L) ∧ Kl c.n0 (al1 ++ [some L]) al ∧ Ext (hide al1 H1) (hide al H) ∧ Keeps t S ∧
    Pst (XPo c.x c.n0 al1 H1 Wx) (VE c.x c.n0 al1 H1 Q) (fin (cLoop S1.length t ff (ds.drop i) S acc))
  have klb : ∀ {al}, Kl c.n0 (al1 ++ [some L]) al → Kl c.n0 al1 al := fun k => (Kl.snoc c.n0 al1 (some L)).trans k
  refine ⟨fun i m H => m = ds.length - i ∧ i ≤ ds.length ∧ ∃ al S acc, St i H al S acc, ⟨ds.length, rfl, Nat.zero_le _, al1 ++ [some L], S1 ++ [some (.lst [])], [], s0, by simp, by rw [← hl1]; simp, Kl.refl _ _, e0, fun p hp => ?_, by rw [List.drop_zero]; exact h⟩, ?_⟩
  · rw [List.getElem?_append_left (List.getElem?_eq_some_iff.mp (kp p hp)).1]
    exact kp p hp
  rintro i m H ⟨rfl, hi, al, S, acc, st, hS, hal, kl, ex, kpS, hp⟩
  obtain ⟨w1, w2⟩ := wk al S H (klb kl) ex st kpS
  by_cases hlt : i < ds.length
  · right
    have hd : ds[i]? = some ds[i] := List.getElem?_eq_getElem hlt
    obtain ⟨g, y⟩ := w1 i ds[i] hd
    rw [List.drop_eq_getElem_cons hlt] at hp
    refine ⟨g, fun H' => ∃ al S acc, St (i + 1) H' al S acc, fun H' n' => ⟨ds.length - (i + 1), by omega, rfl, hlt, n'⟩, fun x H' yl => ?_⟩
    obtain ⟨st', ex', rr⟩ := y x H' yl
    have e' : EnvR c.x al (hide al H') (wipe σ tg) (wipeR ρ tg) := (r1.mono (ex.trans ex') (klb kl)).wipe tg
    unfold cLoop at hp
    cases hb : bindT one tg ds[i] (wipeR ρ tg) with
    | none =>
      rw [← hf] at hp
      simp only [hb] at hp
      rw [← hfin] at hp
      exact (show False from hp).elim
    | some ρ' =>
      have hff : ∀ S, ff ds[i] S = f ρ' S := fun S => by rw [← hf]; simp only [hb]
      rw [hff] at hp
      refine gTg_run st' rr e' hb fun σ2 e2 hw => ⟨by rw [hw]; exact wipe_same (by rw [wipe_length]) fun j hj => wipe_out hj, ?_⟩
      have key := bo.run σ2 ρ' al S H' (fun o H4 => match o with
        | some y => ∃ acc, H4 L = some (.lst acc) ∧ acc.length < sizeLine ∧ ∃ al S acc', St (i + 1) (upd H4 L (.lst (acc ++ [y]))) al S acc'
        | none => ∃ al S acc, St (i + 1) H4 al S acc) st' e2 ?_
      · exact key
      · cases hr : f ρ' S with
        | bad => rw [hr] at hp; rw [← hfin] at hp; exact (show False from hp).elim
        | exc x S' => rw [hr] at hp; rw [← hfin] at hp; exact (show False from hp).elim
        | ok o S' =>
          cases o with
          | none =>
            rw [hr] at hp
            dsimp only at hp ⊢
            intro H4 al4 k4 x4 s4
            by_cases hc : Keeps t S' ∧ S'[S1.length]? = some (some (.lst acc))
            · rw [if_pos hc] at hp
              have hal4 : al4[S1.length]? = some (some L) := by
                obtain ⟨a, f1, _⟩ := s4.cell _ _ hc.2
                rcases k4.2 S1.length (List.getElem?_eq_some_iff.mp hal).1 with z | ⟨_, z⟩
                · rw [z]; exact hal
                · rw [f1] at z; cases z
              exact ⟨al4, S', acc, s4, hc.2, hal4, kl.trans k4, (ex.trans ex').trans x4, hc.1, hp⟩
            · rw [if_neg hc] at hp; rw [← hfin] at hp; exact (show False from hp).elim
          | some d =>
            rw [hr] at hp
            dsimp only at hp ⊢
            intro v H4 al4 k4 x4 s4 r4
            by_cases hc : Keeps t S' ∧ S'[S1.length]? = some (some (.lst acc)) ∧ acc.length < sizeLine
            · rw [if_pos hc] at hp
              obtain ⟨a, vs, f1, f2, f3⟩ := s4.held hc.2.1
              have hal4 : al4[S1.length]? = some (some L) := by
                rcases k4.2 S1.length (List.getElem?_eq_some_iff.mp hal).1 with z | ⟨_, z⟩
                · rw [z]; exact hal
                · rw [f1] at z; cases z
              rw [hal4] at f1; cases f1
              have hlen := f3.length
              obtain ⟨s5, hh⟩ := s4.write (o := .lst (vs ++ [v])) (c := .lst (acc ++ [d])) hal4 ⟨vs ++ [v], upd_same, f3.append (.cons r4 .nil)⟩
              refine ⟨vs, f2, by omega, al4, S'.set S1.length (some (.lst (acc ++ [d]))), acc ++ [d], s5, ?_, hal4, kl.trans k4, ?_, fun p hp' => ?_, hp⟩
              · rw [List.getElem?_set_self (List.getElem?_eq_some_iff.mp hc.2.1).1]
              · rw [hh]; exact (ex.trans ex').trans x4
              · have z := hc.1 p hp'
                have z1 := kp p hp'
                have hne : S1.length ≠ p.1 := by
                  have := (List.getElem?_eq_some_iff.mp z1).1
                  omega
                rw [List.getElem?_set_ne hne]
                exact z
            · rw [if_neg hc] at hp; rw [← hfin] at hp; exact (show False from hp).elim
  · left
    have e : i = ds.length := by omega
    subst e
    refine ⟨w2, ?_⟩
    rw [List.drop_length] at hp
    unfold cLoop at hp
    by_cases hc : S[S1.length]? = some (some (.lst acc)) ∧ S.length = S1.length + 1
    · rw [if_pos hc, ← hfin] at hp
      have hp : VE c.x c.n0 al1 H1 Q (.fr (.lst acc)) (S.take S1.length) := hp
      have hS' : S = S.take S1.length ++ [some (.lst acc)] := by
        apply List.ext_getElem?
        intro j
        by_cases hj : j < S1.length
        · rw [List.getElem?_append_left (by rw [List.length_take]; omega), List.getElem?_take_of_lt hj]
        · by_cases hj2 : j = S1.length
          · subst hj2
            rw [hS, List.getElem?_append_right (by rw [List.length_take]; omega), List.length_take]
            have : S1.length - min S1.length S.length = 0 := by omega
            rw [this]; rfl
          · rw [List.getElem?_eq_none (by omega), List.getElem?_eq_none (by rw [List.length_append, List.length_take, List.length_singleton]; omega)]
      have hla : al.length = S1.length + 1 := by rw [st.len]; exact hc.2
      have ha' : al = al.take S1.length ++ [some L] := by
        apply List.ext_getElem?
        intro j
        by_cases hj : j < S1.length
        · rw [List.getElem?_append_left (by rw [List.length_take]; omega), List.getElem?_take_of_lt hj]
        · by_cases hj2 : j = S1.length
          · subst hj2
            rw [hal, List.getElem?_append_right (by rw [List.length_take]; omega), List.length_take]
            have : S1.length - min S1.length al.length = 0 := by omega
            rw [this]; rfl
          · rw [List.getElem?_eq_none (by omega), List.getElem?_eq_none (by rw [List.length_append, List.length_take, List.length_singleton]; omega)]
      have kk : Kl c.n0 al1 (al.take S1.length) := by
        refine ⟨by rw [List.length_take]; omega, fun n hn => ?_⟩
        rw [List.getElem?_take_of_lt (by omega)]
        exact (klb kl).2 n hn
      exact hp L H (al.take S1.length) kk (by rw [← ha']; exact ex) (by rw [← ha', ← hS']; exact st)
    · rw [if_neg hc, ← hfin] at hp
      exact (show False from hp).elim
end DL

set_option Elab.async false
set_option linter.all false
set_option maxRecDepth 100000
set_option maxHeartbeats 4000000
/-! DL13: comprehensions as expressions. -/
namespace DL
open PySem PySem.Spec PyProof.Rows L2
variable {c : Ct} {q : Nm} {k : Nat} {N : List Str} {sc : Scope} {X : Cx} {Wx : WH}
abbrev W0 : WH := fun _ _ _ => False
def setX : Expr → Bool
  | .Set .. => true
  | _ => false
theorem set_of {e : Expr} (h : setX e = false) {env : Env} (x : Value) : foldedSetIterable e env x = pure x := by
  cases e <;> first | rfl | (exact absurd h (by simp [setX]))
theorem sx_blk (sx : Sx c k N sc X) (s : Shared) (H : Hp) (scope : Scope) (C : Addr) (cl : List (Str × Addr)) (fp : List Addr) : Sx c k N (relS scope sc) (X.blk s H scope (compEnvC scope cl C X.env) fp) where
  prog := sx.prog
  w := sx.w
  K := sx.K
  mg := sx.mg
  base := sx.base
  hN := sx.hN
  nd := sx.nd
  sc := by
    show relS scope X.env.scope = relS scope sc
    rw [sx.sc]
  calm := sx.calm
  room := sx.room
  lx := sx.lx
def Own (scope : Scope) (y : Str) : Prop := scope.names.lookup y = some .local ∨ scope.names.lookup y = some .cell
theorem own_sto {scope : Scope} {y : Str} (h : Own scope y) (s : Shared) (H : Hp) (C : Addr) (cl : List (Str × Addr)) (fp : List Addr) : StoN (X.blk s H scope (compEnvC scope cl C X.env) fp) y := by
  rcases h with h | h
  · have : (relS scope X.env.scope).names.lookup y = some .local := lookup_relS_keep (fun z => nomatch z) h
    exact ⟨.inl this, .inr this⟩
  · have : (relS scope X.env.scope).names.lookup y = some .cell := lookup_relS_keep (fun z => nomatch z) h
    exact ⟨.inr this, .inl (by show (scope.names.lookup y == some .cell) = true; rw [h]; rfl)⟩
theorem TgN.mono {N : List Str} {A B : Str → Prop} (h : ∀ y, A y → B y) {is : List Nat} {es : List Expr} (t : TgN N A is es) : TgN N B is es := by
  induction t with
  | nil => exact .nil
  | cons a b _ ih => exact .cons a (h _ b) ih
theorem TgE.mono {N : List Str} {A B : Str → Prop} (h : ∀ y, A y → B y) {one : Bool} {is : List Nat} {e : Expr} (t : TgE N A one is e) : TgE N B one is e := by
  cases t with
  | one a b => exact .one a (h _ b)
  | many t => exact .many (t.mono h)
theorem body1 (e : CE) : BodyOk c tYes (canD c W0 e) fun ρ' S => (giveR c.n0 (evE c.g c.n0 e ρ' S).w).bind fun y S => .ok (some y) S := by
  refine ⟨fun σ ρ al S H Q s r h => ?_⟩
  refine (if_pos rfl : (if true = true then canD c W0 e σ H (fun y H4 => Q (some y) H4) else Q none H) = _).mpr ?_
  refine ⟨ρ, al, S, s, r, ?_⟩
  cases he : (evE c.g c.n0 e ρ S).w with
  | bad => rw [he] at h; exact h
  | exc x S' => rw [he] at h; exact h.elim
  | ok w S1 =>
    rw [he] at h
    unfold giveR at h
    rw [R.bind_ok] at h
    intro v H' al' k' e' s' r'
    cases hg : giveW c.n0 w S1 with
    | none => rw [hg] at h; exact h.elim
    | some p =>
      rw [hg] at h
      obtain ⟨d, S2⟩ := p
      obtain ⟨al2, k2, x2, s2, r2⟩ := give_one s' r' hg
      exact h v H' al2 (k'.trans k2) (e'.trans x2) s2 r2
theorem body2 (e : CE) (ct : CT) : BodyOk c (canT c W0 ct) (canD c W0 e) fun ρ' S => (evT c.g c.n0 ct ρ' S).bind fun b S => if b = true then (giveR c.n0 (evE c.g c.n0 e ρ' S).w).bind fun y S => .ok (some y) S else .ok none S := by
  refine ⟨fun σ ρ al S H Q s r h => ⟨ρ, al, S, s, r, ?_⟩⟩
  cases ht : evT c.g c.n0 ct ρ S with
  | bad => rw [ht] at h; exact h
  | exc x S' => rw [ht] at h; exact h.elim
  | ok b S1 =>
    rw [ht, R.bind_ok] at h
    intro H1 al1 k1 e1 s1
    cases b with
    | false => exact h H1 al1 k1 e1 s1
    | true =>
      rw [if_pos rfl] at h ⊢
      have := (body1 (c := c) e).run σ ρ al1 S1 H1 (fun o H4 => match o with | some y => Q (some y) H4 | none => False) s1 (r.mono e1 k1) ?_
      · exact this
      · cases hr : ((giveR c.n0 (evE c.g c.n0 e ρ S1).w).bind fun y S => R.ok (some y) S) with
        | bad => rw [hr] at h; exact h
        | exc x S' => rw [hr] at h; exact h.elim
        | ok o S2 =>
          rw [hr] at h
          cases o with
          | some d => exact fun v H' al' k' e' => h v H' al' (k1.trans k') (e1.trans e')
          | none =>
            unfold giveR at hr
            exfalso
            cases hw : (evE c.g c.n0 e ρ S1).w with
            | bad => rw [hw] at hr; cases hr
            | exc x S' => rw [hw] at hr; cases hr
            | ok w S' =>
              rw [hw, R.bind_ok] at hr
              cases hg : giveW c.n0 w S' with
              | none => rw [hg] at hr; cases hr
              | some p => rw [hg] at hr; cases hr
abbrev PIr (c : Ct) (Wx : WH) (ci : CI) (wi : TI) : Prop := ∀ σ ρ al S H Rr, StR c.x al S H → EnvR c.x al (hide al H) σ ρ → PostI c.x c.n0 al H Wx Rr (evI c.g c.n0 ci ρ S) → wi σ H Rr
theorem rd_comp {e : CE} {tg : List Nat} {one : Bool} {ci : CI} {wi : TI} (qi : PIr c Wx ci wi) {σ : L2.St} {ρ : Rho} {al : Als} {S : Sto} {H : Hp} {Q : VK} (s : StR c.x al S H) (r : EnvR c.x al (hide al H) σ ρ)
    (h : PostE c.x c.n0 al H Wx Q (evE c.g c.n0 (.comp e tg one ci) ρ S)) : tLc wi (gTg c.x.K one tg) tYes (canD c W0 e) tg σ H Q := by
  unfold evE at h
  refine qi σ ρ al S H _ s r (h.bind.mono (fun _ _ z => z) fun q1 S1 z => ?_)
  intro J H1 al1 k1 e1 s1 kp wk L hL
  have z' := z.mono (fun _ _ => XPo.re k1 e1) (fun _ _ => VE.re k1 e1)
  exact comp_run (tt := tYes) (te := canD c W0 e) (Q := Q) s1 (r.mono e1 k1) kp wk (body1 e) z' L hL
theorem rd_compC {e : CE} {ct : CT} {tg : List Nat} {one : Bool} {ci : CI} {wi : TI} (qi : PIr c Wx ci wi) {σ : L2.St} {ρ : Rho} {al : Als} {S : Sto} {H : Hp} {Q : VK} (s : StR c.x al S H) (r : EnvR c.x al (hide al H) σ ρ)
    (h : PostE c.x c.n0 al H Wx Q (evE c.g c.n0 (.compC e tg one ci ct) ρ S)) : tLc wi (gTg c.x.K one tg) (canT c W0 ct) (canD c W0 e) tg σ H Q := by
  unfold evE at h
  refine qi σ ρ al S H _ s r (h.bind.mono (fun _ _ z => z) fun q1 S1 z => ?_)
  intro J H1 al1 k1 e1 s1 kp wk L hL
  have z' := z.mono (fun _ _ => XPo.re k1 e1) (fun _ _ => VE.re k1 e1)
  exact comp_run (tt := canT c W0 ct) (te := canD c W0 e) (Q := Q) s1 (r.mono e1 k1) kp wk (body2 e ct) z' L hL
abbrev OkA (c : Ct) (X : Cx) (Wx : WH) (ce : CE) (i : Nat) (y : Str) (py : Pos) (e : Expr) (pos : Pos) : Prop :=
  ∃ t, PS X (.Assign [.Name y py] e pos) (tAsg t (gName i)) ∧ ∀ σ ρ al S H Q, StR c.x al S H → EnvR c.x al (hide al H) σ ρ → PostE c.x c.n0 al H Wx Q (evE c.g c.n0 ce ρ S) → t σ H Q
theorem okA_of {ce : CE} {i : Nat} {y : Str} {py pos : Pos} {e : Expr} (sx : Sx c k N sc X) (h : OkE c X Wx ce e) (hi : N[i]? = some y) (st : StoN X y) (hs : swapsWith e (some (.Name y py)) pos.line X.env = pure false) : OkA c X Wx ce i y py e pos := by
  obtain ⟨t, p, q⟩ := h
  exact ⟨t, ps_set (by rw [sx.hN]; exact sx.nd) (by rw [sx.hN]; exact hi) st.1 p hs st.2, q⟩
/-- what a block asks -/
structure BlkIn (c : Ct) (k : Nat) (N : List Str) (sc : Scope) (own : List (Str × Nat)) (e : CE) (tg : List Nat) (one : Bool) (elt tgE iter : Expr) (scope : Scope) : Prop where
  blk : BlkOk N sc scope own
  hown : own.map (·.2) = tg
  tgt : TgE N (Own scope) one tg tgE
  elt : ∀ X', Sx c k N (relS scope sc) X' → OkD c X' W0 e elt
  set : setX iter = false
section
variable {e : CE} {ct : CT} {tg : List Nat} {one : Bool} {ci : CI} {own : List (Str × Nat)} {elt tgE iter cnd : Expr} {scope : Scope} {pos spos py : Pos} {i : Nat} {y : Str}
theorem ok_comp (sx : Sx c k N sc X) (hi : OkI c X Wx ci tgE iter) (b : BlkIn c k N sc own e tg one elt tgE iter scope) : OkE c X Wx (.comp e tg one ci) (.ListComp elt [⟨tgE, iter, [], 0⟩] scope pos) := by
  obtain ⟨wi, pi, qi⟩ := hi
  have hN := sx.hN
  subst hN
  have ho := b.hown
  subst ho
  exact ⟨_, pe_lc (tt := tYes) (te := canD c W0 e) (g := gTg X.K one (own.map (·.2))) sx.calm sx.nd pi (by rw [sx.sc]; exact b.blk) (fun s H C cl fp => pg_tg (X := X.blk s H scope (compEnvC scope cl C X.env) fp) sx.nd sx.calm (b.tgt.mono fun y hy => own_sto (X := X) hy s H C cl fp)) (fun s H C cl fp => pts_nil) (fun s H C cl fp => (b.elt _ (sx_blk sx s H scope C cl fp)).can) (fun x => set_of b.set x),
    fun σ ρ al S H Q s r h => by rw [sx.K]; exact rd_comp qi s r h⟩
theorem ok_compC (sx : Sx c k N sc X) (hi : OkI c X Wx ci tgE iter) (b : BlkIn c k N sc own e tg one elt tgE iter scope) (ht : ∀ X', Sx c k N (relS scope sc) X' → OkT c X' W0 ct cnd) : OkE c X Wx (.compC e tg one ci ct) (.ListComp elt [⟨tgE, iter, [cnd], 0⟩] scope pos) := by
  obtain ⟨wi, pi, qi⟩ := hi
  have hN := sx.hN
  subst hN
  have ho := b.hown
  subst ho
  exact ⟨_, pe_lc (tt := canT c W0 ct) (te := canD c W0 e) (g := gTg X.K one (own.map (·.2))) sx.calm sx.nd pi (by rw [sx.sc]; exact b.blk) (fun s H C cl fp => pg_tg (X := X.blk s H scope (compEnvC scope cl C X.env) fp) sx.nd sx.calm (b.tgt.mono fun y hy => own_sto (X := X) hy s H C cl fp)) (fun s H C cl fp => pts_one (ht _ (sx_blk sx s H scope C cl fp)).can) (fun s H C cl fp => (b.elt _ (sx_blk sx s H scope C cl fp)).can) (fun x => set_of b.set x),
    fun σ ρ al S H Q s r h => by rw [sx.K]; exact rd_compC qi s r h⟩
/-- does the name take the new list at once? -/
def swB (sc : Scope) (y : Str) (py pos : Pos) (scope : Scope) : Bool := (sc.names.lookup y == some .local) && (py.line == pos.line) && !(scope.names.any fun (n, k) => n == y && (k == .local || k == .cell))
theorem sw_is {gs : List Comprehension} {l : Nat} (sx : Sx c k N sc X) (hk : sc.kind = .function) : swapsWith (.ListComp elt gs scope pos) (some (.Name y py)) l X.env = pure (swB sc y py pos scope) := by
  have hb : X.env.blockKind = .function := by unfold Env.blockKind; rw [sx.sc, hk]; rfl
  have ky : X.env.kindOf y = sc.names.lookup y := show X.env.scope.names.lookup y = _ by rw [sx.sc]
  unfold swapsWith swB
  simp only [hb, ky, Expr.pos]
  rfl
theorem okA_comp (sx : Sx c k N sc X) (hk : sc.kind = .function) (hi : OkI c X Wx ci tgE iter) (b : BlkIn c k N sc own e tg one elt tgE iter scope) (hiN : N[i]? = some y) (st : StoN X y) :
    OkA c X Wx (.comp e tg one ci) i y py (.ListComp elt [⟨tgE, iter, [], 0⟩] scope pos) spos := by
  cases hb : swB sc y py pos scope with
  | false => exact okA_of sx (ok_comp sx hi b) hiN st (by rw [sw_is sx hk, hb])
  | true =>
    obtain ⟨wi, pi, qi⟩ := hi
    have hN := sx.hN
    subst hN
    have ho := b.hown
    subst ho
    have hl : sc.names.lookup y = some .local := by
      unfold swB at hb
      simp only [Bool.and_eq_true, beq_iff_eq] at hb
      exact hb.1.1
    exact ⟨_, ps_setLc (tt := tYes) (te := canD c W0 e) (g := gTg X.K one (own.map (·.2))) sx.calm sx.nd hiN (by rw [sx.sc]; exact hl) (by rw [sw_is sx hk, hb]) pi (by rw [sx.sc]; exact b.blk) (fun s H C cl fp => pg_tg (X := X.blk s H scope (compEnvC scope cl C X.env) fp) sx.nd sx.calm (b.tgt.mono fun y hy => own_sto (X := X) hy s H C cl fp)) (fun s H C cl fp => pts_nil) (fun s H C cl fp => (b.elt _ (sx_blk sx s H scope C cl fp)).can) (fun x => set_of b.set x),
      fun σ ρ al S H Q s r h => by rw [sx.K]; exact rd_comp qi s r h⟩
theorem okA_compC (sx : Sx c k N sc X) (hk : sc.kind = .function) (hi : OkI c X Wx ci tgE iter) (b : BlkIn c k N sc own e tg one elt tgE iter scope) (ht : ∀ X', Sx c k N (relS scope sc) X' → OkT c X' W0 ct cnd) (hiN : N[i]? = some y) (st : StoN X y) :
    OkA c X Wx (.compC e tg one ci ct) i y py (.ListComp elt [⟨tgE, iter, [cnd], 0⟩] scope pos) spos := by
  cases hb : swB sc y py pos scope with
  | false => exact okA_of sx (ok_compC sx hi b ht) hiN st (by rw [sw_is sx hk, hb])
  | true =>
    obtain ⟨wi, pi, qi⟩ := hi
    have hN := sx.hN
    subst hN
    have ho := b.hown
    subst ho
    have hl : sc.names.lookup y = some .local := by
      unfold swB at hb
      simp only [Bool.and_eq_true, beq_iff_eq] at hb
      exact hb.1.1
    exact ⟨_, ps_setLc (tt := canT c W0 ct) (te := canD c W0 e) (g := gTg X.K one (own.map (·.2))) sx.calm sx.nd hiN (by rw [sx.sc]; exact hl) (by rw [sw_is sx hk, hb]) pi (by rw [sx.sc]; exact b.blk) (fun s H C cl fp => pg_tg (X := X.blk s H scope (compEnvC scope cl C X.env) fp) sx.nd sx.calm (b.tgt.mono fun y hy => own_sto (X := X) hy s H C cl fp)) (fun s H C cl fp => pts_one (ht _ (sx_blk sx s H scope C cl fp)).can) (fun s H C cl fp => (b.elt _ (sx_blk sx s H scope C cl fp)).can) (fun x => set_of b.set x),
      fun σ ρ al S H Q s r h => by rw [sx.K]; exact rd_compC qi s r h⟩
end
end DL

set_option Elab.async false
set_option linter.all false
set_option maxRecDepth 100000
set_option maxHeartbeats 4000000
/-! DLk2: the def that names a caught error's kinds. -/
namespace DL
open PySem PySem.Spec PySem.Calls PyProof.Rows L2
/-- nothing that is tracked changes -/
def Gr (H H' : Hp) : Prop := ∀ b o, H b = some o → H' b = some o
theorem Gr.refl (H : Hp) : Gr H H := fun _ _ h => h
theorem Gr.trans {A B C : Hp} (h : Gr A B) (k : Gr B C) : Gr A C := fun b o e => k b o (h b o e)
theorem Gr.new {H : Hp} {p : Addr} (o : HO) (n : H p = none) : Gr H (upd H p o) := fun b u e => by
  by_cases z : b = p
  · rw [z, n] at e; cases e
  · rw [upd_ne z]; exact e
theorem Gr.str {x : Fx} {al : Als} {S : Sto} {H H' : Hp} (g : Gr H H') (s : StR x al S H) : StR x al S H' ∧ Ext (hide al H) (hide al H') := by
  have ex : Ext (hide al H) (hide al H') := fun b o e _ => by
    obtain ⟨e1, e2⟩ := hide_of e
    exact hide_in (g b o e1) e2
  refine ⟨⟨s.len, s.inj, fun n c e => ?_, s.live, s.tabs.ext g⟩, ex⟩
  obtain ⟨a, e1, q⟩ := s.cell n c e
  refine ⟨a, e1, q.mono ex ?_⟩
  obtain ⟨u, e2, _⟩ := q.some
  rw [g a u e2, e2]
/-- the words at the trues -/
def pick (ws : List Str) (bs : List Bool) : List Str := (ws.zip bs).filterMap fun p => if p.2 = true then some p.1 else none
def pickTo (ws : List Str) (bs : List Bool) (i : Nat) : List Str := ((ws.zip bs).take i).filterMap fun p => if p.2 = true then some p.1 else none
theorem pick_step {ws : List Str} {bs : List Bool} {i : Nat} {w : Str} {b : Bool} (h1 : ws[i]? = some w) (h2 : bs[i]? = some b) :
    pickTo ws bs (i + 1) = pickTo ws bs i ++ (if b = true then [w] else []) := by
  unfold pickTo
  rw [List.take_add_one]
  have hz : (ws.zip bs)[i]? = some (w, b) := by rw [List.getElem?_zip_eq_some]; exact ⟨h1, h2⟩
  rw [hz]
  cases b <;> simp
theorem pick_full {ws : List Str} {bs : List Bool} {i : Nat} (h : ws.length ≤ i ∨ bs.length ≤ i) : pickTo ws bs i = pick ws bs := by
  unfold pickTo pick
  rw [List.take_of_length_le]
  rw [List.length_zip]
  omega
theorem pick_sum : ∀ (ws : List Str) (bs : List Bool), ((pick ws bs).map (·.length)).sum ≤ (ws.map (·.length)).sum ∧ (pick ws bs).length ≤ ws.length
  | [], bs => by simp [pick]
  | w :: ws, [] => by simp [pick]
  | w :: ws, b :: bs => by
    obtain ⟨h1, h2⟩ := pick_sum ws bs
    unfold pick at h1 h2 ⊢
    cases b <;> simp only [List.zip_cons_cons, List.filterMap_cons, Bool.false_eq_true, if_false, if_true, List.map_cons, List.sum_cons, List.length_cons] <;> omega
theorem pick_len {ws : List Str} {bs : List Bool} {i : Nat} : (pickTo ws bs i).length ≤ ws.length := by
  unfold pickTo
  refine Nat.le_trans (List.length_filterMap_le _ _) ?_
  rw [List.length_take, List.length_zip]
  omega
section
variable {X : Cx}
/-- [label for label, good in zip(words, kinds) if good] -/
theorem kin_loop {K : PySem.W.Frag} {σ : L2.St} {H1 : Hp} {a b : Addr} {ws : List Str} {bs : List Bool} {Q : VK} {i1 i2 : Nat} {vs : List Nat} (h1 : H1 a = some (.lst (ws.map V.str))) (h2 : H1 b = some (.lst (bs.map V.bl)))
    (hl1 : i1 < σ.length) (hl2 : i2 < σ.length) (hne : i1 ≠ i2) (hz : ws.length < sizeLine) (hv : vs = [i1, i2])
    (hQ : ∀ D H', Gr H1 H' → H' D = some (.lst ((pick ws bs).map V.str)) → Q (.ref D) H') (D : Addr) (hD : H1 D = none) :
    ∃ W : Nat → Nat → Hp → Prop, (∃ m, W 0 m (upd H1 D (.lst []))) ∧ ∀ i m H, W i m H →
      ((ItzK true true K a b).stop i H ∧ Q (.ref D) H) ∨ ((ItzK true true K a b).go i H ∧ ∃ Nx : Hp → Prop, (∀ H', Nx H' → ∃ m', m' < m ∧ W (i + 1) m' H') ∧ ∀ x H', (ItzK true true K a b).yld i H x H' →
        gTup K 2 (gCons (gName i1) (gCons (gName i2) gNil)) x (wipe σ vs) H' fun σ2 H2 => wipe σ2 vs = wipe σ vs ∧ tB (tVar i2) σ2 H2 fun b H3 =>
          if b = true then tVar i1 σ2 H3 fun y H4 => ∃ acc, H4 D = some (.lst acc) ∧ acc.length < sizeLine ∧ Nx (upd H4 D (.lst (acc ++ [y]))) else Nx H3) := by
  subst hv
  have sq : ∀ {H : Hp}, Gr H1 H → SqK true K H a (ws.map V.str) ∧ SqK true K H b (bs.map V.bl) := fun {H} g => ⟨Or.inl (Or.inl (g _ _ h1)), Or.inl (Or.inl (g _ _ h2))⟩
  refine ⟨fun i m H => i + m = min ws.length bs.length ∧ i ≤ ws.length ∧ i ≤ bs.length ∧ H D = some (.lst ((pickTo ws bs i).map V.str)) ∧ Gr H1 H, ⟨_, Nat.zero_add _, Nat.zero_le _, Nat.zero_le _, by simp [upd_same, pickTo], Gr.new _ hD⟩, fun i m H ⟨hm, hi1, hi2, hDv, g⟩ => ?_⟩
  obtain ⟨s1, s2⟩ := sq g
  by_cases hs : ws.length ≤ i ∨ bs.length ≤ i
  · refine .inl ⟨⟨_, _, s1, s2, by simpa using hi1, by simpa using hi2, by simpa using hs⟩, ?_⟩
    exact hQ D H g (by rw [hDv, pick_full hs])
  · have l1 : i < ws.length := by omega
    have l2 : i < bs.length := by omega
    obtain ⟨w, hw⟩ : ∃ w, ws[i]? = some w := ⟨_, List.getElem?_eq_getElem l1⟩
    obtain ⟨bb, hb⟩ : ∃ b, bs[i]? = some b := ⟨_, List.getElem?_eq_getElem l2⟩
    have hw' : (ws.map V.str)[i]? = some (.str w) := by rw [List.getElem?_map, hw]; rfl
    have hb' : (bs.map V.bl)[i]? = some (.bl bb) := by rw [List.getElem?_map, hb]; rfl
    refine .inr ⟨⟨_, _, _, _, s1, s2, hw', hb'⟩, fun H' => i + 1 ≤ min ws.length bs.length ∧ H' D = some (.lst ((pickTo ws bs (i + 1)).map V.str)) ∧ Gr H1 H', fun H' ⟨hle, q1, q2⟩ => ⟨m - 1, by omega, by omega, by omega, by omega, q1, q2⟩, fun x H' hy => ?_⟩
    obtain ⟨T, x1, y1, rfl, nT, rfl, yx, yy⟩ := hy
    have ex := yx _ s1
    have ey := yy _ s2
    rw [hw'] at ex
    rw [hb'] at ey
    cases ex
    cases ey
    have g1 : Gr H1 (upd H T (.tup [V.str w, V.bl bb])) := g.trans (Gr.new _ nT)
    have hT : T ≠ D := fun z => by rw [z, hDv] at nT; cases nT
    have hDv' : upd H T (.tup [V.str w, V.bl bb]) D = some (.lst ((pickTo ws bs i).map V.str)) := by rw [upd_ne (Ne.symm hT)]; exact hDv
    have lw : (wipe σ [i1, i2]).length = σ.length := wipe_length _ _
    have e1 : (((wipe σ [i1, i2]).set i1 (some (V.str w))).set i2 (some (V.bl bb)))[i1]? = some (some (V.str w)) := by
      rw [List.getElem?_set_ne (Ne.symm hne), List.getElem?_set_self (by rw [lw]; exact hl1)]
    have e2 : (((wipe σ [i1, i2]).set i1 (some (V.str w))).set i2 (some (V.bl bb)))[i2]? = some (some (V.bl bb)) := by
      rw [List.getElem?_set_self (by rw [List.length_set, lw]; exact hl2)]
    refine ⟨T, _, rfl, .inl (.inl upd_same), rfl, _, _, rfl, _, _, rfl, rfl, ?_, ?_⟩
    · refine wipe_same (by rw [List.length_set, List.length_set, lw]) fun j hj => ?_
      have n1 : i1 ≠ j := fun z => hj (by simp [z])
      have n2 : i2 ≠ j := fun z => hj (by simp [z])
      rw [List.getElem?_set_ne n2, List.getElem?_set_ne n1, wipe_out hj]
    · refine ⟨_, e2, bb, rfl, ?_⟩
      have hst := pick_step hw hb
      cases bb with
      | false =>
        simp only [Bool.false_eq_true, if_false, List.append_nil] at hst ⊢
        exact ⟨by omega, by rw [hDv', hst], g1⟩
      | true =>
        simp only [if_true] at hst ⊢
        refine ⟨_, e1, _, hDv', ?_, by omega, ?_, ?_⟩
        · rw [List.length_map]
          exact Nat.lt_of_le_of_lt pick_len hz
        · rw [upd_same, hst, List.map_append]
          rfl
        · intro b' o' e'
          have nb : b' ≠ D := fun z => by rw [z, hD] at e'; cases e'
          rw [upd_ne nb]
          exact g1 b' o' e'

def kinN : List Str := ["e", "kinds", "labels", "label", "good"]
def kinC : List Str := ["InvalidMany", "InvalidFact", "InvalidFacts", "InvalidWalker", "InvalidWay", "InvalidCase", "InvalidPaper", "InvalidIndex", "Impossible", "Unlike", "NothingToUndo", "TooMany", "InvalidText", "ValueError"]
def kinLabels : Str := "number fact facts walker way case paper index impossible unlike undo many text +"
def kinTxt (bit : Str → Bool) : Str := Txt.join " " (pick (Txt.split kinLabels " ") (kinC.map bit))
/-- what the def's context must say -/
structure KinX (X : Cx) (p : Addr × Obj) (D : Addr) (d : Option Addr) (bit : Str → Bool) : Prop where
  hN : X.N = kinN
  e : X.env.scope.names.lookup ("e" : Str) = some .local
  kinds : X.env.scope.names.lookup ("kinds" : Str) = some .local
  labels : X.env.scope.names.lookup ("labels" : Str) = some .local
  isi : Gl X "isinstance" ∧ X.mg "isinstance" = none
  zip : Gl X "zip" ∧ X.mg "zip" = none
  cls : ∀ c ∈ kinC, ∃ v cv, Names X c cv ∧ RelV v cv ∧ (∀ u, RelV v u → u = cv) ∧ PySem.W.kitOne X.K (.ref D) cv = some (bit c)
  exc : ExcC X.K D
  hot : L2H.Hot1 X.A p
  pn : p ∈ X.pn
  pin : PinX X p.1 D d

section
variable {X : Cx} {p : Addr × Obj} {D : Addr} {d : Option Addr} {bit : Str → Bool}
/-- the state of the def's names -/
def KSt (a : Addr) (σ : L2.St) : Prop := σ.length = 5 ∧ σ[0]? = some (some (.ref a))
theorem KSt.set {a : Addr} {σ : L2.St} {i : Nat} {v : Option V} (k : KSt a σ) (h : i ≠ 0) : KSt a (σ.set i v) := ⟨by rw [List.length_set]; exact k.1, by rw [List.getElem?_set_ne h]; exact k.2⟩
theorem pe_is (k : KinX X p D d bit) {c : Str} (hc : c ∈ kinC) {p1 p2 p3 p4 : Pos} :
    ∃ t, PE X (.Call (.Name "isinstance" p1) [.Name "e" p2, .Name c p3] [] p4) t ∧ ∀ σ H Q, KSt p.1 σ → FldOk d H → Q (.bl (bit c)) H → t σ H Q := by
  obtain ⟨v, cv, ⟨hg, hd, hn⟩, rv, hu, hk⟩ := k.cls c hc
  have pc : PE X (.Name c p3) (tC v) := by
    rcases hn with hm | ⟨hm, hb, hx⟩
    · exact pe_glob hg hm rv hd
    · exact pe_bltn hg hm hb rv hx hd
  have pe : PE X (.Name "e" p2) (tVar 0) := pe_var (by rw [k.hN]; rfl) (.inl k.e)
  refine ⟨_, pe_callB (call_isG k.exc k.pin) k.isi.1 k.isi.2 (by with_unfolding_all rfl) (pa_cons pe (pa_cons pc pa_nil)), fun σ H Q ks hf q => ?_⟩
  exact ⟨_, ks.2, hf, v, cv, bit c, rfl, hu, hk, q⟩
inductive IsL : List Str → List Expr → Prop
  | nil : IsL [] []
  | cons {c : Str} {cs : List Str} {es : List Expr} {p1 p2 p3 p4 : Pos} (h : c ∈ kinC) (r : IsL cs es) : IsL (c :: cs) (.Call (.Name "isinstance" p1) [.Name "e" p2, .Name c p3] [] p4 :: es)
theorem pa_is (k : KinX X p D d bit) {cs : List Str} {es : List Expr} (h : IsL cs es) : ∃ t, PA X es t ∧ ∀ σ H Q, KSt p.1 σ → FldOk d H → Q (cs.map fun c => .bl (bit c)) H → t σ H Q := by
  induction h with
  | nil => exact ⟨_, pa_nil, fun σ H Q _ _ q => q⟩
  | cons hc r ih =>
    obtain ⟨t, pt, qt⟩ := pe_is k hc
    obtain ⟨u, pu, qu⟩ := ih
    exact ⟨_, pa_cons pt pu, fun σ H Q ks hf q => qt _ _ _ ks hf (qu _ _ _ ks hf q)⟩
theorem FldOk.gr {d : Option Addr} {H H' : Hp} (f : FldOk d H) (g : Gr H H') : FldOk d H' := fun dd e => let ⟨fs, h⟩ := f dd e; ⟨fs, g _ _ h⟩
theorem nd_kin (k : KinX X p D d bit) : X.N.Nodup := by rw [k.hN]; decide
/-- kinds = [..] -/
theorem ps_k1 (k : KinX X p D d bit) {cs : List Str} {es : List Expr} (h : IsL cs es) (hl : cs.length ≤ 100) {p1 p2 p3 : Pos} :
    ∃ t, PS X (.Assign [.Name "kinds" p1] (.List es p2) p3) t ∧ ∀ (E : Ends) σ H, KSt p.1 σ → FldOk d H → (∀ σ' H' l, KSt p.1 σ' → Gr H H' → σ'[1]? = some (some (.ref l)) → H' l = some (.lst (cs.map fun c => .bl (bit c))) → E.nx σ' H') → t E σ H := by
  obtain ⟨t, pt, qt⟩ := pa_is k h
  refine ⟨_, ps_asg (pe_lst pt) (pg_name (i := 1) (nd_kin k) (by rw [k.hN]; rfl) (.inl k.kinds) (.inr k.kinds)) rfl rfl, fun E σ H ks hf q => ?_⟩
  refine qt _ _ _ ks hf ⟨by rw [List.length_map, sizeLine_eq]; omega, fun l nl => ?_⟩
  exact q _ _ l (ks.set (by decide)) (Gr.new _ nl) (by rw [List.getElem?_set_self (by rw [ks.1]; decide)]) upd_same
/-- kinds = kinds + [..] -/
theorem ps_k2 (k : KinX X p D d bit) {cs c0 : List Str} {es : List Expr} (h : IsL cs es) (hl : cs.length ≤ 100) (h0 : c0.length ≤ 100) {p1 p2 p3 p4 p5 : Pos} :
    ∃ t, PS X (.Assign [.Name "kinds" p1] (.BinOp (.Name "kinds" p4) .Add (.List es p2) p5) p3) t ∧ ∀ (E : Ends) σ H l0, KSt p.1 σ → FldOk d H → σ[1]? = some (some (.ref l0)) → H l0 = some (.lst (c0.map fun c => .bl (bit c))) →
      (∀ σ' H' l, KSt p.1 σ' → Gr H H' → σ'[1]? = some (some (.ref l)) → H' l = some (.lst ((c0 ++ cs).map fun c => .bl (bit c))) → E.nx σ' H') → t E σ H := by
  obtain ⟨t, pt, qt⟩ := pa_is k h
  refine ⟨_, ps_asg (pe_op op_catS (pe_var (i := 1) (by rw [k.hN]; rfl) (.inl k.kinds)) (pe_lst pt)) (pg_name (i := 1) (nd_kin k) (by rw [k.hN]; rfl) (.inl k.kinds) (.inr k.kinds)) rfl rfl, fun E σ H l0 ks hf e1 e2 q => ?_⟩
  refine ⟨_, e1, ?_⟩
  refine qt _ _ _ ks hf ⟨by rw [List.length_map, sizeLine_eq]; omega, fun l nl => ?_⟩
  have g := Gr.new (.lst (cs.map fun c => .bl (bit c))) nl
  refine ⟨l0, l, _, _, rfl, rfl, .inl (.inl (g _ _ e2)), .inl (.inl upd_same), by rw [List.length_map, List.length_map, sizeLine_eq]; omega, fun l' nl' => ?_⟩
  exact q _ _ l' (ks.set (by decide)) (g.trans (Gr.new _ nl')) (by rw [List.getElem?_set_self (by rw [ks.1]; decide)]) (by rw [upd_same, List.map_append])
def kinSc : List (Str × NameKind) := [(".0", .local), ("label", .local), ("good", .local)]
def kinOwn : List (Str × Nat) := [("label", 3), ("good", 4)]
theorem kin_blk (k : KinX X p D d bit) {scope : Scope} (hs : scope.names = kinSc) (hk : scope.kind = .function) : BlkOk X.N X.env.scope scope kinOwn where
  kind := hk
  uniq := by rw [hs]; decide
  ix := by rw [k.hN]; decide
  free := by
    rw [hs]
    intro y hy e
    have : ∀ y ∈ kinSc, y.2 ≠ .free := by decide
    exact absurd e (this y hy)
  own := by rw [hs, k.hN]; decide
/-- return " ".join([label for label, good in zip(labels.split(" "), kinds) if good]) -/
theorem pe_kj (k : KinX X p D d bit) {scope : Scope} (hs : scope.names = kinSc) (hk : scope.kind = .function) {j1 j2 k1 : Nat} {p1 p2 p3 p4 p5 p6 p7 p8 p9 p10 p11 p12 p13 p14 ap1 ap2 : Pos}
    (l1 : (ap1.endLine == p1.line) = true) (l2 : (ap2.endLine == p2.line) = true) :
    ∃ t, PE X (.Call (.Attribute (.Constant (.str " ") j1 p3) "join" ap1) [.ListComp (.Name "label" p4) [⟨.Tuple [.Name "label" p5, .Name "good" p6] k1 p7, .Call (.Name "zip" p8) [.Call (.Attribute (.Name "labels" p9) "split" ap2) [.Constant (.str " ") j2 p10] [] p2, .Name "kinds" p11] [] p12, [.Name "good" p13], 0⟩] scope p14] [] p1) t ∧
      ∀ σ H l (Q : VK), KSt p.1 σ → σ[1]? = some (some (.ref l)) → σ[2]? = some (some (.str kinLabels)) → H l = some (.lst (kinC.map fun c => .bl (bit c))) → (∀ H', Gr H H' → Q (.str (kinTxt bit)) H') → t σ H Q := by
  have ps : PE X _ _ := pe_split (pos := p2) (apos := ap2) (pe_var (pos := p9) (i := 2) (x := "labels") (by rw [k.hN]; rfl) (.inl k.labels)) (pe_str (x := " ") (j := j2) (pos := p10)) (hline := l2)
  have pa : PA X [_, .Name "kinds" p11] _ := pa_cons ps (pa_cons (pe_var (i := 1) (by rw [k.hN]; rfl) (.inl k.kinds)) pa_nil)
  have hloc : ∀ (s : Shared) (H : Hp) (C : Addr) (cl : List (Str × Addr)) (fp : List Addr) (x : Str), scope.names.lookup x = some .local → (X.blk s H scope (compEnvC scope cl C X.env) fp).env.scope.names.lookup x = some .local := fun s H C cl fp x h => lookup_relS_keep (fun z => nomatch z) h
  have n3 : scope.names.lookup ("label" : Str) = some .local := by rw [hs]; decide
  have n4 : scope.names.lookup ("good" : Str) = some .local := by rw [hs]; decide
  have hnd := nd_kin k
  refine ⟨_, pe_join (pe_str) (pe_lcX (own := kinOwn) (g := gTup X.K 2 (gCons (gName 3) (gCons (gName 4) gNil))) (tt := tB (tVar 4)) (te := tVar 3) k.hot k.pn hnd (pi_zipX k.zip.1 k.zip.2 pa rfl rfl) (kin_blk k hs hk)
    (fun s H C cl fp => pg_tupX (pgs_cons (pg_name (i := 3) (X := X.blk s H scope (compEnvC scope cl C X.env) fp) hnd (by show X.N[3]? = _; rw [k.hN]; rfl) (.inl (hloc s H C cl fp _ n3)) (.inr (hloc s H C cl fp _ n3))) (pgs_cons (pg_name (i := 4) (X := X.blk s H scope (compEnvC scope cl C X.env) fp) hnd (by show X.N[4]? = _; rw [k.hN]; rfl) (.inl (hloc s H C cl fp _ n4)) (.inr (hloc s H C cl fp _ n4))) pgs_nil)) rfl rfl)
    (fun s H C cl fp => pts_one (pt_val (pe_var (i := 4) (X := X.blk s H scope (compEnvC scope cl C X.env) fp) (by show X.N[4]? = _; rw [k.hN]; rfl) (.inl (hloc s H C cl fp _ n4)))))
    (fun s H C cl fp => pe_var (i := 3) (X := X.blk s H scope (compEnvC scope cl C X.env) fp) (by show X.N[3]? = _; rw [k.hN]; rfl) (.inl (hloc s H C cl fp _ n3))) (fun x => by rfl)) (hline := l1), fun σ H l Q ks e1 e2 hl q => ?_⟩
  refine ⟨⟨_, rfl⟩, ?_⟩
  refine ⟨_, e2, ⟨_, rfl⟩, _, _, rfl, rfl, by decide +kernel, by decide +kernel, fun l' nl' => ⟨_, e1, l', l, _, _, rfl, .inl (.inl upd_same), .inl (.inl ((Gr.new _ nl') _ _ hl)), fun DD hDD => ?_⟩⟩
  have g0 := Gr.new (.lst ((Txt.split kinLabels " ").map V.str)) nl'
  refine kin_loop (K := X.K) (Q := fun y H2 => ∃ a p, ∃ ys : List Str, V.str " " = .str a ∧ [y] = [.ref p] ∧ (SqL X.K H2 p (ys.map V.str) ∨ SqT X.K H2 p (ys.map V.str)) ∧ (ys.map (·.length)).sum + ys.length * a.length ≤ 16777216 ∧ Q (.str (Txt.join a ys)) H2) (vs := kinOwn.map (·.2)) (ws := Txt.split kinLabels " ") (bs := kinC.map bit) (i1 := 3) (i2 := 4) upd_same (by rw [List.map_map]; exact g0 _ _ hl) (by rw [ks.1]; decide) (by rw [ks.1]; decide) (by decide) (by decide +kernel) rfl (fun D' H' g hD' => ?_) DD hDD
  refine ⟨_, D', pick (Txt.split kinLabels " ") (kinC.map bit), rfl, rfl, Or.inl (Or.inl (Or.inl hD')), ?_, q H' (g0.trans g)⟩
  obtain ⟨b1, b2⟩ := pick_sum (Txt.split kinLabels " ") (kinC.map bit)
  have w1 : ((Txt.split kinLabels " ").map (·.length)).sum ≤ 1000 := by decide +kernel
  have w2 : (Txt.split kinLabels " ").length ≤ 1000 := by decide +kernel
  have w3 : (Str.ofString " ").length = 1 := by decide +kernel
  rw [w3]
  omega
end
end
end DL

set_option Elab.async false
set_option linter.all false
set_option maxRecDepth 100000
set_option maxHeartbeats 4000000
/-! DLk3: that def, called in an except suite. -/
namespace DL
open PySem PySem.Spec PySem.Calls PyProof.Rows L2
section
variable {X : Cx} {p : Addr × Obj} {D : Addr} {d : Option Addr} {bit : Str → Bool}
theorem kin_body (k : KinX X p D d bit) {scope : Scope} (hs : scope.names = kinSc) (hk : scope.kind = .function) {c1 c2 c3 c4 c5 : List Str} {es1 es2 es3 es4 es5 : List Expr} (h1 : IsL c1 es1) (h2 : IsL c2 es2) (h3 : IsL c3 es3) (h4 : IsL c4 es4) (h5 : IsL c5 es5)
    (hc : c1 ++ c2 ++ c3 ++ c4 ++ c5 = kinC) {j1 j2 j3 k1 : Nat} {q1 q2 q3 q4 q5 q6 q7 q8 q9 q10 q11 q12 q13 q14 q15 q16 q17 q18 q19 q20 q21 q22 q23 q24 q25 q26 q27 p1 p2 p3 p4 p5 p6 p7 p8 p9 p10 p11 p12 p13 p14 ap1 ap2 : Pos}
    (l1 : (ap1.endLine == p1.line) = true) (l2 : (ap2.endLine == p2.line) = true) :
    ∃ t, PSs X [.Assign [.Name "kinds" q1] (.List es1 q2) q3,
      .Assign [.Name "kinds" q4] (.BinOp (.Name "kinds" q5) .Add (.List es2 q6) q7) q8,
      .Assign [.Name "kinds" q9] (.BinOp (.Name "kinds" q10) .Add (.List es3 q11) q12) q13,
      .Assign [.Name "kinds" q14] (.BinOp (.Name "kinds" q15) .Add (.List es4 q16) q17) q18,
      .Assign [.Name "kinds" q19] (.BinOp (.Name "kinds" q20) .Add (.List es5 q21) q22) q23,
      .Assign [.Name "labels" q24] (.Constant (.str kinLabels) j3 q25) q26,
      .Return (some (.Call (.Attribute (.Constant (.str " ") j1 p3) "join" ap1) [.ListComp (.Name "label" p4) [⟨.Tuple [.Name "label" p5, .Name "good" p6] k1 p7, .Call (.Name "zip" p8) [.Call (.Attribute (.Name "labels" p9) "split" ap2) [.Constant (.str " ") j2 p10] [] p2, .Name "kinds" p11] [] p12, [.Name "good" p13], 0⟩] scope p14] [] p1)) q27] t ∧
      ∀ σ H (Q : VK), KSt p.1 σ → FldOk d H → (∀ H', Gr H H' → Q (.str (kinTxt bit)) H') → t { nx := fun _ H' => Q .non H', rt := Q } σ H := by
  have hlen : c1.length + c2.length + c3.length + c4.length + c5.length = 14 := by
    have e := congrArg List.length hc
    simp only [List.length_append] at e
    rw [e]; rfl
  obtain ⟨t1, s1, r1⟩ := ps_k1 k h1 (by omega) (p1 := q1) (p2 := q2) (p3 := q3)
  obtain ⟨t2, s2, r2⟩ := ps_k2 k (c0 := c1) h2 (by omega) (by omega) (p1 := q4) (p4 := q5) (p2 := q6) (p5 := q7) (p3 := q8)
  obtain ⟨t3, s3, r3⟩ := ps_k2 k (c0 := c1 ++ c2) h3 (by omega) (by simp only [List.length_append]; omega) (p1 := q9) (p4 := q10) (p2 := q11) (p5 := q12) (p3 := q13)
  obtain ⟨t4, s4, r4⟩ := ps_k2 k (c0 := c1 ++ c2 ++ c3) h4 (by omega) (by simp only [List.length_append]; omega) (p1 := q14) (p4 := q15) (p2 := q16) (p5 := q17) (p3 := q18)
  obtain ⟨t5, s5, r5⟩ := ps_k2 k (c0 := c1 ++ c2 ++ c3 ++ c4) h5 (by omega) (by simp only [List.length_append]; omega) (p1 := q19) (p4 := q20) (p2 := q21) (p5 := q22) (p3 := q23)
  have s6 : PS X (.Assign [.Name "labels" q24] (.Constant (.str kinLabels) j3 q25) q26) _ := ps_asg pe_str (pg_name (i := 2) (nd_kin k) (by rw [k.hN]; rfl) (.inl k.labels) (.inr k.labels)) rfl rfl
  obtain ⟨t7, s7, r7⟩ := pe_kj k hs hk (j1 := j1) (j2 := j2) (k1 := k1) (p3 := p3) (p4 := p4) (p5 := p5) (p6 := p6) (p7 := p7) (p8 := p8) (p9 := p9) (p10 := p10) (p11 := p11) (p12 := p12) (p13 := p13) (p14 := p14) l1 l2
  refine ⟨_, pss_cons s1 (pss_cons s2 (pss_cons s3 (pss_cons s4 (pss_cons s5 (pss_cons s6 (pss_one (ps_ret s7))))))), fun σ H Q ks hf q => ?_⟩
  refine r1 _ σ H ks hf fun σ1 H1 a1 k1 g1 e1 m1 => ?_
  refine r2 _ σ1 H1 a1 k1 (hf.gr g1) e1 m1 fun σ2 H2 a2 k2 g2 e2 m2 => ?_
  refine r3 _ σ2 H2 a2 k2 ((hf.gr g1).gr g2) e2 m2 fun σ3 H3 a3 k3 g3 e3 m3 => ?_
  refine r4 _ σ3 H3 a3 k3 (((hf.gr g1).gr g2).gr g3) e3 m3 fun σ4 H4 a4 k4 g4 e4 m4 => ?_
  refine r5 _ σ4 H4 a4 k4 ((((hf.gr g1).gr g2).gr g3).gr g4) e4 m4 fun σ5 H5 a5 k5 g5 e5 m5 => ?_
  rw [hc] at m5
  refine r7 (σ5.set 2 (some (.str kinLabels))) H5 a5 Q (k5.set (by decide)) (by rw [List.getElem?_set_ne (by decide)]; exact e5) (by rw [List.getElem?_set_self (by rw [k5.1]; decide)]) m5 fun H6 g6 => ?_
  exact q H6 (g1.trans (g2.trans (g3.trans (g4.trans (g5.trans g6)))))
end
/-- what the classes must say -/
structure KinF (K : PySem.W.Frag) (mg : Str → Option Value) (sc : Scope) (D : Addr) (bit : Str → Bool) : Prop where
  e : sc.names.lookup ("e" : Str) = some .local
  kinds : sc.names.lookup ("kinds" : Str) = some .local
  labels : sc.names.lookup ("labels" : Str) = some .local
  gi : sc.names.lookup ("isinstance" : Str) = some .globalImplicit
  gz : sc.names.lookup ("zip" : Str) = some .globalImplicit
  gc : ∀ c ∈ kinC, sc.names.lookup c = some .globalImplicit
  isi : mg "isinstance" = none
  zip : mg "zip" = none
  cls : ∀ c ∈ kinC, ∃ v cv, ((c == ("__debug__" : Str)) = false ∧ (mg c = some cv ∨ (mg c = none ∧ bootBuiltins c = some cv ∧ c ≠ "__name__"))) ∧ RelV v cv ∧ (∀ u, RelV v u → u = cv) ∧ PySem.W.kitOne K (.ref D) cv = some (bit c)
  exc : ExcC K D
theorem KinF.x {K : PySem.W.Frag} {mg : Str → Option Value} {sc : Scope} {D : Addr} {bit : Str → Bool} (f : KinF K mg sc D bit) {X : Cx} {p : Addr × Obj} {d : Option Addr} (hK : X.K = K) (hm : X.mg = mg) (hs : X.env.scope = sc) (hN : X.N = kinN)
    (hot : L2H.Hot1 X.A p) (hp : p ∈ X.pn) (pin : PinX X p.1 D d) : KinX X p D d bit where
  hN := hN
  e := by rw [hs]; exact f.e
  kinds := by rw [hs]; exact f.kinds
  labels := by rw [hs]; exact f.labels
  isi := ⟨by show X.env.scope.names.lookup _ = _; rw [hs]; exact f.gi, by rw [hm]; exact f.isi⟩
  zip := ⟨by show X.env.scope.names.lookup _ = _; rw [hs]; exact f.gz, by rw [hm]; exact f.zip⟩
  cls := fun c hc => by
    obtain ⟨v, cv, ⟨h1, h2⟩, r⟩ := f.cls c hc
    exact ⟨v, cv, ⟨by show X.env.scope.names.lookup _ = _; rw [hs]; exact f.gc c hc, h1, by rw [hm]; exact h2⟩, by rw [hK]; exact r⟩
  exc := by rw [hK]; exact f.exc
  hot := hot
  pn := hp
  pin := pin
/-- a def called in an except suite, its promise told of the very state -/
theorem run_hot {CX : CXT} {P : Program} {w : World} {K : PySem.W.Frag} {mg : Str → Option Value} {base : Heap} {k : Nat} {f : Addr} {name qual : Str} {params : Arguments} {body : List Stmt} {scope : Scope} {dV kV doc pm cdv ct oc : Value} {an od : Option Addr}
    {osl : Array (Option Value)} {N ps : List Str} (lk : K.lookup f = some ⟨oc, od, .func (PySem.W.fnOf name qual params body scope dV kV doc pm an cdv ct), osl⟩) (hcd : PySem.W.codeIn K cdv qual = true) (S : FnScope N ps scope)
    {A : Around} {outer : List Env} {s : Shared} {H : Hp} {args : Args} {us : List Value} {vs : List V} {Q : VK} {E : XK} {p : Addr × Obj} (hr : L2H.RoomH (k + 1) A) (hpin : L2H.PinOk outer H s p) (e0 : Env0 P w K mg base A outer s H) (hb : BindsTo s (PySem.W.fnOf name qual params body scope dV kV doc pm an cdv ct) args (ps.zip us)) (r : Vals vs us) (hl : vs.length = ps.length)
    (hbody : ∃ t, PSs (L2H.cxH CX P w K mg base N qual scope f cdv A outer s H E p) body t ∧ t { nx := fun _ H' => Q .non H', rt := Q } (L2.start N vs) H) :
    codeAny (model P w) A (.call (.ref f) args) (CR CX outer P w H s Q E) s := by
  have KX : K.In s.heap := e0.mod.kin.keeps fun b o e => (e0.bs b o e).1
  have lim : s.heap.NoLimit := e0.mod.nolimit.keeps fun b o e => (e0.bs b o e).1
  have hkind : ∀ y ∈ ps.zip us, scope.names.lookup y.1 = some .local ∨ (scope.names.lookup y.1 = some .cell ∧ ((cellsFrom (s.heap.objs.size + 1) scope.names []).lookup y.1).isSome = true) := fun ⟨n, v⟩ hy => by
    rcases S.par n (List.of_mem_zip hy).1 with q | q
    · exact .inl q
    · exact .inr ⟨q, PySem.W.cellsFrom_some _ _ _ (.inl q)⟩
  refine codeAny_call_function hr.depth (KX _ _ lk) rfl S.co S.gen rfl (PySem.W.codeRec_of KX hcd) (hb _ _ _ _ ?_)
  refine wpAny_newFunctionEnv_cells S.kind hkind fun env he s1 x => ?_
  subst he
  refine ⟨lim.keeps x.toInCall.keep, codeAny_func ?_⟩
  obtain ⟨t, ht, hq⟩ := hbody
  have I := L2H.inv_startH (CX := CX) (E := E) S hpin e0 hl r x
  refine wpAny_mono (ht.run [] s1 (L2.start N vs) H _ I hq) (fun fl s' hs => ?_) fun e s' hs => hs
  have fin : ∀ {σ' : L2.St} {H' : Hp} {v : V} {u : Value}, Inv (L2H.cxH CX P w K mg base N qual scope f cdv A outer s H E p) [] σ' H' s' → L2.RelV v u → Q v H' → L2.CE outer P w H s Q u s' :=
    fun {σ' H' v u} J rv q => ⟨v, H', J.os, J.bare, J.base, J.hok, rv, q⟩
  cases fl with
  | ret u =>
    obtain ⟨v, σ', H', J, rv, q⟩ := hs
    exact fin J rv q
  | next =>
    obtain ⟨σ', H', J, q⟩ := hs
    exact fin (v := V.non) (u := Value.none) J rfl q
  | brk =>
    obtain ⟨_, _, _, q⟩ := hs
    exact False.elim q
  | cont =>
    obtain ⟨_, _, _, q⟩ := hs
    exact False.elim q
theorem cx_no {P : Program} {w : World} {outer : List Env} {H : Hp} {s : Shared} {e : Value} {s' : Shared} (h : L2N.CX P w outer H s (fun _ _ _ => False) e s') : False := by
  obtain ⟨_, _, _, _, _, _, _, _, _, _, _, _, _, _, z⟩ := h
/-- the body does as it should, in whatever context -/
def KinB (N : List Str) (scope : Scope) (body : List Stmt) : Prop := ∀ (X : Cx) (p : Addr × Obj) (D : Addr) (d : Option Addr) (bit : Str → Bool), KinX X p D d bit →
  ∃ t, PSs X body t ∧ ∀ σ H (Q : VK), KSt p.1 σ → FldOk d H → (∀ H', Gr H H' → Q (.str (kinTxt bit)) H') → t { nx := fun _ H' => Q .non H', rt := Q } σ H
theorem pe_kin {Y : Cx} {k i : Nat} {f : Addr} {name qual n : Str} {params : Arguments} {body : List Stmt} {scope : Scope} {dV kV doc pm cdv ct oc : Value} {an od : Option Addr} {osl : Array (Option Value)} {a D : Addr} {oe : Obj} {d : Option Addr} {bit : Str → Bool} {p1 p2 pos : Pos}
    (hg : Gl Y name) (hm : Y.mg name = some (.ref f)) (hk : PySem.W.keepIn Y.K (.ref f) = true) (hdb : (name == ("__debug__" : Str)) = false)
    (lk : Y.K.lookup f = some ⟨oc, od, .func (PySem.W.fnOf name qual params body scope dV kV doc pm an cdv ct), osl⟩) (hcd : PySem.W.codeIn Y.K cdv qual = true) (S : FnScope kinN ["e"] scope)
    (hb : L2.Binds Y.K (PySem.W.fnOf name qual params body scope dV kV doc pm an cdv ct) ["e"] []) (B : KinB kinN scope body) (hr : L2H.RoomH (k + 1) Y.A) (hot : L2H.Hot1 Y.A (a, oe)) (hp : (a, oe) ∈ Y.pn)
    (hc : oe.cls = .ref D) (hd : oe.dict = d) (hf : ∃ vs, oe.data = .fields vs) (kf : KinF Y.K Y.mg scope D bit) (he : ∃ t, PE Y (.Name n p2) t ∧ ∀ σ H Q, σ[i]? = some (some (.ref a)) → Q (.ref a) H → t σ H Q) :
    ∃ t, PE Y (.Call (.Name name p1) [.Name n p2] [] pos) t ∧ ∀ σ H (Q : VK), σ[i]? = some (some (.ref a)) → FldOk d H → (∀ H', Gr H H' → Q (.str (kinTxt bit)) H') → t σ H Q := by
  obtain ⟨t, pt, qt⟩ := he
  refine ⟨fun σ H Q => tCons t tNil σ H fun vs H1 => vs = [.ref a] ∧ FldOk d H1 ∧ ∀ H', Gr H1 H' → Q (.str (kinTxt bit)) H', ⟨fun pins s σ H Q I h => ?_⟩, fun σ H Q e1 hfl q => qt _ _ _ e1 ⟨rfl, hfl, q⟩⟩
  refine wpAny_Call_Name_kw (ld_glob I hg hm ?_ hdb)
  have pa : PA Y [.Name n p2] _ := pa_cons pt pa_nil
  refine PySem.W.callWith_K (h₀ := Y.base) I.ok.mod.kin hk (thn (pa.run pos pins s σ H _ I h) fun us s1 ⟨vs, H1, I1, r, e1, e3, e4⟩ => ⟨I1.kIn, ?_⟩) rfl rfl
  subst e1
  have P1 := I1.pin (a, oe) (List.mem_append_left _ hp)
  have hpin : L2H.PinOk Y.stack H1 s1 (a, oe) := ⟨P1.1, P1.2.1, fun hm => (List.mem_cons.mp (I1.stkSub a hm)).elim P1.2.2.1 P1.2.2.2.1, P1.2.2.2.2⟩
  have hl : us.length = ["e"].length := by rw [← r.length]; rfl
  have b := hb s1 us I1.kIn (by rw [List.append_nil]; exact hl)
  rw [List.append_nil] at b
  have hpinX : PinX (L2H.cxH (L2N.CX Y.prog Y.w) Y.prog Y.w Y.K Y.mg Y.base kinN qual scope f cdv Y.A Y.stack s1 H1 (fun _ _ _ => False) (a, oe)) a D d := ⟨oe, List.mem_cons_self, hc, hd, hf⟩
  obtain ⟨t2, pt2, qt2⟩ := B (L2H.cxH (L2N.CX Y.prog Y.w) Y.prog Y.w Y.K Y.mg Y.base kinN qual scope f cdv Y.A Y.stack s1 H1 (fun _ _ _ => False) (a, oe)) (a, oe) D d bit
    (kf.x rfl rfl rfl rfl hot List.mem_cons_self hpinX)
  refine wpAny_call (codeAny_mono (run_hot (Q := Q) lk hcd S hr hpin I1.env0 b r rfl ⟨t2, pt2, qt2 _ _ _ ⟨rfl, rfl⟩ e3 e4⟩) fun r s' hq => ?_)
  cases r with
  | error e => exact (cx_no hq).elim
  | ok fl =>
    cases fl with
    | ret u => exact I1.after hq
    | next => exact False.elim hq
    | brk => exact False.elim hq
    | cont => exact False.elim hq
end DL

set_option Elab.async false
set_option linter.all false
set_option maxRecDepth 100000
set_option maxHeartbeats 4000000
/-! DLt: try with several clauses 'except C as e'. (The proof follows the library's for clauses without a name, turned to clauses with one.) -/
namespace DL
open PySem PySem.Spec PySem.Calls PyProof.Rows L2
open L2N (Zn)
def asD (i : Nat) (D : Ends) : Ends := { nx := fun σ' H' => D.nx (σ'.set i none) H', rt := D.rt, bk := fun σ' H' => D.bk (σ'.set i none) H', ct := fun σ' H' => D.ct (σ'.set i none) H' }
def wManyAs (K : PySem.W.Frag) (i : Nat) (Wout : WX) (D : Ends) : List (Value × (Addr → Value → Option Addr → TS)) → WX
  | [] => Wout
  | (c, ts) :: r => fun cls d σ H => ∃ b, PySem.W.exmOne K cls c = some b ∧ (b = true → ∀ a, H a = none → ts a cls d (asD i D) (σ.set i (some (.ref a))) H) ∧ (b = false → wManyAs K i Wout D r cls d σ H)
inductive HdsAs (X : Cx) (i : Nat) (n : Str) : List ExceptHandler → List (Value × (Addr → Value → Option Addr → TS)) → Prop
  | nil : HdsAs X i n [] []
  | cons {x : Str} {c : Value} {ts : Addr → Value → Option Addr → TS} {b₀ : Stmt} {suite : List Stmt} {np pos' : Pos} {hds : List ExceptHandler} {l : List (Value × (Addr → Value → Option Addr → TS))} (hc : Names X x c)
      (hsu : ∀ (a : Addr) (oe : Obj) (cls : Value) (d : Option Addr) (pn : List (Addr × Obj)), Zn cls d oe → (∃ vs, oe.data = .fields vs) → PSs (X.suite a ((a, oe) :: pn)) (b₀ :: suite) (ts a cls d)) (r : HdsAs X i n hds l) :
      HdsAs X i n (.ExceptHandler (some (.Name x np)) (some n) (b₀ :: suite) pos' :: hds) ((c, ts) :: l)
section
variable {X : Cx} {n : Str} {i : Nat} {body : List Stmt} {h₀ : ExceptHandler} {hds : List ExceptHandler} {l : List (Value × (Addr → Value → Option Addr → TS))} {pos : Pos} {tb : WX → TS} {Wout : WX}
theorem ps_try_manyAs (hs : X.stack = X.env :: X.outer) (hf : X.env.frame = some X.env.locals) (hN : X.N.Nodup) (hi : X.N[i]? = some n) (hln : X.env.kindOf n = some .local) (tk : L2N.Takes X Wout)
    (hb : ∀ (W : WX) (pn : List (Addr × Obj)) (xe : Value → Shared → Prop), L2N.Takes (X.tr pn xe) W → PassesOwn (model X.prog X.w) X.A X.env xe → PSs (X.tr pn xe) body (tb W))
    (hh : HdsAs X i n (h₀ :: hds) l) : PS X (.Try body (h₀ :: hds) [] [] pos) (fun D σ H => tb (wManyAs X.K i Wout D l) D σ H) := by
  refine ⟨fun pins s σ H D I h => ?_⟩
  have ok := I.ok
  have hloc : Loc X.env.scope n := .inl hln
  have hfr : X.A.frames = some (X.env :: X.outer) := by rw [ok.frames, hs]
  refine wpAny_Try_except ?_
  refine wpAny_mono ((hb (wManyAs X.K i Wout D l) (X.pn ++ pins) (fun e s₁ => wpAny (model X.prog X.w) X.A (noteFrame e X.env) (fun _ s₂ => wpAny (model X.prog X.w) X.A (setFlight e none) (fun _ s₃ =>
    wpAny (model X.prog X.w) X.A (handleBy e X.env (h₀ :: hds)) (SP X pins D) X.xe s₃) X.xe s₂) X.xe s₁) (fun u s' xx => ?_) PassesOwn.looking).run [] s σ H D (I.toTry _) h) (fun f s1 hsp => ?_) (fun e s1 he => he)
  · -- the catch
    obtain ⟨a, B, sI, pins', σ', H', cls, d, rfl, J', nb, up, sky, na, os, ag, w⟩ := xx
    have J : Inv X pins σ' H' sI := J'.ofTry ok
    have sky' : Sky B (X.env :: X.outer) a (Zn cls d) X.env.locals s'.heap := by rw [← hs]; exact sky
    show wpAny (model X.prog X.w) X.A (noteFrame (.ref a) X.env) _ _ _
    refine L2N.Sky.land Zn.steady hfr hf sky' fun h3 fl3 up3 => ?_
    have J3 : Inv X pins σ' H' { s' with heap := h3 } := J.landed nb fl3.1 (up.trans up3) os ag
    obtain ⟨oe3, vs3, he3, hz3, hd3⟩ := fl3.there
    have notFr : ∀ {h : Heap} {o : Obj} {vs : Array Value}, h.FunFrames B (X.env :: X.outer) → h.get? a = some o → o.data = .fields vs → a ∉ frs (X.env :: X.outer) := fun {h o vs} ff e dd hm => by
      obtain ⟨_, o', e', hnf⟩ := ff.mem hm
      rw [e] at e'; cases e'
      exact hnf _ dd
    have nfr := notFr fl3.2.2.1 he3 hd3
    have nL : a ≠ X.env.locals := fun z => nfr (List.mem_filterMap.mpr ⟨X.env, List.mem_cons_self, by rw [hf, z]⟩)
    have nF : a ∉ X.fs := fun hm => by
      obtain ⟨e, he, q⟩ := List.mem_filterMap.mp hm
      exact nfr (List.mem_filterMap.mpr ⟨e, List.mem_cons_of_mem _ he, q⟩)
    have S3 := J3.suite he3 hd3 na nL nF
    have go : ∀ {hds' : List ExceptHandler} {l' : List (Value × (Addr → Value → Option Addr → TS))}, HdsAs X i n hds' l' → wManyAs X.K i Wout D l' cls d σ' H' →
        wpAny (model X.prog X.w) X.A (handleBy (.ref a) X.env hds') (SP X pins D) X.xe { s' with heap := h3 } := by
      intro hds' l' hk
      induction hk with
      | nil =>
        intro w
        refine wpAny_handleBy_nil ?_
        obtain ⟨k1, k2, k3, oe, vs, T, oT, ts', he, hz, hd, h1, hr⟩ := id fl3
        unfold PySem.passOn
        refine wpAny_bind (wpAny_field he hd h1 ?_)
        rw [if_neg (show ¬ ((Value.ref T == Value.none) = true) from by simp)]
        have fin : wpAny (model X.prog X.w) X.A (setFlight (.ref a) X.env.frame) (fun _ s4 => wpAny (model X.prog X.w) X.A (throw (.ref a) : Sem Flow) (SP X pins D) X.xe s4) X.xe { s' with heap := h3 } := by
          rw [hf]
          refine HandSPX.setFlight_upZ fl3 fun h4 hh4 up4 => wpAny_throw (tk _ _ ?_)
          exact ⟨a, B, sI, pins, σ', H', cls, d, rfl, J, nb, (up.trans up3).trans up4, .inr (.inr (by rw [hs]; exact hh4)), na, os, ag, w⟩
        first
          | exact wpAny_bind (wpAny_pure (wpAny_bind fin))
          | exact wpAny_bind fin
      | @cons x c ts b₀ suite np pos' hds2 l2 hc hsu r ih =>
        intro w
        obtain ⟨b, hb1, hyes, hno⟩ := w
        refine wpAny_handleBy_cons (codeAny_handlers_test ?_) (by intro q; cases q)
        have LT : PySem.W.Looks (model X.prog X.w) h3 (typeOf (.ref a)) cls := fun A Q E s k q => wpAny_typeOf_ref (k _ _ he3) (by rw [hz3.1]; exact q)
        have LM := PySem.W.exm_one (M := model X.prog X.w) (J3.kIn) LT hb1
        have test : ∀ {Q : Value → Shared → Prop} {E : Value → Shared → Prop}, Q c { s' with heap := h3 } → wpAny (model X.prog X.w) (X.A.mark (some (.ref a))) (eval (.Name x np) X.env) Q E { s' with heap := h3 } := fun {Q E} q => by
          obtain ⟨hg, hdbg, hm | ⟨hm, hv, hnn⟩⟩ := hc
          · exact ld_glob (X := X.suite a ((a, oe3) :: (X.pn ++ pins))) S3 hg hm q hdbg
          · exact ld_blt (X := X.suite a ((a, oe3) :: (X.pn ++ pins))) S3 hg hm hv q hnn hdbg
        refine test (LM.here ?_)
        cases b with
        | true =>
          refine codeAny_handlers_suite_as ?_
          refine HandSPX.lands_againZ fl3 fun h4 fl4 up4 => ?_
          have J4 : Inv X pins σ' H' { s' with heap := h4 } := J.landed nb fl4.1 ((up.trans up3).trans up4) os ag
          obtain ⟨oe4, vs4, he4, hz4, hd4⟩ := fl4.there
          have S4 := J4.suite he4 hd4 na nL nF
          refine store_ok (X := X.suite a ((a, oe4) :: (X.pn ++ pins))) (v := .ref a) S4 hN hi hloc rfl (fun s5 S5 => ?_) (.inr hln)
          refine wpAny_mono ((hsu a oe4 cls d (X.pn ++ pins) hz4 ⟨_, hd4⟩).run [] s5 _ H' _ S5 (hyes rfl a na)) (fun f s6 hsp => ?_) (fun _ _ z => False.elim z)
          have end_ : ∀ {σ6 : L2.St} {H6 : Hp} {Q : Shared → Prop}, Inv (X.suite a ((a, oe4) :: (X.pn ++ pins))) [] σ6 H6 s6 → (∀ s7, Inv X pins (σ6.set i none) H6 s7 → Q s7) →
              wpAny (model X.prog X.w) X.A (do bindName X.env n .none; unbindBehindTheSuite X.env n pos') (fun _ s7 => Q s7) X.xe s6 := fun {σ6 H6 Q} S6 hq => gone_ok (S6.unsuite ok) hN hi hln hq
          cases f with
          | next =>
            obtain ⟨σ6, H6, S6, q6⟩ := hsp
            exact end_ S6 fun s7 J7 => ⟨_, _, J7, q6⟩
          | brk =>
            obtain ⟨σ6, H6, S6, q6⟩ := hsp
            exact end_ S6 fun s7 J7 => ⟨_, _, J7, q6⟩
          | cont =>
            obtain ⟨σ6, H6, S6, q6⟩ := hsp
            exact end_ S6 fun s7 J7 => ⟨_, _, J7, q6⟩
          | ret u =>
            obtain ⟨v6, σ6, H6, S6, r6, q6⟩ := hsp
            exact end_ S6 fun s7 J7 => ⟨_, _, _, J7, r6, q6⟩
        | false =>
          show wpAny _ X.A (handleBy (.ref a) X.env hds2) _ _ _
          exact ih (hno rfl)
    exact go hh w
  · cases f with
    | next =>
      obtain ⟨σ', H', J', q⟩ := hsp
      exact wpAny_execs_nil ⟨σ', H', J'.ofTry ok, q⟩
    | brk =>
      obtain ⟨σ', H', J', q⟩ := hsp
      exact ⟨σ', H', J'.ofTry ok, q⟩
    | cont =>
      obtain ⟨σ', H', J', q⟩ := hsp
      exact ⟨σ', H', J'.ofTry ok, q⟩
    | ret u =>
      obtain ⟨v, σ', H', J', r, q⟩ := hsp
      exact ⟨v, σ', H', J'.ofTry ok, r, q⟩
end
end DL

set_option Elab.async false
set_option linter.all false
set_option maxRecDepth 100000
set_option maxHeartbeats 4000000
/-! DLl: a lambda given to a def that calls it, errors with context None. (Follows the library's rule for errors of any context.) -/
namespace DL
open PySem PySem.Spec PySem.Calls PyProof.Rows L2 LamX
/-- the lambda's context -/
def lamCxN (X : Cx) (A : Around) (outer : List Env) (s : Shared) (H : Hp) (E : XK) (scope : Scope) (f c' : Addr) : Cx := (lamCx X A outer s H E scope f c').tr [] fun e s' => wpAny (model X.prog X.w) (A.deeper (lamEnv X scope s.heap.objs.size f c')) (leaving (lamEnv X scope s.heap.objs.size f c') e) (fun _ s'' => L2N.CX X.prog X.w outer H s E e s'') (fun e' s'' => L2N.CX X.prog X.w outer H s E e' s'') s'
section
variable {X : Cx} {pins : List (Addr × Obj)} {σ : L2.St} {H HZ : Hp} {s s1 : Shared}
theorem lam_startN {A : Around} {outer : List Env} {E : XK} {scope : Scope} {f c' : Addr} {h₁ : Heap} {tk : Nat} (I : Inv X pins σ H s) (L : LamS X.env.scope scope) (e0 : Env0 X.prog X.w X.K X.mg X.base A outer s1 HZ) (hd : A.handled = none)
    (un : Un (frs X.stack) [] H HZ s.heap s1.heap) (hns : h₁.Ns s1.heap.objs.size fun y => ([] : List (Str × Value)).reverse.lookup y) (kp : ∀ b o, s1.heap.get? b = some o → h₁.get? b = some o) :
    Inv (lamCxN X A outer s1 HZ E scope f c') [] σ HZ { s1 with heap := h₁, toks := tk } :=
  (lam_start2 I L e0 hd un hns kp).toTry _
/-- x(), in the def that got the lambda: Z is that def's context, entered at s -/
theorem pe_actN {CXg : CXT} {Eg : XK} {Ng : List Str} {qg : Str} {sg : Scope} {g f c' : Addr} {cdg pm ctv : Value} {params : Arguments} {body : Expr} {scope : Scope} {k i : Nat} {a : Str} {pn : List (Addr × Obj)} {xe : Value → Shared → Prop} {W : WX} {tb : XK → TE} {p1 p2 : Pos}
    (I : Inv X pins σ H s) (L : LamS X.env.scope scope) (hf : s.heap.get? f = some (PySem.W.kla_obj "<lambda>" (X.env.qual ++ "<lambda>") params body scope (cloFrom X.env.cells scope.names []) pm c' ctv)) (hfn : H f = none) (hfr : f ∉ frs X.stack)
    (hbind : bindArgs (PySem.W.kla_fn "<lambda>" (X.env.qual ++ "<lambda>") params body scope (cloFrom X.env.cells scope.names []) pm (.ref c') ctv) ⟨[], []⟩ = pure [])
    (tk : L2N.Takes ((cxOf CXg X.prog X.w X.K X.mg X.base Ng qg sg g cdg X.A X.stack s H Eg).tr pn xe) W) (hr : Room (k + 1) (X.A.deeper (envOfC qg sg s.heap.objs.size g cdg)))
    (hbody : ∀ (E : XK) (A : Around) (outer : List Env) (s : Shared) (H : Hp), Room k (A.deeper (lamEnv X scope s.heap.objs.size f c')) → PE (lamCxN X A outer s H E scope f c') body (tb E))
    (hN : Ng[i]? = some a) (hv : Vis sg a) (hd : (a == ("__debug__" : Str)) = false := by decide) (hcd : (a == ("__classdict__" : Str)) = false := by decide) :
    PE ((cxOf CXg X.prog X.w X.K X.mg X.base Ng qg sg g cdg X.A X.stack s H Eg).tr pn xe) (.Call (.Name a p1) [] [] p2)
      (fun σZ HZ Q => σZ[i]? = some (some (.ref f)) ∧ HZ c' = some (CodeO c' (X.env.qual ++ "<lambda>")) ∧ ∃ E : XK, (∀ cls d H', E cls d H' → W cls d σZ H') ∧ tb E σ HZ Q) := by
  refine ⟨fun pinsZ sZ σZ HZ Q IZ h => ?_⟩
  obtain ⟨hs, hc, E, hW, ht⟩ := h
  refine wpAny_Call_Name_kw (thn ((pe_var (pos := p1) (i := i) hN hv hd hcd).run pinsZ sZ σZ HZ (fun v H1 => v = .ref f ∧ H1 = HZ) IZ ⟨.ref f, hs, rfl, rfl⟩) fun u s1 ⟨v, H1, I1, r1, q1⟩ => ?_)
  obtain ⟨ev, eH⟩ := q1
  subst ev
  rw [eH] at I1
  obtain rfl : u = Value.ref f := r1
  have of1 : s1.heap.get? f = some (PySem.W.kla_obj "<lambda>" (X.env.qual ++ "<lambda>") params body scope (cloFrom X.env.cells scope.names []) pm c' ctv) := I1.base.keep f _ hf hfn hfr (fun z => nomatch (show f ∈ ([] : List Addr) from z))
  refine PySem.W.callWith_F0 ⟨_, _, _, _, of1⟩ ?_
  have un : Un (frs X.stack) [] H HZ s.heap s1.heap := I1.base
  obtain ⟨⟨oc, vs, t, hoc, hdc, hvc⟩, _, _⟩ := I1.hok c' _ hc
  have rc : codeAny (model X.prog X.w) (X.A.deeper (envOfC qg sg s.heap.objs.size g cdg)) (.call (.ref f) ⟨[], []⟩) (CR (L2N.CX X.prog X.w) (envOfC qg sg s.heap.objs.size g cdg :: X.stack) X.prog X.w HZ s1 Q E) s1 := by
    refine PySem.W.kla_callFunE hr.depth of1 rfl L.co L.gen rfl ⟨c', oc, vs, t, rfl, hoc, hdc, hvc⟩ ?_
    rw [hbind]
    refine wpAny_pure (wpAny_newFunctionEnv (fun y hy => (L.own y hy).2) (fun y hy => absurd hy (by simp)) (fun h₁ hns hsb => ⟨I1.nolimit.fresh _ hsb, ?_⟩) L.kind)
    show codeAny _ _ (.expr body (lamEnv X scope s1.heap.objs.size f c')) _ _
    have kp : ∀ b o, s1.heap.get? b = some o → h₁.get? b = some o := fun b o e => hsb.extBut b o (Nat.ne_of_lt (Heap.lt_size e)) (Heap.get?_push_of_some _ e)
    have J : Inv (lamCxN X (X.A.deeper (envOfC qg sg s.heap.objs.size g cdg)) (envOfC qg sg s.heap.objs.size g cdg :: X.stack) s1 HZ E scope f c') [] σ HZ { s1 with heap := h₁, toks := s1.toks + ([] : List (Str × Value)).length } :=
      lam_startN I L I1.env0 hr.hd un hns kp
    refine PySem.W.kla_codeExpr (wpAny_mono ((hbody E _ _ s1 HZ (hr.deeper _)).run [] _ _ HZ Q J ht) (fun v s' hq => ?_) fun e s' hq => hq)
    obtain ⟨w', H', J', rv, q⟩ := hq
    exact ⟨w', H', J'.os, J'.bare, J'.base, J'.hok, rv, q⟩
  refine wpAny_call (codeAny_mono rc fun r s' hq => ?_)
  cases r with
  | error e => exact tk e s' (L2N.XE.of_call I1 (fun _ _ H' h => hW _ _ H' h) hq)
  | ok fl =>
    cases fl with
    | ret u => exact I1.after hq
    | next => exact False.elim hq
    | brk => exact False.elim hq
    | cont => exact False.elim hq
end
/-- the def that calls what it got: a calls it; TT: what it makes of the lambda's reading -/
def GivesToN (X : Cx) (Ng : List Str) (x : Str) (sg : Scope) (g : Addr) (cdg : Value) (bg : List Stmt) (a : Str) (q : Str) (TT : (XK → Hp → VK → Prop) → Hp → VK → Prop) : Prop :=
  ∀ (f c' : Addr) (s : Shared) (H : Hp) (Q : VK) (tl : XK → Hp → VK → Prop),
    (∀ (W : WX) (pn : List (Addr × Obj)) (xe : Value → Shared → Prop) (p1 p2 : Pos), L2N.Takes ((cxOf C8.CX0 X.prog X.w X.K X.mg X.base Ng x sg g cdg X.A X.stack s H C8.E0).tr pn xe) W →
      PE ((cxOf C8.CX0 X.prog X.w X.K X.mg X.base Ng x sg g cdg X.A X.stack s H C8.E0).tr pn xe) (.Call (.Name a p1) [] [] p2) (fun σZ HZ Q => σZ[0]? = some (some (.ref f)) ∧ HZ c' = some (CodeO c' q) ∧ ∃ E : XK, (∀ cls d H', E cls d H' → W cls d σZ H') ∧ tl E HZ Q)) →
    H c' = some (CodeO c' q) → TT tl H Q →
    ∃ t, PSs (cxOf C8.CX0 X.prog X.w X.K X.mg X.base Ng x sg g cdg X.A X.stack s H C8.E0).nox bg t ∧ t { nx := fun _ H' => Q .non H', rt := Q } (L2.start Ng [.ref f]) H
section
variable {X : Cx}
/-- x(lambda: body) -/
theorem pe_lamcallN {T : List (Addr × Str)} {TT : (XK → Hp → VK → Prop) → Hp → VK → Prop} {x a : Str} {g c P : Addr} {k : Nat} {pg : Arguments} {bg : List Stmt} {sg : Scope} {dV kV doc pm cdv ct oc : Value} {an od : Option Addr} {osl : Array (Option Value)} {Ng : List Str}
    {params : Arguments} {body : Expr} {scope : Scope} {t : XK → TE} {p lpos pos : Pos} (hg : Gl X x) (hm : X.mg x = some (.ref g)) (hk : PySem.W.keepIn X.K (.ref g) = true)
    (lk : X.K.lookup g = some ⟨oc, od, .func (PySem.W.fnOf x x pg bg sg dV kV doc pm an cdv ct), osl⟩) (hcg : PySem.W.codeIn X.K cdv x = true) (hb : L2.Binds X.K (PySem.W.fnOf x x pg bg sg dV kV doc pm an cdv ct) [a] []) (Sg : FnScope Ng [a] sg) (hNg : Ng[0]? = some a) (hva : Vis sg a)
    (hG : GivesToN X Ng x sg g cdv bg a (X.env.qual ++ "<lambda>") TT)
    (TB : TabB X.base X.mg c P) (hcode : X.env.code = .ref c) (hmT : (P, X.env.qual ++ "<lambda>") ∈ T) (hu : ∀ p ∈ T, p.1 = P → p.2 = X.env.qual ++ "<lambda>") (hr : Room (k + 2) X.A) (L : LamS X.env.scope scope) (hdef : defaultsOf params X.env = ([], []))
    (hbind : ∀ (q : Str) (cl : List (Str × Addr)) (pm cv ctv : Value), bindArgs (PySem.W.kla_fn "<lambda>" q params body scope cl pm cv ctv) ⟨[], []⟩ = pure [])
    (hbody : ∀ (A : Around) (outer : List Env) (s : Shared) (H : Hp) (E : XK) (f c' : Addr), Room k (A.deeper (lamEnv X scope s.heap.objs.size f c')) → PE (lamCxN X A outer s H E scope f c') body (t E))
    (hdb : (x == ("__debug__" : Str)) = false := by decide) (hd : (a == ("__debug__" : Str)) = false := by decide) (hcd : (a == ("__classdict__" : Str)) = false := by decide) :
    PE X (.Call (.Name x p) [.Lambda params body scope lpos] [] pos) (LamX.tLam T TT t) := by
  refine ⟨fun pins s σ H Q I h => ?_⟩
  obtain ⟨hT, h⟩ := h
  refine wpAny_Call_Name_kw (ld_glob I hg hm ?_ hdb)
  refine PySem.W.callWith_K (h₀ := X.base) I.ok.mod.kin hk ?_ (by rfl) (by rfl)
  show wpAny _ _ (spliced ((false, eval (.Lambda params body scope lpos) X.env) :: backTo pos (starEach [] X.env))) _ _ s
  refine Calls.spliced_cons (lam_make2 I TB hcode hmT hu hT hdef (L.has I.ok) fun f c' pm' ctv H1 s' I1 eN T1 hf hfn hfr hco => ?_)
  refine Calls.spliced_nil ⟨I1.kIn, ?_⟩
  have rc : codeAny (model X.prog X.w) X.A (.call (.ref g) ⟨[.ref f], []⟩) (CR C8.CX0 X.stack X.prog X.w H1 s' Q C8.E0) s' := by
    refine run_ofS (N := Ng) (ps := [a]) (us := [.ref f]) (vs := [.ref f]) lk hcg Sg hr I1.env0 (hb s' [.ref f] I1.kIn rfl) (.cons rfl .nil) rfl fun hr' => ?_
    obtain ⟨t', ht', hq'⟩ := hG f c' s' H1 Q (fun E H' Q' => t E σ H' Q') (fun W pn xe p1 p2 tk => pe_actN (i := 0) (tb := t) I1 L hf hfn hfr (hbind _ _ _ _ _) tk hr' (fun E A outer s H hr2 => hbody A outer s H E f c' hr2) hNg hva hd hcd) hco (h H1 eN T1)
    exact ⟨t', ht'.nox, hq'⟩
  refine wpAny_call (codeAny_mono rc fun r s2 hq => ?_)
  cases r with
  | error e => exact (show False from hq).elim
  | ok fl =>
    cases fl with
    | ret u => exact I1.after hq
    | next => exact False.elim hq
    | brk => exact False.elim hq
    | cont => exact False.elim hq
end
end DL

set_option Elab.async false
set_option linter.all false
set_option maxRecDepth 100000
set_option maxHeartbeats 4000000
/-! DLy: the def that tries a lambda and tells the error's kinds. -/
namespace DL
open PySem PySem.Spec PySem.Calls PyProof.Rows L2 LamX
open L2N (Zn)
/-- the def that names the kinds -/
def KinDef (K : PySem.W.Frag) (mg : Str → Option Value) (sc : Scope) : Prop := ∃ (f : Addr) (qual : Str) (params : Arguments) (body : List Stmt) (dV kV doc pm cdv ct oc : Value) (an od : Option Addr) (osl : Array (Option Value)),
  mg "_law_kin" = some (.ref f) ∧ PySem.W.keepIn K (.ref f) = true ∧ K.lookup f = some ⟨oc, od, .func (PySem.W.fnOf "_law_kin" qual params body sc dV kV doc pm an cdv ct), osl⟩ ∧ PySem.W.codeIn K cdv qual = true ∧ FnScope kinN ["e"] sc ∧
  L2.Binds K (PySem.W.fnOf "_law_kin" qual params body sc dV kV doc pm an cdv ct) ["e"] [] ∧ KinB kinN sc body
def tryN : List Str := ["call_so", "found", "e"]
/-- the trying def's context -/
structure TryC (X : Cx) (sc : Scope) : Prop where
  hN : X.N = tryN
  found : X.env.scope.names.lookup ("found" : Str) = some .local
  e : X.env.scope.names.lookup ("e" : Str) = some .local
  gk : Gl X "_law_kin"
  room : Room 1 X.A
  kd : KinDef X.K X.mg sc
section
variable {X : Cx} {sc : Scope} {a : Addr} {oe : Obj} {cls : Value} {d : Option Addr} {pn : List (Addr × Obj)}
theorem hot_of (hz : Zn cls d oe) (hf : ∃ vs, oe.data = .fields vs) : L2H.Hot1 (X.suite a ((a, oe) :: pn)).A (a, oe) := by
  obtain ⟨vs, hv⟩ := hf
  exact ⟨rfl, vs, hv, hz.2.2 vs hv⟩
theorem kin_call (T : TryC X sc) (hz : Zn cls d oe) (hf : ∃ vs, oe.data = .fields vs) {D : Addr} {bit : Str → Bool} (hc : cls = .ref D) (kf : KinF X.K X.mg sc D bit) {q1 q2 q3 : Pos} :
    ∃ t, PE (X.suite a ((a, oe) :: pn)) (.Call (.Name "_law_kin" q1) [.Name "e" q2] [] q3) t ∧ ∀ σ H (Q : VK), σ[2]? = some (some (.ref a)) → FldOk d H → (∀ H', Gr H H' → Q (.str (kinTxt bit)) H') → t σ H Q := by
  obtain ⟨f, qual, params, body, dV, kV, doc, pm, cdv, ct, oc, an, od, osl, hm, hk, lk, hcd, S, hb, B⟩ := T.kd
  refine pe_kin (k := 0) (Y := X.suite a ((a, oe) :: pn)) (name := "_law_kin") (i := 2) T.gk hm hk (by decide) lk hcd S hb B ⟨T.room.dp, T.room.un⟩ (hot_of hz hf) List.mem_cons_self (hz.1.trans hc) hz.2.1 hf kf ?_
  exact ⟨_, pe_var (i := 2) (by show X.N[2]? = _; rw [T.hN]; rfl) (.inl T.e), fun σ H Q e q => ⟨_, e, q⟩⟩
/-- found = kin(e) -/
def tsK (K : PySem.W.Frag) (mg : Str → Option Value) (sc : Scope) (a : Addr) (cls : Value) (d : Option Addr) : TS := fun E σ H =>
  ∃ D bit, cls = .ref D ∧ KinF K mg sc D bit ∧ σ[2]? = some (some (.ref a)) ∧ FldOk d H ∧ ∀ H', Gr H H' → E.nx (σ.set 1 (some (.str (kinTxt bit)))) H'
theorem pss_k (T : TryC X sc) (hz : Zn cls d oe) (hf : ∃ vs, oe.data = .fields vs) {q1 q2 q3 q4 q5 : Pos} :
    PSs (X.suite a ((a, oe) :: pn)) [.Assign [.Name "found" q1] (.Call (.Name "_law_kin" q2) [.Name "e" q3] [] q4) q5] (tsK X.K X.mg sc a cls d) := by
  refine pss_one ⟨fun pins s σ H E I h => ?_⟩
  obtain ⟨D, bit, hc, kf, e1, hfl, q⟩ := h
  obtain ⟨t, pt, qt⟩ := kin_call (pn := pn) T hz hf hc kf (a := a) (q1 := q2) (q2 := q3) (q3 := q4)
  have hnd : X.N.Nodup := by rw [T.hN]; decide
  exact (ps_asg pt (pg_name (X := X.suite a ((a, oe) :: pn)) (i := 1) hnd (by show X.N[1]? = _; rw [T.hN]; rfl) (.inl T.found) (.inr T.found)) rfl rfl).run pins s σ H E I (qt _ _ _ e1 hfl fun H' g => q H' g)
/-- found = (kin(e), e.n) -/
def tsF (K : PySem.W.Frag) (mg : Str → Option Value) (sc : Scope) (n : Str) (a : Addr) (cls : Value) (d : Option Addr) : TS := fun E σ H =>
  ∃ D bit, cls = .ref D ∧ KinF K mg sc D bit ∧ XfC K D ∧ PySem.W.findIn K (.ref D) n = some none ∧ σ[2]? = some (some (.ref a)) ∧ ∃ dd fs v, d = some dd ∧ H dd = some (.xd fs) ∧ fs.lookup n = some v ∧
    ∀ H' p, Gr H H' → H' p = none → E.nx (σ.set 1 (some (.ref p))) (upd H' p (.tup [.str (kinTxt bit), v]))
theorem pss_f (T : TryC X sc) (hz : Zn cls d oe) (hf : ∃ vs, oe.data = .fields vs) {n : Str} {k1 : Nat} {q1 q2 q3 q4 q5 q6 q7 q8 : Pos} :
    PSs (X.suite a ((a, oe) :: pn)) [.Assign [.Name "found" q1] (.Tuple [.Call (.Name "_law_kin" q2) [.Name "e" q3] [] q4, .Attribute (.Name "e" q6) n q7] k1 q8) q5] (tsF X.K X.mg sc n a cls d) := by
  refine pss_one ⟨fun pins s σ H E I h => ?_⟩
  obtain ⟨D, bit, hc, kf, xf, hno, e1, dd, fs, v, ed, ef, el, q⟩ := h
  obtain ⟨t, pt, qt⟩ := kin_call (pn := pn) T hz hf hc kf (a := a) (q1 := q2) (q2 := q3) (q3 := q4)
  have hnd : X.N.Nodup := by rw [T.hN]; decide
  have px := pe_xf (X := X) (a := a) (pn := pn) (pos := q7) (n := n) (C := D) (oe := oe) (cls := cls) (d := d) xf hno hz.zc hf (pe_var (X := X.suite a ((a, oe) :: pn)) (x := "e") (pos := q6) (i := 2) (by show X.N[2]? = _; rw [T.hN]; rfl) (.inl T.e))
  refine (ps_asg (pe_tup (pa_cons pt (pa_cons px pa_nil))) (pg_name (X := X.suite a ((a, oe) :: pn)) (i := 1) hnd (by show X.N[1]? = _; rw [T.hN]; rfl) (.inl T.found) (.inr T.found)) rfl rfl).run pins s σ H E I ?_
  refine qt _ _ _ e1 (fun d' e' => ?_) fun H' g => ?_
  · rw [ed] at e'; cases e'; exact ⟨fs, ef⟩
  · exact ⟨_, e1, rfl, hc, dd, fs, v, ed, g _ _ ef, el, (by rw [sizeLine_eq]; show 2 ≤ 16777216; decide), fun p np => q H' p g np⟩
end
/-- what the trying def makes of an error -/
def tryX (K : PySem.W.Frag) (mg : Str → Option Value) (sc : Scope) (IT TM SE : Addr) (Q : VK) : XK := fun cls d H =>
  ∃ D bit, cls = .ref D ∧ KinF K mg sc D bit ∧
    ((PySem.W.exmOne K cls (.ref IT) = some false ∧ PySem.W.exmOne K cls (.ref TM) = some false ∧ PySem.W.exmOne K cls (.ref SE) = some true ∧ FldOk d H ∧ ∀ H', Gr H H' → Q (.str (kinTxt bit)) H') ∨
      (∃ n : Str, ((PySem.W.exmOne K cls (.ref IT) = some true ∧ n = "line") ∨ (PySem.W.exmOne K cls (.ref IT) = some false ∧ PySem.W.exmOne K cls (.ref TM) = some true ∧ n = "limit")) ∧
        XfC K D ∧ PySem.W.findIn K (.ref D) n = some none ∧ ∃ dd fs v, d = some dd ∧ H dd = some (.xd fs) ∧ fs.lookup n = some v ∧ ∀ H' p, Gr H H' → H' p = none → Q (.ref p) (upd H' p (.tup [.str (kinTxt bit), v]))))
def TTtry (K : PySem.W.Frag) (mg : Str → Option Value) (sc : Scope) (IT TM SE : Addr) : (XK → Hp → VK → Prop) → Hp → VK → Prop := fun tl H Q =>
  tl (tryX K mg sc IT TM SE Q) H fun v H' => ∀ p, H' p = none → Q (.ref p) (upd H' p (.tup [.str "told", v]))
structure TryS (X : Cx) (sg sc : Scope) (IT TM SE : Addr) : Prop where
  kind : sg.kind = .function
  nofree : ∀ y ∈ sg.names, y.2 ≠ .free
  call_so : sg.names.lookup ("call_so" : Str) = some .local
  found : sg.names.lookup ("found" : Str) = some .local
  e : sg.names.lookup ("e" : Str) = some .local
  gk : sg.names.lookup ("_law_kin" : Str) = some .globalImplicit
  gi : sg.names.lookup ("InvalidText" : Str) = some .globalImplicit
  gt : sg.names.lookup ("TooMany" : Str) = some .globalImplicit
  gs : sg.names.lookup ("StairsError" : Str) = some .globalImplicit
  mi : X.mg "InvalidText" = some (.ref IT)
  mt : X.mg "TooMany" = some (.ref TM)
  ms : X.mg "StairsError" = some (.ref SE)
  kd : KinDef X.K X.mg sc
theorem try_gives {X : Cx} {sg sc : Scope} {IT TM SE g : Addr} {cdg : Value} {x q : Str} (S : TryS X sg sc IT TM SE) {j1 j2 k1 k2 k3 : Nat} {p1 p2 p3 p4 p5 p6 p7 p8 p9 p10 p11 p12 p13 p14 p15 p16 p17 p18 p19 p20 p21 p22 p23 p24 p25 p26 p27 p28 p29 p30 p31 p32 p33 p34 p35 p36 p37 p38 p39 : Pos}
    (hr : ∀ (s : Shared), Room 1 (X.A.deeper (envOfC x sg s.heap.objs.size g cdg))) :
    GivesToN X tryN x sg g cdg [
      .Assign [.Name "found" p1] (.Constant .none j1 p2) p3,
      .Try [.Assign [.Name "found" p4] (.Tuple [.Constant (.str "told") j2 p5, .Call (.Name "call_so" p6) [] [] p7] k1 p8) p9] [
        .ExceptHandler (some (.Name "InvalidText" p10)) (some "e") [.Assign [.Name "found" p11] (.Tuple [.Call (.Name "_law_kin" p12) [.Name "e" p13] [] p14, .Attribute (.Name "e" p15) "line" p16] k2 p17) p18] p19,
        .ExceptHandler (some (.Name "TooMany" p20)) (some "e") [.Assign [.Name "found" p21] (.Tuple [.Call (.Name "_law_kin" p22) [.Name "e" p23] [] p24, .Attribute (.Name "e" p25) "limit" p26] k3 p27) p28] p29,
        .ExceptHandler (some (.Name "StairsError" p30)) (some "e") [.Assign [.Name "found" p31] (.Call (.Name "_law_kin" p32) [.Name "e" p33] [] p34) p35] p36] [] [] p37,
      .Return (some (.Name "found" p38)) p39] "call_so" q (TTtry X.K X.mg sc IT TM SE) := by
  intro f c' s H Q tl act hco h
  generalize hZ : cxOf C8.CX0 X.prog X.w X.K X.mg X.base tryN x sg g cdg X.A X.stack s H C8.E0 = Z at act ⊢
  have zN : Z.nox.N = tryN := by rw [← hZ]; rfl
  have zs : Z.nox.env.scope = sg := by rw [← hZ]; rfl
  have zm : Z.nox.mg = X.mg := by rw [← hZ]; rfl
  have zK : Z.nox.K = X.K := by rw [← hZ]; rfl
  have gl : ∀ y, sg.names.lookup y = some .globalImplicit → Gl Z.nox y := fun y hy => by show Z.nox.env.scope.names.lookup y = _; rw [zs]; exact hy
  have T : TryC Z.nox sc := ⟨zN, by rw [zs]; exact S.found, by rw [zs]; exact S.e, gl _ S.gk, by rw [← hZ]; exact hr s, by rw [zK, zm]; exact S.kd⟩
  have hnd : Z.nox.N.Nodup := by rw [zN]; decide
  have s1 : PS Z.nox (.Assign [.Name "found" p1] (.Constant .none j1 p2) p3) _ := ps_asg pe_non (pg_name (i := 1) hnd (by rw [zN]; rfl) (.inl T.found) (.inr T.found)) rfl rfl
  have s3 : PS Z.nox (.Return (some (.Name "found" p38)) p39) _ := ps_ret (pe_var (i := 1) (by rw [zN]; rfl) (.inl T.found))
  have s2 := ps_try_manyAs (X := Z.nox) (n := "e") (i := 2) (pos := p37)
      (body := [.Assign [.Name "found" p4] (.Tuple [.Constant (.str "told") j2 p5, .Call (.Name "call_so" p6) [] [] p7] k1 p8) p9])
      (tb := fun W D σ H => σ[0]? = some (some (.ref f)) ∧ H c' = some (CodeO c' q) ∧ ∃ E : XK, (∀ cls d H', E cls d H' → W cls d σ H') ∧ tl E H fun v H' => [V.str "told", v].length ≤ sizeLine ∧ ∀ p, H' p = none → D.nx (σ.set 1 (some (.ref p))) (upd H' p (.tup [.str "told", v])))
      (by rw [← hZ]; rfl) (by rw [← hZ]; rfl) hnd (by rw [zN]; rfl) T.e (Wout := fun _ _ _ _ => False) tk_none
      (fun W pn xe tk _ => ⟨fun pins s' σ H' D I ⟨h1, h2, E, h3, h4⟩ => by
        have hp := act W pn xe p6 p7 tk
        have hs := pss_one (ps_asg (pos := p9) (pe_tup (x1 := k1) (pos := p8) (pa_cons (pe_str (x := "told") (j := j2) (pos := p5)) (pa_cons hp pa_nil))) (pg_name (pos := p4) (X := Z.tr pn xe) (i := 1) hnd (by show Z.nox.N[1]? = _; rw [zN]; rfl) (.inl T.found) (.inr T.found)) rfl rfl)
        exact hs.run pins s' σ H' D I ⟨h1, h2, E, h3, h4⟩⟩)
      (.cons ⟨gl _ S.gi, by decide, .inl (by rw [zm]; exact S.mi)⟩ (fun a oe cls d pn hz hf => pss_f (q1 := p11) (q2 := p12) (q3 := p13) (q4 := p14) (q6 := p15) (q7 := p16) (q8 := p17) (q5 := p18) (k1 := k2) (n := "line") T hz hf) (np := p10) (pos' := p19)
        (.cons ⟨gl _ S.gt, by decide, .inl (by rw [zm]; exact S.mt)⟩ (fun a oe cls d pn hz hf => pss_f (q1 := p21) (q2 := p22) (q3 := p23) (q4 := p24) (q6 := p25) (q7 := p26) (q8 := p27) (q5 := p28) (k1 := k3) (n := "limit") T hz hf) (np := p20) (pos' := p29)
          (.cons ⟨gl _ S.gs, by decide, .inl (by rw [zm]; exact S.ms)⟩ (fun a oe cls d pn hz hf => pss_k (q1 := p31) (q2 := p32) (q3 := p33) (q4 := p34) (q5 := p35) T hz hf) (np := p30) (pos' := p36) .nil)))
  refine ⟨_, pss_cons s1 (pss_cons s2 (pss_one s3)), ?_⟩
  have hst : ((L2.start tryN [V.ref f]).set 1 (some .non)) = [some (.ref f), some .non, none] := rfl
  refine ⟨by rw [hst]; rfl, hco, tryX X.K X.mg sc IT TM SE Q, fun cls d H' hx => ?_, ?_⟩
  · rw [hst, zK]
    obtain ⟨D, bit, hc, kf, hx⟩ := hx
    rcases hx with ⟨x1, x2, x3, hfl, qq⟩ | ⟨n, hn, xf, hno, dd, fs, v, ed, ef, el, qq⟩
    · refine ⟨false, x1, fun z => Bool.noConfusion z, fun _ => ⟨false, x2, fun z => Bool.noConfusion z, fun _ => ⟨true, x3, fun _ a na => ?_, fun z => Bool.noConfusion z⟩⟩⟩
      rw [zm]
      exact ⟨D, bit, hc, kf, rfl, hfl, fun H' g => ⟨_, rfl, qq H' g⟩⟩
    · have fin : ∀ a : Addr, tsF X.K Z.nox.mg sc n a cls d (asD 2 { nx := fun σ H' => tRet (tVar 1) { nx := fun _ H' => Q .non H', rt := Q } σ H', rt := Q }) ([some (.ref f), some .non, some (.ref a)]) H' := fun a => by
        rw [zm]
        exact ⟨D, bit, hc, kf, xf, hno, rfl, dd, fs, v, ed, ef, el, fun H' p g np => ⟨_, rfl, qq H' p g np⟩⟩
      rcases hn with ⟨x1, rfl⟩ | ⟨x1, x2, rfl⟩
      · exact ⟨true, x1, fun _ a na => fin a, fun z => Bool.noConfusion z⟩
      · exact ⟨false, x1, fun z => Bool.noConfusion z, fun _ => ⟨true, x2, fun _ a na => fin a, fun z => Bool.noConfusion z⟩⟩
  · rw [hst]
    have e : (fun v H' => [V.str "told", v].length ≤ sizeLine ∧ ∀ p, H' p = none → tRet (tVar 1) { nx := fun _ H' => Q .non H', rt := Q } ([some (.ref f), some .non, none].set 1 (some (V.ref p))) (upd H' p (.tup [.str "told", v]))) = (fun v H' => ∀ p, H' p = none → Q (.ref p) (upd H' p (.tup [.str "told", v]))) := by
      funext v H'
      refine propext ⟨fun z p np => ?_, fun z => ⟨by rw [sizeLine_eq]; show 2 ≤ 16777216; decide, fun p np => ⟨_, rfl, z p np⟩⟩⟩
      obtain ⟨w, e1, e2⟩ := z.2 p np
      have e1 : some (some (V.ref p)) = some (some w) := e1
      cases e1
      exact e2
    show tl _ H (fun v H' => [V.str "told", v].length ≤ sizeLine ∧ ∀ p, H' p = none → tRet (tVar 1) { nx := fun _ H' => Q .non H', rt := Q } ([some (.ref f), some .non, none].set 1 (some (V.ref p))) (upd H' p (.tup [.str "told", v])))
    rw [e]
    exact h
end DL

set_option Elab.async false
set_option linter.all false
set_option maxRecDepth 100000
set_option maxHeartbeats 4000000
/-! DL14: statements. -/
namespace DL
open PySem PySem.Spec PyProof.Rows L2
section
variable (x : Fx) (n0 : Nat) (al : Als) (H : Hp) (Wx : WH) (E : Ends)
def PostS : SR → Prop
  | .bad => False
  | .nx ρ S => ∀ σ' H' al', Kl n0 al al' → Ext (hide al H) (hide al' H') → StR x al' S H' → EnvR x al' (hide al' H') σ' ρ → E.nx σ' H'
  | .rt v S => VE x n0 al H E.rt v S
  | .exc e S => XPo x n0 al H Wx e S
end
section
variable {x : Fx} {n0 : Nat} {al al1 : Als} {H H1 : Hp} {Wx : WH} {E : Ends}
theorem PostS.re (k : Kl n0 al al1) (e : Ext (hide al H) (hide al1 H1)) {r : SR} (h : PostS x n0 al H Wx E r) : PostS x n0 al1 H1 Wx E r := by
  cases r with
  | bad => exact h
  | nx ρ S => exact fun σ' H' al' k' e' s r => h σ' H' al' (k.trans k') (e.trans e') s r
  | rt v S => exact VE.re k e h
  | exc x S => exact XPo.re k e h
/-- what a first statement is to reach -/
theorem PostS.bind {r : SR} {f : Rho → Sto → SR} {nx : L2.St → Hp → Prop} (h : PostS x n0 al H Wx E (r.bind f))
    (hn : ∀ ρ S σ' H' al', Kl n0 al al' → Ext (hide al H) (hide al' H') → StR x al' S H' → EnvR x al' (hide al' H') σ' ρ → PostS x n0 al' H' Wx E (f ρ S) → nx σ' H') : PostS x n0 al H Wx { E with nx := nx } r := by
  cases r with
  | bad => exact h
  | nx ρ S => exact fun σ' H' al' k' e' s r => hn ρ S σ' H' al' k' e' s r (PostS.re k' e' h)
  | rt v S => exact h
  | exc x S => exact h
theorem st_pst {α : Type} {r : R α} {f : α → Sto → SR} {Φ : α → Sto → Prop} (h : PostS x n0 al H Wx E (r.st f)) (hf : ∀ a S, PostS x n0 al H Wx E (f a S) → Φ a S) : Pst (XPo x n0 al H Wx) Φ r := by
  cases r with
  | bad => exact h
  | ok a S => exact hf a S h
  | exc x S => exact h
end
abbrev OkSs (c : Ct) (X : Cx) (Wx : WH) (cs : CS) (st : List Stmt) : Prop := ∃ t, PSs X st t ∧ ∀ σ ρ al S H E, StR c.x al S H → EnvR c.x al (hide al H) σ ρ → PostS c.x c.n0 al H Wx E (evS c.g c.n0 cs ρ S) → t E σ H
abbrev OkS (c : Ct) (X : Cx) (Wx : WH) (cs : CS) (st : Stmt) : Prop := ∃ t, PS X st t ∧ ∀ σ ρ al S H E, StR c.x al S H → EnvR c.x al (hide al H) σ ρ → PostS c.x c.n0 al H Wx E (evS c.g c.n0 cs ρ S) → t E σ H
variable {c : Ct} {q : Nm} {k : Nat} {N : List Str} {sc : Scope} {X : Cx} {Wx : WH}
theorem okSs_nil : OkSs c X Wx .nil [] := ⟨_, pss_nil, fun σ ρ al S H E s r h => by
  unfold evS at h
  exact h σ H al (Kl.refl _ _) (Ext.refl _) s r⟩
theorem okSs_doc {cs : CS} {st : List Stmt} {y : Str} {j : Nat} {p p2 : Pos} (h : OkSs c X Wx cs st) : OkSs c X Wx cs (.Expr (.Constant (.str y) j p) p2 :: st) := by
  obtain ⟨t, ps, q⟩ := h
  exact ⟨_, pss_cons ps_doc ps, q⟩
theorem okSs_cons {a b : CS} {st : Stmt} {rest : List Stmt} (ha : OkS c X Wx a st) (hb : OkSs c X Wx b rest) : OkSs c X Wx (.seq a b) (st :: rest) := by
  obtain ⟨t, ps, qa⟩ := ha
  obtain ⟨u, pss, qb⟩ := hb
  refine ⟨_, pss_cons ps pss, fun σ ρ al S H E s r h => ?_⟩
  unfold evS at h
  exact qa σ ρ al S H _ s r (h.bind fun ρ' S' σ' H' al' k' e' s' r' z => qb σ' ρ' al' S' H' E s' r' z)
theorem okSs_one {a : CS} {st : Stmt} (ha : OkS c X Wx a st) : OkSs c X Wx a [st] := by
  obtain ⟨t, ps, qa⟩ := ha
  exact ⟨_, pss_one ps, qa⟩
/-- behind an operand, in a statement -/
theorem sD {ce : CE} {t : TE} {ρ : Rho} (ok : ∀ σ ρ al S H Q, StR c.x al S H → EnvR c.x al (hide al H) σ ρ → PostD c.x c.n0 al H Wx Q (evE c.g c.n0 ce ρ S).w → t σ H Q) {f : W → Sto → SR} {σ : L2.St} {al : Als} {S : Sto} {H : Hp} {Q : VK} {E : Ends}
    (s : StR c.x al S H) (r : EnvR c.x al (hide al H) σ ρ) (p : PostS c.x c.n0 al H Wx E ((evE c.g c.n0 ce ρ S).w.st f))
    (kk : ∀ w S1 v al1 H1, Kl c.n0 al al1 → Ext (hide al H) (hide al1 H1) → StR c.x al1 S1 H1 → EnvR c.x al1 (hide al1 H1) σ ρ → RepW c.x al1 (hide al1 H1) v w → PostS c.x c.n0 al1 H1 Wx E (f w S1) → Q v H1) : t σ H Q :=
  ok σ ρ al S H Q s r (st_pst p fun w S1 z v H1 al1 k1 e1 s1 r1 => kk w S1 v al1 H1 k1 e1 s1 (r.mono e1 k1) r1 (PostS.re k1 e1 z))
theorem sE {t : TE} {ce : CE} {ρ : Rho} (ok : ∀ σ ρ al S H Q, StR c.x al S H → EnvR c.x al (hide al H) σ ρ → PostE c.x c.n0 al H Wx Q (evE c.g c.n0 ce ρ S) → t σ H Q) {f : EV → Sto → SR} {σ : L2.St} {al : Als} {S : Sto} {H : Hp} {Q : VK} {E : Ends}
    (s : StR c.x al S H) (r : EnvR c.x al (hide al H) σ ρ) (p : PostS c.x c.n0 al H Wx E ((evE c.g c.n0 ce ρ S).st f))
    (kk : ∀ e S1, PostS c.x c.n0 al H Wx E (f e S1) → VE c.x c.n0 al H Q e S1) : t σ H Q :=
  ok σ ρ al S H Q s r (st_pst p kk)

/-! ### names -/
theorem okS_asg {ce : CE} {i : Nat} {y : Str} {py pos : Pos} {e : Expr} (h : OkA c X Wx ce i y py e pos) : OkS c X Wx (.asg i ce) (.Assign [.Name y py] e pos) := by
  obtain ⟨t, ps, q⟩ := h
  refine ⟨_, ps, fun σ ρ al S H E s r h => ?_⟩
  unfold evS at h
  exact sD (fun σ ρ al S H Q s r z => q σ ρ al S H Q s r (VE.of_w z)) s r h fun w S1 v al1 H1 k1 e1 s1 r1 rw1 h1 => h1 _ H1 al1 (Kl.refl _ _) (Ext.refl _) s1 (r1.set rw1)
theorem okS_asgO {ce : CE} {i : Nat} {y : Str} {py pos : Pos} {e : Expr} (h : OkA c X Wx ce i y py e pos) : OkS c X Wx (.asgO i ce) (.Assign [.Name y py] e pos) := by
  obtain ⟨t, ps, q⟩ := h
  refine ⟨_, ps, fun σ ρ al S H E s r h => ?_⟩
  unfold evS at h
  refine sE q s r h fun e S1 z => ?_
  cases e with
  | sh w => exact fun v H1 al1 k1 e1 s1 r1 => z _ H1 al1 k1 e1 s1 ((r.mono e1 k1).set r1)
  | fr cc =>
    intro a H1 al1 k1 e1 s1
    have hl := (s1.last).1
    refine z _ H1 (al1 ++ [some a]) (k1.trans (Kl.snoc _ _ _)) e1 s1 ((r.mono e1 (k1.trans (Kl.snoc c.n0 al1 (some a)))).set (w := .o S1.length) ?_)
    show OAt (.ref a) (al1 ++ [some a])[S1.length]?
    rw [← hl]
    simp [OAt]
theorem okS_unp {ce : CE} {tg : List Nat} {es : List Expr} {x1 : Nat} {p pos : Pos} {e : Expr} (sx : Sx c k N sc X) (h : OkD c X Wx ce e) (ht : TgE X.N (StoN X) false tg (.Tuple es x1 p)) (hs : swapsWithSole [.Tuple es x1 p] e pos.line X.env = pure false)
    (hw : swappedStores [.Tuple es x1 p] e X.env = pure none) : OkS c X Wx (.unp tg ce) (.Assign [.Tuple es x1 p] e pos) := by
  obtain ⟨t, pe, q⟩ := h
  refine ⟨_, ps_asg pe (pg_tg (by rw [sx.hN]; exact sx.nd) sx.calm ht) hs hw rfl, fun σ ρ al S H E s r h => ?_⟩
  unfold evS at h
  refine sD q s r h fun w S1 v al1 H1 k1 e1 s1 r1 rw1 h1 => ?_
  split at h1
  · rename_i d
    split at h1
    · rename_i ρ' hb
      rw [sx.K]
      exact gTg_run s1 rw1 r1 hb fun σ' e' _ => h1 σ' H1 al1 (Kl.refl _ _) (Ext.refl _) s1 e'
    · exact h1.elim
  · exact h1.elim

/-! ### plain statements -/
theorem okS_expr {ce : CE} {e : Expr} {pos : Pos} (h : OkD c X Wx ce e) (hs : swapsWith e none pos.line X.env = pure false) : OkS c X Wx (.expr ce) (.Expr e pos) := by
  obtain ⟨t, pe, q⟩ := h
  refine ⟨_, ps_expr pe hs, fun σ ρ al S H E s r h => ?_⟩
  unfold evS at h
  exact sD q s r h fun w S1 v al1 H1 k1 e1 s1 r1 rw1 h1 => h1 σ H1 al1 (Kl.refl _ _) (Ext.refl _) s1 r1
theorem okS_ret {ce : CE} {e : Expr} {pos : Pos} (h : OkE c X Wx ce e) : OkS c X Wx (.ret ce) (.Return (some e) pos) := by
  obtain ⟨t, pe, q⟩ := h
  refine ⟨_, ps_ret pe, fun σ ρ al S H E s r h => ?_⟩
  unfold evS at h
  exact sE q s r h fun e S1 z => z
theorem okS_retN {pos : Pos} : OkS c X Wx .retN (.Return none pos) := by
  refine ⟨_, ps_retN, fun σ ρ al S H E s r h => ?_⟩
  unfold evS at h
  exact fin_sh (x := c.x) (n0 := c.n0) (d := .non) h s .non
theorem okS_if {ct : CT} {a b : CS} {e : Expr} {sa sb : List Stmt} {pos : Pos} (ht : OkT c X Wx ct e) (ha : OkSs c X Wx a sa) (hb : OkSs c X Wx b sb) : OkS c X Wx (.ifs ct a b) (.If e sa sb pos) := by
  obtain ⟨t, pt, qt⟩ := ht
  obtain ⟨ta, pa, qa⟩ := ha
  obtain ⟨tb, pb, qb⟩ := hb
  refine ⟨_, ps_if pt pa pb, fun σ ρ al S H E s r h => ?_⟩
  unfold evS at h
  refine qt σ ρ al S H _ s r (st_pst h fun b S1 z => ?_)
  intro H1 al1 k1 e1 s1
  cases b with
  | true => exact qa σ ρ al1 S1 H1 E s1 (r.mono e1 k1) (PostS.re k1 e1 z)
  | false => exact qb σ ρ al1 S1 H1 E s1 (r.mono e1 k1) (PostS.re k1 e1 z)

/-! ### loops -/
theorem okS_whl {ct : CT} {b : CS} {e : Expr} {sb : List Stmt} {pos : Pos} (hp : PassesOwn (model X.prog X.w) X.A X.env X.xe) (ht : OkT c X Wx ct e) (hb : OkSs c X Wx b sb) : OkS c X Wx (.whl ct b) (.While e sb [] pos) := by
  obtain ⟨t, pt, qt⟩ := ht
  obtain ⟨tb, pb, qb⟩ := hb
  refine ⟨_, ps_while hp pt pb, fun σ ρ al S H E s r h => ?_⟩
  unfold evS at h
  unfold wLoop at h
  by_cases hx : ∃ r n, wIter (evT c.g c.n0 ct) (evS c.g c.n0 b) n ρ S = some r
  · rw [dif_pos hx] at h
    obtain ⟨n, hn⟩ := hx.choose_spec
    generalize hx.choose = rr at h hn
    refine ⟨fun m σ1 H1 => ∃ ρ1 al1 S1, Kl c.n0 al al1 ∧ Ext (hide al H) (hide al1 H1) ∧ StR c.x al1 S1 H1 ∧ EnvR c.x al1 (hide al1 H1) σ1 ρ1 ∧ wIter (evT c.g c.n0 ct) (evS c.g c.n0 b) m ρ1 S1 = some rr, ⟨n, ρ, al, S, Kl.refl _ _, Ext.refl _, s, r, hn⟩, ?_⟩
    rintro m σ1 H1 ⟨ρ1, al1, S1, k1, e1, s1, r1, hm⟩
    cases m with
    | zero => cases hm
    | succ m =>
      unfold wIter at hm
      refine qt σ1 ρ1 al1 S1 H1 _ s1 r1 ?_
      cases ht : evT c.g c.n0 ct ρ1 S1 with
      | bad =>
        rw [ht] at hm
        obtain rfl := Option.some.inj hm
        exact h
      | exc xx S2 =>
        rw [ht] at hm
        obtain rfl := Option.some.inj hm
        exact XPo.re k1 e1 h
      | ok bb S2 =>
        rw [ht] at hm
        intro H2 al2 k2 e2 s2
        cases bb with
        | false =>
          obtain rfl := Option.some.inj hm
          exact h σ1 H2 al2 (k1.trans k2) (e1.trans e2) s2 (r1.mono e2 k2)
        | true =>
          refine (if_pos rfl : (if true = true then _ else E.nx σ1 H2) = _).mpr ⟨fun σ3 H3 => ∃ ρ3 al3 S3, Kl c.n0 al al3 ∧ Ext (hide al H) (hide al3 H3) ∧ StR c.x al3 S3 H3 ∧ EnvR c.x al3 (hide al3 H3) σ3 ρ3 ∧ wIter (evT c.g c.n0 ct) (evS c.g c.n0 b) m ρ3 S3 = some rr, fun σ3 H3 z => ⟨m, Nat.lt_succ_self m, z⟩, ?_⟩
          refine qb σ1 ρ1 al2 S2 H2 _ s2 (r1.mono e2 k2) ?_
          dsimp only at hm
          cases hb : evS c.g c.n0 b ρ1 S2 with
          | bad =>
            rw [hb] at hm
            obtain rfl := Option.some.inj hm
            exact h
          | exc xx S3 =>
            rw [hb] at hm
            obtain rfl := Option.some.inj hm
            exact XPo.re (k1.trans k2) (e1.trans e2) h
          | rt v S3 =>
            rw [hb] at hm
            obtain rfl := Option.some.inj hm
            exact VE.re (k1.trans k2) (e1.trans e2) h
          | nx ρ3 S3 =>
            rw [hb] at hm
            exact fun σ3 H3 al3 k3 e3 s3 r3 => ⟨ρ3, al3, S3, (k1.trans k2).trans k3, (e1.trans e2).trans e3, s3, r3, hm⟩
  · rw [dif_neg hx] at h
    exact h.elim
theorem okS_for {one : Bool} {tg : List Nat} {ci : CI} {b : CS} {te it : Expr} {sb : List Stmt} {pos : Pos} (sx : Sx c k N sc X) (hp : PassesOwn (model X.prog X.w) X.A X.env X.xe) (hi : OkI c X Wx ci te it) (ht : TgE X.N (StoN X) one tg te) (hb : OkSs c X Wx b sb) (hset : setX it = false) :
    OkS c X Wx (.for_ tg one ci b) (.For te it sb [] pos) := by
  obtain ⟨wi, pi, qi⟩ := hi
  obtain ⟨tb, pb, qb⟩ := hb
  refine ⟨_, ps_for hp sx.calm pi (pg_tg (by rw [sx.hN]; exact sx.nd) sx.calm ht) pb (fun x => set_of hset x), fun σ ρ al S H E s r h => ?_⟩
  unfold evS at h
  refine qi σ ρ al S H _ s r (st_pst h fun q1 S1 z => ?_)
  obtain ⟨ds, t⟩ := q1
  intro J H1 al1 k1 e1 s1 kp wk
  have z := PostS.re k1 e1 z
  have r1 := r.mono e1 k1
  dsimp only at z kp wk
  generalize hf : (fun (d : D) (ρ : Rho) (S : Sto) => match bindT one tg d ρ with
      | some ρ => evS c.g c.n0 b ρ S
      | none => SR.bad) = ff at z
  refine ⟨fun i m σ2 H2 => m = ds.length - i ∧ i ≤ ds.length ∧ ∃ ρ2 al2 S2, Kl c.n0 al1 al2 ∧ Ext (hide al1 H1) (hide al2 H2) ∧ StR c.x al2 S2 H2 ∧ EnvR c.x al2 (hide al2 H2) σ2 ρ2 ∧ Keeps t S2 ∧ PostS c.x c.n0 al1 H1 Wx E (fLoop t ff (ds.drop i) ρ2 S2),
    ⟨ds.length, rfl, Nat.zero_le _, ρ, al1, S1, Kl.refl _ _, Ext.refl _, s1, r1, kp, by rw [List.drop_zero]; exact z⟩, ?_⟩
  rintro i m σ2 H2 ⟨rfl, hi, ρ2, al2, S2, k2, e2, s2, r2, kp2, z2⟩
  obtain ⟨w1, w2⟩ := wk al2 S2 H2 k2 e2 s2 kp2
  by_cases hlt : i < ds.length
  · right
    have hd : ds[i]? = some ds[i] := List.getElem?_eq_getElem hlt
    obtain ⟨g, y⟩ := w1 i ds[i] hd
    rw [List.drop_eq_getElem_cons hlt] at z2
    unfold fLoop at z2
    refine ⟨g, fun σ3 H3 => ∃ ρ3 al3 S3, Kl c.n0 al1 al3 ∧ Ext (hide al1 H1) (hide al3 H3) ∧ StR c.x al3 S3 H3 ∧ EnvR c.x al3 (hide al3 H3) σ3 ρ3 ∧ Keeps t S3 ∧ PostS c.x c.n0 al1 H1 Wx E (fLoop t ff (ds.drop (i + 1)) ρ3 S3),
      fun σ3 H3 z3 => ⟨ds.length - (i + 1), by omega, rfl, hlt, z3⟩, fun v H3 yl => ?_⟩
    obtain ⟨s3, e3, r3⟩ := y v H3 yl
    cases hbt : bindT one tg ds[i] ρ2 with
    | none =>
      exfalso
      rw [← hf] at z2
      simp only [hbt] at z2
      exact z2
    | some ρ3 =>
      have hff : ff ds[i] ρ2 S2 = evS c.g c.n0 b ρ3 S2 := by rw [← hf]; simp only [hbt]
      rw [hff] at z2
      rw [sx.K]
      refine gTg_run s3 r3 (r2.mono (n0 := c.n0) e3 (Kl.refl _ _)) hbt fun σ4 e4 _ => ?_
      refine qb σ4 ρ3 al2 S2 H3 _ s3 e4 ?_
      cases hr : evS c.g c.n0 b ρ3 S2 with
      | bad => rw [hr] at z2; exact z2
      | exc xx S4 => rw [hr] at z2; exact XPo.re k2 (e2.trans e3) z2
      | rt v S4 => rw [hr] at z2; exact VE.re k2 (e2.trans e3) z2
      | nx ρ4 S4 =>
        rw [hr] at z2
        intro σ5 H5 al5 k5 e5 s5 r5
        rw [SR.bind_nx] at z2
        by_cases hk : Keeps t S4
        · rw [if_pos hk] at z2
          exact ⟨ρ4, al5, S4, k2.trans k5, (e2.trans e3).trans e5, s5, r5, hk, z2⟩
        · rw [if_neg hk] at z2
          exact z2.elim
  · left
    have e : i = ds.length := by omega
    subst e
    rw [List.drop_length] at z2
    unfold fLoop at z2
    exact ⟨w2, z2 σ2 H2 al2 k2 e2 s2 r2⟩
end DL

set_option Elab.async false
set_option linter.all false
set_option maxRecDepth 100000
set_option maxHeartbeats 4000000
/-! DL15: what changes lists; pairs of names; raise. -/
namespace DL
open PySem PySem.Spec PyProof.Rows L2
variable {c : Ct} {q : Nm} {k : Nat} {N : List Str} {sc : Scope} {X : Cx} {Wx : WH}
theorem objL_some {ρ : Rho} {S : Sto} {i n : Nat} {ds : List D} (h : objL ρ S i = some (n, ds)) : ρ[i]? = some (some (.o n)) ∧ S[n]? = some (some (.lst ds)) := by
  unfold objL at h
  split at h
  · rename_i m hm
    split at h
    · rename_i es he
      obtain ⟨rfl, rfl⟩ := Prod.mk.inj (Option.some.inj h)
      exact ⟨hm, he⟩
    · cases h
  · cases h
/-- the held list behind a name -/
theorem obj_at {x : Fx} {al : Als} {S : Sto} {H : Hp} {σ : L2.St} {ρ : Rho} {i n : Nat} {ds : List D} (s : StR x al S H) (r : EnvR x al (hide al H) σ ρ) (h : objL ρ S i = some (n, ds)) :
    ∃ a vs, σ[i]? = some (some (.ref a)) ∧ al[n]? = some (some a) ∧ H a = some (.lst vs) ∧ x.Rs (hide al H) vs ds := by
  obtain ⟨h1, h2⟩ := objL_some h
  obtain ⟨a, vs, e1, e2, e3⟩ := s.held h2
  obtain ⟨v, f1, f2⟩ := r.2 i _ h1
  have f2 : OAt v al[n]? := f2
  rw [e1] at f2
  have : v = .ref a := f2
  subst this
  exact ⟨a, vs, f1, e1, e2, e3⟩
theorem ixN_len {α β : Type} {xs : List α} {ys : List β} (h : xs.length = ys.length) (j : Int) : ixN xs.length j = ixN ys.length j := by rw [h]
theorem okS_sub {ce ck : CE} {i : Nat} {y : Str} {py p2 pos : Pos} {e ek : Expr} (sx : Sx c k N sc X) (he : OkD c X Wx ce e) (hk : OkD c X Wx ck ek) (hi : N[i]? = some y) (hv : Vis sc y) (hd : (y == ("__debug__" : Str)) = false) (hcd : (y == ("__classdict__" : Str)) = false)
    (hs : swapsWithSole [.Subscript (.Name y py) ek p2] e pos.line X.env = pure false) (hw : swappedStores [.Subscript (.Name y py) ek p2] e X.env = pure none) (hsl : sliceX ek = false) : OkS c X Wx (.sub i ck ce) (.Assign [.Subscript (.Name y py) ek p2] e pos) := by
  obtain ⟨te, pe, qe⟩ := he
  obtain ⟨tk, pk, qk⟩ := hk
  have pv : PE X (.Name y py) (tVar i) := pe_var (by rw [sx.hN]; exact hi) (by rw [sx.sc]; exact hv) hd hcd
  have ha : ∀ v, assign (.Subscript (.Name y py) ek p2) X.env v = (do
      let ov ← holding [v] (eval (.Name y py) X.env)
      let iv ← holding [v, ov] (eval ek X.env)
      standAt p2
      holding [v, ov, iv] (setItem ov iv v)
      release [v, ov, iv] []) := fun v => by cases ek <;> first | rfl | (simp [sliceX] at hsl)
  refine ⟨_, ps_asg pe (pg_sub pv pk set_list ha) hs hw rfl, fun σ ρ al S H E s r h => ?_⟩
  unfold evS at h
  refine sD qe s r h fun w S1 v al1 H1 k1 e1 s1 r1 rw1 h1 => ?_
  split at h1
  · rename_i d p hp
    obtain ⟨n, ds⟩ := p
    obtain ⟨a, vs, f1, f2, f3, f4⟩ := obj_at s1 r1 hp
    refine ⟨.ref a, f1, ?_⟩
    refine sD qk s1 r1 h1 fun w2 S2 v2 al2 H2 k2 e2 s2 r2 rw2 h2 => ?_
    split at h2
    · rename_i j n2 ds2 hp2
      have := (show c.x.R (hide al2 H2) v2 (.int j) from rw2).int_inv; subst this
      obtain ⟨a', vs', g1, g2, g3, g4⟩ := obj_at s2 r2 hp2
      rw [f1] at g1; cases g1
      split at h2
      · rename_i m hm
        have hl := g4.length
        refine ⟨a, vs', j, m, rfl, rfl, g3, by rw [hl]; exact hm, ?_⟩
        have rd : c.x.R (hide al2 H2) v d := (show RepW c.x al2 (hide al2 H2) v (.p d) from rw1.mono e2 k2)
        obtain ⟨s3, e3⟩ := s2.write (o := .lst (vs'.set m v)) (c := .lst (ds2.set m d)) g2 ⟨_, upd_same, Reps.set rd m g4⟩
        exact h2 σ _ al2 (Kl.refl _ _) (by rw [e3]; exact Ext.refl _) s3 (by rw [e3]; exact r2)
      · exact h2.elim
    · exact h2.elim
  · exact h1.elim
theorem get_listI : PGet X (fun o i H Q => ∃ p xs j v, o = .ref p ∧ i = .int j ∧ SqL X.K H p xs ∧ atI xs j = some v ∧ Q v H) := by
  intro pins s σ H o i ov iv Q I ro ri h
  obtain ⟨p, xs, j, z, rfl, rfl, hq, he, q⟩ := h
  cases ro
  obtain ⟨t, rfl⟩ := ri
  obtain ⟨its, r, pl, hz⟩ := I.list hq
  obtain ⟨m, h1, h2, h3, h4, h5⟩ := atI_get he
  obtain ⟨w, ew, rw'⟩ := r.get h2
  have hl := r.length
  have hn := line63
  have fin : EP X pins σ Q w s := ⟨z, H, I, rw', q⟩
  by_cases h0 : 0 ≤ j
  · have hj : j.toNat = m := by
      rw [seqIndex_of h0 h5] at h1
      exact Option.some.inj h1
    exact wpAny_getItem_list pl.isList h0 (by omega) (by rw [hj]; simpa using ew) fin
  · have hj : (j + (its.toArray.size : Int)).toNat = m := by
      rw [seqIndex_neg (by omega) h4] at h1
      rw [List.size_toArray, ← hl]
      exact Option.some.inj h1
    exact wpAny_getItem_list_neg pl.isList (by omega) (by rw [List.size_toArray] <;> omega) (by omega) (by rw [hj]; simpa using ew) fin
theorem okS_aug {ce ck : CE} {i : Nat} {y : Str} {py p2 pos : Pos} {e ek : Expr} (sx : Sx c k N sc X) (he : OkD c X Wx ce e) (hk : OkD c X Wx ck ek) (hi : N[i]? = some y) (hv : Vis sc y) (hd : (y == ("__debug__" : Str)) = false) (hcd : (y == ("__classdict__" : Str)) = false)
    (hsl : sliceX ek = false) : OkS c X Wx (.aug i ck ce) (.AugAssign (.Subscript (.Name y py) ek p2) .Add e pos) := by
  obtain ⟨te, pe, qe⟩ := he
  obtain ⟨tk, pk, qk⟩ := hk
  have pv : PE X (.Name y py) (tVar i) := pe_var (by rw [sx.hN]; exact hi) (by rw [sx.sc]; exact hv) hd hcd
  refine ⟨_, ps_augS pv pk get_listI pe ip_add set_list (fun ov iv new => by cases ek <;> first | rfl | (simp [sliceX] at hsl)), fun σ ρ al S H E s r h => ?_⟩
  unfold evS at h
  split at h
  · rename_i p hp
    obtain ⟨n, ds⟩ := p
    obtain ⟨a, vs, f1, f2, f3, f4⟩ := obj_at s r hp
    refine ⟨.ref a, f1, ?_⟩
    refine sD qk s r h fun w1 S1 v1 al1 H1 k1 e1 s1 r1 rw1 h1 => ?_
    split at h1
    · rename_i j n1 ds1 hp1
      have := (show c.x.R (hide al1 H1) v1 (.int j) from rw1).int_inv; subst this
      obtain ⟨a', vs', g1, g2, g3, g4⟩ := obj_at s1 r1 hp1
      rw [f1] at g1; cases g1
      split at h1
      · rename_i n0' hn
        obtain ⟨z, hz, rz⟩ := atI_reps g4 hn
        have := rz.int_inv; subst this
        refine ⟨a, vs', j, .int n0', rfl, rfl, .inl (.inl g3), hz, ?_⟩
        refine sD qe s1 r1 h1 fun w2 S2 v2 al2 H2 k2 e2 s2 r2 rw2 h2 => ?_
        split at h2
        · rename_i b n2 ds2 hp2
          have := (show c.x.R (hide al2 H2) v2 (.int b) from rw2).int_inv; subst this
          refine ⟨n0', b, rfl, rfl, ?_⟩
          obtain ⟨a', vs2, d1, d2, d3, d4⟩ := obj_at s2 r2 hp2
          rw [f1] at d1; cases d1
          split at h2
          · rename_i m hm
            have hl := d4.length
            refine ⟨a, vs2, j, m, rfl, rfl, d3, by rw [hl]; exact hm, ?_⟩
            obtain ⟨s3, e3⟩ := s2.write (o := .lst (vs2.set m (.int (n0' + b)))) (c := .lst (ds2.set m (.int (n0' + b)))) d2 ⟨_, upd_same, Reps.set (.int _) m d4⟩
            exact h2 σ _ al2 (Kl.refl _ _) (by rw [e3]; exact Ext.refl _) s3 (by rw [e3]; exact r2)
          · exact h2.elim
        · exact h2.elim
      · exact h1.elim
    · exact h1.elim
  · exact h.elim
theorem okS_app {ce : CE} {i : Nat} {y : Str} {py apos cpos pos : Pos} {e : Expr} (sx : Sx c k N sc X) (he : OkD c X Wx ce e) (hi : N[i]? = some y) (hv : Vis sc y) (hd : (y == ("__debug__" : Str)) = false) (hcd : (y == ("__classdict__" : Str)) = false) (hs : starX e = false)
    (hl : (apos.endLine == cpos.line) = true) : OkS c X Wx (.app i ce) (.Expr (.Call (.Attribute (.Name y py) "append" apos) [e] [] cpos) pos) := by
  obtain ⟨te, pe, qe⟩ := he
  have pv : PE X (.Name y py) (tVar i) := pe_var (by rw [sx.hN]; exact hi) (by rw [sx.sc]; exact hv) hd hcd
  have h1 : starEach [e] X.env = [(false, eval e X.env)] := star_of hs
  have pc := pe_bm (cpos := cpos) (apos := apos) PySem.F.plainAttrs_list PySem.F.slot_list_append PySem.F.type_list_append mt_append pv (pa_cons pe pa_nil (star_of hs)) rfl (by rw [h1]; rfl) hl (star_of hs) rfl
  refine ⟨_, ps_expr pc rfl, fun σ ρ al S H E s r h => ?_⟩
  unfold evS at h
  split at h
  · rename_i p hp
    obtain ⟨n, ds⟩ := p
    obtain ⟨a, vs, f1, f2, f3, f4⟩ := obj_at s r hp
    refine ⟨.ref a, f1, .inl ⟨rfl, vs, .inl (.inl f3)⟩, ?_⟩
    refine sD qe s r h fun w1 S1 v1 al1 H1 k1 e1 s1 r1 rw1 h1 => ?_
    split at h1
    · rename_i d S2 hg
      obtain ⟨al2, k2, x2, s2, r2⟩ := give_one s1 rw1 hg
      split at h1
      · rename_i n2 ds2 hp2
        obtain ⟨a', vs2, d1, d2, d3, d4⟩ := obj_at s2 (r1.mono x2 k2) hp2
        rw [f1] at d1; cases d1
        by_cases hc : ds2.length < sizeLine
        · rw [if_pos hc] at h1
          have hl := d4.length
          refine ⟨a, vs2, v1, rfl, rfl, d3, by omega, ?_⟩
          obtain ⟨s3, e3⟩ := s2.write (o := .lst (vs2 ++ [v1])) (c := .lst (ds2 ++ [d])) d2 ⟨_, upd_same, d4.append (.cons r2 .nil)⟩
          exact h1 σ _ al2 k2 (by rw [e3]; exact x2) s3 (by rw [e3]; exact r1.mono x2 k2)
        · rw [if_neg hc] at h1; exact h1.elim
      · exact h1.elim
    · exact h1.elim
  · exact h.elim

/-! ### several names at once -/
abbrev PostM (x : Fx) (n0 : Nat) (al : Als) (H : Hp) (Wx : WH) (Q : List V → Hp → Prop) : R (List W) → Prop := Pst (XPo x n0 al H Wx) (VL x n0 al H Q)
abbrev OkM (c : Ct) (X : Cx) (Wx : WH) (cl : CL) (es : List Expr) : Prop := ∃ t, PA X es t ∧ ∀ σ ρ al S H Q, StR c.x al S H → EnvR c.x al (hide al H) σ ρ → PostM c.x c.n0 al H Wx Q (evM c.g c.n0 cl ρ S) → t σ H Q
theorem okM_nil : OkM c X Wx .nil [] := ⟨_, pa_nil, fun σ ρ al S H Q s r h => by
  unfold evM at h
  exact (show VL c.x c.n0 al H Q [] S from h) [] H al (Kl.refl _ _) (Ext.refl _) s .nil⟩
theorem okM_cons {a : CE} {l : CL} {e : Expr} {es : List Expr} (ha : OkE c X Wx a e) (hl : OkM c X Wx l es) (hs : starX e = false) : OkM c X Wx (.cons a l) (e :: es) := by
  obtain ⟨ta, pa, qa⟩ := ha
  obtain ⟨tl, pl, ql⟩ := hl
  refine ⟨_, pa_cons pa pl (star_of hs), fun σ ρ al S H Q s r h => ?_⟩
  unfold evM at h
  refine qa σ ρ al S H _ s r (h.bind.mono (fun _ _ z => z) fun v S1 z => ?_)
  cases v with
  | sh w =>
    intro v1 H1 al1 k1 e1 s1 rw1
    have z := z.mono (fun _ _ => XPo.re k1 e1) (fun _ _ => VL.re k1 e1)
    refine ql σ ρ al1 S1 H1 _ s1 (r.mono e1 k1) (z.bind.mono (fun _ _ z => z) fun ws S2 z2 => ?_)
    intro v2 H2 al2 k2 e2 s2 rw2
    exact z2 _ H2 al2 k2 e2 s2 (.cons (rw1.mono e2 k2) rw2)
  | fr cc =>
    intro a H1 al1 k1 e1 s1
    have hl := s1.last.1
    have k1' : Kl c.n0 al (al1 ++ [some a]) := k1.trans (Kl.snoc _ _ _)
    have z := z.mono (fun _ _ => XPo.re k1' e1) (fun _ _ => VL.re k1' e1)
    refine ql σ ρ (al1 ++ [some a]) (S1 ++ [some cc]) H1 _ s1 (r.mono e1 k1') (z.bind.mono (fun _ _ z => z) fun ws S2 z2 => ?_)
    intro v2 H2 al2 k2 e2 s2 rw2
    refine z2 _ H2 al2 k2 e2 s2 (.cons ?_ rw2)
    show OAt (.ref a) al2[S1.length]?
    have h0 : (al1 ++ [some a])[S1.length]? = some (some a) := by rw [← hl]; simp
    rcases k2.2 S1.length (List.getElem?_eq_some_iff.mp h0).1 with q | ⟨_, q⟩
    · rw [q, h0]; rfl
    · rw [q]; trivial
theorem setL_run {x : Fx} {al : Als} {G : Hp} : ∀ {is : List Nat} {vs : List V} {ws : List W} {σ : L2.St} {ρ : Rho} {H : Hp} {Q : L2.St → Hp → Prop}, RepWs x al G vs ws → ws.length = is.length → EnvR x al G σ ρ →
    (∀ σ', EnvR x al G σ' (setL is ws ρ) → Q σ' H) → gNames is vs σ H Q
  | [], _, _, σ, ρ, H, Q, .nil, _, e, h => ⟨rfl, h σ e⟩
  | [], _, _, _, _, _, _, .cons _ _, hl, _, _ => by cases hl
  | i :: is, _, _, _, _, _, _, .nil, hl, _, _ => by cases hl
  | i :: is, _, _, σ, ρ, H, Q, .cons (v := v) (vs := vs) (d := d) (ds := ds) r rs, hl, e, h => by
    refine ⟨v, vs, rfl, ?_⟩
    show gNames is vs (σ.set i (some v)) H Q
    exact setL_run rs (by simpa using hl) (e.set r) fun σ' e' => h σ' e'
/-- by way of the tuple -/
theorem okS_tasg {cl : CL} {tg : List Nat} {ts es : List Expr} {x1 x2 : Nat} {p p2 pos : Pos} (sx : Sx c k N sc X) (hl : OkM c X Wx cl es) (ht : TgE X.N (StoN X) false tg (.Tuple ts x1 p)) (hlen : tg.length ≤ 100)
    (hw : swappedStores [.Tuple ts x1 p] (.Tuple es x2 p2) X.env = pure none) : OkS c X Wx (.tasg tg cl) (.Assign [.Tuple ts x1 p] (.Tuple es x2 p2) pos) := by
  obtain ⟨tl, pl, ql⟩ := hl
  refine ⟨_, ps_asg (pe_tup pl) (pg_tg (by rw [sx.hN]; exact sx.nd) sx.calm ht) rfl hw rfl, fun σ ρ al S H E s r h => ?_⟩
  unfold evS at h
  refine ql σ ρ al S H _ s r (st_pst h fun ws S1 z => ?_)
  intro vs H1 al1 k1 e1 s1 rw1
  by_cases hc : ws.length = tg.length
  · rw [if_pos hc] at z
    have hlv := rw1.length
    refine ⟨by rw [sizeLine_eq]; omega, fun a na => ?_⟩
    have s2 := s1.laid (o := .tup vs) na
    refine ⟨a, vs, rfl, .inl (.inl upd_same), by omega, ?_⟩
    have xu : Ext (hide al1 H1) (hide al1 (upd H1 a (.tup vs))) := ext_upd na
    refine setL_run (rw1.mono (n0 := c.n0) xu (Kl.refl _ _)) hc ((r.mono e1 k1).mono (n0 := c.n0) xu (Kl.refl _ _)) fun σ' e' => ?_
    exact z σ' _ al1 k1 (e1.trans (ext_upd na)) s2 e'
  · rw [if_neg hc] at z
    exact z.elim
/-- two or three local names: stored from the right -/
theorem okS_par {cl : CL} {i j : Nat} {y z : Str} {a b : Expr} {x1 x2 : Nat} {py pz p p2 pos : Pos} (sx : Sx c k N sc X) (hl : OkM c X Wx cl [a, b]) (hi : N[i]? = some y) (hj : N[j]? = some z) (hij : i ≠ j) (hy : sc.names.lookup y = some .local) (hz : sc.names.lookup z = some .local)
    (hw : swappedStores [.Tuple [.Name y py, .Name z pz] x1 p] (.Tuple [a, b] x2 p2) X.env = pure (some [y, z])) : OkS c X Wx (.tasg [i, j] cl) (.Assign [.Tuple [.Name y py, .Name z pz] x1 p] (.Tuple [a, b] x2 p2) pos) := by
  obtain ⟨tl, pl, ql⟩ := hl
  refine ⟨_, ps_par sx.calm (by rw [sx.hN]; exact sx.nd) (by rw [sx.hN]; exact hi) (by rw [sx.hN]; exact hj) hij (by rw [sx.sc]; exact hy) (by rw [sx.sc]; exact hz) pl hw rfl, fun σ ρ al S H E s r h => ?_⟩
  unfold evS at h
  refine ql σ ρ al S H _ s r (st_pst h fun ws S1 z => ?_)
  intro vs H1 al1 k1 e1 s1 rw1
  by_cases hc : ws.length = [i, j].length
  · rw [if_pos hc] at z
    obtain ⟨w1, w2, rfl⟩ : ∃ w1 w2, ws = [w1, w2] := by
      match ws, hc with
      | [w1, w2], _ => exact ⟨w1, w2, rfl⟩
    cases rw1 with
    | cons r1 rr =>
      cases rr with
      | cons r2 rr =>
        cases rr
        exact ⟨_, _, rfl, z _ H1 al1 k1 e1 s1 (((r.mono e1 k1).set r1).set r2)⟩
  · rw [if_neg hc] at z
    exact z.elim
theorem okS_par3 {cl : CL} {i j l : Nat} {y z u : Str} {a b d : Expr} {x1 x2 : Nat} {py pz pu p p2 pos : Pos} (sx : Sx c k N sc X) (hl : OkM c X Wx cl [a, b, d]) (hi : N[i]? = some y) (hj : N[j]? = some z) (hk : N[l]? = some u) (hij : i ≠ j) (hil : i ≠ l) (hjl : j ≠ l)
    (hy : sc.names.lookup y = some .local) (hz : sc.names.lookup z = some .local) (hu : sc.names.lookup u = some .local)
    (hw : swappedStores [.Tuple [.Name y py, .Name z pz, .Name u pu] x1 p] (.Tuple [a, b, d] x2 p2) X.env = pure (some [y, z, u])) : OkS c X Wx (.tasg [i, j, l] cl) (.Assign [.Tuple [.Name y py, .Name z pz, .Name u pu] x1 p] (.Tuple [a, b, d] x2 p2) pos) := by
  obtain ⟨tl, pl, ql⟩ := hl
  refine ⟨_, ps_par3 sx.calm (by rw [sx.hN]; exact sx.nd) (by rw [sx.hN]; exact hi) (by rw [sx.hN]; exact hj) (by rw [sx.hN]; exact hk) hij hil hjl (by rw [sx.sc]; exact hy) (by rw [sx.sc]; exact hz) (by rw [sx.sc]; exact hu) pl hw rfl, fun σ ρ al S H E s r h => ?_⟩
  unfold evS at h
  refine ql σ ρ al S H _ s r (st_pst h fun ws S1 z => ?_)
  intro vs H1 al1 k1 e1 s1 rw1
  by_cases hc : ws.length = [i, j, l].length
  · rw [if_pos hc] at z
    obtain ⟨w1, w2, w3, rfl⟩ : ∃ w1 w2 w3, ws = [w1, w2, w3] := by
      match ws, hc with
      | [w1, w2, w3], _ => exact ⟨w1, w2, w3, rfl⟩
    cases rw1 with
    | cons r1 rr =>
      cases rr with
      | cons r2 rr =>
        cases rr with
        | cons r3 rr =>
          cases rr
          exact ⟨_, _, _, rfl, z _ H1 al1 k1 e1 s1 ((((r.mono e1 k1).set r1).set r2).set r3)⟩
  · rw [if_neg hc] at z
    exact z.elim
end DL

set_option Elab.async false
set_option linter.all false
set_option maxRecDepth 100000
set_option maxHeartbeats 4000000
/-! DL16: raise; two stores at once. -/
namespace DL
open PySem PySem.Spec PyProof.Rows L2
variable {c : Ct} {q : Nm} {k : Nat} {N : List Str} {sc : Scope} {X : Cx} {Wx : WH}
theorem okS_rai {n : Nat} {y m : Str} {j : Nat} {p p2 p3 pos : Pos} (sx : Sx c k N sc X) (F : Fns c q k) (tk : Tk X Wx) (hq : q.exc[n]? = some y) (hg : sc.names.lookup y = some .globalImplicit) (hd : (y == ("__debug__" : Str)) = false) :
    OkS c X Wx (.rai n) (.Raise (some (.Call (.Name y p) [.Constant (.str m) j p2] [] p3)) none pos) := by
  obtain ⟨e1, xk⟩ := F.exc n y hq
  obtain ⟨B, newId, initId, bmB, bf, xi⟩ := xk.base
  have pm : L2N.PMk X (.Call (.Name y p) [.Constant (.str m) j p2] [] p3) (fun _ H Q => Q (.ref (c.x.fx n)) none H) :=
    L2N.pmk_own bf (by rw [sx.K]; exact xi) (by rw [sx.mg]; exact e1) (by rw [sx.K]; exact xk.kp) (raises_own (by rw [sx.K]; exact xk.sub) (by rw [sx.K]; exact xk.ty)) (show X.env.scope.names.lookup y = _ by rw [sx.sc]; exact hg) hd
  refine ⟨_, L2N.ps_raise sx.calm tk pm, fun σ ρ al S H E s r h => ?_⟩
  unfold evS at h
  exact (show XPo c.x c.n0 al H Wx ⟨n, []⟩ S from h) _ none H al (Kl.refl _ _) (Ext.refl _) s ⟨rfl, rfl⟩

/-! ### which stores are swapped -/
/-- the words of the rule; none: it is not told -/
def swP (sc : Scope) (ts vs : List Expr) : Option (Option (List Str)) :=
  if !(ts.length == 2 || ts.length == 3) || vs.length != ts.length then some none
  else if (vs.any fun | .Starred .. => true | _ => false) = true then some none
  else
    let line := (ts.head?.map (·.pos.line)).getD 0
    let names := ts.filterMap fun
      | .Name id pos => if sc.names.lookup id == some .local && pos.line == line then some id else none
      | _ => none
    if (names.length != ts.length || names.eraseDups.length != names.length) = true then some none
    else if vs.all (foldedForSure 8) = true then some none
    else if vs.all (constantsAlone 8) = true then none
    else some (some names)
theorem sw_eq {ts vs : List Expr} {x1 x2 : Nat} {p p2 : Pos} {env : Env} {r : Option (List Str)} (hs : env.scope = sc) (hk : sc.kind = .function) (h : swP sc ts vs = some r) : swappedStores [.Tuple ts x1 p] (.Tuple vs x2 p2) env = pure r := by
  have hb : env.blockKind = .function := by unfold Env.blockKind; rw [hs, hk]; rfl
  have hko : env.kindOf = fun id => sc.names.lookup id := by funext id; show env.scope.names.lookup id = _; rw [hs]
  unfold swappedStores
  simp only [hb, hko]
  unfold swP at h
  rw [show (ScopeKind.function != ScopeKind.function) = false from rfl, Bool.or_false]
  split at h
  · rename_i h1
    obtain rfl := Option.some.inj h
    exact if_pos h1
  · rename_i h1
    refine (if_neg h1).trans ?_
    split at h
    · rename_i h2
      obtain rfl := Option.some.inj h
      exact if_pos h2
    · rename_i h2
      refine (if_neg h2).trans ?_
      dsimp only at h
      split at h
      · rename_i h3
        obtain rfl := Option.some.inj h
        exact if_pos h3
      · rename_i h3
        refine (if_neg h3).trans ?_
        split at h
        · rename_i h4
          obtain rfl := Option.some.inj h
          exact if_pos h4
        · rename_i h4
          refine (if_neg h4).trans ?_
          split at h
          · cases h
          · rename_i h5
            obtain rfl := Option.some.inj h
            exact if_neg h5
def tupX : Expr → Bool
  | .Tuple .. => true
  | _ => false
theorem sw_no {ts : List Expr} {x1 : Nat} {p : Pos} {e : Expr} {env : Env} (h : tupX e = false) : swappedStores [.Tuple ts x1 p] e env = pure none := by
  cases e <;> first | rfl | (exact absurd h (by simp [tupX]))
def compX : Expr → Bool
  | .ListComp .. => true
  | .SetComp .. => true
  | .DictComp .. => true
  | _ => false
theorem sws_no {t : Option Expr} {e : Expr} {l : Nat} {env : Env} (h : compX e = false) : swapsWith e t l env = pure false := by
  cases e <;> first | rfl | (exact absurd h (by simp [compX]))
theorem swsub_no {a b e : Expr} {p : Pos} {env : Env} : swappedStores [.Subscript a b p] e env = pure none := by
  cases e <;> rfl
end DL

set_option Elab.async false
set_option linter.all false
set_option maxRecDepth 100000
set_option maxHeartbeats 4000000
/-! DL17: does a term tell a text? -/
namespace DL
open PySem PySem.Spec PyProof.Rows L2
structure Mx where
  N : List Str
  sc : Scope
  q : Nm
def kindIs (sc : Scope) (y : Str) (k : NameKind) : Bool := decide (sc.names.lookup y = some k)
def visB (sc : Scope) (y : Str) : Bool := kindIs sc y .local || (kindIs sc y .cell || kindIs sc y .free)
def locB (sc : Scope) (y : Str) : Bool := kindIs sc y .local || kindIs sc y .cell
def okN (y : Str) : Bool := !(y == ("__debug__" : Str)) && !(y == ("__classdict__" : Str))
def atB (l : List Str) (n : Nat) (y : Str) : Bool := decide (l[n]? = some y)
def atO (l : List (Option Str)) (n : Nat) (y : Str) : Bool := decide (l[n]? = some (some y))
def varB (m : Mx) (i : Nat) (y : Str) : Bool := atB m.N i y && (visB m.sc y && okN y)
def gloB (m : Mx) (y : Str) : Bool := kindIs m.sc y .globalImplicit && okN y
theorem kind_of {sc : Scope} {y : Str} {k : NameKind} (h : kindIs sc y k = true) : sc.names.lookup y = some k := of_decide_eq_true h
theorem atO_of {l : List (Option Str)} {n : Nat} {y : Str} (h : atO l n y = true) : l[n]? = some (some y) := of_decide_eq_true h
theorem ns_of {l : List (Option Str)} {ns : List Nat} (h : (ns.all fun n => (l.getD n none).isSome) = true) : ∀ n ∈ ns, ∃ y, l[n]? = some (some y) := fun n hn => by
  have h1 := List.all_eq_true.mp h n hn
  rw [List.getD_eq_getElem?_getD] at h1
  cases e : l[n]? with
  | none => rw [e] at h1; cases h1
  | some o =>
    rw [e] at h1
    cases o with
    | none => cases h1
    | some y => exact ⟨y, rfl⟩
theorem at_of {l : List Str} {n : Nat} {y : Str} (h : atB l n y = true) : l[n]? = some y := of_decide_eq_true h
theorem vis_of {sc : Scope} {y : Str} (h : visB sc y = true) : Vis sc y := by
  unfold visB at h
  simp only [Bool.or_eq_true] at h
  rcases h with h | h | h
  · exact .inl (kind_of h)
  · exact .inr (.inl (kind_of h))
  · exact .inr (.inr (kind_of h))
theorem loc_of {sc : Scope} {y : Str} (h : locB sc y = true) : Own sc y := by
  unfold locB at h
  simp only [Bool.or_eq_true] at h
  exact h.imp kind_of kind_of
theorem okN_of {y : Str} (h : okN y = true) : (y == ("__debug__" : Str)) = false ∧ (y == ("__classdict__" : Str)) = false := by
  unfold okN at h
  simp only [Bool.and_eq_true, Bool.not_eq_true'] at h
  exact h
/-! ### targets -/
def namesB (N : List Str) (St : Str → Bool) : List Nat → List Expr → Bool
  | [], [] => true
  | i :: is, e :: es => (match e with
    | .Name y _ => atB N i y && St y
    | _ => false) && namesB N St is es
  | _, _ => false
def tgB (N : List Str) (St : Str → Bool) (one : Bool) (tg : List Nat) (e : Expr) : Bool := match one with
  | true => match tg with
    | [i] => match e with
      | .Name y _ => atB N i y && St y
      | _ => false
    | _ => false
  | false => match e with
    | .Tuple es _ _ => namesB N St tg es
    | _ => false
theorem names_of {N : List Str} {St : Str → Bool} {P : Str → Prop} (hP : ∀ y, St y = true → P y) : ∀ {is : List Nat} {es : List Expr}, namesB N St is es = true → TgN N P is es
  | [], [], _ => .nil
  | [], _ :: _, h => by cases h
  | _ :: _, [], h => by cases h
  | i :: is, e :: es, h => by
    unfold namesB at h
    rw [Bool.and_eq_true] at h
    obtain ⟨h1, h2⟩ := h
    split at h1
    · rw [Bool.and_eq_true] at h1
      exact .cons (at_of h1.1) (hP _ h1.2) (names_of hP h2)
    · cases h1
theorem tg_of {N : List Str} {St : Str → Bool} {P : Str → Prop} (hP : ∀ y, St y = true → P y) {one : Bool} {tg : List Nat} {e : Expr} (h : tgB N St one tg e = true) : TgE N P one tg e := by
  unfold tgB at h
  cases one with
  | true =>
    dsimp only at h
    split at h
    · split at h
      · rw [Bool.and_eq_true] at h
        exact .one (at_of h.1) (hP _ h.2)
      · cases h
    · cases h
  | false =>
    dsimp only at h
    split at h
    · exact .many (names_of hP h)
    · cases h
def ownOf (N : List Str) (tg : List Nat) : List (Str × Nat) := tg.map fun i => (N.getD i Str.empty, i)
theorem ownOf_snd (N : List Str) (tg : List Nat) : (ownOf N tg).map (·.2) = tg := by
  unfold ownOf
  rw [List.map_map]
  exact List.map_id _
def opB (o : BO) (op : Operator) : Bool := decide (opOf o = op)
def copB (o : CO) (op : CmpOp) : Bool := decide (copOf o = op)
def tyB (t : Ty) (e : Expr) (m : Mx) : Bool := match e with
  | .Name y _ => decide (y = tyN t) && kindIs m.sc y .globalImplicit
  | _ => false
def tysB (m : Mx) : List Ty → List Expr → Bool
  | [], [] => true
  | t :: ts, e :: es => tyB t e m && tysB m ts es
  | _, _ => false
def keysB : List Str → List (Option Expr) → Bool
  | [], [] => true
  | k :: ks, e :: es => (match e with
    | some (.Constant (.str y) _ _) => decide (y = k)
    | _ => false) && keysB ks es
  | _, _ => false
def consB (m : Mx) : CL → List Expr → Bool
  | .nil, [] => true
  | .cons a l, e :: es => (match a with
    | .int i => match e with
      | .Constant (.int j) _ _ => decide (j = i)
      | _ => false
    | .fnv n => match e with
      | .Name y _ => atO m.q.fn n y && gloB m y
      | _ => false
    | _ => false) && consB m l es
  | _, _ => false
/-- a test that is told by its value -/
def valX : Expr → Bool
  | .UnaryOp .Not _ _ => false
  | .BoolOp .. => false
  | .IfExp .. => false
  | .Compare .. => false
  | _ => true
def cmpCE : CE → Bool
  | .cmp .. => true
  | .chain .. => true
  | .isN .. => true
  | .din .. => true
  | _ => false
def nilL : CL → Bool
  | .nil => true
  | _ => false
def argsB (es : List Expr) : Bool := !es.isEmpty && !es.any starX
mutual
def matchE : CE → Mx → Expr → Bool
  | .var i, m, e => match e with
    | .Name y _ => varB m i y
    | _ => false
  | .int i, _, e => match e with
    | .Constant (.int j) _ _ => decide (j = i)
    | _ => false
  | .str x, _, e => match e with
    | .Constant (.str y) _ _ => decide (y = x)
    | _ => false
  | .bl b, _, e => match e with
    | .Constant (.bool d) _ _ => decide (d = b)
    | _ => false
  | .non, _, e => match e with
    | .Constant .none _ _ => true
    | _ => false
  | .cst n, m, e => match e with
    | .Name y _ => atO m.q.cst n y && gloB m y
    | _ => false
  | .fnv n, m, e => match e with
    | .Name y _ => atO m.q.fn n y && gloB m y
    | _ => false
  | .bin o a b, m, e => match e with
    | .BinOp ea op eb _ => opB o op && (matchE a m ea && matchE b m eb)
    | _ => false
  | .neg a, m, e => match e with
    | .UnaryOp .USub ea _ => matchE a m ea
    | _ => false
  | .cmp o a b, m, e => match e with
    | .Compare ea [op] [eb] _ => copB o op && (!behindInMarks op eb && (matchE a m ea && matchE b m eb))
    | _ => false
  | .chain o p a b d, m, e => match e with
    | .Compare ea [op, op'] [eb, ed] _ => copB o op && (copB p op' && (!lastMarks [op, op'] [eb, ed] && (matchE a m ea && (matchE b m eb && matchE d m ed))))
    | _ => false
  | .isN k a, m, e => match e with
    | .Compare ea [op] [.Constant .none _ _] _ => decide (op = if k then .Is else .IsNot) && matchE a m ea
    | _ => false
  | .isB k b a, m, e => match e with
    | .Compare ea [.Is] [.Constant (.bool d) _ _] _ => k && (decide (d = b) && matchE a m ea)
    | _ => false
  | .nt a, m, e => match e with
    | .UnaryOp .Not ea _ => matchE a m ea
    | _ => false
  | .and_ a b, m, e => match e with
    | .BoolOp .And (ea :: eb :: rest) pos => matchE a m ea && (match rest with
      | [] => matchE b m eb
      | _ => matchE b m (.BoolOp .And (eb :: rest) pos))
    | _ => false
  | .or_ a b, m, e => match e with
    | .BoolOp .Or (ea :: eb :: rest) pos => matchE a m ea && (match rest with
      | [] => matchE b m eb
      | _ => matchE b m (.BoolOp .Or (eb :: rest) pos))
    | _ => false
  | .ife t a b, m, e => match e with
    | .IfExp et ea eb _ => matchT t m et && (matchE a m ea && matchE b m eb)
    | _ => false
  | .tup l, m, e => match e with
    | .Tuple es _ _ => matchL l m es
    | _ => false
  | .lst l, m, e => match e with
    | .List es _ => matchL l m es
    | _ => false
  | .ix a b, m, e => match e with
    | .Subscript ea eb _ => !sliceX eb && (matchE a m ea && matchE b m eb)
    | _ => false
  | .dix a b, m, e => match e with
    | .Subscript ea eb _ => !sliceX eb && (matchE a m ea && matchE b m eb)
    | _ => false
  | .slL a b, m, e => match e with
    | .Subscript ea (.Slice (some eb) none none _) _ => matchE a m ea && matchE b m eb
    | _ => false
  | .slH a b, m, e => match e with
    | .Subscript ea (.Slice none (some eb) none _) _ => matchE a m ea && matchE b m eb
    | _ => false
  | .slB a b d, m, e => match e with
    | .Subscript ea (.Slice (some eb) (some ed) none _) _ => matchE a m ea && (matchE b m eb && matchE d m ed)
    | _ => false
  | .rev a, m, e => match e with
    | .Subscript ea (.Slice none none (some (.UnaryOp .USub (.Constant (.int 1) _ _) _)) _) _ => matchE a m ea
    | _ => false
  | .call n l, m, e => match e with
    | .Call (.Name y _) es [] _ => atO m.q.fn n y && (gloB m y && ((es.isEmpty && nilL l) || (argsB es && matchL l m es)))
    | _ => false
  | .callD ns a l, m, e => match e with
    | .Call f es [] _ => (ns.all fun n => (m.q.fn.getD n none).isSome) && (!attrX f && (matchE a m f && (argsB es && matchL l m es)))
    | _ => false
  | .blt b l, m, e => match e with
    | .Call (.Name y _) es [] _ => decide (y = bltN b) && (kindIs m.sc y .globalImplicit && (argsB es && matchL l m es))
    | _ => false
  | .ist a t, m, e => match e with
    | .Call (.Name y _) [ea, et] [] _ => decide (y = ("isinstance" : Str)) && (kindIs m.sc y .globalImplicit && (tyB t et m && (!starX ea && matchE a m ea)))
    | _ => false
  | .isT a ts, m, e => match e with
    | .Call (.Name y _) [ea, .Tuple es _ _] [] _ => decide (y = ("isinstance" : Str)) && (kindIs m.sc y .globalImplicit && (tysB m ts es && (decide (ts.length ≤ 15) && (!ts.isEmpty && (!starX ea && matchE a m ea)))))
    | _ => false
  | .mth mm a b, m, e => match e with
    | .Call (.Attribute ea y apos) [eb] [] pos => decide (y = mtN mm) && (baseX ea && (!starX eb && ((apos.endLine == pos.line) && (matchE a m ea && matchE b m eb))))
    | _ => false
  | .comp a tg one it, m, e => match e with
    | .ListComp elt [⟨tgE, iter, [], 0⟩] scope _ => blkC m.N m.sc scope (ownOf m.N tg) && (tgB m.N (locB scope) one tg tgE && (!setX iter && (matchI it m tgE iter && matchE a ⟨m.N, relS scope m.sc, m.q⟩ elt)))
    | _ => false
  | .compC a tg one it t, m, e => match e with
    | .ListComp elt [⟨tgE, iter, [cnd], 0⟩] scope _ => blkC m.N m.sc scope (ownOf m.N tg) && (tgB m.N (locB scope) one tg tgE && (!setX iter && (matchI it m tgE iter && (matchT t ⟨m.N, relS scope m.sc, m.q⟩ cnd && matchE a ⟨m.N, relS scope m.sc, m.q⟩ elt))))
    | _ => false
  | .disp ks vs, m, e => match e with
    | .Dict keys vals _ => keysB ks keys && (consB m vs vals && (!ks.isEmpty && (decide (ks.length ≤ 15) && decide (ks.length = vals.length))))
    | _ => false
  | .din k a b, m, e => match e with
    | .Compare ea [op] [eb] _ => decide (op = if k then .In else .NotIn) && (!behindInMarks op eb && (matchE a m ea && matchE b m eb))
    | _ => false
  | .fst l, m, e => match e with
    | .JoinedStr (e1 :: e2 :: es) _ => matchF l m (e1 :: e2 :: es)
    | _ => false
  | .tryL a, m, e => match e with
    | .Call (.Name y _) [.Lambda ⟨[], [], none, [], [], none, []⟩ body scope _] [] _ => m.q.lam && (decide (y = "_law_try") && (kindIs m.sc "_law_try" .globalImplicit && (LamX.lamSB m.sc scope && matchE a ⟨m.N, scope, ⟨m.q.fn, m.q.cst, m.q.exc, false⟩⟩ body)))
    | _ => false
  | .bad, _, _ => true
def matchL : CL → Mx → List Expr → Bool
  | .nil, _, es => match es with
    | [] => true
    | _ => false
  | .cons a l, m, es => match es with
    | e :: es => !starX e && (matchE a m e && matchL l m es)
    | _ => false
def matchF : CL → Mx → List Expr → Bool
  | .nil, _, es => match es with
    | [] => true
    | _ => false
  | .cons a l, m, es => match es with
    | .FormattedValue e (-1) none _ :: es => matchE a m e && matchF l m es
    | .Constant (.str y) _ _ :: es => (match a with
      | .str x => decide (y = x)
      | _ => false) && matchF l m es
    | _ => false
def matchT : CT → Mx → Expr → Bool
  | .v a, m, e => match e with
    | .Compare .. => cmpCE a && matchE a m e
    | _ => valX e && matchE a m e
  | .nt t, m, e => match e with
    | .UnaryOp .Not ea _ => matchT t m ea
    | _ => false
  | .and_ a b, m, e => match e with
    | .BoolOp .And (ea :: eb :: rest) pos => matchT a m ea && (match rest with
      | [] => matchT b m eb
      | _ => matchT b m (.BoolOp .And (eb :: rest) pos))
    | _ => false
  | .or_ a b, m, e => match e with
    | .BoolOp .Or (ea :: eb :: rest) pos => matchT a m ea && (match rest with
      | [] => matchT b m eb
      | _ => matchT b m (.BoolOp .Or (eb :: rest) pos))
    | _ => false
def matchI : CI → Mx → Expr → Expr → Bool
  | .seq a, m, _, e => matchE a m e
  | .rng a, m, _, e => match e with
    | .Call (.Name y _) [ea] [] _ => decide (y = ("range" : Str)) && (kindIs m.sc y .globalImplicit && (!starX ea && matchE a m ea))
    | _ => false
  | .rng2 a b, m, _, e => match e with
    | .Call (.Name y _) [ea, eb] [] _ => decide (y = ("range" : Str)) && (kindIs m.sc y .globalImplicit && (!starX ea && (!starX eb && (matchE a m ea && matchE b m eb))))
    | _ => false
  | .enu a, m, tg, e => match tg with
    | .Tuple .. => match e with
      | .Call (.Name y _) [ea] [] _ => decide (y = ("enumerate" : Str)) && (kindIs m.sc y .globalImplicit && (!starX ea && matchE a m ea))
      | _ => false
    | _ => false
  | .zip a b, m, tg, e => match tg with
    | .Tuple .. => match e with
      | .Call (.Name y _) [ea, eb] [] _ => decide (y = ("zip" : Str)) && (kindIs m.sc y .globalImplicit && (!starX ea && (!starX eb && (matchE a m ea && matchE b m eb))))
      | _ => false
    | _ => false
end
def matchM : CL → Mx → List Expr → Bool := matchL
end DL

set_option Elab.async false
set_option linter.all false
set_option maxRecDepth 100000
set_option maxHeartbeats 4000000
/-! DL18: what is matched is so: expressions. -/
namespace DL
open PySem PySem.Spec PyProof.Rows L2
theorem w_ok {r : R EV} {w : W} {S : Sto} (h : r.w = .ok w S) : ∃ e, r = .ok e S ∧ e.w = some w := by
  cases r with
  | bad => cases h
  | exc x S' => cases h
  | ok e S' =>
    have h : (rOpt e.w S' : R W) = .ok w S := h
    cases he : e.w with
    | none => rw [he] at h; cases h
    | some w' => rw [he] at h; cases h; exact ⟨e, rfl, he⟩
theorem bind_ok {α β : Type} {r : R α} {f : α → Sto → R β} {b : β} {S : Sto} (h : r.bind f = .ok b S) : ∃ a S', r = .ok a S' ∧ f a S' = .ok b S := by
  cases r with
  | bad => cases h
  | exc x S' => cases h
  | ok a S' => exact ⟨a, S', rfl, h⟩
theorem map_bl {o : Option Bool} {e : EV} {S S' : Sto} (h : rOpt (o.map fun k => EV.sh (.p (.bl k))) S = .ok e S') : ∃ b, e = .sh (.p (.bl b)) := by
  cases o with
  | none => cases h
  | some b => cases h; exact ⟨b, rfl⟩
/-- what a comparison gives is a truth -/
theorem cmp_bl {g : Sg} {n0 : Nat} {a : CE} (hc : cmpCE a = true) (ρ : Rho) (S : Sto) (w : W) (S' : Sto) (h : (evE g n0 a ρ S).w = .ok w S') : ∃ b, w = .p (.bl b) := by
  obtain ⟨e, he, hw⟩ := w_ok h
  have fin : ∀ b, e = .sh (.p (.bl b)) → ∃ b, w = .p (.bl b) := fun b z => by subst z; cases hw; exact ⟨b, rfl⟩
  cases a <;> first | (cases hc; done) | skip
  · unfold evE at he
    obtain ⟨x, S1, _, he⟩ := bind_ok he
    obtain ⟨y, S2, _, he⟩ := bind_ok he
    obtain ⟨b, rfl⟩ := map_bl he
    exact fin b rfl
  · unfold evE at he
    obtain ⟨x, S1, _, he⟩ := bind_ok he
    obtain ⟨y, S2, _, he⟩ := bind_ok he
    split at he
    · obtain ⟨z, S3, _, he⟩ := bind_ok he
      obtain ⟨b, rfl⟩ := map_bl he
      exact fin b rfl
    · cases he; exact fin _ rfl
    · cases he
  · unfold evE at he
    obtain ⟨x, S1, _, he⟩ := bind_ok he
    split at he
    · cases he; exact fin _ rfl
    · cases he; exact fin _ rfl
    · cases he
  · unfold evE at he
    obtain ⟨x, S1, _, he⟩ := bind_ok he
    obtain ⟨y, S2, _, he⟩ := bind_ok he
    split at he
    · split at he
      · cases he; exact fin _ rfl
      · cases he
    · cases he
theorem nb {b : Bool} (h : (!b) = true) : b = false := by cases b <;> first | rfl | cases h
theorem bb {a b : Bool} (h : (a && b) = true) : a = true ∧ b = true := by simpa using h
theorem bb3 {a b c : Bool} (h : (a && (b && c)) = true) : a = true ∧ b = true ∧ c = true := by simpa using h
theorem bb4 {a b c d : Bool} (h : (a && (b && (c && d))) = true) : a = true ∧ b = true ∧ c = true ∧ d = true := by simpa using h
theorem bb5 {a b c d e : Bool} (h : (a && (b && (c && (d && e)))) = true) : a = true ∧ b = true ∧ c = true ∧ d = true ∧ e = true := by simpa using h
theorem bb6 {a b c d e f : Bool} (h : (a && (b && (c && (d && (e && f))))) = true) : a = true ∧ b = true ∧ c = true ∧ d = true ∧ e = true ∧ f = true := by simpa using h
theorem bb7 {a b c d e f g : Bool} (h : (a && (b && (c && (d && (e && (f && g)))))) = true) : a = true ∧ b = true ∧ c = true ∧ d = true ∧ e = true ∧ f = true ∧ g = true := by simpa using h
theorem op_of {o : BO} {op : Operator} (h : opB o op = true) : opOf o = op := of_decide_eq_true h
theorem cop_of {o : CO} {op : CmpOp} (h : copB o op = true) : copOf o = op := of_decide_eq_true h
theorem glo_of {m : Mx} {y : Str} (h : gloB m y = true) : m.sc.names.lookup y = some .globalImplicit ∧ (y == ("__debug__" : Str)) = false := by
  obtain ⟨h1, h2⟩ := bb h
  clear h
  exact ⟨kind_of h1, (okN_of h2).1⟩
theorem args_of {es : List Expr} (h : argsB es = true) : ∃ e r, es = e :: r ∧ (e :: r).any starX = false := by
  obtain ⟨h1, h2⟩ := bb h
  clear h
  cases es with
  | nil => cases h1
  | cons e r => exact ⟨e, r, rfl, nb h2⟩
theorem val_of {e : Expr} (h : valX e = true) {env : Env} : ∀ whole, isTrue e env whole = (do let v ← whole; standAt e.pos; holding [v] (truthy v)) := by
  intro whole
  cases e with
  | UnaryOp op a p => cases op <;> first | rfl | (exact absurd h (by simp [valX]))
  | _ => first | rfl | (exact absurd h (by simp [valX]))
theorem ty_of {t : Ty} {e : Expr} {m : Mx} (h : tyB t e m = true) : ∃ p, e = .Name (tyN t) p ∧ m.sc.names.lookup (tyN t) = some .globalImplicit := by
  unfold tyB at h
  split at h
  · obtain ⟨h1, h2⟩ := bb h
    clear h
    obtain rfl := of_decide_eq_true h1
    exact ⟨_, rfl, kind_of h2⟩
  · cases h
theorem tys_of {m : Mx} : ∀ {ts : List Ty} {es : List Expr}, tysB m ts es = true → Paired (fun t e => ∃ p, e = Expr.Name (tyN t) p) ts es ∧ ∀ t ∈ ts, m.sc.names.lookup (tyN t) = some .globalImplicit
  | [], [], _ => ⟨.nil, fun _ h => nomatch h⟩
  | [], _ :: _, h => by cases h
  | _ :: _, [], h => by cases h
  | t :: ts, e :: es, h => by
    obtain ⟨h1, h2⟩ := bb h
    clear h
    obtain ⟨p, rfl, hl⟩ := ty_of h1
    obtain ⟨r, a⟩ := tys_of h2
    exact ⟨.cons ⟨p, rfl⟩ r, fun t' ht => (List.mem_cons.mp ht).elim (fun z => by rw [z]; exact hl) (a t')⟩
theorem keys_of : ∀ {ks : List Str} {es : List (Option Expr)}, keysB ks es = true → Paired KS ks es
  | [], [], _ => .nil
  | [], _ :: _, h => by cases h
  | _ :: _, [], h => by cases h
  | k :: ks, e :: es, h => by
    unfold keysB at h
    obtain ⟨h1, h2⟩ := bb h
    clear h
    split at h1
    · obtain rfl := of_decide_eq_true h1
      exact .cons ⟨_, _, rfl⟩ (keys_of h2)
    · cases h1
theorem cons_of {c : Ct} {k : Nat} {m : Mx} {X : Cx} (sx : Sx c k m.N m.sc X) (F : Fns c m.q k) : ∀ {l : CL} {es : List Expr}, consB m l es = true → ∃ ds, dispV l = some ds ∧ Paired (DV c X) ds es
  | .nil, [], _ => ⟨[], rfl, .nil⟩
  | .nil, _ :: _, h => by cases h
  | .cons _ _, [], h => by cases h
  | .cons a l, e :: es, h => by
    unfold consB at h
    obtain ⟨h1, h2⟩ := bb h
    clear h
    obtain ⟨ds, e1, r⟩ := cons_of sx F h2
    cases a <;> first | (cases h1; done) | skip
    · rename_i i
      dsimp only at h1
      split at h1
      · obtain rfl := of_decide_eq_true h1
        exact ⟨.int _ :: ds, by show (some _).bind _ = _; rw [e1]; rfl, .cons ⟨_, pe_int, fun G => .int _⟩ r⟩
      · cases h1
    · rename_i n
      dsimp only at h1
      split at h1
      · obtain ⟨h3, h4⟩ := bb h1
        obtain ⟨g1, g2⟩ := glo_of h4
        obtain ⟨f1, _⟩ := F.fn n _ (atO_of h3)
        exact ⟨.fn n :: ds, by show (some _).bind _ = _; rw [e1]; rfl, .cons ⟨.ref (c.x.fa n), pe_glob (v := .ref (c.x.fa n)) (show X.env.scope.names.lookup _ = _ by rw [sx.sc]; exact g1) (by rw [sx.mg]; exact f1) rfl g2, fun G => .fn n⟩ r⟩
      · cases h1
section
variable {c : Ct} {k : Nat}
theorem nilL_of {l : CL} (h : nilL l = true) : l = .nil := by
  cases l <;> first | rfl | cases h
mutual
theorem sndE : ∀ (ce : CE) (m : Mx) (e : Expr), matchE ce m e = true → ∀ {c : Ct} {k : Nat} {X : Cx} {Wx : WH}, Sx c k m.N m.sc X → Fns c m.q k → Tk X Wx → OkE c X Wx ce e
  | .var i, m, e, h, c, k, X, Wx, sx, F, tk => by
    unfold matchE at h
    split at h
    · obtain ⟨h1, h2, h3⟩ := bb3 h
      clear h
      exact ok_var sx (at_of h1) (vis_of h2) (okN_of h3).1 (okN_of h3).2
    · cases h
  | .int i, m, e, h, c, k, X, Wx, sx, F, tk => by
    unfold matchE at h
    split at h
    · obtain rfl := of_decide_eq_true h
      exact ok_int
    · cases h
  | .str i, m, e, h, c, k, X, Wx, sx, F, tk => by
    unfold matchE at h
    split at h
    · obtain rfl := of_decide_eq_true h
      exact ok_str
    · cases h
  | .bl i, m, e, h, c, k, X, Wx, sx, F, tk => by
    unfold matchE at h
    split at h
    · obtain rfl := of_decide_eq_true h
      exact ok_bl
    · cases h
  | .non, m, e, h, c, k, X, Wx, sx, F, tk => by
    unfold matchE at h
    split at h
    · exact ok_non
    · cases h
  | .cst n, m, e, h, c, k, X, Wx, sx, F, tk => by
    unfold matchE at h
    split at h
    · obtain ⟨h1, h2⟩ := bb h
      clear h
      obtain ⟨g1, g2⟩ := glo_of h2
      exact ok_cst sx F (atO_of h1) g1 g2
    · cases h
  | .fnv n, m, e, h, c, k, X, Wx, sx, F, tk => by
    unfold matchE at h
    split at h
    · obtain ⟨h1, h2⟩ := bb h
      clear h
      obtain ⟨g1, g2⟩ := glo_of h2
      exact ok_fnv sx F (atO_of h1) g1 g2
    · cases h
  | .bin o a b, m, e, h, c, k, X, Wx, sx, F, tk => by
    unfold matchE at h
    split at h
    · obtain ⟨h1, h2, h3⟩ := bb3 h
      clear h
      obtain rfl := op_of h1
      exact ok_bin sx (sndE a m _ h2 sx F tk).d (sndE b m _ h3 sx F tk).d
    · cases h
  | .neg a, m, e, h, c, k, X, Wx, sx, F, tk => by
    unfold matchE at h
    split at h
    · exact ok_neg (sndE a m _ h sx F tk).d
    · cases h
  | .cmp o a b, m, e, h, c, k, X, Wx, sx, F, tk => by
    unfold matchE at h
    split at h
    · obtain ⟨h1, h2, h3, h4⟩ := bb4 h
      clear h
      obtain rfl := cop_of h1
      exact (okP_cmp sx (sndE a m _ h3 sx F tk).d (sndE b m _ h4 sx F tk).d (nb h2)).e
    · cases h
  | .chain o p a b d, m, e, h, c, k, X, Wx, sx, F, tk => by
    unfold matchE at h
    split at h
    · obtain ⟨h1, h2, h3, h4, h5, h6⟩ := bb6 h
      clear h
      obtain rfl := cop_of h1
      obtain rfl := cop_of h2
      exact (okP_chain sx (sndE a m _ h4 sx F tk).d (sndE b m _ h5 sx F tk).d (sndE d m _ h6 sx F tk).d (nb h3)).e
    · cases h
  | .isN kk a, m, e, h, c, k, X, Wx, sx, F, tk => by
    unfold matchE at h
    split at h
    · obtain ⟨h1, h2⟩ := bb h
      clear h
      obtain rfl := of_decide_eq_true h1
      cases kk with
      | true => exact (okP_isN (sndE a m _ h2 sx F tk).d).e
      | false => exact (okP_notN (sndE a m _ h2 sx F tk).d).e
    · cases h
  | .isB kk b a, m, e, h, c, k, X, Wx, sx, F, tk => by
    unfold matchE at h
    split at h
    · obtain ⟨h1, h2, h3⟩ := bb3 h
      clear h
      obtain rfl := of_decide_eq_true h2
      obtain rfl : kk = true := h1
      exact ok_isB (sndE a m _ h3 sx F tk).d
    · cases h
  | .nt a, m, e, h, c, k, X, Wx, sx, F, tk => by
    unfold matchE at h
    split at h
    · exact ok_not (sndE a m _ h sx F tk).d
    · cases h
  | .and_ a b, m, e, h, c, k, X, Wx, sx, F, tk => by
    unfold matchE at h
    split at h
    · obtain ⟨h1, h2⟩ := bb h
      clear h
      split at h2
      · exact ok_and (sndE a m _ h1 sx F tk).d (ok_one (sndE b m _ h2 sx F tk))
      · exact ok_and (sndE a m _ h1 sx F tk).d (sndE b m _ h2 sx F tk)
    · cases h
  | .or_ a b, m, e, h, c, k, X, Wx, sx, F, tk => by
    unfold matchE at h
    split at h
    · obtain ⟨h1, h2⟩ := bb h
      clear h
      split at h2
      · exact ok_or (sndE a m _ h1 sx F tk).d (ok_one (sndE b m _ h2 sx F tk))
      · exact ok_or (sndE a m _ h1 sx F tk).d (sndE b m _ h2 sx F tk)
    · cases h
  | .ife t a b, m, e, h, c, k, X, Wx, sx, F, tk => by
    unfold matchE at h
    split at h
    · obtain ⟨h1, h2, h3⟩ := bb3 h
      clear h
      exact ok_ife (sndT t m _ h1 sx F tk).1 (sndE a m _ h2 sx F tk) (sndE b m _ h3 sx F tk)
    · cases h
  | .tup l, m, e, h, c, k, X, Wx, sx, F, tk => by
    unfold matchE at h
    split at h
    · exact ok_tup (sndL l m _ h sx F tk).1
    · cases h
  | .lst l, m, e, h, c, k, X, Wx, sx, F, tk => by
    unfold matchE at h
    split at h
    · exact ok_lst (sndL l m _ h sx F tk).1
    · cases h
  | .ix a b, m, e, h, c, k, X, Wx, sx, F, tk => by
    unfold matchE at h
    split at h
    · obtain ⟨h1, h2, h3⟩ := bb3 h
      clear h
      exact ok_ix sx (sndE a m _ h2 sx F tk).d (sndE b m _ h3 sx F tk).d (nb h1)
    · cases h
  | .dix a b, m, e, h, c, k, X, Wx, sx, F, tk => by
    unfold matchE at h
    split at h
    · obtain ⟨h1, h2, h3⟩ := bb3 h
      clear h
      exact ok_dix sx (sndE a m _ h2 sx F tk).d (sndE b m _ h3 sx F tk).d (nb h1)
    · cases h
  | .slL a b, m, e, h, c, k, X, Wx, sx, F, tk => by
    unfold matchE at h
    split at h
    · obtain ⟨h1, h2⟩ := bb h
      clear h
      exact ok_slL sx (sndE a m _ h1 sx F tk).d (sndE b m _ h2 sx F tk).d
    · cases h
  | .slH a b, m, e, h, c, k, X, Wx, sx, F, tk => by
    unfold matchE at h
    split at h
    · obtain ⟨h1, h2⟩ := bb h
      clear h
      exact ok_slH sx (sndE a m _ h1 sx F tk).d (sndE b m _ h2 sx F tk).d
    · cases h
  | .slB a b d, m, e, h, c, k, X, Wx, sx, F, tk => by
    unfold matchE at h
    split at h
    · obtain ⟨h1, h2, h3⟩ := bb3 h
      clear h
      exact ok_slB sx (sndE a m _ h1 sx F tk).d (sndE b m _ h2 sx F tk).d (sndE d m _ h3 sx F tk).d
    · cases h
  | .rev a, m, e, h, c, k, X, Wx, sx, F, tk => by
    unfold matchE at h
    split at h
    · exact ok_rev sx (sndE a m _ h sx F tk).d
    · cases h
  | .call n l, m, e, h, c, k, X, Wx, sx, F, tk => by
    unfold matchE at h
    split at h
    · obtain ⟨h1, h⟩ := Bool.and_eq_true_iff.mp h
      obtain ⟨h2, h⟩ := Bool.and_eq_true_iff.mp h
      obtain ⟨g1, g2⟩ := glo_of h2
      rcases Bool.or_eq_true_iff.mp h with h | h
      · obtain ⟨h3, h4⟩ := Bool.and_eq_true_iff.mp h
        obtain rfl := List.isEmpty_iff.mp h3
        obtain rfl := nilL_of h4
        exact ok_call0 sx F tk (atO_of h1) g1 g2
      · obtain ⟨h3, h4⟩ := Bool.and_eq_true_iff.mp h
        obtain ⟨e, r, rfl, hs⟩ := args_of h3
        exact ok_call sx F tk (atO_of h1) g1 g2 (sndL l m _ h4 sx F tk).1 hs
    · cases h
  | .callD ns a l, m, e, h, c, k, X, Wx, sx, F, tk => by
    unfold matchE at h
    split at h
    · obtain ⟨h0, h⟩ := Bool.and_eq_true_iff.mp h
      obtain ⟨h1, h2, h3, h4⟩ := bb4 h
      clear h
      obtain ⟨e, r, rfl, hs⟩ := args_of h3
      exact ok_callD sx F tk (ns_of h0) (sndE a m _ h2 sx F tk).d (nb h1) (sndL l m _ h4 sx F tk).1 hs
    · cases h
  | .blt b l, m, e, h, c, k, X, Wx, sx, F, tk => by
    unfold matchE at h
    split at h
    · obtain ⟨h1, h2, h3, h4⟩ := bb4 h
      clear h
      obtain ⟨e, r, rfl, hs⟩ := args_of h3
      obtain rfl := of_decide_eq_true h1
      exact ok_blt sx F (kind_of h2) (sndL l m _ h4 sx F tk).1 hs
    · cases h
  | .ist a t, m, e, h, c, k, X, Wx, sx, F, tk => by
    unfold matchE at h
    split at h
    · obtain ⟨h1, h2, h3, h4, h5⟩ := bb5 h
      clear h
      obtain rfl := of_decide_eq_true h1
      obtain ⟨p, rfl, hl⟩ := ty_of h3
      exact ok_ist sx F (kind_of h2) hl (sndE a m _ h5 sx F tk).d (nb h4)
    · cases h
  | .isT a ts, m, e, h, c, k, X, Wx, sx, F, tk => by
    unfold matchE at h
    split at h
    · obtain ⟨h1, h2, h3, h4, h5, h6, h7⟩ := bb7 h
      clear h
      obtain rfl := of_decide_eq_true h1
      obtain ⟨r, a'⟩ := tys_of h3
      refine ok_isT sx F (kind_of h2) a' r (of_decide_eq_true h4) (fun z => ?_) (sndE a m _ h7 sx F tk).d (nb h6)
      subst z
      cases h5
    · cases h
  | .mth mm a b, m, e, h, c, k, X, Wx, sx, F, tk => by
    unfold matchE at h
    split at h
    · obtain ⟨h1, h2, h3, h4, h5, h6⟩ := bb6 h
      clear h
      obtain rfl := of_decide_eq_true h1
      exact ok_mth sx (sndE a m _ h5 sx F tk).d (sndE b m _ h6 sx F tk).d h2 (nb h3) h4
    · cases h
  | .comp a tg one it, m, e, h, c, k, X, Wx, sx, F, tk => by
    unfold matchE at h
    split at h
    · obtain ⟨h1, h2, h3, h4, h5⟩ := bb5 h
      clear h
      exact ok_comp sx (sndI it m _ _ h4 sx F tk) ⟨blkOk_by h1, ownOf_snd _ _, tg_of (fun y hy => loc_of hy) h2, fun X' sx' => (sndE a ⟨m.N, relS _ m.sc, m.q⟩ _ h5 sx' F tk_none).d, nb h3⟩
    · cases h
  | .compC a tg one it t, m, e, h, c, k, X, Wx, sx, F, tk => by
    unfold matchE at h
    split at h
    · obtain ⟨h1, h2, h3, h4, h5, h6⟩ := bb6 h
      clear h
      exact ok_compC sx (sndI it m _ _ h4 sx F tk) ⟨blkOk_by h1, ownOf_snd _ _, tg_of (fun y hy => loc_of hy) h2, fun X' sx' => (sndE a ⟨m.N, relS _ m.sc, m.q⟩ _ h6 sx' F tk_none).d, nb h3⟩ fun X' sx' => (sndT t ⟨m.N, relS _ m.sc, m.q⟩ _ h5 sx' F tk_none).1
    · cases h
  | .disp ks vs, m, e, h, c, k, X, Wx, sx, F, tk => by
    unfold matchE at h
    split at h
    · obtain ⟨h1, h2, h3, h4, h5⟩ := bb5 h
      clear h
      obtain ⟨ds, e1, r⟩ := cons_of sx F h2
      refine ok_disp (keys_of h1) (fun ds' e' => ?_) (fun z => ?_) (of_decide_eq_true h4) (of_decide_eq_true h5) (by rw [e1]; rfl)
      · rw [e1] at e'
        cases e'
        exact r
      · subst z
        cases h3
    · cases h
  | .din kk a b, m, e, h, c, k, X, Wx, sx, F, tk => by
    unfold matchE at h
    split at h
    · obtain ⟨h1, h2, h3, h4⟩ := bb4 h
      clear h
      obtain rfl := of_decide_eq_true h1
      exact (okP_din sx (sndE a m _ h3 sx F tk).d (sndE b m _ h4 sx F tk).d (nb h2)).e
    · cases h
  | .fst l, m, e, h, c, k, X, Wx, sx, F, tk => by
    unfold matchE at h
    split at h
    · exact ok_fst (sndF l m _ h sx F tk)
    · cases h
  | .tryL a, m, e, h, c, k, X, Wx, sx, F, tk => by
    unfold matchE at h
    split at h
    · obtain ⟨h1, h⟩ := Bool.and_eq_true_iff.mp h
      obtain ⟨h2, h⟩ := Bool.and_eq_true_iff.mp h
      obtain ⟨h3, h⟩ := Bool.and_eq_true_iff.mp h
      obtain ⟨h4, h5⟩ := Bool.and_eq_true_iff.mp h
      obtain rfl := of_decide_eq_true h2
      obtain ⟨hl, k0, F0, T⟩ := F.lam h1
      exact T c.n0 _ _ _ _ _ _ _ _ _ _ sx (of_decide_eq_true h3) (LamX.lamS_by h4) fun X' E sx' tk' =>
        (sndE a ⟨m.N, _, ⟨m.q.fn, m.q.cst, m.q.exc, false⟩⟩ _ h5 sx' ⟨⟨F0.fn, F0.cst, F0.blt, F0.exc⟩, fun z => Bool.noConfusion z⟩ tk').d
    · cases h
  | .bad, m, e, h, c, k, X, Wx, sx, F, tk => ⟨fun _ _ _ => False, ⟨fun _ _ _ _ _ _ z => z.elim⟩, fun σ ρ al S H Q s r z => by
    unfold evE at z
    exact z⟩
theorem sndL : ∀ (l : CL) (m : Mx) (es : List Expr), matchL l m es = true → ∀ {c : Ct} {k : Nat} {X : Cx} {Wx : WH}, Sx c k m.N m.sc X → Fns c m.q k → Tk X Wx → OkL c X Wx l es ∧ OkM c X Wx l es
  | .nil, m, es, h, c, k, X, Wx, sx, F, tk => by
    unfold matchL at h
    split at h
    · exact ⟨okL_nil, okM_nil⟩
    · cases h
  | .cons a l, m, es, h, c, k, X, Wx, sx, F, tk => by
    unfold matchL at h
    split at h
    · obtain ⟨h1, h2, h3⟩ := bb3 h
      clear h
      have ha := sndE a m _ h2 sx F tk
      have hl := sndL l m _ h3 sx F tk
      exact ⟨okL_cons ha.d hl.1 (nb h1), okM_cons ha hl.2 (nb h1)⟩
    · cases h
theorem sndF : ∀ (l : CL) (m : Mx) (es : List Expr), matchF l m es = true → ∀ {c : Ct} {k : Nat} {X : Cx} {Wx : WH}, Sx c k m.N m.sc X → Fns c m.q k → Tk X Wx → FP c X Wx l es
  | .nil, m, es, h, c, k, X, Wx, sx, F, tk => by
    unfold matchF at h
    split at h
    · exact .nil
    · cases h
  | .cons a l, m, es, h, c, k, X, Wx, sx, F, tk => by
    unfold matchF at h
    split at h
    · obtain ⟨h1, h2⟩ := bb h
      clear h
      exact .part (sndE a m _ h1 sx F tk).d (sndF l m _ h2 sx F tk)
    · obtain ⟨h1, h2⟩ := bb h
      clear h
      split at h1
      · obtain rfl := of_decide_eq_true h1
        exact .txt (sndF l m _ h2 sx F tk)
      · cases h1
    · cases h
theorem sndT : ∀ (t : CT) (m : Mx) (e : Expr), matchT t m e = true → ∀ {c : Ct} {k : Nat} {X : Cx} {Wx : WH}, Sx c k m.N m.sc X → Fns c m.q k → Tk X Wx → OkT c X Wx t e ∧ ∀ o es pos, e = .BoolOp o es pos → OkW c X Wx t e
  | .v a, m, e, h, c, k, X, Wx, sx, F, tk => by
    unfold matchT at h
    split at h
    · obtain ⟨h1, h2⟩ := bb h
      clear h
      refine ⟨?_, fun o es pos z => nomatch z⟩
      refine okT_b ?_ (fun ρ S w S' hw => cmp_bl h1 ρ S w S' hw)
      cases a <;> first | (cases h1; done) | skip
      · rename_i o a b
        unfold matchE at h2
        split at h2
        · rename_i heq
          cases heq
          obtain ⟨g1, g2, g3, g4⟩ := bb4 h2
          clear h2
          obtain rfl := cop_of g1
          exact okP_cmp sx (sndE a m _ g3 sx F tk).d (sndE b m _ g4 sx F tk).d (nb g2)
        · cases h2
      · rename_i o p a b d
        unfold matchE at h2
        split at h2
        · rename_i heq
          cases heq
          obtain ⟨g1, g2, g3, g4, g5, g6⟩ := bb6 h2
          clear h2
          obtain rfl := cop_of g1
          obtain rfl := cop_of g2
          exact okP_chain sx (sndE a m _ g4 sx F tk).d (sndE b m _ g5 sx F tk).d (sndE d m _ g6 sx F tk).d (nb g3)
        · cases h2
      · rename_i kk a
        unfold matchE at h2
        split at h2
        · rename_i heq
          cases heq
          obtain ⟨g1, g2⟩ := bb h2
          clear h2
          obtain rfl := of_decide_eq_true g1
          cases kk with
          | true => exact okP_isN (sndE a m _ g2 sx F tk).d
          | false => exact okP_notN (sndE a m _ g2 sx F tk).d
        · cases h2
      · rename_i kk a b
        unfold matchE at h2
        split at h2
        · rename_i heq
          cases heq
          obtain ⟨g1, g2, g3, g4⟩ := bb4 h2
          clear h2
          obtain rfl := of_decide_eq_true g1
          exact okP_din sx (sndE a m _ g3 sx F tk).d (sndE b m _ g4 sx F tk).d (nb g2)
        · cases h2
    · obtain ⟨h1, h2⟩ := bb h
      clear h
      refine ⟨okT_v sx (sndE a m _ h2 sx F tk).d (val_of h1), fun o es pos z => ?_⟩
      subst z
      cases h1
  | .nt t, m, e, h, c, k, X, Wx, sx, F, tk => by
    unfold matchT at h
    split at h
    · exact ⟨okT_not (sndT t m _ h sx F tk).1, fun o es pos z => nomatch z⟩
    · cases h
  | .and_ a b, m, e, h, c, k, X, Wx, sx, F, tk => by
    unfold matchT at h
    split at h
    · obtain ⟨h1, h2⟩ := bb h
      clear h
      have ha := (sndT a m _ h1 sx F tk).1
      split at h2
      · exact ⟨okT_w (okW_and ha (okW_and1 (sndT b m _ h2 sx F tk).1)), fun _ _ _ _ => okW_and ha (okW_and1 (sndT b m _ h2 sx F tk).1)⟩
      · exact ⟨okT_w (okW_and ha ((sndT b m _ h2 sx F tk).2 _ _ _ rfl)), fun _ _ _ _ => okW_and ha ((sndT b m _ h2 sx F tk).2 _ _ _ rfl)⟩
    · cases h
  | .or_ a b, m, e, h, c, k, X, Wx, sx, F, tk => by
    unfold matchT at h
    split at h
    · obtain ⟨h1, h2⟩ := bb h
      clear h
      have ha := (sndT a m _ h1 sx F tk).1
      split at h2
      · exact ⟨okT_w (okW_or ha (okW_or1 (sndT b m _ h2 sx F tk).1)), fun _ _ _ _ => okW_or ha (okW_or1 (sndT b m _ h2 sx F tk).1)⟩
      · exact ⟨okT_w (okW_or ha ((sndT b m _ h2 sx F tk).2 _ _ _ rfl)), fun _ _ _ _ => okW_or ha ((sndT b m _ h2 sx F tk).2 _ _ _ rfl)⟩
    · cases h
theorem sndI : ∀ (it : CI) (m : Mx) (tg e : Expr), matchI it m tg e = true → ∀ {c : Ct} {k : Nat} {X : Cx} {Wx : WH}, Sx c k m.N m.sc X → Fns c m.q k → Tk X Wx → OkI c X Wx it tg e
  | .seq a, m, tg, e, h, c, k, X, Wx, sx, F, tk => by
    unfold matchI at h
    exact okI_seq sx (sndE a m _ h sx F tk).d
  | .rng a, m, tg, e, h, c, k, X, Wx, sx, F, tk => by
    unfold matchI at h
    split at h
    · obtain ⟨h1, h2, h3, h4⟩ := bb4 h
      clear h
      obtain rfl := of_decide_eq_true h1
      exact okI_rng sx F (kind_of h2) (sndE a m _ h4 sx F tk).d (nb h3)
    · cases h
  | .rng2 a b, m, tg, e, h, c, k, X, Wx, sx, F, tk => by
    unfold matchI at h
    split at h
    · obtain ⟨h1, h2, h3, h4, h5, h6⟩ := bb6 h
      clear h
      obtain rfl := of_decide_eq_true h1
      exact okI_rng2 sx F (kind_of h2) (sndE a m _ h5 sx F tk).d (sndE b m _ h6 sx F tk).d (nb h3) (nb h4)
    · cases h
  | .enu a, m, tg, e, h, c, k, X, Wx, sx, F, tk => by
    unfold matchI at h
    split at h
    · split at h
      · obtain ⟨h1, h2, h3, h4⟩ := bb4 h
        clear h
        obtain rfl := of_decide_eq_true h1
        exact okI_enu sx F (kind_of h2) (sndE a m _ h4 sx F tk).d (nb h3)
      · cases h
    · cases h
  | .zip a b, m, tg, e, h, c, k, X, Wx, sx, F, tk => by
    unfold matchI at h
    split at h
    · split at h
      · obtain ⟨h1, h2, h3, h4, h5, h6⟩ := bb6 h
        clear h
        obtain rfl := of_decide_eq_true h1
        exact okI_zip sx F (kind_of h2) (sndE a m _ h5 sx F tk).d (sndE b m _ h6 sx F tk).d (nb h3) (nb h4)
      · cases h
    · cases h
end
end
end DL

set_option Elab.async false
set_option linter.all false
set_option maxRecDepth 100000
set_option maxHeartbeats 4000000
/-! DL19: what is matched is so: statements. -/
namespace DL
open PySem PySem.Spec PyProof.Rows L2
def nameB (m : Mx) (i : Nat) (y : Str) : Bool := atB m.N i y && locB m.sc y
mutual
def matchS : CS → Mx → Stmt → Bool
  | .asg i a, m, st => match st with
    | .Assign [.Name y _] e _ => nameB m i y && matchE a m e
    | _ => false
  | .asgO i a, m, st => match st with
    | .Assign [.Name y _] e _ => nameB m i y && matchE a m e
    | _ => false
  | .tasg tg l, m, st => match st with
    | .Assign [.Tuple ts _ _] (.Tuple es _ _) _ => matchL l m es && (decide (tg.length ≤ 100) && (match swP m.sc ts es with
      | some none => tgB m.N (locB m.sc) false tg (.Tuple ts 0 ⟨0, 0, 0, 0⟩)
      | some (some ns) => (match ts with
        | [.Name y _, .Name z _] => (match es with
          | [_, _] => (match tg with
            | [i, j] => atB m.N i y && (atB m.N j z && (kindIs m.sc y .local && (kindIs m.sc z .local && (decide (i ≠ j) && decide (ns = [y, z])))))
            | _ => false)
          | _ => false)
        | [.Name y _, .Name z _, .Name u _] => (match es with
          | [_, _, _] => (match tg with
            | [i, j, k] => (atB m.N i y && (atB m.N j z && atB m.N k u)) && ((kindIs m.sc y .local && (kindIs m.sc z .local && kindIs m.sc u .local)) && (decide (i ≠ j) && (decide (i ≠ k) && (decide (j ≠ k) && decide (ns = [y, z, u])))))
            | _ => false)
          | _ => false)
        | _ => false)
      | none => false))
    | _ => false
  | .unp tg a, m, st => match st with
    | .Assign [.Tuple ts x1 p] e _ => !tupX e && (!compX e && (tgB m.N (locB m.sc) false tg (.Tuple ts x1 p) && matchE a m e))
    | _ => false
  | .sub i k a, m, st => match st with
    | .Assign [.Subscript (.Name y _) ek _] e _ => varB m i y && (!sliceX ek && (!compX e && (matchE k m ek && matchE a m e)))
    | _ => false
  | .aug i k a, m, st => match st with
    | .AugAssign (.Subscript (.Name y _) ek _) .Add e _ => varB m i y && (!sliceX ek && (matchE k m ek && matchE a m e))
    | _ => false
  | .app i a, m, st => match st with
    | .Expr (.Call (.Attribute (.Name y _) nm apos) [e] [] cpos) _ => varB m i y && (decide (nm = ("append" : Str)) && (!starX e && ((apos.endLine == cpos.line) && matchE a m e)))
    | _ => false
  | .expr a, m, st => match st with
    | .Expr e _ => !compX e && matchE a m e
    | _ => false
  | .ret a, m, st => match st with
    | .Return (some e) _ => matchE a m e
    | _ => false
  | .retN, m, st => match st with
    | .Return none _ => true
    | _ => false
  | .ifs t a b, m, st => match st with
    | .If e sa sb _ => matchT t m e && (matchSs a m sa && matchSs b m sb)
    | _ => false
  | .whl t b, m, st => match st with
    | .While e sb [] _ => matchT t m e && matchSs b m sb
    | _ => false
  | .for_ tg one it b, m, st => match st with
    | .For te e sb [] _ => matchI it m te e && (tgB m.N (locB m.sc) one tg te && (!setX e && matchSs b m sb))
    | _ => false
  | .rai n, m, st => match st with
    | .Raise (some (.Call (.Name y _) [.Constant (.str _) _ _] [] _)) none _ => atB m.q.exc n y && gloB m y
    | _ => false
  | .raiA _ _, _, _ => false
  | .bad, _, _ => true
  | .nil, _, _ => false
  | .seq _ _, _, _ => false
def matchSs : CS → Mx → List Stmt → Bool
  | .nil, _, st => match st with
    | [] => true
    | _ => false
  | .seq a b, m, st => match st with
    | s :: r => matchS a m s && matchSs b m r
    | _ => false
  | .asg .., _, _ => false
  | .asgO .., _, _ => false
  | .tasg .., _, _ => false
  | .unp .., _, _ => false
  | .sub .., _, _ => false
  | .aug .., _, _ => false
  | .app .., _, _ => false
  | .expr .., _, _ => false
  | .ret .., _, _ => false
  | .retN, _, _ => false
  | .ifs .., _, _ => false
  | .whl .., _, _ => false
  | .for_ .., _, _ => false
  | .rai .., _, _ => false
  | .raiA .., _, _ => false
  | .bad, _, _ => true
end
section
variable {c : Ct} {k : Nat} {m : Mx} {X : Cx} {Wx : WH}
/-- names that a def may write -/
def Wr (m : Mx) (X : Cx) : Prop := ∀ y, Own m.sc y → StoN X y
theorem sndA {a : CE} {e : Expr} {i : Nat} {y : Str} {py pos : Pos} (sx : Sx c k m.N m.sc X) (F : Fns c m.q k) (tk : Tk X Wx) (hk : m.sc.kind = .function) (wr : Wr m X) (hn : nameB m i y = true) (h : matchE a m e = true) : OkA c X Wx a i y py e pos := by
  obtain ⟨n1, n2⟩ := bb hn
  have hi := at_of n1
  have st := wr y (loc_of n2)
  cases hc : compX e with
  | false => exact okA_of sx (sndE a m e h sx F tk) hi st (sws_no hc)
  | true =>
    have no : ∀ {P : Prop}, compX e = false → P := fun z => by rw [z] at hc; cases hc
    cases a <;> first
      | (unfold matchE at h; split at h <;> first | (cases hc; done) | (cases h; done))
      | (unfold matchE at h; cases h; done)
      | skip
    · rename_i a tg one it
      unfold matchE at h
      split at h
      · obtain ⟨h1, h2, h3, h4, h5⟩ := bb5 h
        exact okA_comp sx hk (sndI it m _ _ h4 sx F tk) ⟨blkOk_by h1, ownOf_snd _ _, tg_of (fun y hy => loc_of hy) h2, fun X' sx' => (sndE a ⟨m.N, relS _ m.sc, m.q⟩ _ h5 sx' F tk_none).d, nb h3⟩ hi st
      · cases h
    · rename_i a tg one it t
      unfold matchE at h
      split at h
      · obtain ⟨h1, h2, h3, h4, h5, h6⟩ := bb6 h
        exact okA_compC sx hk (sndI it m _ _ h4 sx F tk) ⟨blkOk_by h1, ownOf_snd _ _, tg_of (fun y hy => loc_of hy) h2, fun X' sx' => (sndE a ⟨m.N, relS _ m.sc, m.q⟩ _ h6 sx' F tk_none).d, nb h3⟩ (fun X' sx' => (sndT t ⟨m.N, relS _ m.sc, m.q⟩ _ h5 sx' F tk_none).1) hi st
      · cases h
    · refine ⟨fun _ _ _ => False, ⟨fun _ _ _ _ _ _ z => z.elim⟩, fun σ ρ al S H Q s r z => ?_⟩
      unfold evE at z
      exact z
theorem var_of {i : Nat} {y : Str} (h : varB m i y = true) : m.N[i]? = some y ∧ Vis m.sc y ∧ (y == ("__debug__" : Str)) = false ∧ (y == ("__classdict__" : Str)) = false := by
  obtain ⟨h1, h2, h3⟩ := bb3 h
  exact ⟨at_of h1, vis_of h2, okN_of h3⟩
end
theorem tg_any {N : List Str} {P : Str → Prop} {tg : List Nat} {ts : List Expr} {x1 x2 : Nat} {p1 p2 : Pos} (h : TgE N P false tg (.Tuple ts x1 p1)) : TgE N P false tg (.Tuple ts x2 p2) := by
  cases h with
  | many h => exact .many h
section
variable {c : Ct} {k : Nat}
mutual
theorem sndS : ∀ (s : CS) (m : Mx) (st : Stmt), matchS s m st = true → ∀ {X : Cx} {Wx : WH}, Sx c k m.N m.sc X → Fns c m.q k → Tk X Wx → m.sc.kind = .function → Wr m X → PassesOwn (model X.prog X.w) X.A X.env X.xe → OkS c X Wx s st
  | .asg i a, m, st, h, X, Wx, sx, F, tk, hk, wr, hp => by
    unfold matchS at h
    split at h
    · obtain ⟨h1, h2⟩ := bb h
      exact okS_asg (sndA sx F tk hk wr h1 h2)
    · cases h
  | .asgO i a, m, st, h, X, Wx, sx, F, tk, hk, wr, hp => by
    unfold matchS at h
    split at h
    · obtain ⟨h1, h2⟩ := bb h
      exact okS_asgO (sndA sx F tk hk wr h1 h2)
    · cases h
  | .tasg tg l, m, st, h, X, Wx, sx, F, tk, hk, wr, hp => by
    unfold matchS at h
    split at h
    · obtain ⟨h1, h2, h3⟩ := bb3 h
      clear h
      have hl := (sndL l m _ h1 sx F tk).2
      have hlen := of_decide_eq_true h2
      split at h3
      · rename_i hsw
        exact okS_tasg sx hl (tg_any (by rw [sx.hN]; exact tg_of (fun y hy => wr y (loc_of hy)) h3)) hlen (sw_eq sx.sc hk hsw)
      · rename_i ns hsw
        split at h3
        · split at h3
          · split at h3
            · obtain ⟨g1, g2, g3, g4, g5, g6⟩ := bb6 h3
              obtain rfl := of_decide_eq_true g6
              exact okS_par sx hl (at_of g1) (at_of g2) (of_decide_eq_true g5) (kind_of g3) (kind_of g4) (sw_eq sx.sc hk hsw)
            · cases h3
          · cases h3
        · split at h3
          · split at h3
            · obtain ⟨g1, g2, g3, g4, g5, g6⟩ := bb6 h3
              obtain ⟨a1, a2, a3⟩ := bb3 g1
              obtain ⟨b1, b2, b3⟩ := bb3 g2
              obtain rfl := of_decide_eq_true g6
              exact okS_par3 sx hl (at_of a1) (at_of a2) (at_of a3) (of_decide_eq_true g3) (of_decide_eq_true g4) (of_decide_eq_true g5) (kind_of b1) (kind_of b2) (kind_of b3) (sw_eq sx.sc hk hsw)
            · cases h3
          · cases h3
        · cases h3
      · cases h3
    · cases h
  | .unp tg a, m, st, h, X, Wx, sx, F, tk, hk, wr, hp => by
    unfold matchS at h
    split at h
    · obtain ⟨h1, h2, h3, h4⟩ := bb4 h
      exact okS_unp sx (sndE a m _ h4 sx F tk).d (by rw [sx.hN]; exact tg_of (fun y hy => wr y (loc_of hy)) h3) (by unfold swapsWithSole; exact sws_no (nb h2)) (sw_no (nb h1))
    · cases h
  | .sub i kk a, m, st, h, X, Wx, sx, F, tk, hk, wr, hp => by
    unfold matchS at h
    split at h
    · obtain ⟨h1, h2, h3, h4, h5⟩ := bb5 h
      obtain ⟨v1, v2, v3, v4⟩ := var_of h1
      exact okS_sub sx (sndE a m _ h5 sx F tk).d (sndE kk m _ h4 sx F tk).d v1 v2 v3 v4 (by unfold swapsWithSole; exact sws_no (nb h3)) swsub_no (nb h2)
    · cases h
  | .aug i kk a, m, st, h, X, Wx, sx, F, tk, hk, wr, hp => by
    unfold matchS at h
    split at h
    · obtain ⟨h1, h2, h3, h4⟩ := bb4 h
      obtain ⟨v1, v2, v3, v4⟩ := var_of h1
      exact okS_aug sx (sndE a m _ h4 sx F tk).d (sndE kk m _ h3 sx F tk).d v1 v2 v3 v4 (nb h2)
    · cases h
  | .app i a, m, st, h, X, Wx, sx, F, tk, hk, wr, hp => by
    unfold matchS at h
    split at h
    · obtain ⟨h1, h2, h3, h4, h5⟩ := bb5 h
      obtain ⟨v1, v2, v3, v4⟩ := var_of h1
      obtain rfl := of_decide_eq_true h2
      exact okS_app sx (sndE a m _ h5 sx F tk).d v1 v2 v3 v4 (nb h3) h4
    · cases h
  | .expr a, m, st, h, X, Wx, sx, F, tk, hk, wr, hp => by
    unfold matchS at h
    split at h
    · obtain ⟨h1, h2⟩ := bb h
      exact okS_expr (sndE a m _ h2 sx F tk).d (sws_no (nb h1))
    · cases h
  | .ret a, m, st, h, X, Wx, sx, F, tk, hk, wr, hp => by
    unfold matchS at h
    split at h
    · exact okS_ret (sndE a m _ h sx F tk)
    · cases h
  | .retN, m, st, h, X, Wx, sx, F, tk, hk, wr, hp => by
    unfold matchS at h
    split at h
    · exact okS_retN
    · cases h
  | .ifs t a b, m, st, h, X, Wx, sx, F, tk, hk, wr, hp => by
    unfold matchS at h
    split at h
    · obtain ⟨h1, h2, h3⟩ := bb3 h
      exact okS_if (sndT t m _ h1 sx F tk).1 (sndSs a m _ h2 sx F tk hk wr hp) (sndSs b m _ h3 sx F tk hk wr hp)
    · cases h
  | .whl t b, m, st, h, X, Wx, sx, F, tk, hk, wr, hp => by
    unfold matchS at h
    split at h
    · obtain ⟨h1, h2⟩ := bb h
      exact okS_whl hp (sndT t m _ h1 sx F tk).1 (sndSs b m _ h2 sx F tk hk wr hp)
    · cases h
  | .for_ tg one it b, m, st, h, X, Wx, sx, F, tk, hk, wr, hp => by
    unfold matchS at h
    split at h
    · obtain ⟨h1, h2, h3, h4⟩ := bb4 h
      exact okS_for sx hp (sndI it m _ _ h1 sx F tk) (by rw [sx.hN]; exact tg_of (fun y hy => wr y (loc_of hy)) h2) (sndSs b m _ h4 sx F tk hk wr hp) (nb h3)
    · cases h
  | .rai n, m, st, h, X, Wx, sx, F, tk, hk, wr, hp => by
    unfold matchS at h
    split at h
    · obtain ⟨h1, h2⟩ := bb h
      obtain ⟨g1, g2⟩ := glo_of h2
      exact okS_rai sx F tk (at_of h1) g1 g2
    · cases h
  | .raiA n a, m, st, h, X, Wx, sx, F, tk, hk, wr, hp => by unfold matchS at h; cases h
  | .bad, m, st, h, X, Wx, sx, F, tk, hk, wr, hp => ⟨fun _ _ _ => False, ⟨fun _ _ _ _ _ _ z => z.elim⟩, fun σ ρ al S H E s r z => by
    unfold evS at z
    exact z⟩
  | .nil, m, st, h, X, Wx, sx, F, tk, hk, wr, hp => by unfold matchS at h; cases h
  | .seq a b, m, st, h, X, Wx, sx, F, tk, hk, wr, hp => by unfold matchS at h; cases h
theorem sndSs : ∀ (s : CS) (m : Mx) (st : List Stmt), matchSs s m st = true → ∀ {X : Cx} {Wx : WH}, Sx c k m.N m.sc X → Fns c m.q k → Tk X Wx → m.sc.kind = .function → Wr m X → PassesOwn (model X.prog X.w) X.A X.env X.xe → OkSs c X Wx s st
  | .nil, m, st, h, X, Wx, sx, F, tk, hk, wr, hp => by
    unfold matchSs at h
    split at h
    · exact okSs_nil
    · cases h
  | .seq a b, m, st, h, X, Wx, sx, F, tk, hk, wr, hp => by
    unfold matchSs at h
    split at h
    · obtain ⟨h1, h2⟩ := bb h
      exact okSs_cons (sndS a m _ h1 sx F tk hk wr hp) (sndSs b m _ h2 sx F tk hk wr hp)
    · cases h
  | .asg .., m, st, h, X, Wx, sx, F, tk, hk, wr, hp => by unfold matchSs at h; cases h
  | .asgO .., m, st, h, X, Wx, sx, F, tk, hk, wr, hp => by unfold matchSs at h; cases h
  | .tasg .., m, st, h, X, Wx, sx, F, tk, hk, wr, hp => by unfold matchSs at h; cases h
  | .unp .., m, st, h, X, Wx, sx, F, tk, hk, wr, hp => by unfold matchSs at h; cases h
  | .sub .., m, st, h, X, Wx, sx, F, tk, hk, wr, hp => by unfold matchSs at h; cases h
  | .aug .., m, st, h, X, Wx, sx, F, tk, hk, wr, hp => by unfold matchSs at h; cases h
  | .app .., m, st, h, X, Wx, sx, F, tk, hk, wr, hp => by unfold matchSs at h; cases h
  | .expr .., m, st, h, X, Wx, sx, F, tk, hk, wr, hp => by unfold matchSs at h; cases h
  | .ret .., m, st, h, X, Wx, sx, F, tk, hk, wr, hp => by unfold matchSs at h; cases h
  | .retN, m, st, h, X, Wx, sx, F, tk, hk, wr, hp => by unfold matchSs at h; cases h
  | .ifs .., m, st, h, X, Wx, sx, F, tk, hk, wr, hp => by unfold matchSs at h; cases h
  | .whl .., m, st, h, X, Wx, sx, F, tk, hk, wr, hp => by unfold matchSs at h; cases h
  | .for_ .., m, st, h, X, Wx, sx, F, tk, hk, wr, hp => by unfold matchSs at h; cases h
  | .rai .., m, st, h, X, Wx, sx, F, tk, hk, wr, hp => by unfold matchSs at h; cases h
  | .raiA .., m, st, h, X, Wx, sx, F, tk, hk, wr, hp => by unfold matchSs at h; cases h
  | .bad, m, st, h, X, Wx, sx, F, tk, hk, wr, hp => ⟨fun _ _ _ => False, ⟨fun _ _ _ _ _ _ z => z.elim⟩, fun σ ρ al S H E s r z => by
    unfold evS at z
    exact z⟩
end
end
end DL

set_option Elab.async false
set_option linter.all false
set_option maxRecDepth 100000
set_option maxHeartbeats 4000000
/-! DL20: a def. -/
namespace DL
open PySem PySem.Spec PyProof.Rows L2
theorem Flds.mono {x : Fx} {G G' : Hp} (h : Ext G G') {ps : List (Str × V)} {fs : List (Str × D)} (f : Flds x G ps fs) : Flds x G' ps fs := ⟨f.1, Reps.mono h f.2⟩
theorem XRep.mono {x : Fx} {G G' : Hp} (h : Ext G G') {e : Exn} {cls : Value} {d : Option Addr} (r : XRep x G e cls d) : XRep x G' e cls d := by
  obtain ⟨n, fs⟩ := e
  cases fs with
  | nil => exact r
  | cons f fs =>
    obtain ⟨h1, dx, ps, h2, h3, h4⟩ := r
    exact ⟨h1, dx, ps, h2, h _ _ h3 (fun _ z => nomatch z), h4.mono h⟩
/-- of a call's cells one stays -/
theorem StR.pick {x : Fx} {al : Als} {S : Sto} {H : Hp} (s : StR x al S H) {n0 n : Nat} {a : Addr} {cc : Cell} (hn : n0 ≤ n) (e : S[n]? = some (some cc)) (ea : al[n]? = some (some a)) :
    StR x (al.take n0 ++ [some a]) (S.take n0 ++ [some cc]) H ∧ Ext (hide al H) (hide (al.take n0 ++ [some a]) H) := by
  have hl : n < S.length := (List.getElem?_eq_some_iff.mp e).1
  have hla : n < al.length := (List.getElem?_eq_some_iff.mp ea).1
  have ex : Ext (hide al H) (hide (al.take n0 ++ [some a]) H) := hide_le fun b z => by
    rcases List.mem_append.mp z with z | z
    · exact List.mem_of_mem_take z
    · rw [List.mem_singleton.mp z]
      exact List.mem_of_getElem? ea
  have t1 : (al.take n0).length = n0 := by rw [List.length_take]; omega
  have t2 : (S.take n0).length = n0 := by rw [List.length_take]; omega
  have key : ∀ {α : Type} {l : List α} {b y : α} {m : Nat}, (l.take n0).length = n0 → (l.take n0 ++ [b])[m]? = some y → (m < n0 ∧ l[m]? = some y) ∨ (m = n0 ∧ y = b) := fun {α l b y m} t q => by
    by_cases hm : m < n0
    · rw [List.getElem?_append_left (by omega), List.getElem?_take_of_lt hm] at q
      exact .inl ⟨hm, q⟩
    · rw [List.getElem?_append_right (by omega)] at q
      by_cases h0 : m = n0
      · subst h0
        rw [t, Nat.sub_self] at q
        exact .inr ⟨rfl, (Option.some.inj q).symm⟩
      · rw [List.getElem?_eq_none (by rw [List.length_singleton]; omega)] at q; cases q
  have back : ∀ {α : Type} {l : List α} {b : α}, (l.take n0).length = n0 → (l.take n0 ++ [b])[n0]? = some b := fun {α l b} t => by
    rw [List.getElem?_append_right (by omega), t, Nat.sub_self]; rfl
  have low : ∀ {α : Type} {l : List α} {b : α} {m : Nat}, (l.take n0).length = n0 → m < n0 → (l.take n0 ++ [b])[m]? = l[m]? := fun {α l b m} t hm => by
    rw [List.getElem?_append_left (by omega), List.getElem?_take_of_lt hm]
  refine ⟨⟨by rw [List.length_append, List.length_append, t1, t2, List.length_singleton, List.length_singleton], fun m j b e1 e2 => ?_, fun m c' e1 => ?_, fun m b e1 => ?_, s.tabs⟩, ex⟩
  · rcases key t1 e1 with ⟨l1, q1⟩ | ⟨l1, q1⟩ <;> rcases key t1 e2 with ⟨l2, q2⟩ | ⟨l2, q2⟩
    · exact s.inj m j b q1 q2
    · cases q2
      have := s.inj m n a q1 ea
      omega
    · cases q1
      have := s.inj j n a q2 ea
      omega
    · omega
  · rcases key t2 e1 with ⟨l1, q1⟩ | ⟨l1, q1⟩
    · obtain ⟨b, f1, f2⟩ := s.cell m c' q1
      exact ⟨b, by rw [low t1 l1]; exact f1, f2.mono ex rfl⟩
    · cases q1
      obtain ⟨b, f1, f2⟩ := s.cell n cc e
      rw [ea] at f1; cases f1
      rw [l1]
      exact ⟨a, back t1, f2.mono ex rfl⟩
  · rcases key t1 e1 with ⟨l1, q1⟩ | ⟨l1, q1⟩
    · obtain ⟨c', f1⟩ := s.live m b q1
      exact ⟨c', by rw [low t2 l1]; exact f1⟩
    · rw [l1]
      exact ⟨cc, back t2⟩
/-- a def's end -/
theorem fin_post {x : Fx} {al : Als} {S : Sto} {H : Hp} {Wx : WH} {Q : VK} {r : SR} (hl : al.length = S.length) (h : PostE x S.length al H Wx Q (fin S.length r)) : PostS x S.length al H Wx { nx := fun _ H' => Q .non H', rt := Q } r := by
  have cut : ∀ {al' : Als} {S' : Sto} {H' : Hp}, Kl S.length al al' → StR x al' S' H' → StR x al (S'.take S.length) H' ∧ Ext (hide al' H') (hide al H') := fun k s => by
    have := s.cut S.length
    rw [k.take hl] at this
    exact this
  cases r with
  | bad => exact h
  | exc e S' =>
    intro cls d H' al' k e' s r
    obtain ⟨s1, e1⟩ := cut k s
    exact (show XPo x S.length al H Wx e (S'.take S.length) from h) cls d H' al (Kl.refl _ _) (e'.trans e1) s1 (r.mono e1)
  | nx ρ S' =>
    intro σ' H' al' k e' s r
    obtain ⟨s1, e1⟩ := cut k s
    exact (show VE x S.length al H Q (.sh (.p .non)) (S'.take S.length) from h) .non H' al (Kl.refl _ _) (e'.trans e1) s1 Rep.non
  | rt v S' =>
    cases v with
    | sh w =>
      cases w with
      | p d =>
        intro v H' al' k e' s r
        obtain ⟨s1, e1⟩ := cut k s
        exact (show VE x S.length al H Q (.sh (.p d)) (S'.take S.length) from h) v H' al (Kl.refl _ _) (e'.trans e1) s1 (Rep.mono e1 r)
      | o n =>
        intro v H' al' k e' s r
        have h : PostE x S.length al H Wx Q (if n < S.length then .ok (.sh (.o n)) (S'.take S.length) else match S'[n]? with
          | some (some c) => .ok (.fr c) (S'.take S.length)
          | _ => .bad) := h
        have r : OAt v al'[n]? := r
        by_cases hn : n < S.length
        · rw [if_pos hn] at h
          obtain ⟨s1, e1⟩ := cut k s
          refine (show VE x S.length al H Q (.sh (.o n)) (S'.take S.length) from h) v H' al (Kl.refl _ _) (e'.trans e1) s1 ?_
          show OAt v al[n]?
          have : al[n]? = al'[n]? := by
            rw [← k.take hl, List.getElem?_take_of_lt hn]
          rw [this]; exact r
        · rw [if_neg hn] at h
          split at h
          · rename_i cc hc
            obtain ⟨a, f1, f2⟩ := s.cell n cc hc
            rw [f1] at r
            have : v = .ref a := r
            subst this
            obtain ⟨s1, e1⟩ := s.pick (n0 := S.length) (by omega) hc f1
            rw [k.take hl] at s1 e1
            exact (show VE x S.length al H Q (.fr cc) (S'.take S.length) from h) a H' al (Kl.refl _ _) (e'.trans e1) s1
          · exact (show False from h).elim
    | fr cc =>
      intro a H' al' k e' s
      have hs := s.last.1
      have h1 : (S' ++ [some cc])[S'.length]? = some (some cc) := by simp
      have h2 : (al' ++ [some a])[S'.length]? = some (some a) := by rw [← hs]; simp
      have hle : S.length ≤ S'.length := by rw [← hl, ← hs]; exact k.1
      obtain ⟨s1, e1⟩ := s.pick (n0 := S.length) hle h1 h2
      rw [List.take_append_of_le_length (by omega), List.take_append_of_le_length (by omega), k.take hl] at s1
      rw [List.take_append_of_le_length (by omega), k.take hl] at e1
      exact (show VE x S.length al H Q (.fr cc) (S'.take S.length) from h) a H' al (Kl.refl _ _) (e'.trans e1) s1
theorem start_env {x : Fx} {al : Als} {G : Hp} {vs : List V} {ws : List W} (N : List Str) (np : Nat) (hl : ws.length = np) (r : RepWs x al G vs ws) : EnvR x al G (L2.start N vs) (ws.map some ++ List.replicate (N.length - np) none) := by
  have hv := r.length
  unfold L2.start
  rw [hv, hl]
  refine ⟨by simp [hv], fun i w e => ?_⟩
  by_cases hi : i < ws.length
  · rw [List.getElem?_append_left (by simpa using hi), List.getElem?_map] at e
    obtain ⟨w', e1, e2⟩ := Option.map_eq_some_iff.mp e
    cases e2
    have gen : ∀ {vs : List V} {ws : List W} {i : Nat}, RepWs x al G vs ws → ws[i]? = some w → ∃ v, vs[i]? = some v ∧ RepW x al G v w := by
      intro vs ws i r
      induction r generalizing i with
      | nil => intro h; simp at h
      | cons a _ ih =>
        intro h
        cases i with
        | zero => simp at h; subst h; exact ⟨_, rfl, a⟩
        | succ i =>
          obtain ⟨v, q1, q2⟩ := ih (by simpa using h)
          exact ⟨v, by simpa using q1, q2⟩
    obtain ⟨v, q1, q2⟩ := gen r e1
    exact ⟨v, by rw [List.getElem?_append_left (by simp [hv, hi]), List.getElem?_map, q1]; rfl, q2⟩
  · rw [List.getElem?_append_right (by simpa using hi), List.getElem?_replicate] at e
    split at e <;> cases e
def matchB (b : CS) (m : Mx) (st : List Stmt) : Bool := match st with
  | .Expr (.Constant (.str _) _ _) _ :: r => matchSs b m r
  | _ => matchSs b m st
theorem Fns.re {x : Fx} {g : Sg} {n n' : Nat} {l : Bool} {q : Nm} {k : Nat} (F : Fns ⟨x, g, n, l⟩ q k) : Fns ⟨x, g, n', l⟩ q k := ⟨⟨F.fn, F.cst, F.blt, F.exc⟩, fun z => let ⟨a, k0, b, d⟩ := F.lam z; ⟨a, k0, ⟨b.fn, b.cst, b.blt, b.exc⟩, d⟩⟩
theorem def_ok {x : Fx} {g : Sg} {q : Nm} {k : Nat} (F : Fns ⟨x, g, 0, false⟩ q k) {y qual : Str} {params : Arguments} {bd : List Stmt} {scp : Scope} {f : Addr} {fd : FuncData} {N ps : List Str} {b : CS} (Fu : FunD x.K y qual params bd scp [] [] f fd) (S : FnScope N ps scp)
    (hm : matchB b ⟨N, scp, q⟩ bd = true) : FnOk x.P x.w x.K x.mg x.base (L2N.CX x.P x.w) (k + 1) f fd ps (spF x (evDef g ps.length N.length b)) := by
  refine Fu.ok S (fun vs H Q E ⟨al, Sx, ws, st, r, p⟩ => ?_) fun cdv A outer s H vs Q E hr ⟨al, Sx, ws, st', r, p⟩ => ?_
  · rw [r.length]
    unfold evDef at p
    by_cases h : ws.length = ps.length
    · exact h
    · rw [if_neg h] at p; exact (show False from p).elim
  · unfold evDef at p
    by_cases h : ws.length = ps.length
    · rw [if_pos h] at p
      have sx : DL.Sx ⟨x, g, Sx.length, false⟩ k N scp (cxOf (L2N.CX x.P x.w) x.P x.w x.K x.mg x.base N qual scp f cdv A outer s H E) := ⟨rfl, rfl, rfl, rfl, rfl, rfl, S.nd, rfl, rfl, hr, fun z => Bool.noConfusion z⟩
      have tk : Tk (cxOf (L2N.CX x.P x.w) x.P x.w x.K x.mg x.base N qual scp f cdv A outer s H E) E := L2N.takes_of rfl rfl rfl rfl
      have hp := passes_of (X := cxOf (L2N.CX x.P x.w) x.P x.w x.K x.mg x.base N qual scp f cdv A outer s H E) rfl
      have wr : Wr ⟨N, scp, q⟩ (cxOf (L2N.CX x.P x.w) x.P x.w x.K x.mg x.base N qual scp f cdv A outer s H E) := fun y hy => ⟨hy, .inl rfl⟩
      have body : ∀ {sts : List Stmt}, matchSs b ⟨N, scp, q⟩ sts = true → OkSs ⟨x, g, Sx.length, false⟩ (cxOf (L2N.CX x.P x.w) x.P x.w x.K x.mg x.base N qual scp f cdv A outer s H E) E b sts := fun {sts} hb =>
        sndSs b ⟨N, scp, q⟩ sts hb sx F.re tk S.kind wr hp
      have ok : OkSs ⟨x, g, Sx.length, false⟩ (cxOf (L2N.CX x.P x.w) x.P x.w x.K x.mg x.base N qual scp f cdv A outer s H E) E b bd := by
        unfold matchB at hm
        split at hm
        · exact okSs_doc (body hm)
        · exact body hm
      obtain ⟨t, pss, qq⟩ := ok
      exact ⟨t, pss, qq _ _ al Sx H _ st' (start_env N ps.length h r) (fin_post st'.len p)⟩
    · rw [if_neg h] at p; exact (show False from p).elim
end DL

set_option Elab.async false
set_option linter.all false
set_option maxRecDepth 100000
set_option maxHeartbeats 4000000
/-! DL21: a module's defs, one behind the other. -/
namespace DL
open PySem PySem.Spec PyProof.Rows L2
structure DefI where
  np : Nat
  nv : Nat
  b : CS
  lam : Bool
structure Base where
  C : Nat → D
  kin : Nat → Option (Str × Option Str)
  at_ : Nat → Str
/-- the defs before the k-th -/
noncomputable def gAt (B : Base) (ds : List DefI) : Nat → Sg
  | 0 => ⟨fun _ _ _ => .bad, B.C, B.kin, B.at_⟩
  | k + 1 => match ds[k]? with
    | some d => ⟨fun n => if n = k then evDef (gAt B ds k) d.np d.nv d.b else (gAt B ds k).F n, B.C, B.kin, B.at_⟩
    | none => gAt B ds k
/-- what the i-th def computes -/
noncomputable def fnAt (B : Base) (ds : List DefI) (i : Nat) : List W → Sto → R EV := match ds[i]? with
  | some d => evDef (gAt B ds i) d.np d.nv d.b
  | none => fun _ _ => .bad
theorem gAt_C (B : Base) (ds : List DefI) : ∀ k, (gAt B ds k).C = B.C ∧ (gAt B ds k).kin = B.kin ∧ (gAt B ds k).at_ = B.at_
  | 0 => ⟨rfl, rfl, rfl⟩
  | k + 1 => by
    unfold gAt
    split
    · exact ⟨rfl, rfl, rfl⟩
    · exact gAt_C B ds k
theorem gAt_F (B : Base) (ds : List DefI) : ∀ (k n : Nat), n < k → k ≤ ds.length → (gAt B ds k).F n = fnAt B ds n
  | k + 1, n, hn, hk => by
    have hd : ds[k]? = some ds[k] := List.getElem?_eq_getElem (by omega)
    unfold gAt
    rw [hd]
    dsimp only
    by_cases h : n = k
    · subst h
      rw [if_pos rfl]
      unfold fnAt
      rw [hd]
    · rw [if_neg h]
      exact gAt_F B ds k n (by omega) (by omega)
/-- how written arguments bind -/
def BindH (params : Arguments) (ps : List Str) : Prop := ∀ (x q : Str) (body : List Stmt) (sc : Scope) (kV doc pm : Value) (an : Option Addr) (cdv ct : Value) (us : List Value), us.length = ps.length → bindArgs (PySem.W.fnOf x q params body sc .none kV doc pm an cdv ct) ⟨us, []⟩ = pure (ps.zip us)
/-- an own class of errors, by the head's fact -/
theorem excK_of {x : Fx} {y : Str} {C : Addr} (e : He.ga x.K y = C) (h : (He.Fa.exc y).ok x.K = true) : ExcK x C := by
  obtain ⟨h1, h2, h3, h4⟩ := He.exc_ok h
  subst e
  exact ⟨⟨_, _, _, _, F.excBase_ValueError, h1⟩, h2, h3, h4⟩
end DL

set_option Elab.async false
set_option linter.all false
set_option maxRecDepth 100000
set_option maxHeartbeats 4000000
/-! DLz: the rule for a tried lambda. -/
namespace DL
open PySem PySem.Spec PySem.Calls PyProof.Rows L2 LamX
theorem StR.extN {x : Fx} {al : Als} {S : Sto} {H H1 : Hp} (s : StR x al S H) (e : ExtN H H1) (t : Tabs x.T H1) : StR x al S H1 ∧ Ext (hide al H) (hide al H1) := by
  have ex : Ext (hide al H) (hide al H1) := fun b o h n => by
    obtain ⟨e1, e2⟩ := hide_of h
    exact hide_in (e b o e1 n) e2
  refine ⟨⟨s.len, s.inj, fun n c h => ?_, s.live, t⟩, ex⟩
  obtain ⟨a, e1, q⟩ := s.cell n c h
  refine ⟨a, e1, q.mono ex ?_⟩
  obtain ⟨u, e2, nt⟩ := q.some
  rw [e a u e2 nt.1, e2]
/-- what the classes say, by their numbers -/
def KinT (x : Fx) (kin : Nat → Option (Str × Option Str)) (sc : Scope) (IT TM SE : Addr) : Prop := ∀ (n : Nat) (z : Str) (o : Option Str), kin n = some (z, o) → ∃ bit, KinF x.K x.mg sc (x.fx n) bit ∧ z = kinTxt bit ∧ match o with
  | none => PySem.W.exmOne x.K (.ref (x.fx n)) (.ref IT) = some false ∧ PySem.W.exmOne x.K (.ref (x.fx n)) (.ref TM) = some false ∧ PySem.W.exmOne x.K (.ref (x.fx n)) (.ref SE) = some true
  | some f => ((PySem.W.exmOne x.K (.ref (x.fx n)) (.ref IT) = some true ∧ f = "line") ∨ (PySem.W.exmOne x.K (.ref (x.fx n)) (.ref IT) = some false ∧ PySem.W.exmOne x.K (.ref (x.fx n)) (.ref TM) = some true ∧ f = "limit")) ∧ XfC x.K (x.fx n) ∧ PySem.W.findIn x.K (.ref (x.fx n)) f = some none
def TryK (x : Fx) (kin : Nat → Option (Str × Option Str)) : Prop := ∃ (g IT TM SE : Addr) (sg sc : Scope) (pg : Arguments) (bg : List Stmt) (dV kV doc pm cdv ct oc : Value) (an od : Option Addr) (osl : Array (Option Value)),
  x.mg "_law_try" = some (.ref g) ∧ PySem.W.keepIn x.K (.ref g) = true ∧ x.K.lookup g = some ⟨oc, od, .func (PySem.W.fnOf "_law_try" "_law_try" pg bg sg dV kV doc pm an cdv ct), osl⟩ ∧ PySem.W.codeIn x.K cdv "_law_try" = true ∧
  L2.Binds x.K (PySem.W.fnOf "_law_try" "_law_try" pg bg sg dV kV doc pm an cdv ct) ["call_so"] [] ∧ FnScope tryN ["call_so"] sg ∧ sg.names.lookup ("call_so" : Str) = some .local ∧
  (∀ (X : Cx) (q : Str), X.K = x.K → X.mg = x.mg → (∀ s : Shared, Room 1 (X.A.deeper (envOfC "_law_try" sg s.heap.objs.size g cdv))) → GivesToN X tryN "_law_try" sg g cdv bg "call_so" q (TTtry x.K x.mg sc IT TM SE)) ∧ KinT x kin sc IT TM SE
theorem tryX_of {x : Fx} {kin : Nat → Option (Str × Option Str)} {sc : Scope} {IT TM SE : Addr} (T : KinT x kin sc IT TM SE) {n0 : Nat} {al : Als} {S : Sto} {H : Hp} {Wx : WH} {Q : VK} {e : Exn} {cls : Value} {d : Option Addr} (s : StR x al S H) (xr : XRep x (hide al H) e cls d)
    (h : PostE x n0 al H Wx Q (match tryD kin e with | some d => shD d S | none => .bad)) : tryX x.K x.mg sc IT TM SE Q cls d H := by
  obtain ⟨cn, fs⟩ := e
  obtain ⟨rfl, xr⟩ := xr
  dsimp only at xr
  unfold tryD at h
  dsimp only at h
  cases hk : kin cn with
  | none => rw [hk] at h; exact (show False from h).elim
  | some zo =>
    obtain ⟨z, o⟩ := zo
    obtain ⟨bit, kf, hz, ho⟩ := T cn z o hk
    rw [hk] at h
    cases o with
    | none =>
      cases fs with
      | cons f r => exact (show False from h).elim
      | nil =>
        obtain rfl : d = none := xr
        refine ⟨_, bit, rfl, kf, .inl ⟨ho.1, ho.2.1, ho.2.2, (show FldOk none H from fun dd z => by cases z), fun H' g => ?_⟩⟩
        obtain ⟨s', e'⟩ := g.str s
        rw [← hz]
        exact h _ H' al (Kl.refl _ _) e' s' (.str z)
    | some f =>
      cases fs with
      | nil => exact (show False from h).elim
      | cons gv r =>
        cases r with
        | cons _ _ => exact (show False from h).elim
        | nil =>
          obtain ⟨g, v⟩ := gv
          dsimp only at h
          by_cases hf : f = g
          · rw [if_pos hf] at h
            subst hf
            obtain ⟨dx, ps, ed, ex, fl⟩ := xr
            obtain ⟨f1, f2⟩ := fl
            cases ps with
            | nil => simp at f1
            | cons p1 pr =>
              cases pr with
              | cons _ _ => simp at f1
              | nil =>
                obtain ⟨g1, v1⟩ := p1
                obtain rfl : g1 = f := by simpa using f1
                have f2 : x.Rs (hide al H) [v1] [v] := f2
                refine ⟨_, bit, rfl, kf, .inr ⟨g1, ho.1, ho.2.1, ho.2.2, dx, _, v1, ed, (hide_of ex).1, by simp, fun H' p g np => ?_⟩⟩
                obtain ⟨s', e'⟩ := g.str s
                rw [← hz]
                have h' : VE x n0 al H' Q (.sh (.p (.tup [.str z, v]))) S := VE.re (Kl.refl _ _) e' h
                exact fin_tup h' s' np (.cons (.str z) (Reps.mono e' f2))
          · rw [if_neg hf] at h; exact (show False from h).elim
theorem tryR_of {c : Ct} {k0 : Nat} (hl : c.lam = true) (T : TryK c.x c.g.kin) : TryR c (k0 + 2) k0 := by
  intro n0 N sc scope X Wx a body p lpos pos sx hg L hb
  obtain ⟨g, IT, TM, SE, sg, kc, pg, bg, dV, kV, doc, pm, cdv, ct, oc, an, od, osl, hm, hk, lk, hcg, hbd, Sg, hv, hG, KT⟩ := T
  obtain ⟨cA, P, hcode, TB, hmT, hu⟩ := sx.lx hl
  have hK := sx.K
  have hM := sx.mg
  have hr := sx.room
  have G := hG X (X.env.qual ++ "<lambda>") hK hM fun s => (hr.deeper _).mono (by omega)
  refine ⟨_, pe_lamcallN (T := c.x.T) (k := k0) (params := ⟨[], [], none, [], [], none, []⟩) (t := fun E => canD ⟨c.x, c.g, n0, false⟩ E a) (show X.env.scope.names.lookup _ = _ by rw [sx.sc]; exact hg) (by rw [hM]; exact hm) (by rw [hK]; exact hk) (by rw [hK]; exact lk) (by rw [hK]; exact hcg) (by rw [hK]; exact hbd) Sg rfl (.inl hv) G
    TB hcode hmT hu hr (by rw [sx.sc]; exact L) rfl (fun _ _ _ _ _ => rfl) (fun A outer s H E f c' hr' => (hb (lamCxN X A outer s H E scope f c') E ⟨sx.prog, sx.w, sx.K, sx.mg, sx.base, sx.hN, sx.nd, rfl, rfl, hr', fun z => Bool.noConfusion z⟩ (L2N.takes_of rfl rfl rfl rfl)).can), fun σ ρ al S H Q st r h => ?_⟩
  refine ⟨st.tabs, fun H1 e1 t1 => ?_⟩
  obtain ⟨st1, ex1⟩ := st.extN e1 t1
  refine ⟨ρ, al, S, st1, r.mono (n0 := n0) ex1 (Kl.refl _ _), ?_⟩
  unfold evE at h
  dsimp only at h ⊢
  generalize (evE c.g n0 a ρ S).w = R at h ⊢
  cases R with
  | bad => exact h
  | ok w S' =>
    cases w with
    | o n => exact (show False from h).elim
    | p d =>
      intro v H' al' k e s rv q nq
      have h' : VE c.x n0 al' H' Q (.sh (.p (.tup [.str "told", d]))) S' := VE.re k (ex1.trans e) h
      exact fin_tup h' s nq (.cons (.str _) (.cons rv .nil))
  | exc ee S' =>
    intro cls d H' al' k e s xr
    have h1 : PostE c.x n0 al H Wx Q (match tryD c.g.kin ee with | some d => shD d S' | none => .bad) := h
    have h2 := h1.mono (fun _ _ => XPo.re k (ex1.trans e)) fun _ _ => VE.re k (ex1.trans e)
    exact tryX_of KT s xr h2
end DL

set_option Elab.async false
set_option linter.all false
set_option maxRecDepth 100000
set_option maxHeartbeats 400000
/-! DLw: a def with lambdas. -/
namespace DL
open PySem PySem.Spec PyProof.Rows L2
theorem lx_of {x : Fx} {X : Cx} (cA P : Addr) (h1 : X.env.code = .ref cA) (TB : LamX.TabB X.base X.mg cA P) (hT : (P, X.env.qual ++ "<lambda>") ∈ x.T) (hu : ∀ p ∈ x.T, p.1 = P → p.2 = X.env.qual ++ "<lambda>") : LX x X := ⟨cA, P, h1, TB, hT, hu⟩
theorem def_okL {x : Fx} {g : Sg} {q : Nm} {k : Nat} (F : Fns ⟨x, g, 0, true⟩ q k) {y qual : Str} {params : Arguments} {bd : List Stmt} {scp : Scope} {f cA : Addr} {N ps : List Str} {b : CS} {dV kV doc pm ct oc : Value} {an od : Option Addr} {osl : Array (Option Value)}
    (lk : x.K.lookup f = some ⟨oc, od, .func (PySem.W.fnOf y qual params bd scp dV kV doc pm an (.ref cA) ct), osl⟩) (hcd : PySem.W.codeIn x.K (.ref cA) qual = true) (hlx : ∀ A outer s H E, LX x (cxOf (L2N.CX x.P x.w) x.P x.w x.K x.mg x.base N qual scp f (.ref cA) A outer s H E))
    (S : FnScope N ps scp) (hm : matchB b ⟨N, scp, q⟩ bd = true) : FnOk x.P x.w x.K x.mg x.base (L2N.CX x.P x.w) (k + 1) f (PySem.W.fnOf y qual params bd scp dV kV doc pm an (.ref cA) ct) ps (spF x (evDef g ps.length N.length b)) := by
  refine fn_of lk hcd S (fun vs H Q E ⟨al, Sx, ws, st, r, p⟩ => ?_) fun A outer s H vs Q E hr ⟨al, Sx, ws, st', r, p⟩ => ?_
  · rw [r.length]
    unfold evDef at p
    by_cases h : ws.length = ps.length
    · exact h
    · rw [if_neg h] at p; exact (show False from p).elim
  · unfold evDef at p
    by_cases h : ws.length = ps.length
    · rw [if_pos h] at p
      have sx : DL.Sx ⟨x, g, Sx.length, true⟩ k N scp (cxOf (L2N.CX x.P x.w) x.P x.w x.K x.mg x.base N qual scp f (.ref cA) A outer s H E) := ⟨rfl, rfl, rfl, rfl, rfl, rfl, S.nd, rfl, rfl, hr, fun _ => hlx _ _ _ _ _⟩
      have tk : Tk (cxOf (L2N.CX x.P x.w) x.P x.w x.K x.mg x.base N qual scp f (.ref cA) A outer s H E) E := L2N.takes_of rfl rfl rfl rfl
      have hp := passes_of (X := cxOf (L2N.CX x.P x.w) x.P x.w x.K x.mg x.base N qual scp f (.ref cA) A outer s H E) rfl
      have wr : Wr ⟨N, scp, q⟩ (cxOf (L2N.CX x.P x.w) x.P x.w x.K x.mg x.base N qual scp f (.ref cA) A outer s H E) := fun y hy => ⟨hy, .inl rfl⟩
      have body : ∀ {sts : List Stmt}, matchSs b ⟨N, scp, q⟩ sts = true → OkSs ⟨x, g, Sx.length, true⟩ (cxOf (L2N.CX x.P x.w) x.P x.w x.K x.mg x.base N qual scp f (.ref cA) A outer s H E) E b sts := fun {sts} hb =>
        sndSs b ⟨N, scp, q⟩ sts hb sx F.re tk S.kind wr hp
      have ok : OkSs ⟨x, g, Sx.length, true⟩ (cxOf (L2N.CX x.P x.w) x.P x.w x.K x.mg x.base N qual scp f (.ref cA) A outer s H E) E b bd := by
        unfold matchB at hm
        split at hm
        · exact okSs_doc (body hm)
        · exact body hm
      obtain ⟨t, pss, qq⟩ := ok
      exact ⟨t, pss, qq _ _ al Sx H _ st' (start_env N ps.length h r) (fin_post st'.len p)⟩
    · rw [if_neg h] at p; exact (show False from p).elim
/-- the facts for a def with lambdas, from the facts two levels below -/
theorem Fns.lamOf {x : Fx} {g : Sg} {fn cst : List (Option Str)} {exc : List Str} {k : Nat} (F : Fns ⟨x, g, 0, false⟩ ⟨fn, cst, exc, false⟩ k) (T : TryK x g.kin) : Fns ⟨x, g, 0, true⟩ ⟨fn, cst, exc, true⟩ (k + 2) :=
  ⟨⟨fun n y e => let ⟨a, b, fd, ps, f, h⟩ := F.fn n y e; ⟨a, b, fd, ps, f.mono (by omega), h⟩, F.cst, F.blt, F.exc⟩,
    fun _ => ⟨rfl, k, ⟨F.fn, F.cst, F.blt, F.exc⟩, tryR_of (c := ⟨x, g, 0, true⟩) rfl T⟩⟩
/-- what def_okL asks of the def's context -/
theorem lx_def {x : Fx} {CX : CXT} {cA P : Addr} {N : List Str} {qual : Str} {scp : Scope} {f : Addr} (TB : LamX.TabB x.base x.mg cA P) (hT : (P, (qual ++ ".<locals>.") ++ "<lambda>") ∈ x.T) (hu : ∀ p ∈ x.T, p.1 = P → p.2 = (qual ++ ".<locals>.") ++ "<lambda>")
    (A : Around) (outer : List Env) (s : Shared) (H : Hp) (E : XK) : LX x (cxOf CX x.P x.w x.K x.mg x.base N qual scp f (.ref cA) A outer s H E) := ⟨cA, P, rfl, TB, hT, hu⟩
end DL

set_option Elab.async false
set_option linter.all false
set_option maxRecDepth 100000
set_option maxHeartbeats 400000
/-! DLx: the classes' facts, as the head checks them. -/
namespace DL
open PySem PySem.Spec PyProof.Rows L2
def excB (K : PySem.W.Frag) (D : Addr) : Bool :=
  decide (PySem.W.findIn K (.ref D) "__getattribute__" = some (some (.builtin "BaseException.__getattribute__"))) && (decide (PySem.W.findIn K (.ref D) "__getattr__" = some none) && (decide (PySem.W.subIn K (.ref D) (.type "BaseException") = some true) && (PySem.W.hasDictIn K D &&
    (decide (PySem.W.findIn K (.ref D) "__class__" = some (some (.builtin "object.__class__"))) && (decide (PySem.W.specialIn K (.builtin "object.__class__") "__get__" = some (some (.builtin "getset_descriptor.__get__"))) && (decide (PySem.W.takesIn K (.builtin "object.__class__") = some true) && decide (PySem.W.mroIn K D (.type "object") = some true)))))))
theorem excB_ok {K : PySem.W.Frag} {D : Addr} (h : excB K D = true) : ExcC K D := by
  unfold excB at h
  simp only [Bool.and_eq_true, decide_eq_true_eq] at h
  obtain ⟨h1, h2, h3, h4, h5, h6, h7, h8⟩ := h
  exact ⟨h1, h2, h3, h4, h5, h6, h7, h8⟩
end DL

set_option Elab.async false
set_option linter.all false
set_option maxRecDepth 100000
set_option maxHeartbeats 400000
/-! DLm: the facts of the errors' classes, from the head. -/
namespace DL
open PySem PySem.Spec PyProof.Rows L2
def kinBit (n c : Str) : Bool := decide (c = n) || decide (c = ("ValueError" : Str))
/-- the class n: what it is -/
def kinFB (K : PySem.W.Frag) (n : Str) : Bool := excB K (He.ga K n) && kinC.all fun c => if c = ("ValueError" : Str) then decide (PySem.W.kitOne K (.ref (He.ga K n)) (.type "ValueError") = some true) else decide (PySem.W.kitOne K (.ref (He.ga K n)) (.ref (He.ga K c)) = some (decide (c = n)))
def kinSB (sc : Scope) : Bool := decide (sc.names.lookup ("e" : Str) = some .local) && (decide (sc.names.lookup ("kinds" : Str) = some .local) && (decide (sc.names.lookup ("labels" : Str) = some .local) && (("isinstance" : Str) :: ("zip" : Str) :: kinC).all fun c => decide (sc.names.lookup c = some .globalImplicit)))
theorem kinF_of {K : PySem.W.Frag} {mg : Str → Option Value} {sc : Scope} {n : Str} (hs : kinSB sc = true) (hk : kinFB K n = true) (hg : ∀ c ∈ kinC, c ≠ ("ValueError" : Str) → mg c = some (.ref (He.ga K c))) (hi : mg "isinstance" = none) (hz : mg "zip" = none) (hv : mg "ValueError" = none) :
    KinF K mg sc (He.ga K n) (kinBit n) := by
  unfold kinSB at hs
  simp only [Bool.and_eq_true, decide_eq_true_eq, List.all_eq_true] at hs
  obtain ⟨s1, s2, s3, s4⟩ := hs
  unfold kinFB at hk
  simp only [Bool.and_eq_true, List.all_eq_true] at hk
  obtain ⟨k1, k2⟩ := hk
  refine ⟨s1, s2, s3, s4 _ List.mem_cons_self, s4 _ (List.mem_cons_of_mem _ List.mem_cons_self), fun c hc => s4 _ (List.mem_cons_of_mem _ (List.mem_cons_of_mem _ hc)), hi, hz, fun c hc => ?_, excB_ok k1⟩
  have hd : (c == ("__debug__" : Str)) = false := by
    revert c
    decide
  have h := k2 c hc
  by_cases e : c = ("ValueError" : Str)
  · rw [if_pos e] at h
    subst e
    exact ⟨.ty "ValueError", .type "ValueError", ⟨hd, .inr ⟨hv, by with_unfolding_all rfl, by decide⟩⟩, rfl, fun u r => r, by rw [of_decide_eq_true h]; unfold kinBit; simp⟩
  · rw [if_neg e] at h
    refine ⟨.ref (He.ga K c), .ref (He.ga K c), ⟨hd, .inl (hg c hc e)⟩, rfl, fun u r => r, ?_⟩
    rw [of_decide_eq_true h]
    unfold kinBit
    rw [decide_eq_false e, Bool.or_false]
end DL

set_option Elab.async false
set_option linter.all false
set_option maxRecDepth 100000
set_option maxHeartbeats 4000000
/-! DLn: a module's defs, one behind the other, some with tried lambdas, some not there. -/
namespace DL
open PySem PySem.Spec PyProof.Rows L2
/-- how deep a def calls -/
def stepL (q : Nm) (ds : List DefI) (k : Nat) : Nat := match q.fn[k]? with
  | some (some _) => (match ds[k]? with
    | some d => if d.lam = true then 3 else 1
    | none => 0)
  | _ => 0
def lev (q : Nm) (ds : List DefI) : Nat → Nat
  | 0 => 0
  | k + 1 => lev q ds k + stepL q ds k
structure DOk (x : Fx) (q : Nm) (i : Nat) (d : DefI) (y : Str) (ps : List Str) : Prop where
  mg : x.mg y = some (.ref (x.fa i))
  ok : ∃ (params : Arguments) (bd : List Stmt) (scp : Scope) (fd : FuncData) (N : List Str), FunD x.K y y params bd scp [] [] (x.fa i) fd ∧ FnScope N ps scp ∧ BindH params ps ∧ d.np = ps.length ∧ d.nv = N.length ∧ matchB d.b ⟨N, scp, ⟨q.fn.take i, q.cst, q.exc, d.lam⟩⟩ bd = true ∧
    (d.lam = true → ∃ cA P, fd.code = .ref cA ∧ LamX.TabB x.base x.mg cA P ∧ (P, (y ++ ".<locals>.") ++ "<lambda>") ∈ x.T ∧ ∀ p ∈ x.T, p.1 = P → p.2 = (y ++ ".<locals>.") ++ "<lambda>")
/-- what the module gives besides its defs -/
structure BOk (x : Fx) (B : Base) (q : Nm) : Prop where
  cst : ∀ (n : Nat) (y : Str), q.cst[n]? = some (some y) → ∃ u v, x.mg y = some u ∧ RelV v u ∧ ∀ G, x.R G v (B.C n)
  blt : ∀ y ∈ bltNames, x.mg y = none
  exc : ∀ (n : Nat) (y : Str), q.exc[n]? = some y → x.mg y = some (.ref (x.fx n)) ∧ ExcK x (x.fx n)
/-- one def more -/
theorem fns_one {x : Fx} {B : Base} {q : Nm} {ds : List DefI} {k : Nat} {y : Str} {ps : List Str} (hk : k < ds.length) (F : Fns ⟨x, gAt B ds k, 0, false⟩ ⟨q.fn.take k, q.cst, q.exc, false⟩ (lev q ds k)) (hy : q.fn[k]? = some (some y)) (D : DOk x q k ds[k] y ps)
    (hT : ds[k].lam = true → TryK x B.kin) : ∃ fd, FnOk x.P x.w x.K x.mg x.base (L2N.CX x.P x.w) (lev q ds (k + 1)) (x.fa k) fd ps (spF x (fnAt B ds k)) ∧ Binds x.K fd ps [] ∧ ∃ params bd scp, FunD x.K y y params bd scp [] [] (x.fa k) fd := by
  obtain ⟨mg, params, bd, scp, fd, N, fu, S, bi, e1, e2, hm, hL⟩ := D
  have hdk : ds[k]? = some ds[k] := List.getElem?_eq_getElem hk
  have hs : lev q ds (k + 1) = lev q ds k + (if ds[k].lam = true then 3 else 1) := by
    show lev q ds k + stepL q ds k = _
    unfold stepL
    rw [hy, hdk]
  have hf : fnAt B ds k = evDef (gAt B ds k) ps.length N.length ds[k].b := by
    unfold fnAt
    rw [hdk]
    dsimp only
    rw [e1, e2]
  refine ⟨fd, ?_, fu.bindsN (bi _ _ _ _), _, _, _, fu⟩
  rw [hf, hs]
  cases hl : ds[k].lam with
  | false =>
    rw [hl] at hm
    rw [if_neg Bool.false_ne_true]
    exact def_ok F fu S hm
  | true =>
    rw [hl] at hm
    rw [if_pos rfl]
    obtain ⟨cA, P, hc, TB, hT1, hT2⟩ := hL hl
    obtain ⟨oc, od, dV, kV, doc, pm, an, cdv, ct, osl, rfl, lk, hcd, _, _⟩ := fu.ex
    obtain rfl : cdv = .ref cA := hc
    have T := hT hl
    rw [← (gAt_C B ds k).2.1] at T
    exact def_okL (F.lamOf T) lk hcd (fun A outer s H E => lx_def TB hT1 hT2 A outer s H E) S hm
theorem fns_all {x : Fx} {B : Base} {q : Nm} {ds : List DefI} (hb : BOk x B q) (hl : q.fn.length = ds.length) (hd : ∀ (i : Nat) (d : DefI) (y : Str), ds[i]? = some d → q.fn[i]? = some (some y) → (∃ ps, DOk x q i d y ps) ∧ (d.lam = true → TryK x B.kin)) :
    ∀ k, k ≤ ds.length → Fns ⟨x, gAt B ds k, 0, false⟩ ⟨q.fn.take k, q.cst, q.exc, false⟩ (lev q ds k) := by
  have rest : ∀ k m, k ≤ ds.length → (∀ (n : Nat) (y : Str), (q.fn.take k)[n]? = some (some y) → x.mg y = some (.ref (x.fa n)) ∧ PySem.W.keepIn x.K (.ref (x.fa n)) = true ∧ ∃ fd ps, FnOk x.P x.w x.K x.mg x.base (L2N.CX x.P x.w) m (x.fa n) fd ps (spF x ((gAt B ds k).F n)) ∧ Binds x.K fd ps []) →
      Fns ⟨x, gAt B ds k, 0, false⟩ ⟨q.fn.take k, q.cst, q.exc, false⟩ m := fun k m hk h => by
    refine ⟨⟨h, fun n y e => ?_, hb.blt, hb.exc⟩, fun z => Bool.noConfusion z⟩
    obtain ⟨u, v, e1, e2, e3⟩ := hb.cst n y e
    exact ⟨u, v, e1, e2, fun G => by show x.R G v ((gAt B ds k).C n); rw [(gAt_C B ds k).1]; exact e3 G⟩
  intro k
  induction k with
  | zero => exact fun hk => rest 0 _ hk fun n y e => by simp at e
  | succ k ih =>
    intro hk
    have F := ih (by omega)
    refine rest (k + 1) _ hk fun n y e => ?_
    have hn : n < k + 1 := by
      have := (List.getElem?_eq_some_iff.mp e).1
      rw [List.length_take] at this
      omega
    rw [List.getElem?_take_of_lt hn] at e
    by_cases h : n = k
    · subst h
      have hdk : ds[n]? = some ds[n] := List.getElem?_eq_getElem (by omega)
      obtain ⟨⟨ps, D⟩, hT⟩ := hd n ds[n] y hdk e
      obtain ⟨fd, f, b, _, _, _, fu⟩ := fns_one (by omega) F e D hT
      refine ⟨D.mg, fu.kp, fd, ps, ?_, b⟩
      rw [gAt_F B ds (n + 1) n (by omega) hk]
      exact f
    · obtain ⟨f1, f2, fd, ps, f3, f4⟩ := F.fn n y (by show (q.fn.take k)[n]? = _; rw [List.getElem?_take_of_lt (by omega)]; exact e)
      refine ⟨f1, f2, fd, ps, ?_, f4⟩
      have f3 := f3.mono (show lev q ds k ≤ lev q ds (k + 1) from Nat.le_add_right _ _)
      have h1 := gAt_F B ds k n (by omega) (by omega)
      have h2 := gAt_F B ds (k + 1) n hn hk
      rw [h2, ← h1]
      exact f3
end DL

set_option Elab.async false
set_option linter.all false
set_option maxRecDepth 100000
set_option maxHeartbeats 4000000
/-! DLo: a law from the head's facts. -/
namespace DL
open PySem PySem.Spec PyProof.Rows L2
/-! ### the defs that are there -/
structure Pd where
  i : Nat
  y : Str
  ix : Nat
  N : List Str
  ps : List Str
def scopeB (N ps : List Str) (sc : Scope) : Bool := decide (sc.kind = .function) && (!sc.isCoroutine && (!sc.isGenerator && (decide N.Nodup && (decide (N.take ps.length = ps) &&
  ((ps.all fun x => decide (sc.names.lookup x = some .local) || decide (sc.names.lookup x = some .cell)) && sc.names.all fun y => decide (y.2 ≠ .free))))))
theorem scope_of {N ps : List Str} {sc : Scope} (h : scopeB N ps sc = true) : FnScope N ps sc := by
  unfold scopeB at h
  simp only [Bool.and_eq_true, Bool.or_eq_true, decide_eq_true_eq, Bool.not_eq_true', List.all_eq_true] at h
  obtain ⟨h1, h2, h3, h4, h5, h6, h7⟩ := h
  exact ⟨h1, h2, h3, h4, h5, h6, h7⟩
def pdB (top : Nat → Stmt) (us : List (Str × Nat)) (tf : List He.Defn) (q : Nm) (ds : List DefI) (p : Pd) : Bool := match ds[p.i]? with
  | some d => decide ((p.y, p.ix) ∈ us) && (scopeB p.N p.ps (defScope (top p.ix)) && (decide (d.np = p.ps.length) && (decide (d.nv = p.N.length) && ((!d.lam || decide ((p.y, (none : Option Str)) ∈ tf)) &&
      matchB d.b ⟨p.N, defScope (top p.ix), ⟨q.fn.take p.i, q.cst, q.exc, d.lam⟩⟩ (defBody (top p.ix))))))
  | none => false
def coverB (fn : List (Option Str)) (pds : List Pd) : Bool := (List.range fn.length).all fun i => match fn[i]? with
  | some (some y) => pds.any fun p => decide (p.i = i) && decide (p.y = y)
  | _ => true
theorem cover_of {fn : List (Option Str)} {pds : List Pd} (h : coverB fn pds = true) {i : Nat} {y : Str} (e : fn[i]? = some (some y)) : ∃ p ∈ pds, p.i = i ∧ p.y = y := by
  have hi := (List.getElem?_eq_some_iff.mp e).1
  have h1 := List.all_eq_true.mp h i (List.mem_range.mpr hi)
  rw [e] at h1
  dsimp only at h1
  obtain ⟨p, hp, h2⟩ := List.any_eq_true.mp h1
  simp only [Bool.and_eq_true, decide_eq_true_eq] at h2
  exact ⟨p, hp, h2⟩
def dOf (x : Str) (st : Stmt) : He.DefD := ⟨(x, none), x, x, defArgs st, defBody st, defScope st, [], []⟩
/-! ### constants -/
def dvOf : D → Option He.Dv
  | .int i => some (.int i)
  | .str x => some (.str x)
  | _ => none
def cvB (K : PySem.W.Frag) (y : Str) : D → Bool
  | .int i => (He.Fa.int y i).ok K
  | .str s => (He.Fa.str y s).ok K
  | .tup ds => (He.Fa.glo y).ok K && (match mapO dvOf ds with
    | some vs => He.tupB K y vs
    | none => false)
  | _ => false
theorem reps_dv {K : PySem.W.Frag} {fa : Nat → Addr} {G : Hp} : ∀ {ds : List D} {vs : List He.Dv}, mapO dvOf ds = some vs → Reps K fa G (vs.map (He.Dv.v K)) ds
  | [], vs, h => by
    obtain rfl : [] = vs := Option.some.inj h
    exact .nil
  | d :: ds, vs, h => by
    unfold mapO at h
    obtain ⟨v, h1, h2⟩ := Option.bind_eq_some_iff.mp h
    obtain ⟨ws, h3, rfl⟩ := Option.map_eq_some_iff.mp h2
    refine .cons ?_ (reps_dv h3)
    cases d <;> first | (cases h1; done) | skip
    · obtain rfl := Option.some.inj h1; exact .int _
    · obtain rfl := Option.some.inj h1; exact .str _
theorem cv_of {K : PySem.W.Frag} {fa : Nat → Addr} {h : Heap} {mg : Str → Option Value} (X : K.In h) (G : h.Ns mainGlobals mg) {y : Str} {d : D} (e : cvB K y d = true) : ∃ u v, mg y = some u ∧ RelV v u ∧ ∀ G, Rep K fa G v d := by
  cases d <;> first | (cases e; done) | skip
  · obtain ⟨t, h1⟩ := He.int_ok X G e
    exact ⟨_, .int _, h1, ⟨t, rfl⟩, fun _ => .int _⟩
  · obtain ⟨t, h1⟩ := He.str_ok X G e
    exact ⟨_, .str _, h1, ⟨t, rfl⟩, fun _ => .str _⟩
  · rename_i ds
    obtain ⟨e1, e2⟩ := Bool.and_eq_true_iff.mp (show ((He.Fa.glo y).ok K && (match mapO dvOf ds with | some vs => He.tupB K y vs | none => false)) = true from e)
    cases hm : mapO dvOf ds with
    | none => rw [hm] at e2; cases e2
    | some vs =>
      rw [hm] at e2
      exact ⟨_, .ref (He.ga K y), He.glo_ok X G e1, rfl, fun G => .tup (He.tupB_ok e2 G) (reps_dv hm)⟩
/-! ### what the head checks besides -/
def fldB (y : Str) : Option Str := if y = ("InvalidText" : Str) then some "line" else if y = ("TooMany" : Str) then some "limit" else none
def exsB (K : PySem.W.Frag) (y : Str) : Bool := kinFB K y && ((He.Fa.exm y "InvalidText" (decide (y = ("InvalidText" : Str)))).ok K && ((He.Fa.exm y "TooMany" (decide (y = ("TooMany" : Str)))).ok K && ((He.Fa.exm y "StairsError" true).ok K && (match fldB y with
  | some f => xfB K (He.ga K y) && (He.Fa.noat y f).ok K
  | none => true))))
def cstB (q : Nm) (C : Nat → D) (K : PySem.W.Frag) : Bool := (List.range q.cst.length).all fun n => match q.cst[n]? with
  | some (some y) => cvB K y (C n)
  | _ => true
def exB (tf : List He.Defn) (xs : List Str) (q : Nm) (C : Nat → D) (K : PySem.W.Frag) : Bool := decide ((tf.map fun p => (He.cT K p).2).Nodup) && ((xs.all fun y => exsB K y) && cstB q C K)
def kinOf (xs : List Str) (n : Nat) : Option (Str × Option Str) := (xs[n]?).map fun y => (kinTxt (kinBit y), fldB y)
/-- the names of the errors -/
def excA : List Str := ["InvalidMany", "InvalidFact", "InvalidFacts", "InvalidWalker", "InvalidWay", "InvalidCase", "InvalidPaper", "InvalidIndex", "Impossible", "Unlike", "NothingToUndo", "TooMany", "InvalidText"]
def excP : List Str := excA.take 11
def faOf (us : List (Str × Nat)) : List He.Fa := us.map (fun u => He.Fa.glo u.1) ++ ((("StairsError" : Str) :: excA).map He.Fa.glo ++ ((("ValueError" : Str) :: bltNames).map He.Fa.free ++ excP.map He.Fa.exc))
def fnOf (top : Nat → Stmt) (us : List (Str × Nat)) : List He.DefD := us.map fun u => dOf u.1 (top u.2)
def fxOf (P : Program) (w : World) (K : PySem.W.Frag) (mg : Str → Option Value) (base : Heap) (q : Nm) (tf : List He.Defn) : Fx where
  P := P
  w := w
  K := K
  mg := mg
  base := base
  fa := fun n => He.ga K ((q.fn.getD n none).getD Str.empty)
  fx := fun n => He.ga K (excA.getD n Str.empty)
  T := tf.map fun p => ((He.cT K p).2, (p.1 ++ ".<locals>.") ++ "<lambda>")
section
variable {P : Program} {w : World} {K : PySem.W.Frag} {mg : Str → Option Value} {base h : Heap} {top : Nat → Stmt} {us : List (Str × Nat)} {tf : List He.Defn} {q : Nm} {B : Base}
theorem glo_us (X : K.In h) (G : h.Ns mainGlobals mg) (c : He.SaysX (faOf us) (fnOf top us) [] tf (exB tf excA q B.C) w h K) {u : Str × Nat} (hu : u ∈ us) : mg u.1 = some (.ref (He.ga K u.1)) :=
  He.glo_ok X G (c.t.d.facts (List.mem_append_left _ (List.mem_map.mpr ⟨u, hu, rfl⟩)))
theorem glo_ex (X : K.In h) (G : h.Ns mainGlobals mg) (c : He.SaysX (faOf us) (fnOf top us) [] tf (exB tf excA q B.C) w h K) {y : Str} (hy : y ∈ ("StairsError" : Str) :: excA) : mg y = some (.ref (He.ga K y)) :=
  He.glo_ok X G (c.t.d.facts (List.mem_append_right _ (List.mem_append_left _ (List.mem_map.mpr ⟨y, hy, rfl⟩))))
theorem free_ex (X : K.In h) (G : h.Ns mainGlobals mg) (c : He.SaysX (faOf us) (fnOf top us) [] tf (exB tf excA q B.C) w h K) {y : Str} (hy : y ∈ ("ValueError" : Str) :: bltNames) : mg y = none :=
  He.free_ok X G (c.t.d.facts (List.mem_append_right _ (List.mem_append_right _ (List.mem_append_left _ (List.mem_map.mpr ⟨y, hy, rfl⟩)))))
theorem exc_ex (c : He.SaysX (faOf us) (fnOf top us) [] tf (exB tf excA q B.C) w h K) {y : Str} (hy : y ∈ excP) : (He.Fa.exc y).ok K = true :=
  c.t.d.facts (List.mem_append_right _ (List.mem_append_right _ (List.mem_append_right _ (List.mem_map.mpr ⟨y, hy, rfl⟩))))
theorem fun_us (c : He.SaysX (faOf us) (fnOf top us) [] tf (exB tf excA q B.C) w h K) {u : Str × Nat} (hu : u ∈ us) : ∃ fd, FunD K u.1 u.1 (defArgs (top u.2)) (defBody (top u.2)) (defScope (top u.2)) [] [] (He.ga K u.1) fd :=
  c.t.d.defs (d := dOf u.1 (top u.2)) (List.mem_map.mpr ⟨u, hu, rfl⟩)
theorem more_ex (c : He.SaysX (faOf us) (fnOf top us) [] tf (exB tf excA q B.C) w h K) : (tf.map fun p => (He.cT K p).2).Nodup ∧ (∀ y ∈ excA, exsB K y = true) ∧ cstB q B.C K = true := by
  have h1 := c.more
  unfold exB at h1
  simp only [Bool.and_eq_true, decide_eq_true_eq, List.all_eq_true] at h1
  exact h1
theorem bok_of (hq : q.exc = excP) (X : K.In h) (G : h.Ns mainGlobals mg) (c : He.SaysX (faOf us) (fnOf top us) [] tf (exB tf excA q B.C) w h K) : BOk (fxOf P w K mg base q tf) B q where
  cst := fun n y e => by
    have h1 := (more_ex c).2.2
    have hn := (List.getElem?_eq_some_iff.mp e).1
    have h2 := List.all_eq_true.mp h1 n (List.mem_range.mpr hn)
    rw [e] at h2
    exact cv_of X G h2
  blt := fun y hy => free_ex X G c (List.mem_cons_of_mem _ hy)
  exc := fun n y e => by
    rw [hq] at e
    have hy := List.mem_of_getElem? e
    have e2 : excA.getD n Str.empty = y := by
      unfold excP at e
      have hn : n < 11 := by
        have := (List.getElem?_eq_some_iff.mp e).1
        rw [List.length_take] at this
        omega
      rw [List.getElem?_take_of_lt hn] at e
      rw [List.getD_eq_getElem?_getD, e]; rfl
    refine ⟨?_, excK_of (y := y) ?_ (exc_ex c hy)⟩
    · show mg y = some (.ref (He.ga K (excA.getD n Str.empty)))
      rw [e2]
      exact glo_ex X G c (List.mem_cons_of_mem _ (List.mem_of_mem_take hy))
    · show He.ga K y = He.ga K (excA.getD n Str.empty)
      rw [e2]
theorem kinT_of {sc : Scope} (hs : kinSB sc = true) (X : K.In h) (G : h.Ns mainGlobals mg) (c : He.SaysX (faOf us) (fnOf top us) [] tf (exB tf excA q B.C) w h K) :
    KinT (fxOf P w K mg base q tf) (kinOf excA) sc (He.ga K "InvalidText") (He.ga K "TooMany") (He.ga K "StairsError") := by
  intro n z o e
  unfold kinOf at e
  obtain ⟨y, e1, e2⟩ := Option.map_eq_some_iff.mp e
  have hy := List.mem_of_getElem? e1
  have ef : (fxOf P w K mg base q tf).fx n = He.ga K y := by
    show He.ga K (excA.getD n Str.empty) = _
    rw [List.getD_eq_getElem?_getD, e1]; rfl
  have hx := (more_ex c).2.1 y hy
  unfold exsB at hx
  simp only [Bool.and_eq_true] at hx
  obtain ⟨k1, k2, k3, k4, k5⟩ := hx
  have hkinC : ∀ c ∈ kinC, c ≠ ("ValueError" : Str) → c ∈ ("StairsError" : Str) :: excA := by decide
  refine ⟨kinBit y, ?_, (congrArg Prod.fst e2).symm, ?_⟩
  · rw [ef]
    exact kinF_of hs k1 (fun c' hc hne => glo_ex X G c (hkinC c' hc hne)) (free_ex X G c (by decide)) (free_ex X G c (by decide)) (free_ex X G c (by decide))
  · rw [ef]
    have e3 : fldB y = o := congrArg Prod.snd e2
    rw [e3] at k5
    unfold fldB at e3
    by_cases h1 : y = ("InvalidText" : Str)
    · rw [if_pos h1] at e3
      subst e3
      rw [decide_eq_true h1] at k2
      dsimp only at k5 ⊢
      simp only [Bool.and_eq_true] at k5
      exact ⟨.inl ⟨He.exm_ok k2, rfl⟩, xfB_ok k5.1, He.noat_ok k5.2⟩
    · rw [if_neg h1] at e3
      rw [decide_eq_false h1] at k2
      by_cases h2 : y = ("TooMany" : Str)
      · rw [if_pos h2] at e3
        subst e3
        rw [decide_eq_true h2] at k3
        dsimp only at k5 ⊢
        simp only [Bool.and_eq_true] at k5
        exact ⟨.inr ⟨He.exm_ok k2, He.exm_ok k3, rfl⟩, xfB_ok k5.1, He.noat_ok k5.2⟩
      · rw [if_neg h2] at e3
        subst e3
        rw [decide_eq_false h2] at k3
        exact ⟨He.exm_ok k2, He.exm_ok k3, He.exm_ok k4⟩
def trySB (sg : Scope) : Bool := scopeB tryN ["call_so"] sg && (((["call_so", "found", "e"] : List Str).all fun y => decide (sg.names.lookup y = some .local)) && (["_law_kin", "InvalidText", "TooMany", "StairsError"] : List Str).all fun y => decide (sg.names.lookup y = some .globalImplicit))
theorem tryK_of {uT uK : Nat} (hT : (("_law_try" : Str), uT) ∈ us) (hKu : (("_law_kin" : Str), uK) ∈ us) (hs : kinSB (defScope (top uK)) = true) (hsk : scopeB kinN ["e"] (defScope (top uK)) = true) (hst : trySB (defScope (top uT)) = true)
    (bT : BindH (defArgs (top uT)) ["call_so"]) (bK : BindH (defArgs (top uK)) ["e"]) (kb : KinB kinN (defScope (top uK)) (defBody (top uK)))
    (tg : ∀ (X : Cx) (IT TM SE g : Addr) (cdg : Value) (q : Str), TryS X (defScope (top uT)) (defScope (top uK)) IT TM SE → (∀ (s : Shared), Room 1 (X.A.deeper (envOfC "_law_try" (defScope (top uT)) s.heap.objs.size g cdg))) →
      GivesToN X tryN "_law_try" (defScope (top uT)) g cdg (defBody (top uT)) "call_so" q (TTtry X.K X.mg (defScope (top uK)) IT TM SE))
    (X : K.In h) (G : h.Ns mainGlobals mg) (c : He.SaysX (faOf us) (fnOf top us) [] tf (exB tf excA q B.C) w h K) : TryK (fxOf P w K mg base q tf) (kinOf excA) := by
  obtain ⟨fT, FT⟩ := fun_us c hT
  obtain ⟨fK, FK⟩ := fun_us c hKu
  have gT := glo_us X G c hT
  have gK := glo_us X G c hKu
  have bdT := FT.bindsN (ps := ["call_so"]) (bT _ _ _ _)
  have bdK := FK.bindsN (ps := ["e"]) (bK _ _ _ _)
  have kpT := FT.kp
  have kpK := FK.kp
  obtain ⟨oc, od, dV, kV, doc, pm, an, cdv, ct, osl, rfl, lk, hcd, _, _⟩ := FT.ex
  obtain ⟨oc', od', dV', kV', doc', pm', an', cdv', ct', osl', rfl, lk', hcd', _, _⟩ := FK.ex
  have KD : KinDef K mg (defScope (top uK)) := ⟨He.ga K "_law_kin", "_law_kin", defArgs (top uK), defBody (top uK), dV', kV', doc', pm', cdv', ct', oc', an', od', osl', gK, kpK, lk', hcd', scope_of hsk, bdK, kb⟩
  unfold trySB at hst
  simp only [Bool.and_eq_true, List.all_eq_true, decide_eq_true_eq] at hst
  obtain ⟨s1, s2, s3⟩ := hst
  have S1 := scope_of s1
  refine ⟨He.ga K "_law_try", He.ga K "InvalidText", He.ga K "TooMany", He.ga K "StairsError", defScope (top uT), defScope (top uK), defArgs (top uT), defBody (top uT), dV, kV, doc, pm, cdv, ct, oc, an, od, osl, gT, kpT, lk, hcd, bdT, S1, s2 _ (by decide), fun X' q' hK hM hr => ?_, kinT_of hs X G c⟩
  have hK' : X'.K = K := hK
  have hM' : X'.mg = mg := hM
  have r := tg X' (He.ga K "InvalidText") (He.ga K "TooMany") (He.ga K "StairsError") (He.ga K "_law_try") cdv q'
    ⟨S1.kind, S1.nofree, s2 _ (by decide), s2 _ (by decide), s2 _ (by decide), s3 _ (by decide), s3 _ (by decide), s3 _ (by decide), s3 _ (by decide), by rw [hM']; exact glo_ex X G c (by decide), by rw [hM']; exact glo_ex X G c (by decide), by rw [hM']; exact glo_ex X G c (by decide), by rw [hK', hM']; exact KD⟩ hr
  rw [hK', hM'] at r
  exact r
theorem dok_of (X : K.In h) (G : h.Ns mainGlobals mg) (c : He.SaysX (faOf us) (fnOf top us) [] tf (exB tf excA q B.C) w h K) (TB : ∀ p ∈ tf, LamX.TabB base mg (He.cT K p).1 (He.cT K p).2) {ds : List DefI} {p : Pd} (hp : pdB top us tf q ds p = true) (bp : BindH (defArgs (top p.ix)) p.ps) {d : DefI}
    (hd : ds[p.i]? = some d) (hy : q.fn[p.i]? = some (some p.y)) : DOk (fxOf P w K mg base q tf) q p.i d p.y p.ps := by
  unfold pdB at hp
  rw [hd] at hp
  simp only [Bool.and_eq_true, Bool.or_eq_true, decide_eq_true_eq, Bool.not_eq_true'] at hp
  obtain ⟨h1, h2, h3, h4, h5, h6⟩ := hp
  obtain ⟨fd, F⟩ := fun_us c h1
  have e : (fxOf P w K mg base q tf).fa p.i = He.ga K p.y := by
    show He.ga K ((q.fn.getD p.i none).getD Str.empty) = _
    rw [List.getD_eq_getElem?_getD, hy]; rfl
  refine ⟨by rw [e]; exact glo_us X G c h1, _, _, _, fd, p.N, by rw [e]; exact F, scope_of h2, bp, h3, h4, h6, fun hl => ?_⟩
  have ht : (p.y, (none : Option Str)) ∈ tf := by
    rcases h5 with z | z
    · rw [hl] at z; cases z
    · exact z
  obtain ⟨oc, od, dV, kV, doc, pm, an, cdv, ct, osl, rfl, lk, hcd, _, _⟩ := F.ex
  obtain ⟨cA, rfl⟩ := He.codeIn_ref hcd
  have e1 : He.codeOf K (p.y, none) = cA := He.codeOf_eq (p := (p.y, none)) lk rfl
  have tb := TB _ ht
  have e2 : (He.cT K (p.y, none)).1 = cA := e1
  rw [e2] at tb
  refine ⟨cA, (He.cT K (p.y, none)).2, rfl, tb, List.mem_map.mpr ⟨_, ht, rfl⟩, fun z hz ez => ?_⟩
  obtain ⟨p', hp', rfl⟩ := List.mem_map.mp hz
  have nd := (more_ex c).1
  have inj : ∀ {l : List He.Defn}, (l.map fun p => (He.cT K p).2).Nodup → ∀ {a b : He.Defn}, a ∈ l → b ∈ l → (He.cT K a).2 = (He.cT K b).2 → a = b := fun {l} hn => by
    induction l with
    | nil => intro a b ha; cases ha
    | cons u r ih =>
      intro a b ha hb e
      rw [List.map_cons, List.nodup_cons] at hn
      rcases List.mem_cons.mp ha with h1 | h1 <;> rcases List.mem_cons.mp hb with h2 | h2
      · rw [h1, h2]
      · rw [h1] at e
        exact (hn.1 (List.mem_map.mpr ⟨b, h2, e.symm⟩)).elim
      · rw [h2] at e
        exact (hn.1 (List.mem_map.mpr ⟨a, h1, e⟩)).elim
      · exact ih hn.2 h1 h2 e
  have := inj nd hp' ht ez
  rw [this]
end
/-- a law's promise -/
theorem law_at {l : PySem.W.OpenLaw} {w : World} {K : PySem.W.Frag} {mg : Str → Option Value} {h : Heap} {fa : Addr} {top : Nat → Stmt} {us : List (Str × Nat)} {tf : List He.Defn} {q : Nm} {B : Base} {ds : List DefI} {pds : List Pd} {iL k : Nat}
    (hB : B.kin = kinOf excA) (hq : q.exc = excP) (hlen : q.fn.length = ds.length) (hpd : (pds.all fun p => pdB top us tf q ds p) = true) (hcov : coverB q.fn pds = true) (hbind : ∀ p ∈ pds, BindH (defArgs (top p.ix)) p.ps)
    (hlaw : q.fn[iL]? = some (some ("law" : Str))) (hlev : lev q ds ds.length ≤ k) (hps : ∀ p ∈ pds, p.y = ("law" : Str) → p.ps = (["script"] : List Str))
    (hTry : (∀ p ∈ tf, p.1 ∈ us.map (·.1)) → ∀ (P : Program) (base : Heap) (d : DefI), d ∈ ds → d.lam = true → TryK (fxOf P w K mg base q tf) (kinOf excA))
    (hspec : ∀ ns : List Int, ns.length ≤ 63 → (∀ z ∈ ns, Builtin.Int.intBits z ≤ 1048576) → ∃ S', fnAt B ds iL [.p (.lst (ns.map D.int))] [] = .ok (.sh (.p (.bl true))) S')
    (htf : ∀ p ∈ tf, p.1 ∈ us.map (·.1))
    (X : K.In h) (G : h.Ns mainGlobals mg) (hmg : mg ("law" : Str) = some (.ref fa)) (c : He.SaysX (faOf us) (fnOf top us) [] tf (exB tf excA q B.C) w h K) : LamX.LawAtS l w K (L2N.CX l.prog w) k 63 "script" mg fa h := by
  have hiL : iL < ds.length := by rw [← hlen]; exact (List.getElem?_eq_some_iff.mp hlaw).1
  have hdL : ds[iL]? = some ds[iL] := List.getElem?_eq_getElem hiL
  have hd : ∀ (base : Heap), (∀ p ∈ tf, LamX.TabB base mg (He.cT K p).1 (He.cT K p).2) → ∀ (i : Nat) (d : DefI) (y : Str), ds[i]? = some d → q.fn[i]? = some (some y) → (∃ ps, DOk (fxOf l.prog w K mg base q tf) q i d y ps) ∧ (d.lam = true → TryK (fxOf l.prog w K mg base q tf) B.kin) := fun base TB i d y e1 e2 => by
    obtain ⟨p, hp, rfl, rfl⟩ := cover_of hcov e2
    refine ⟨⟨_, dok_of X G c TB (List.all_eq_true.mp hpd p hp) (hbind p hp) e1 e2⟩, fun hl => ?_⟩
    rw [hB]
    exact hTry htf _ _ d (List.mem_of_getElem? e1) hl
  obtain ⟨pL, hpL, eL, yL⟩ := cover_of hcov hlaw
  have pB := List.all_eq_true.mp hpd pL hpL
  have hbL := hbind pL hpL
  have hbL0 := hbL
  have psL := hps pL hpL yL
  have hu : (pL.y, pL.ix) ∈ us := by
    unfold pdB at pB
    rw [eL, hdL] at pB
    simp only [Bool.and_eq_true, decide_eq_true_eq] at pB
    exact pB.1
  rw [yL] at hu
  obtain ⟨fd, F⟩ := fun_us c hu
  have e0 : fa = He.ga K "law" := by
    have := hmg.symm.trans (glo_us X G c hu)
    cases this
    rfl
  have hfdu : ∀ {x qq : Str} {pr pr' : Arguments} {b b' : List Stmt} {s s' : Scope} {f : Addr} {fd fd' : FuncData}, FunD K x qq pr b s [] [] f fd → FunD K x qq pr' b' s' [] [] f fd' → fd = fd' := fun F F' => by
    obtain ⟨oc, od, dV, kV, doc, pm, an, cdv, ct, osl, rfl, lk, _⟩ := F.ex
    obtain ⟨oc', od', dV', kV', doc', pm', an', cdv', ct', osl', rfl, lk', _⟩ := F'.ex
    rw [lk] at lk'
    injection lk' with z
    injection z with z1 z2 z3 z4
    injection z3
  rw [psL] at hbL
  refine ⟨fd, tf.map (He.cT K), fun vs H Q E => ∀ base, spF (fxOf l.prog w K mg base q tf) (fnAt B ds iL) vs H Q E, fun p hp => ?_, fun p hp => ?_, fun p hp => ?_, fun s u => ?_, fun H a ns hn hbits hT hS base => ?_, fun base Kb Gb TB => ?_⟩
  · obtain ⟨p', hp', rfl⟩ := List.mem_map.mp hp
    exact c.empty p' hp'
  · obtain ⟨p', hp', rfl⟩ := List.mem_map.mp hp
    exact c.out p' hp'
  · obtain ⟨p', hp', rfl⟩ := List.mem_map.mp hp
    exact PySem.W.codeHd_of_K X (c.hd p' hp')
  · have b := F.bindsA (ps := ["script"]) (hbL _ _ _ _)
    exact b s [u] rfl
  · obtain ⟨S', hr⟩ := hspec ns hn hbits
    refine ⟨[], [], [.p (.lst (ns.map D.int))], ⟨rfl, fun m n a e => by simp at e, fun n cc e => by simp at e, fun n a e => by simp at e, fun p hp => ?_⟩, .cons ?_ .nil, ?_⟩
    · obtain ⟨p', hp', rfl⟩ := List.mem_map.mp hp
      exact LamX.TabS.nil (hT _ (List.mem_map.mpr ⟨p', hp', rfl⟩))
    · have hh : hide [] H = H := by
        funext b
        unfold hide
        rw [if_neg (by simp)]
      show Rep K _ (hide [] H) (.ref a) (.lst (ns.map D.int))
      rw [hh]
      exact .lst hS (Reps.ints ns)
    · rw [hr]
      intro v H' al' _ _ _ rv
      exact Rep.bl_inv rv
  · have TB' : ∀ p ∈ tf, LamX.TabB base mg (He.cT K p).1 (He.cT K p).2 := fun p hp => TB _ (List.mem_map.mpr ⟨p, hp, rfl⟩)
    have Fs := fns_all (x := fxOf l.prog w K mg base q tf) (bok_of hq X G c) hlen (hd base TB') iL (by omega)
    have D1 := dok_of (P := l.prog) (w := w) (base := base) X G c TB' pB hbL0 (by rw [eL]; exact hdL) (by rw [eL, yL]; exact hlaw)
    rw [eL, yL, psL] at D1
    obtain ⟨_, D2⟩ := hd base TB' iL ds[iL] "law" hdL hlaw
    obtain ⟨fd', f, b, _, _, _, fu⟩ := fns_one (y := "law") hiL Fs hlaw D1 D2
    have efa : (fxOf l.prog w K mg base q tf).fa iL = He.ga K "law" := by
      show He.ga K ((q.fn.getD iL none).getD Str.empty) = _
      rw [List.getD_eq_getElem?_getD, hlaw]; rfl
    rw [efa] at f fu
    have efd := hfdu F fu
    subst efd
    rw [e0]
    have mono : ∀ j, iL + 1 + j ≤ ds.length → lev q ds (iL + 1) ≤ lev q ds (iL + 1 + j) := fun j => by
      induction j with
      | zero => exact fun _ => Nat.le_refl _
      | succ j ih => exact fun hj => Nat.le_trans (ih (by omega)) (Nat.le_add_right _ _)
    have hle : lev q ds (iL + 1) ≤ k := by
      have := mono (ds.length - (iL + 1)) (by omega)
      rw [show iL + 1 + (ds.length - (iL + 1)) = ds.length by omega] at this
      omega
    exact (f.mono hle).imp fun vs H Q E z => z base
/-- the constants of all laws -/
def B0C (n : Nat) : D := ([.int (10 ^ 30), .tup [.str "against", .str "with"], .int (10 ^ 12), .int 6, .int (10 ^ 40), .tup [.int 0, .int 1], .str "0123456789", .int 6] : List D).getD n .non
def B0 : Base := ⟨B0C, kinOf excA, fun n => (fldB (excA.getD n Str.empty)).getD Str.empty⟩
end DL

set_option Elab.async false
set_option linter.all false
set_option maxRecDepth 100000
set_option maxHeartbeats 0
/-! The defs as terms (printed by gl.py). -/
namespace LW
open PySem DL
/-- 0 -/
def i__law_known : CS :=
    (.seq (.asg 0 (.tup (.cons (.tup (.cons (.str "steps") (.cons (.int 0) (.cons (.str "with") (.cons (.int 12) (.cons (.int 12) .nil)))))) (.cons (.tup (.cons (.str "steps") (.cons (.int 0) (.cons (.str "against") (.cons (.int 36) (.cons (.int 36) .nil)))))) .nil))))
    (.seq (.asg 1 (.tup (.cons (.tup (.cons (.str "steps") (.cons (.int 0) (.cons (.str "with") (.cons (.int 10) (.cons (.int 10) .nil)))))) .nil)))
    (.seq (.asg 2 (.bin .add (.var 1) (.tup (.cons (.tup (.cons (.str "steps") (.cons (.int 1) (.cons (.str "with") (.cons (.int 20) (.cons (.int 20) .nil)))))) (.cons (.tup (.cons (.str "quick") (.cons (.int 1) (.cons (.int 0) (.cons (.tup (.cons (.int 3) (.cons (.int 1) .nil))) (.cons (.tup (.cons (.int 3) (.cons (.int 1) .nil))) .nil)))))) .nil)))))
    (.seq (.ret (.tup (.cons (.var 0) (.cons (.var 1) (.cons (.var 2) (.cons (.tup (.cons (.tup (.cons (.str "meet") (.cons (.int 0) (.cons (.int 1) (.cons (.int 12) (.cons (.int 18) .nil)))))) .nil)) (.cons (.tup (.cons (.tup (.cons (.str "back") (.cons (.int 0) (.cons (.int 4) (.cons (.int 12) .nil))))) .nil)) .nil)))))))
    .nil))))
/-- 1 -/
def i__law_deck : CS :=
    (.seq (.ifs (.v (.cmp .ge (.var 0) (.bin .pow (.int 10) (.int 18)))) (.seq (.ret (.lst (.cons (.bin .sub (.var 0) (.bin .pow (.int 10) (.int 18))) (.cons (.bin .mod (.var 0) (.int 2147483579)) (.cons (.var 1) .nil)))))
    .nil) .nil)
    (.seq (.ret (.lst (.cons (.int 0) (.cons (.bin .mod (.var 0) (.int 2147483579)) (.cons (.var 1) .nil)))))
    .nil))
/-- 2 -/
def i_is_within : CS :=
    (.seq (.ret (.and_ (.ist (.var 0) .int) (.and_ (.nt (.ist (.var 0) .bool)) (.chain .le .le (.var 1) (.var 0) (.var 2)))))
    .nil)
/-- 3 -/
def i_is_many_value : CS :=
    (.seq (.ret (.call 2 (.cons (.var 0) (.cons (.int 1) (.cons (.int 3) .nil)))))
    .nil)
/-- 4 -/
def i_need_many : CS :=
    (.seq (.ifs (.nt (.v (.call 3 (.cons (.var 0) .nil)))) (.seq (.rai 0)
    .nil) .nil)
    .nil)
/-- 5 -/
def i_is_length : CS :=
    (.seq (.ifs (.or_ (.v (.cmp .ne (.blt .len (.cons (.var 0) .nil)) (.int 3))) (.nt (.v (.call 2 (.cons (.ix (.var 0) (.int 1)) (.cons (.int 1) (.cons (.cst 0) .nil))))))) (.seq (.ret (.bl false))
    .nil) .nil)
    (.seq (.ret (.or_ (.isN true (.ix (.var 0) (.int 2))) (.call 2 (.cons (.ix (.var 0) (.int 2)) (.cons (.ix (.var 0) (.int 1)) (.cons (.cst 0) .nil))))))
    .nil))
/-- 6 -/
def i_is_walker : CS :=
    (.seq (.ret (.call 2 (.cons (.var 1) (.cons (.int 0) (.cons (.bin .sub (.var 0) (.int 1)) .nil)))))
    .nil)
/-- 7 -/
def i_is_way : CS :=
    (.seq (.ret (.and_ (.ist (.var 0) .str) (.cmp .inn (.var 0) (.cst 1))))
    .nil)
/-- 8 -/
def i_are_numbers : CS :=
    (.seq (.ret (.and_ (.call 2 (.cons (.var 0) (.cons (.int 1) (.cons (.var 2) .nil)))) (.call 2 (.cons (.var 1) (.cons (.var 0) (.cons (.var 2) .nil))))))
    .nil)
/-- 9 -/
def i_is_steps : CS :=
    (.seq (.ret (.and_ (.cmp .eq (.blt .len (.cons (.var 1) .nil)) (.int 5)) (.and_ (.call 6 (.cons (.var 0) (.cons (.ix (.var 1) (.int 1)) .nil))) (.and_ (.call 7 (.cons (.ix (.var 1) (.int 2)) .nil)) (.call 8 (.cons (.ix (.var 1) (.int 3)) (.cons (.ix (.var 1) (.int 4)) (.cons (.cst 0) .nil))))))))
    .nil)
/-- 10 -/
def i_has_items : CS :=
    (.seq (.ret (.and_ (.ist (.var 0) .tup) (.chain .le .le (.var 1) (.blt .len (.cons (.var 0) .nil)) (.var 2))))
    .nil)
/-- 11 -/
def i_gcd : CS :=
    (.seq (.tasg [0, 1] (.cons (.blt .abs (.cons (.var 0) .nil)) (.cons (.blt .abs (.cons (.var 1) .nil)) .nil)))
    (.seq (.whl (.v (.cmp .ne (.var 1) (.int 0))) (.seq (.tasg [0, 1] (.cons (.var 1) (.cons (.bin .mod (.var 0) (.var 1)) .nil)))
    .nil))
    (.seq (.ret (.var 0))
    .nil)))
/-- 12 -/
def i_is_quotient : CS :=
    (.seq (.ifs (.or_ (.nt (.v (.call 10 (.cons (.var 0) (.cons (.int 2) (.cons (.int 2) .nil)))))) (.or_ (.nt (.v (.call 2 (.cons (.ix (.var 0) (.int 0)) (.cons (.int 1) (.cons (.cst 2) .nil)))))) (.nt (.v (.call 2 (.cons (.ix (.var 0) (.int 1)) (.cons (.int 1) (.cons (.cst 2) .nil)))))))) (.seq (.ret (.bl false))
    .nil) .nil)
    (.seq (.ret (.cmp .eq (.call 11 (.cons (.ix (.var 0) (.int 0)) (.cons (.ix (.var 0) (.int 1)) .nil))) (.int 1)))
    .nil))
/-- 13 -/
def i_is_less : CS :=
    (.seq (.ret (.cmp .lt (.bin .mul (.ix (.var 0) (.int 0)) (.ix (.var 1) (.int 1))) (.bin .mul (.ix (.var 1) (.int 0)) (.ix (.var 0) (.int 1)))))
    .nil)
/-- 14 -/
def i_are_quotients : CS :=
    (.seq (.ifs (.nt (.v (.call 12 (.cons (.var 0) .nil)))) (.seq (.ret (.bl false))
    .nil) .nil)
    (.seq (.ret (.or_ (.isN true (.var 1)) (.and_ (.call 12 (.cons (.var 1) .nil)) (.nt (.call 13 (.cons (.var 1) (.cons (.var 0) .nil)))))))
    .nil))
/-- 15 -/
def i_are_two : CS :=
    (.seq (.ret (.and_ (.call 6 (.cons (.var 0) (.cons (.var 1) .nil))) (.and_ (.call 6 (.cons (.var 0) (.cons (.var 2) .nil))) (.cmp .ne (.var 1) (.var 2)))))
    .nil)
/-- 16 -/
def i_is_fact_value : CS :=
    (.seq (.ifs (.or_ (.nt (.v (.call 10 (.cons (.var 1) (.cons (.int 3) (.cons (.int 5) .nil)))))) (.nt (.v (.ist (.ix (.var 1) (.int 0)) .str)))) (.seq (.ret (.bl false))
    .nil) .nil)
    (.seq (.tasg [2, 3] (.cons (.ix (.var 1) (.int 0)) (.cons (.blt .len (.cons (.var 1) .nil)) .nil)))
    (.seq (.ifs (.v (.cmp .eq (.var 2) (.str "length"))) (.seq (.ret (.call 5 (.cons (.var 1) .nil)))
    .nil) .nil)
    (.seq (.ifs (.v (.cmp .eq (.var 2) (.str "steps"))) (.seq (.ret (.call 9 (.cons (.var 0) (.cons (.var 1) .nil))))
    .nil) .nil)
    (.seq (.ifs (.v (.cmp .eq (.var 2) (.str "pace"))) (.seq (.ret (.and_ (.cmp .eq (.var 3) (.int 4)) (.and_ (.call 6 (.cons (.var 0) (.cons (.ix (.var 1) (.int 1)) .nil))) (.call 14 (.cons (.ix (.var 1) (.int 2)) (.cons (.ix (.var 1) (.int 3)) .nil))))))
    .nil) .nil)
    (.seq (.ifs (.v (.cmp .eq (.var 2) (.str "quick"))) (.seq (.ret (.and_ (.cmp .eq (.var 3) (.int 5)) (.and_ (.call 15 (.cons (.var 0) (.cons (.ix (.var 1) (.int 1)) (.cons (.ix (.var 1) (.int 2)) .nil)))) (.call 14 (.cons (.ix (.var 1) (.int 3)) (.cons (.ix (.var 1) (.int 4)) .nil))))))
    .nil) .nil)
    (.seq (.ifs (.v (.cmp .eq (.var 2) (.str "meet"))) (.seq (.ret (.and_ (.cmp .eq (.var 3) (.int 5)) (.and_ (.call 15 (.cons (.var 0) (.cons (.ix (.var 1) (.int 1)) (.cons (.ix (.var 1) (.int 2)) .nil)))) (.blt .all (.cons (.comp (.call 2 (.cons (.var 4) (.cons (.int 1) (.cons (.cst 2) .nil)))) [4] true (.seq (.slL (.var 1) (.int 3)))) .nil)))))
    .nil) .nil)
    (.seq (.ifs (.or_ (.v (.cmp .ne (.var 2) (.str "back"))) (.or_ (.v (.cmp .ne (.var 3) (.int 4))) (.nt (.v (.call 6 (.cons (.var 0) (.cons (.ix (.var 1) (.int 1)) .nil))))))) (.seq (.ret (.bl false))
    .nil) .nil)
    (.seq (.ret (.and_ (.call 2 (.cons (.ix (.var 1) (.int 2)) (.cons (.int 1) (.cons (.cst 2) .nil)))) (.call 2 (.cons (.ix (.var 1) (.int 3)) (.cons (.bin .add (.ix (.var 1) (.int 2)) (.int 1)) (.cons (.cst 2) .nil))))))
    .nil)))))))))
/-- 17 -/
def i_need_fact : CS :=
    (.seq (.ifs (.nt (.v (.call 16 (.cons (.var 0) (.cons (.var 1) .nil))))) (.seq (.rai 1)
    .nil) .nil)
    .nil)
/-- 18 -/
def i_row_of : CS :=
    (.seq (.asgO 4 (.bin .add (.lst (.cons (.var 1) (.cons (.var 2) .nil))) (.bin .mul (.lst (.cons (.int 0) .nil)) (.var 0))))
    (.seq (.for_ [5, 6] false (.seq (.var 3)) (.seq (.aug 4 (.bin .add (.int 2) (.var 5)) (.var 6))
    .nil))
    (.seq (.ret (.blt .tuple (.cons (.var 4) .nil)))
    .nil)))
/-- 19 -/
def i_length_rows : CS :=
    (.seq (.asgO 2 (.lst (.cons (.call 18 (.cons (.var 0) (.cons (.int 1) (.cons (.neg (.ix (.var 1) (.int 1))) (.cons (.lst .nil) .nil))))) .nil)))
    (.seq (.ifs (.v (.isN false (.ix (.var 1) (.int 2)))) (.seq (.app 2 (.call 18 (.cons (.var 0) (.cons (.neg (.int 1)) (.cons (.ix (.var 1) (.int 2)) (.cons (.lst .nil) .nil))))))
    .nil) .nil)
    (.seq (.ret (.var 2))
    .nil)))
/-- 20 -/
def i_steps_rows : CS :=
    (.seq (.unp [2, 3, 4, 5, 6] (.var 1))
    (.seq (.asg 7 (.ife (.v (.cmp .eq (.var 4) (.str "with"))) (.int 1) (.neg (.int 1))))
    (.seq (.ret (.lst (.cons (.call 18 (.cons (.var 0) (.cons (.int 1) (.cons (.neg (.var 5)) (.cons (.lst (.cons (.tup (.cons (.var 3) (.cons (.bin .mul (.neg (.var 7)) (.var 5)) .nil))) .nil)) .nil))))) (.cons (.call 18 (.cons (.var 0) (.cons (.neg (.int 1)) (.cons (.var 6) (.cons (.lst (.cons (.tup (.cons (.var 3) (.cons (.bin .mul (.var 7) (.var 6)) .nil))) .nil)) .nil))))) .nil))))
    .nil)))
/-- 21 -/
def i_pace_rows : CS :=
    (.seq (.unp [2, 3, 4, 5] (.var 1))
    (.seq (.asgO 6 (.lst (.cons (.call 18 (.cons (.var 0) (.cons (.int 0) (.cons (.ix (.var 4) (.int 1)) (.cons (.lst (.cons (.tup (.cons (.var 3) (.cons (.neg (.ix (.var 4) (.int 0))) .nil))) .nil)) .nil))))) .nil)))
    (.seq (.ifs (.v (.isN false (.var 5))) (.seq (.app 6 (.call 18 (.cons (.var 0) (.cons (.int 0) (.cons (.neg (.ix (.var 5) (.int 1))) (.cons (.lst (.cons (.tup (.cons (.var 3) (.cons (.ix (.var 5) (.int 0)) .nil))) .nil)) .nil))))))
    .nil) .nil)
    (.seq (.ret (.var 6))
    .nil))))
/-- 22 -/
def i_quick_rows : CS :=
    (.seq (.unp [2, 3, 4, 5, 6] (.var 1))
    (.seq (.asgO 7 (.lst (.cons (.call 18 (.cons (.var 0) (.cons (.int 0) (.cons (.int 0) (.cons (.lst (.cons (.tup (.cons (.var 4) (.cons (.ix (.var 5) (.int 1)) .nil))) (.cons (.tup (.cons (.var 3) (.cons (.neg (.ix (.var 5) (.int 0))) .nil))) .nil))) .nil))))) .nil)))
    (.seq (.ifs (.v (.isN false (.var 6))) (.seq (.app 7 (.call 18 (.cons (.var 0) (.cons (.int 0) (.cons (.int 0) (.cons (.lst (.cons (.tup (.cons (.var 4) (.cons (.neg (.ix (.var 6) (.int 1))) .nil))) (.cons (.tup (.cons (.var 3) (.cons (.ix (.var 6) (.int 0)) .nil))) .nil))) .nil))))))
    .nil) .nil)
    (.seq (.ret (.var 7))
    .nil))))
/-- 23 -/
def i_negative : CS :=
    (.seq (.ret (.blt .tuple (.cons (.comp (.neg (.var 1)) [1] true (.seq (.var 0))) .nil)))
    .nil)
/-- 24 -/
def i_meet_rows : CS :=
    (.seq (.unp [2, 3, 4, 5, 6] (.var 1))
    (.seq (.asg 7 (.call 18 (.cons (.var 0) (.cons (.neg (.int 1)) (.cons (.bin .add (.var 5) (.var 6)) (.cons (.lst .nil) .nil))))))
    (.seq (.asg 8 (.call 18 (.cons (.var 0) (.cons (.int 0) (.cons (.int 0) (.cons (.lst (.cons (.tup (.cons (.var 4) (.cons (.var 6) .nil))) (.cons (.tup (.cons (.var 3) (.cons (.neg (.var 5)) .nil))) .nil))) .nil))))))
    (.seq (.ret (.lst (.cons (.var 7) (.cons (.call 23 (.cons (.var 7) .nil)) (.cons (.var 8) (.cons (.call 23 (.cons (.var 8) .nil)) (.cons (.call 18 (.cons (.var 0) (.cons (.int 0) (.cons (.int 1) (.cons (.lst (.cons (.tup (.cons (.var 4) (.cons (.neg (.int 1)) .nil))) .nil)) .nil))))) .nil)))))))
    .nil))))
/-- 25 -/
def i_back_rows : CS :=
    (.seq (.unp [2, 3, 4, 5] (.var 1))
    (.seq (.asg 6 (.call 18 (.cons (.var 0) (.cons (.int 0) (.cons (.bin .sub (.var 5) (.var 4)) (.cons (.lst (.cons (.tup (.cons (.var 3) (.cons (.bin .sub (.neg (.var 5)) (.var 4)) .nil))) .nil)) .nil))))))
    (.seq (.ret (.lst (.cons (.var 6) (.cons (.call 23 (.cons (.var 6) .nil)) (.cons (.call 18 (.cons (.var 0) (.cons (.int 1) (.cons (.neg (.var 4)) (.cons (.lst (.cons (.tup (.cons (.var 3) (.cons (.neg (.var 4)) .nil))) .nil)) .nil))))) .nil)))))
    .nil)))
/-- 26 -/
def i_rows_of : CS :=
    (.seq (.asg 2 (.disp ["length", "steps", "pace", "quick", "meet", "back"] (.cons (.fnv 19) (.cons (.fnv 20) (.cons (.fnv 21) (.cons (.fnv 22) (.cons (.fnv 24) (.cons (.fnv 25) .nil))))))))
    (.seq (.ret (.callD [19, 20, 21, 22, 24, 25] (.dix (.var 2) (.ix (.var 1) (.int 0))) (.cons (.var 0) (.cons (.var 1) .nil))))
    .nil))
/-- 27 -/
def i_fact_rows : CS :=
    (.seq (.expr (.call 4 (.cons (.var 0) .nil)))
    (.seq (.expr (.call 17 (.cons (.var 0) (.cons (.var 1) .nil))))
    (.seq (.ret (.call 26 (.cons (.var 0) (.cons (.var 1) .nil))))
    .nil)))
/-- 28 -/
def i__law_pick : CS :=
    (.seq (.ifs (.v (.cmp .gt (.ix (.var 0) (.int 0)) (.int 1))) (.seq (.asg 2 (.bin .mod (.blt .int (.cons (.ix (.var 0) (.int 0)) .nil)) (.var 1)))
    (.seq (.sub 0 (.int 0) (.bin .fdiv (.ix (.var 0) (.int 0)) (.var 1)))
    (.seq (.ret (.var 2))
    .nil))) .nil)
    (.seq (.sub 0 (.int 2) (.bin .add (.ix (.var 0) (.int 2)) (.int 1)))
    (.seq (.asg 3 (.bin .mod (.bin .pow (.bin .add (.ix (.var 0) (.int 1)) (.bin .mul (.int 15485867) (.ix (.var 0) (.int 2)))) (.int 5)) (.int 2147483647)))
    (.seq (.asg 2 (.bin .fdiv (.bin .mod (.bin .pow (.bin .add (.var 3) (.bin .mul (.int 7919) (.ix (.var 0) (.int 2)))) (.int 3)) (.int 2147483629)) (.int 32)))
    (.seq (.ret (.bin .mod (.blt .int (.cons (.var 2) .nil)) (.var 1)))
    .nil)))))
/-- 29 -/
def i__law_floor : CS :=
    (.seq (.ret (.bin .fdiv (.ix (.var 0) (.int 0)) (.ix (.var 0) (.int 1))))
    .nil)
/-- 30 -/
def i__law_one : CS :=
    (.seq (.ret (.ix (.var 1) (.call 28 (.cons (.var 0) (.cons (.blt .len (.cons (.var 1) .nil)) .nil)))))
    .nil)
/-- 31 -/
def i__law_ceiling : CS :=
    (.seq (.ret (.neg (.bin .fdiv (.neg (.ix (.var 0) (.int 0))) (.ix (.var 0) (.int 1)))))
    .nil)
/-- 32 -/
def i__law_range : CS :=
    (.seq (.asg 2 (.blt .max2 (.cons (.int 1) (.cons (.bin .sub (.call 29 (.cons (.var 1) .nil)) (.call 30 (.cons (.var 0) (.cons (.lst (.cons (.int 0) (.cons (.int 0) (.cons (.int 1) (.cons (.int 5) .nil))))) .nil)))) .nil))))
    (.seq (.ret (.tup (.cons (.var 2) (.cons (.blt .max2 (.cons (.var 2) (.cons (.bin .add (.call 31 (.cons (.var 1) .nil)) (.call 30 (.cons (.var 0) (.cons (.lst (.cons (.int 0) (.cons (.int 0) (.cons (.int 1) (.cons (.int 7) .nil))))) .nil)))) .nil))) .nil))))
    .nil))
/-- 33 -/
def i__law_low : CS :=
    (.seq (.tasg [2, 3, 4] (.cons (.blt .abs (.cons (.var 0) .nil)) (.cons (.blt .abs (.cons (.var 1) .nil)) (.cons (.ife (.v (.cmp .gt (.var 1) (.int 0))) (.int 1) (.neg (.int 1))) .nil))))
    (.seq (.whl (.v (.cmp .ne (.var 3) (.int 0))) (.seq (.tasg [2, 3] (.cons (.var 3) (.cons (.bin .mod (.var 2) (.var 3)) .nil)))
    .nil))
    (.seq (.ret (.tup (.cons (.bin .fdiv (.bin .mul (.var 4) (.var 0)) (.var 2)) (.cons (.bin .fdiv (.bin .mul (.var 4) (.var 1)) (.var 2)) .nil))))
    .nil)))
/-- 34 -/
def i__law_add : CS :=
    (.seq (.ret (.call 33 (.cons (.bin .add (.bin .mul (.ix (.var 0) (.int 0)) (.ix (.var 1) (.int 1))) (.bin .mul (.ix (.var 1) (.int 0)) (.ix (.var 0) (.int 1)))) (.cons (.bin .mul (.ix (.var 0) (.int 1)) (.ix (.var 1) (.int 1))) .nil))))
    .nil)
/-- 35 -/
def i__law_over : CS :=
    (.seq (.ret (.call 33 (.cons (.bin .mul (.ix (.var 0) (.int 0)) (.ix (.var 1) (.int 1))) (.cons (.bin .mul (.ix (.var 0) (.int 1)) (.ix (.var 1) (.int 0))) .nil))))
    .nil)
/-- 36 -/
def i__law_mul : CS :=
    (.seq (.ret (.call 33 (.cons (.bin .mul (.ix (.var 0) (.int 0)) (.ix (.var 1) (.int 0))) (.cons (.bin .mul (.ix (.var 0) (.int 1)) (.ix (.var 1) (.int 1))) .nil))))
    .nil)
/-- 37 -/
def i__law_taken : CS :=
    (.seq (.tasg [3, 4] (.cons (.ix (.var 0) (.int 0)) (.cons (.ix (.ix (.var 0) (.int 1)) (.var 1)) .nil)))
    (.seq (.asg 5 (.call 34 (.cons (.var 4) (.cons (.ife (.v (.cmp .eq (.var 2) (.str "with"))) (.tup (.cons (.int 1) (.cons (.int 1) .nil))) (.tup (.cons (.neg (.int 1)) (.cons (.int 1) .nil)))) .nil))))
    (.seq (.ret (.ife (.v (.cmp .gt (.ix (.var 5) (.int 0)) (.int 0))) (.call 35 (.cons (.call 36 (.cons (.var 3) (.cons (.var 4) .nil))) (.cons (.var 5) .nil))) .non))
    .nil)))
/-- 38 -/
def i__law_about : CS :=
    (.seq (.asg 2 (.call 30 (.cons (.var 0) (.cons (.lst (.cons (.var 1) (.cons (.call 33 (.cons (.ix (.var 1) (.int 0)) (.cons (.bin .mul (.ix (.var 1) (.int 1)) (.int 2)) .nil))) (.cons (.call 33 (.cons (.bin .mul (.ix (.var 1) (.int 0)) (.int 2)) (.cons (.bin .mul (.ix (.var 1) (.int 1)) (.int 3)) .nil))) .nil)))) .nil))))
    (.seq (.ret (.tup (.cons (.var 2) (.cons (.call 30 (.cons (.var 0) (.cons (.lst (.cons (.var 1) (.cons .non (.cons (.call 33 (.cons (.bin .mul (.ix (.var 1) (.int 0)) (.int 3)) (.cons (.bin .mul (.ix (.var 1) (.int 1)) (.int 2)) .nil))) (.cons (.var 1) .nil))))) .nil))) .nil))))
    .nil))
/-- 39 -/
def i__law_true_fact : CS :=
    (.seq (.tasg [2, 3] (.cons (.blt .len (.cons (.ix (.var 1) (.int 1)) .nil)) (.cons (.call 28 (.cons (.var 0) (.cons (.int 8) .nil))) .nil)))
    (.seq (.asg 4 (.call 28 (.cons (.var 0) (.cons (.var 2) .nil))))
    (.seq (.ifs (.v (.cmp .lt (.var 3) (.int 3))) (.seq (.asg 5 (.call 30 (.cons (.var 0) (.cons (.lst (.cons (.str "with") (.cons (.str "with") (.cons (.str "against") .nil)))) .nil))))
    (.seq (.asg 6 (.call 37 (.cons (.var 1) (.cons (.var 4) (.cons (.var 5) .nil)))))
    (.seq (.ifs (.and_ (.v (.isN false (.var 6))) (.v (.cmp .ge (.ix (.var 6) (.int 0)) (.ix (.var 6) (.int 1))))) (.seq (.unp [7, 8] (.call 32 (.cons (.var 0) (.cons (.var 6) .nil))))
    (.seq (.ret (.tup (.cons (.str "steps") (.cons (.var 4) (.cons (.var 5) (.cons (.var 7) (.cons (.var 8) .nil)))))))
    .nil)) .nil)
    .nil))) .nil)
    (.seq (.ifs (.v (.cmp .lt (.var 3) (.int 5))) (.seq (.unp [7, 8] (.call 38 (.cons (.var 0) (.cons (.ix (.ix (.var 1) (.int 1)) (.var 4)) .nil))))
    (.seq (.ret (.tup (.cons (.str "pace") (.cons (.var 4) (.cons (.var 7) (.cons (.var 8) .nil))))))
    .nil)) .nil)
    (.seq (.ifs (.and_ (.v (.cmp .lt (.var 3) (.int 7))) (.v (.cmp .gt (.var 2) (.int 1)))) (.seq (.asg 9 (.bin .mod (.bin .add (.bin .add (.var 4) (.int 1)) (.call 28 (.cons (.var 0) (.cons (.bin .sub (.var 2) (.int 1)) .nil)))) (.var 2)))
    (.seq (.unp [7, 8] (.call 38 (.cons (.var 0) (.cons (.call 35 (.cons (.ix (.ix (.var 1) (.int 1)) (.var 4)) (.cons (.ix (.ix (.var 1) (.int 1)) (.var 9)) .nil))) .nil))))
    (.seq (.ret (.tup (.cons (.str "quick") (.cons (.var 4) (.cons (.var 9) (.cons (.var 7) (.cons (.var 8) .nil)))))))
    .nil))) .nil)
    (.seq (.unp [7, 8] (.call 32 (.cons (.var 0) (.cons (.ix (.var 1) (.int 0)) .nil))))
    (.seq (.ret (.tup (.cons (.str "length") (.cons (.var 7) (.cons (.call 30 (.cons (.var 0) (.cons (.lst (.cons (.var 8) (.cons (.var 8) (.cons .non .nil)))) .nil))) .nil)))))
    .nil)))))))
/-- 40 -/
def i__law_part : CS :=
    (.seq (.ret (.call 33 (.cons (.bin .add (.int 1) (.call 28 (.cons (.var 0) (.cons (.var 1) .nil)))) (.cons (.bin .add (.int 1) (.call 28 (.cons (.var 0) (.cons (.int 4) .nil)))) .nil))))
    .nil)
/-- 41 -/
def i__law_a_case : CS :=
    (.seq (.asgO 2 (.lst .nil))
    (.seq (.for_ [3] true (.rng (.var 1)) (.seq (.app 2 (.call 30 (.cons (.var 0) (.cons (.lst (.cons (.call 40 (.cons (.var 0) (.cons (.int 9) .nil))) (.cons (.tup (.cons (.int 1) (.cons (.int 1) .nil))) (.cons (.tup (.cons (.int 2) (.cons (.int 1) .nil))) (.cons (.call 40 (.cons (.var 0) (.cons (.int 4) .nil))) .nil))))) .nil))))
    .nil))
    (.seq (.ret (.tup (.cons (.call 33 (.cons (.bin .add (.int 4) (.call 28 (.cons (.var 0) (.cons (.int 60) .nil)))) (.cons (.bin .add (.int 1) (.call 28 (.cons (.var 0) (.cons (.int 2) .nil)))) .nil))) (.cons (.blt .tuple (.cons (.var 2) .nil)) .nil))))
    .nil)))
/-- 42 -/
def i__law_any_fact : CS :=
    (.seq (.tasg [2, 3] (.cons (.call 28 (.cons (.var 0) (.cons (.int 6) .nil))) (.cons (.call 28 (.cons (.var 0) (.cons (.var 1) .nil))) .nil)))
    (.seq (.asg 4 (.bin .mod (.bin .add (.bin .add (.var 3) (.int 1)) (.call 28 (.cons (.var 0) (.cons (.blt .max2 (.cons (.int 1) (.cons (.bin .sub (.var 1) (.int 1)) .nil))) .nil)))) (.var 1)))
    (.seq (.ifs (.v (.cmp .eq (.var 2) (.int 0))) (.seq (.asg 5 (.bin .add (.int 1) (.call 28 (.cons (.var 0) (.cons (.int 9) .nil)))))
    (.seq (.ret (.tup (.cons (.str "back") (.cons (.var 3) (.cons (.var 5) (.cons (.bin .add (.bin .add (.var 5) (.int 1)) (.call 28 (.cons (.var 0) (.cons (.int 12) .nil)))) .nil))))))
    .nil)) .nil)
    (.seq (.ifs (.and_ (.v (.cmp .eq (.var 2) (.int 1))) (.v (.cmp .gt (.var 1) (.int 1)))) (.seq (.ret (.tup (.cons (.str "meet") (.cons (.var 3) (.cons (.var 4) (.cons (.bin .add (.int 1) (.call 28 (.cons (.var 0) (.cons (.int 20) .nil)))) (.cons (.bin .add (.int 1) (.call 28 (.cons (.var 0) (.cons (.int 20) .nil)))) .nil)))))))
    .nil) .nil)
    (.seq (.ret (.call 39 (.cons (.var 0) (.cons (.call 41 (.cons (.var 0) (.cons (.var 1) .nil))) .nil))))
    .nil)))))
/-- 43 -/
def i__law_sort : CS :=
    (.seq (.ifs (.v (.ist (.var 0) .bool)) (.seq (.ret (.int 1))
    .nil) .nil)
    (.seq (.ifs (.v (.ist (.var 0) .int)) (.seq (.ret (.int 2))
    .nil) .nil)
    (.seq (.ifs (.v (.ist (.var 0) .str)) (.seq (.ret (.int 3))
    .nil) .nil)
    (.seq (.ifs (.v (.ist (.var 0) .lst)) (.seq (.ret (.int 4))
    .nil) .nil)
    (.seq (.ret (.ife (.v (.ist (.var 0) .tup)) (.int 5) (.int 6)))
    .nil)))))
/-- 44 -/
def i__law_same_0 : CS :=
    (.seq (.ifs (.v (.cmp .ne (.call 43 (.cons (.var 0) .nil)) (.call 43 (.cons (.var 1) .nil)))) (.seq (.ret (.bl false))
    .nil) .nil)
    (.seq (.ifs (.and_ (.v (.cmp .gt (.call 43 (.cons (.var 0) .nil)) (.int 3))) (.v (.cmp .lt (.call 43 (.cons (.var 0) .nil)) (.int 6)))) (.seq (.ifs (.v (.cmp .ne (.blt .len (.cons (.var 0) .nil)) (.blt .len (.cons (.var 1) .nil)))) (.seq (.ret (.bl false))
    .nil) .nil)
    (.seq (.ret (.cmp .eq (.compC (.var 2) [2, 3] false (.enu (.var 0)) (.nt (.v .bad))) (.lst .nil)))
    .nil)) .nil)
    (.seq (.ret (.cmp .eq (.var 0) (.var 1)))
    .nil)))
/-- 45 -/
def i__law_same_1 : CS :=
    (.seq (.ifs (.v (.cmp .ne (.call 43 (.cons (.var 0) .nil)) (.call 43 (.cons (.var 1) .nil)))) (.seq (.ret (.bl false))
    .nil) .nil)
    (.seq (.ifs (.and_ (.v (.cmp .gt (.call 43 (.cons (.var 0) .nil)) (.int 3))) (.v (.cmp .lt (.call 43 (.cons (.var 0) .nil)) (.int 6)))) (.seq (.ifs (.v (.cmp .ne (.blt .len (.cons (.var 0) .nil)) (.blt .len (.cons (.var 1) .nil)))) (.seq (.ret (.bl false))
    .nil) .nil)
    (.seq (.ret (.cmp .eq (.compC (.var 2) [2, 3] false (.enu (.var 0)) (.nt (.v (.call 44 (.cons (.var 3) (.cons (.ix (.var 1) (.var 2)) .nil)))))) (.lst .nil)))
    .nil)) .nil)
    (.seq (.ret (.cmp .eq (.var 0) (.var 1)))
    .nil)))
/-- 46 -/
def i__law_same_2 : CS :=
    (.seq (.ifs (.v (.cmp .ne (.call 43 (.cons (.var 0) .nil)) (.call 43 (.cons (.var 1) .nil)))) (.seq (.ret (.bl false))
    .nil) .nil)
    (.seq (.ifs (.and_ (.v (.cmp .gt (.call 43 (.cons (.var 0) .nil)) (.int 3))) (.v (.cmp .lt (.call 43 (.cons (.var 0) .nil)) (.int 6)))) (.seq (.ifs (.v (.cmp .ne (.blt .len (.cons (.var 0) .nil)) (.blt .len (.cons (.var 1) .nil)))) (.seq (.ret (.bl false))
    .nil) .nil)
    (.seq (.ret (.cmp .eq (.compC (.var 2) [2, 3] false (.enu (.var 0)) (.nt (.v (.call 45 (.cons (.var 3) (.cons (.ix (.var 1) (.var 2)) .nil)))))) (.lst .nil)))
    .nil)) .nil)
    (.seq (.ret (.cmp .eq (.var 0) (.var 1)))
    .nil)))
/-- 47 -/
def i__law_same_3 : CS :=
    (.seq (.ifs (.v (.cmp .ne (.call 43 (.cons (.var 0) .nil)) (.call 43 (.cons (.var 1) .nil)))) (.seq (.ret (.bl false))
    .nil) .nil)
    (.seq (.ifs (.and_ (.v (.cmp .gt (.call 43 (.cons (.var 0) .nil)) (.int 3))) (.v (.cmp .lt (.call 43 (.cons (.var 0) .nil)) (.int 6)))) (.seq (.ifs (.v (.cmp .ne (.blt .len (.cons (.var 0) .nil)) (.blt .len (.cons (.var 1) .nil)))) (.seq (.ret (.bl false))
    .nil) .nil)
    (.seq (.ret (.cmp .eq (.compC (.var 2) [2, 3] false (.enu (.var 0)) (.nt (.v (.call 46 (.cons (.var 3) (.cons (.ix (.var 1) (.var 2)) .nil)))))) (.lst .nil)))
    .nil)) .nil)
    (.seq (.ret (.cmp .eq (.var 0) (.var 1)))
    .nil)))
/-- 48 -/
def i__law_same_4 : CS :=
    (.seq (.ifs (.v (.cmp .ne (.call 43 (.cons (.var 0) .nil)) (.call 43 (.cons (.var 1) .nil)))) (.seq (.ret (.bl false))
    .nil) .nil)
    (.seq (.ifs (.and_ (.v (.cmp .gt (.call 43 (.cons (.var 0) .nil)) (.int 3))) (.v (.cmp .lt (.call 43 (.cons (.var 0) .nil)) (.int 6)))) (.seq (.ifs (.v (.cmp .ne (.blt .len (.cons (.var 0) .nil)) (.blt .len (.cons (.var 1) .nil)))) (.seq (.ret (.bl false))
    .nil) .nil)
    (.seq (.ret (.cmp .eq (.compC (.var 2) [2, 3] false (.enu (.var 0)) (.nt (.v (.call 47 (.cons (.var 3) (.cons (.ix (.var 1) (.var 2)) .nil)))))) (.lst .nil)))
    .nil)) .nil)
    (.seq (.ret (.cmp .eq (.var 0) (.var 1)))
    .nil)))
/-- 49 -/
def i__law_same_5 : CS :=
    (.seq (.ifs (.v (.cmp .ne (.call 43 (.cons (.var 0) .nil)) (.call 43 (.cons (.var 1) .nil)))) (.seq (.ret (.bl false))
    .nil) .nil)
    (.seq (.ifs (.and_ (.v (.cmp .gt (.call 43 (.cons (.var 0) .nil)) (.int 3))) (.v (.cmp .lt (.call 43 (.cons (.var 0) .nil)) (.int 6)))) (.seq (.ifs (.v (.cmp .ne (.blt .len (.cons (.var 0) .nil)) (.blt .len (.cons (.var 1) .nil)))) (.seq (.ret (.bl false))
    .nil) .nil)
    (.seq (.ret (.cmp .eq (.compC (.var 2) [2, 3] false (.enu (.var 0)) (.nt (.v (.call 48 (.cons (.var 3) (.cons (.ix (.var 1) (.var 2)) .nil)))))) (.lst .nil)))
    .nil)) .nil)
    (.seq (.ret (.cmp .eq (.var 0) (.var 1)))
    .nil)))
/-- 50 -/
def i__law_same_6 : CS :=
    (.seq (.ifs (.v (.cmp .ne (.call 43 (.cons (.var 0) .nil)) (.call 43 (.cons (.var 1) .nil)))) (.seq (.ret (.bl false))
    .nil) .nil)
    (.seq (.ifs (.and_ (.v (.cmp .gt (.call 43 (.cons (.var 0) .nil)) (.int 3))) (.v (.cmp .lt (.call 43 (.cons (.var 0) .nil)) (.int 6)))) (.seq (.ifs (.v (.cmp .ne (.blt .len (.cons (.var 0) .nil)) (.blt .len (.cons (.var 1) .nil)))) (.seq (.ret (.bl false))
    .nil) .nil)
    (.seq (.ret (.cmp .eq (.compC (.var 2) [2, 3] false (.enu (.var 0)) (.nt (.v (.call 49 (.cons (.var 3) (.cons (.ix (.var 1) (.var 2)) .nil)))))) (.lst .nil)))
    .nil)) .nil)
    (.seq (.ret (.cmp .eq (.var 0) (.var 1)))
    .nil)))
/-- 51 -/
def i__law_same_7 : CS :=
    (.seq (.ifs (.v (.cmp .ne (.call 43 (.cons (.var 0) .nil)) (.call 43 (.cons (.var 1) .nil)))) (.seq (.ret (.bl false))
    .nil) .nil)
    (.seq (.ifs (.and_ (.v (.cmp .gt (.call 43 (.cons (.var 0) .nil)) (.int 3))) (.v (.cmp .lt (.call 43 (.cons (.var 0) .nil)) (.int 6)))) (.seq (.ifs (.v (.cmp .ne (.blt .len (.cons (.var 0) .nil)) (.blt .len (.cons (.var 1) .nil)))) (.seq (.ret (.bl false))
    .nil) .nil)
    (.seq (.ret (.cmp .eq (.compC (.var 2) [2, 3] false (.enu (.var 0)) (.nt (.v (.call 50 (.cons (.var 3) (.cons (.ix (.var 1) (.var 2)) .nil)))))) (.lst .nil)))
    .nil)) .nil)
    (.seq (.ret (.cmp .eq (.var 0) (.var 1)))
    .nil)))
/-- 52 -/
def i__law_parts_of : CS :=
    (.seq (.asgO 2 (.bin .mul (.lst (.cons (.int 0) .nil)) (.bin .add (.int 2) (.var 0))))
    (.seq (.for_ [3, 4] false (.seq (.var 1)) (.seq (.sub 2 (.var 3) (.bin .add (.ix (.var 2) (.var 3)) (.var 4)))
    .nil))
    (.seq (.ret (.blt .tuple (.cons (.var 2) .nil)))
    .nil)))
/-- 53 -/
def i__law_lines : CS :=
    (.seq (.tasg [2, 3] (.cons (.ix (.var 1) (.int 0)) (.cons (.lst .nil) .nil)))
    (.seq (.ifs (.v (.cmp .eq (.var 2) (.str "length"))) (.seq (.app 3 (.lst (.cons (.tup (.cons (.int 0) (.cons (.int 1) .nil))) (.cons (.tup (.cons (.int 1) (.cons (.neg (.ix (.var 1) (.int 1))) .nil))) .nil))))
    (.seq (.ifs (.v (.isN false (.ix (.var 1) (.int 2)))) (.seq (.app 3 (.lst (.cons (.tup (.cons (.int 0) (.cons (.neg (.int 1)) .nil))) (.cons (.tup (.cons (.int 1) (.cons (.ix (.var 1) (.int 2)) .nil))) .nil))))
    .nil) .nil)
    .nil)) (.seq (.ifs (.v (.cmp .eq (.var 2) (.str "steps"))) (.seq (.tasg [4, 5] (.cons (.ife (.v (.cmp .eq (.ix (.var 1) (.int 2)) (.str "with"))) (.int 1) (.neg (.int 1))) (.cons (.bin .add (.int 2) (.ix (.var 1) (.int 1))) .nil)))
    (.seq (.unp [6, 7] (.slL (.var 1) (.int 3)))
    (.seq (.asgO 3 (.lst (.cons (.lst (.cons (.tup (.cons (.int 0) (.cons (.int 1) .nil))) (.cons (.tup (.cons (.int 1) (.cons (.neg (.var 6)) .nil))) (.cons (.tup (.cons (.var 5) (.cons (.bin .mul (.neg (.var 4)) (.var 6)) .nil))) .nil)))) (.cons (.lst (.cons (.tup (.cons (.int 0) (.cons (.neg (.int 1)) .nil))) (.cons (.tup (.cons (.int 1) (.cons (.var 7) .nil))) (.cons (.tup (.cons (.var 5) (.cons (.bin .mul (.var 4) (.var 7)) .nil))) .nil)))) .nil))))
    .nil))) (.seq (.ifs (.or_ (.v (.cmp .eq (.var 2) (.str "pace"))) (.v (.cmp .eq (.var 2) (.str "quick")))) (.seq (.tasg [8, 5] (.cons (.ife (.v (.cmp .eq (.var 2) (.str "pace"))) (.int 1) (.bin .add (.int 2) (.ix (.var 1) (.int 2)))) (.cons (.bin .add (.int 2) (.ix (.var 1) (.int 1))) .nil)))
    (.seq (.unp [6, 7] (.slL (.var 1) (.neg (.int 2))))
    (.seq (.app 3 (.lst (.cons (.tup (.cons (.var 8) (.cons (.ix (.var 6) (.int 1)) .nil))) (.cons (.tup (.cons (.var 5) (.cons (.neg (.ix (.var 6) (.int 0))) .nil))) .nil))))
    (.seq (.ifs (.v (.isN false (.var 7))) (.seq (.app 3 (.lst (.cons (.tup (.cons (.var 8) (.cons (.neg (.ix (.var 7) (.int 1))) .nil))) (.cons (.tup (.cons (.var 5) (.cons (.ix (.var 7) (.int 0)) .nil))) .nil))))
    .nil) .nil)
    .nil)))) (.seq (.ifs (.v (.cmp .eq (.var 2) (.str "meet"))) (.seq (.tasg [9, 10] (.cons (.bin .add (.int 2) (.ix (.var 1) (.int 1))) (.cons (.bin .add (.int 2) (.ix (.var 1) (.int 2))) .nil)))
    (.seq (.unp [11, 12] (.slL (.var 1) (.int 3)))
    (.seq (.app 3 (.lst (.cons (.tup (.cons (.int 0) (.cons (.neg (.int 1)) .nil))) (.cons (.tup (.cons (.int 1) (.cons (.bin .add (.var 11) (.var 12)) .nil))) .nil))))
    (.seq (.app 3 (.lst (.cons (.tup (.cons (.int 0) (.cons (.int 1) .nil))) (.cons (.tup (.cons (.int 1) (.cons (.bin .sub (.neg (.var 11)) (.var 12)) .nil))) .nil))))
    (.seq (.app 3 (.lst (.cons (.tup (.cons (.var 10) (.cons (.var 12) .nil))) (.cons (.tup (.cons (.var 9) (.cons (.neg (.var 11)) .nil))) .nil))))
    (.seq (.asgO 3 (.bin .add (.var 3) (.lst (.cons (.lst (.cons (.tup (.cons (.var 10) (.cons (.neg (.var 12)) .nil))) (.cons (.tup (.cons (.var 9) (.cons (.var 11) .nil))) .nil))) (.cons (.lst (.cons (.tup (.cons (.int 1) (.cons (.int 1) .nil))) (.cons (.tup (.cons (.var 10) (.cons (.neg (.int 1)) .nil))) .nil))) .nil)))))
    .nil)))))) (.seq (.tasg [5, 13, 14] (.cons (.bin .add (.int 2) (.ix (.var 1) (.int 1))) (.cons (.ix (.var 1) (.int 2)) (.cons (.ix (.var 1) (.int 3)) .nil))))
    (.seq (.asgO 3 (.lst (.cons (.lst (.cons (.tup (.cons (.int 1) (.cons (.bin .sub (.var 14) (.var 13)) .nil))) (.cons (.tup (.cons (.var 5) (.cons (.bin .sub (.neg (.var 14)) (.var 13)) .nil))) .nil))) (.cons (.lst (.cons (.tup (.cons (.int 1) (.cons (.bin .sub (.var 13) (.var 14)) .nil))) (.cons (.tup (.cons (.var 5) (.cons (.bin .add (.var 14) (.var 13)) .nil))) .nil))) .nil))))
    (.seq (.app 3 (.lst (.cons (.tup (.cons (.int 0) (.cons (.int 1) .nil))) (.cons (.tup (.cons (.int 1) (.cons (.neg (.var 13)) .nil))) (.cons (.tup (.cons (.var 5) (.cons (.neg (.var 13)) .nil))) .nil)))))
    .nil))))
    .nil))
    .nil))
    .nil))
    (.seq (.ret (.comp (.call 52 (.cons (.var 0) (.cons (.var 15) .nil))) [15] true (.seq (.var 3))))
    .nil)))
/-- 54 -/
def i_law_k02 : CS :=
    (.seq (.for_ [1] true (.seq (.slH (.bin .add (.lst (.cons (.int 0) .nil)) (.var 0)) (.int 10))) (.seq (.asgO 2 (.call 1 (.cons (.var 1) (.cons (.int 2) .nil))))
    (.seq (.asg 3 (.bin .add (.int 1) (.call 28 (.cons (.var 2) (.cons (.int 3) .nil)))))
    (.seq (.for_ [4] true (.rng (.int 12)) (.seq (.asg 5 (.call 42 (.cons (.var 2) (.cons (.var 3) .nil))))
    (.seq (.for_ [6] true (.rng (.int 2)) (.seq (.asgO 7 (.call 27 (.cons (.var 3) (.cons (.var 5) .nil))))
    (.seq (.ifs (.nt (.v (.call 51 (.cons (.var 7) (.cons (.call 53 (.cons (.var 3) (.cons (.var 5) .nil))) .nil))))) (.seq (.ret (.bl false))
    .nil) .nil)
    (.seq (.app 7 .non)
    .nil))))
    .nil)))
    (.seq (.for_ [8] true (.seq (.lst (.cons .non (.cons (.int 0) (.cons (.int 4) (.cons (.bl true) .nil)))))) (.seq (.ifs (.v (.cmp .ne (.tryL (.call 27 (.cons (.var 8) (.cons .non .nil)))) (.str "number +"))) (.seq (.ret (.bl false))
    .nil) .nil)
    .nil))
    (.seq (.for_ [8] true (.seq (.lst (.cons .non (.cons (.tup .nil) (.cons (.tup (.cons (.str "length") (.cons (.int 2) .nil))) (.cons (.tup (.cons (.str "pace") (.cons (.int 3) (.cons (.tup (.cons (.int 1) (.cons (.int 1) .nil))) (.cons .non .nil))))) (.cons (.blt .list (.cons (.var 5) .nil)) .nil))))))) (.seq (.ifs (.v (.cmp .ne (.tryL (.call 27 (.cons (.var 3) (.cons (.var 8) .nil)))) (.str "fact +"))) (.seq (.ret (.bl false))
    .nil) .nil)
    .nil))
    .nil))))))
    (.seq (.unp [9, 10, 11, 12, 13] (.call 0 .nil))
    (.seq (.ifs (.v (.cmp .ne (.call 27 (.cons (.int 1) (.cons (.tup (.cons (.str "steps") (.cons (.int 0) (.cons (.str "with") (.cons (.int 10) (.cons (.int 12) .nil)))))) .nil))) (.lst (.cons (.tup (.cons (.int 1) (.cons (.neg (.int 10)) (.cons (.neg (.int 10)) .nil)))) (.cons (.tup (.cons (.neg (.int 1)) (.cons (.int 12) (.cons (.int 12) .nil)))) .nil))))) (.seq (.ret (.bl false))
    .nil) .nil)
    (.seq (.ifs (.v (.cmp .ne (.call 27 (.cons (.int 1) (.cons (.tup (.cons (.str "steps") (.cons (.int 0) (.cons (.str "against") (.cons (.int 10) (.cons (.int 12) .nil)))))) .nil))) (.lst (.cons (.tup (.cons (.int 1) (.cons (.neg (.int 10)) (.cons (.int 10) .nil)))) (.cons (.tup (.cons (.neg (.int 1)) (.cons (.int 12) (.cons (.neg (.int 12)) .nil)))) .nil))))) (.seq (.ret (.bl false))
    .nil) .nil)
    (.seq (.asg 14 (.lst (.cons (.tup (.cons (.neg (.int 1)) (.cons (.int 30) (.cons (.int 0) (.cons (.int 0) .nil))))) (.cons (.tup (.cons (.int 1) (.cons (.neg (.int 30)) (.cons (.int 0) (.cons (.int 0) .nil))))) (.cons (.tup (.cons (.int 0) (.cons (.int 0) (.cons (.neg (.int 12)) (.cons (.int 18) .nil))))) (.cons (.tup (.cons (.int 0) (.cons (.int 0) (.cons (.int 12) (.cons (.neg (.int 18)) .nil))))) (.cons (.tup (.cons (.int 0) (.cons (.int 1) (.cons (.int 0) (.cons (.neg (.int 1)) .nil))))) .nil)))))))
    (.seq (.ifs (.or_ (.v (.cmp .ne (.call 27 (.cons (.int 2) (.cons (.ix (.var 12) (.int 0)) .nil))) (.var 14))) (.v (.cmp .ne (.call 27 (.cons (.int 1) (.cons (.ix (.var 13) (.int 0)) .nil))) (.lst (.cons (.tup (.cons (.int 0) (.cons (.int 8) (.cons (.neg (.int 16)) .nil)))) (.cons (.tup (.cons (.int 0) (.cons (.neg (.int 8)) (.cons (.int 16) .nil)))) (.cons (.tup (.cons (.int 1) (.cons (.neg (.int 4)) (.cons (.neg (.int 4)) .nil)))) .nil))))))) (.seq (.ret (.bl false))
    .nil) .nil)
    (.seq (.ifs (.v (.cmp .ne (.call 27 (.cons (.int 2) (.cons (.tup (.cons (.str "pace") (.cons (.int 1) (.cons (.tup (.cons (.int 1) (.cons (.int 2) .nil))) (.cons (.tup (.cons (.int 3) (.cons (.int 4) .nil))) .nil))))) .nil))) (.lst (.cons (.tup (.cons (.int 0) (.cons (.int 2) (.cons (.int 0) (.cons (.neg (.int 1)) .nil))))) (.cons (.tup (.cons (.int 0) (.cons (.neg (.int 4)) (.cons (.int 0) (.cons (.int 3) .nil))))) .nil))))) (.seq (.ret (.bl false))
    .nil) .nil)
    (.seq (.ifs (.v (.cmp .ne (.call 27 (.cons (.int 1) (.cons (.tup (.cons (.str "length") (.cons (.int 5) (.cons .non .nil)))) .nil))) (.lst (.cons (.tup (.cons (.int 1) (.cons (.neg (.int 5)) (.cons (.int 0) .nil)))) .nil)))) (.seq (.ret (.bl false))
    .nil) .nil)
    (.seq (.ret (.cmp .eq (.call 27 (.cons (.int 3) (.cons (.tup (.cons (.str "quick") (.cons (.int 2) (.cons (.int 0) (.cons (.tup (.cons (.int 1) (.cons (.int 2) .nil))) (.cons (.tup (.cons (.int 3) (.cons (.int 4) .nil))) .nil)))))) .nil))) (.lst (.cons (.tup (.cons (.int 0) (.cons (.int 0) (.cons (.int 2) (.cons (.int 0) (.cons (.neg (.int 1)) .nil)))))) (.cons (.tup (.cons (.int 0) (.cons (.int 0) (.cons (.neg (.int 4)) (.cons (.int 0) (.cons (.int 3) .nil)))))) .nil)))))
    .nil)))))))))
/-- 55 -/
def i_is_fact : CS :=
    (.seq (.expr (.call 4 (.cons (.var 0) .nil)))
    (.seq (.ret (.call 16 (.cons (.var 0) (.cons (.var 1) .nil))))
    .nil))
/-- 56 -/
def i_are_facts_value : CS :=
    (.seq (.ret (.and_ (.call 10 (.cons (.var 1) (.cons (.int 0) (.cons (.cst 3) .nil)))) (.blt .all (.cons (.comp (.call 16 (.cons (.var 0) (.cons (.var 2) .nil))) [2] true (.seq (.var 1))) .nil))))
    .nil)
/-- 57 -/
def i_are_facts : CS :=
    (.seq (.expr (.call 4 (.cons (.var 0) .nil)))
    (.seq (.ret (.call 56 (.cons (.var 0) (.cons (.var 1) .nil))))
    .nil))
/-- 58 -/
def i__law_written_k01 : CS :=
    (.seq (.unp [0, 1, 2, 3, 4] (.call 0 .nil))
    (.seq (.asg 5 (.lst (.cons (.ix (.var 0) (.int 0)) (.cons (.tup (.cons (.str "length") (.cons (.int 5) (.cons .non .nil)))) (.cons (.tup (.cons (.str "length") (.cons (.int 5) (.cons (.int 4) .nil)))) (.cons (.tup (.cons (.str "pace") (.cons (.int 0) (.cons (.tup (.cons (.int 2) (.cons (.int 4) .nil))) (.cons .non .nil))))) (.cons (.tup (.cons (.str "back") (.cons (.int 0) (.cons (.int 4) (.cons (.int 4) .nil))))) (.cons (.ix (.var 3) (.int 0)) .nil))))))))
    (.seq (.ifs (.v (.cmp .ne (.comp (.call 55 (.cons (.int 1) (.cons (.var 6) .nil))) [6] true (.seq (.var 5))) (.lst (.cons (.bl true) (.cons (.bl true) (.cons (.bl false) (.cons (.bl false) (.cons (.bl false) (.cons (.bl false) .nil))))))))) (.seq (.ret (.bl false))
    .nil) .nil)
    (.seq (.asg 5 (.lst (.cons (.ix (.var 3) (.int 0)) (.cons (.tup (.cons (.str "meet") (.cons (.int 0) (.cons (.int 0) (.cons (.int 5) (.cons (.int 5) .nil)))))) (.cons (.tup (.cons (.str "quick") (.cons (.int 1) (.cons (.int 0) (.cons (.tup (.cons (.int 1) (.cons (.int 2) .nil))) (.cons (.tup (.cons (.int 1) (.cons (.int 2) .nil))) .nil)))))) (.cons (.tup (.cons (.str "quick") (.cons (.int 1) (.cons (.int 1) (.cons (.tup (.cons (.int 1) (.cons (.int 2) .nil))) (.cons .non .nil)))))) .nil))))))
    (.seq (.asg 5 (.bin .add (.var 5) (.lst (.cons (.tup (.cons (.str "pace") (.cons (.int 1) (.cons (.tup (.cons (.int 2) (.cons (.int 1) .nil))) (.cons (.tup (.cons (.int 1) (.cons (.int 1) .nil))) .nil))))) (.cons (.tup (.cons (.str "steps") (.cons (.int 1) (.cons (.str "up") (.cons (.int 1) (.cons (.int 2) .nil)))))) (.cons (.tup (.cons (.str "steps") (.cons (.int 1) (.cons (.str "with") (.cons (.int 1) (.cons .non .nil)))))) .nil))))))
    (.seq (.ifs (.v (.cmp .ne (.comp (.call 55 (.cons (.int 2) (.cons (.var 6) .nil))) [6] true (.seq (.var 5))) (.lst (.cons (.bl true) (.cons (.bl false) (.cons (.bl true) (.cons (.bl false) (.cons (.bl false) (.cons (.bl false) (.cons (.bl false) .nil)))))))))) (.seq (.ret (.bl false))
    .nil) .nil)
    (.seq (.ret (.cmp .eq (.comp (.call 57 (.cons (.int 1) (.cons (.var 7) .nil))) [7] true (.seq (.tup (.cons (.tup .nil) (.cons (.var 0) (.cons (.bin .mul (.var 1) (.int 6)) (.cons (.bin .mul (.var 1) (.int 7)) (.cons (.blt .list (.cons (.var 0) .nil)) (.cons (.var 3) .nil))))))))) (.bin .add (.bin .mul (.lst (.cons (.bl true) .nil)) (.int 3)) (.bin .mul (.lst (.cons (.bl false) .nil)) (.int 3)))))
    .nil)))))))
/-- 59 -/
def i__law_some_facts : CS :=
    (.seq (.asg 3 (.call 41 (.cons (.var 0) (.cons (.var 1) .nil))))
    (.seq (.asgO 4 (.lst .nil))
    (.seq (.for_ [5] true (.rng (.call 28 (.cons (.var 0) (.cons (.bin .add (.var 2) (.int 1)) .nil)))) (.seq (.app 4 (.ife (.v (.cmp .gt (.call 28 (.cons (.var 0) (.cons (.int 8) .nil))) (.int 0))) (.call 39 (.cons (.var 0) (.cons (.var 3) .nil))) (.call 42 (.cons (.var 0) (.cons (.var 1) .nil)))))
    .nil))
    (.seq (.ret (.blt .tuple (.cons (.var 4) .nil)))
    .nil))))
/-- 60 -/
def i__law_whole : CS :=
    (.seq (.ret (.and_ (.ist (.var 0) .int) (.nt (.ist (.var 0) .bool))))
    .nil)
/-- 61 -/
def i__law_spoilt_0 : CS :=
    (.seq (.ifs (.and_ (.v (.isT (.var 1) [.tup, .lst])) (.and_ (.v (.cmp .gt (.blt .len (.cons (.var 1) .nil)) (.int 0))) (.v (.cmp .gt (.call 28 (.cons (.var 0) (.cons (.int 7) .nil))) (.int 0))))) (.seq (.asgO 2 (.blt .list (.cons (.var 1) .nil)))
    (.seq (.asg 3 (.call 28 (.cons (.var 0) (.cons (.blt .len (.cons (.var 2) .nil)) .nil))))
    (.seq (.sub 2 (.var 3) .bad)
    (.seq (.ret (.ife (.v (.ist (.var 1) .tup)) (.blt .tuple (.cons (.var 2) .nil)) (.var 2)))
    .nil)))) .nil)
    (.seq (.ifs (.v (.isT (.var 1) [.tup, .lst])) (.seq (.asg 4 (.ife (.v (.ist (.var 1) .tup)) (.blt .list (.cons (.var 1) .nil)) (.blt .tuple (.cons (.var 1) .nil))))
    (.seq (.asg 5 (.lst (.cons (.var 4) (.cons (.bin .add (.var 1) (.slH (.var 1) (.int 1))) (.cons (.slL (.var 1) (.int 1)) .nil)))))
    (.seq (.ret (.call 30 (.cons (.var 0) (.cons (.bin .add (.var 5) (.lst (.cons (.rev (.var 1)) (.cons (.tup (.cons (.int 2) (.cons (.int 4) .nil))) (.cons .non .nil))))) .nil))))
    .nil))) .nil)
    (.seq (.ifs (.v (.ist (.var 1) .str)) (.seq (.asg 5 (.lst (.cons (.str "with") (.cons (.str "against") (.cons (.str "length") (.cons (.str "steps") (.cons (.str "pace") .nil)))))))
    (.seq (.ret (.call 30 (.cons (.var 0) (.cons (.bin .add (.var 5) (.lst (.cons (.str "quick") (.cons (.str "meet") (.cons (.str "back") (.cons (.str "") (.cons (.int 0) .nil))))))) .nil))))
    .nil)) .nil)
    (.seq (.ifs (.v (.call 60 (.cons (.var 1) .nil))) (.seq (.asg 5 (.lst (.cons (.neg (.var 1)) (.cons (.bin .add (.var 1) (.int 1)) (.cons (.bin .sub (.var 1) (.int 1)) (.cons (.int 0) (.cons (.bl true) .nil)))))))
    (.seq (.ret (.call 30 (.cons (.var 0) (.cons (.bin .add (.var 5) (.lst (.cons .non (.cons (.str "1") (.cons (.bin .add (.bin .pow (.int 10) (.int 12)) (.int 1)) (.cons (.bin .add (.bin .pow (.int 10) (.int 30)) (.int 1)) .nil)))))) .nil))))
    .nil)) .nil)
    (.seq (.ret (.call 30 (.cons (.var 0) (.cons (.lst (.cons .non (.cons (.int 0) (.cons (.str "x") (.cons (.tup .nil) (.cons (.lst .nil) (.cons (.bl true) (.cons (.tup (.cons (.int 1) (.cons (.int 1) .nil))) (.cons (.int 7) .nil))))))))) .nil))))
    .nil)))))
/-- 62 -/
def i__law_spoilt_1 : CS :=
    (.seq (.ifs (.and_ (.v (.isT (.var 1) [.tup, .lst])) (.and_ (.v (.cmp .gt (.blt .len (.cons (.var 1) .nil)) (.int 0))) (.v (.cmp .gt (.call 28 (.cons (.var 0) (.cons (.int 7) .nil))) (.int 0))))) (.seq (.asgO 2 (.blt .list (.cons (.var 1) .nil)))
    (.seq (.asg 3 (.call 28 (.cons (.var 0) (.cons (.blt .len (.cons (.var 2) .nil)) .nil))))
    (.seq (.sub 2 (.var 3) (.call 61 (.cons (.var 0) (.cons (.ix (.var 2) (.var 3)) .nil))))
    (.seq (.ret (.ife (.v (.ist (.var 1) .tup)) (.blt .tuple (.cons (.var 2) .nil)) (.var 2)))
    .nil)))) .nil)
    (.seq (.ifs (.v (.isT (.var 1) [.tup, .lst])) (.seq (.asg 4 (.ife (.v (.ist (.var 1) .tup)) (.blt .list (.cons (.var 1) .nil)) (.blt .tuple (.cons (.var 1) .nil))))
    (.seq (.asg 5 (.lst (.cons (.var 4) (.cons (.bin .add (.var 1) (.slH (.var 1) (.int 1))) (.cons (.slL (.var 1) (.int 1)) .nil)))))
    (.seq (.ret (.call 30 (.cons (.var 0) (.cons (.bin .add (.var 5) (.lst (.cons (.rev (.var 1)) (.cons (.tup (.cons (.int 2) (.cons (.int 4) .nil))) (.cons .non .nil))))) .nil))))
    .nil))) .nil)
    (.seq (.ifs (.v (.ist (.var 1) .str)) (.seq (.asg 5 (.lst (.cons (.str "with") (.cons (.str "against") (.cons (.str "length") (.cons (.str "steps") (.cons (.str "pace") .nil)))))))
    (.seq (.ret (.call 30 (.cons (.var 0) (.cons (.bin .add (.var 5) (.lst (.cons (.str "quick") (.cons (.str "meet") (.cons (.str "back") (.cons (.str "") (.cons (.int 0) .nil))))))) .nil))))
    .nil)) .nil)
    (.seq (.ifs (.v (.call 60 (.cons (.var 1) .nil))) (.seq (.asg 5 (.lst (.cons (.neg (.var 1)) (.cons (.bin .add (.var 1) (.int 1)) (.cons (.bin .sub (.var 1) (.int 1)) (.cons (.int 0) (.cons (.bl true) .nil)))))))
    (.seq (.ret (.call 30 (.cons (.var 0) (.cons (.bin .add (.var 5) (.lst (.cons .non (.cons (.str "1") (.cons (.bin .add (.bin .pow (.int 10) (.int 12)) (.int 1)) (.cons (.bin .add (.bin .pow (.int 10) (.int 30)) (.int 1)) .nil)))))) .nil))))
    .nil)) .nil)
    (.seq (.ret (.call 30 (.cons (.var 0) (.cons (.lst (.cons .non (.cons (.int 0) (.cons (.str "x") (.cons (.tup .nil) (.cons (.lst .nil) (.cons (.bl true) (.cons (.tup (.cons (.int 1) (.cons (.int 1) .nil))) (.cons (.int 7) .nil))))))))) .nil))))
    .nil)))))
/-- 63 -/
def i__law_spoilt_2 : CS :=
    (.seq (.ifs (.and_ (.v (.isT (.var 1) [.tup, .lst])) (.and_ (.v (.cmp .gt (.blt .len (.cons (.var 1) .nil)) (.int 0))) (.v (.cmp .gt (.call 28 (.cons (.var 0) (.cons (.int 7) .nil))) (.int 0))))) (.seq (.asgO 2 (.blt .list (.cons (.var 1) .nil)))
    (.seq (.asg 3 (.call 28 (.cons (.var 0) (.cons (.blt .len (.cons (.var 2) .nil)) .nil))))
    (.seq (.sub 2 (.var 3) (.call 62 (.cons (.var 0) (.cons (.ix (.var 2) (.var 3)) .nil))))
    (.seq (.ret (.ife (.v (.ist (.var 1) .tup)) (.blt .tuple (.cons (.var 2) .nil)) (.var 2)))
    .nil)))) .nil)
    (.seq (.ifs (.v (.isT (.var 1) [.tup, .lst])) (.seq (.asg 4 (.ife (.v (.ist (.var 1) .tup)) (.blt .list (.cons (.var 1) .nil)) (.blt .tuple (.cons (.var 1) .nil))))
    (.seq (.asg 5 (.lst (.cons (.var 4) (.cons (.bin .add (.var 1) (.slH (.var 1) (.int 1))) (.cons (.slL (.var 1) (.int 1)) .nil)))))
    (.seq (.ret (.call 30 (.cons (.var 0) (.cons (.bin .add (.var 5) (.lst (.cons (.rev (.var 1)) (.cons (.tup (.cons (.int 2) (.cons (.int 4) .nil))) (.cons .non .nil))))) .nil))))
    .nil))) .nil)
    (.seq (.ifs (.v (.ist (.var 1) .str)) (.seq (.asg 5 (.lst (.cons (.str "with") (.cons (.str "against") (.cons (.str "length") (.cons (.str "steps") (.cons (.str "pace") .nil)))))))
    (.seq (.ret (.call 30 (.cons (.var 0) (.cons (.bin .add (.var 5) (.lst (.cons (.str "quick") (.cons (.str "meet") (.cons (.str "back") (.cons (.str "") (.cons (.int 0) .nil))))))) .nil))))
    .nil)) .nil)
    (.seq (.ifs (.v (.call 60 (.cons (.var 1) .nil))) (.seq (.asg 5 (.lst (.cons (.neg (.var 1)) (.cons (.bin .add (.var 1) (.int 1)) (.cons (.bin .sub (.var 1) (.int 1)) (.cons (.int 0) (.cons (.bl true) .nil)))))))
    (.seq (.ret (.call 30 (.cons (.var 0) (.cons (.bin .add (.var 5) (.lst (.cons .non (.cons (.str "1") (.cons (.bin .add (.bin .pow (.int 10) (.int 12)) (.int 1)) (.cons (.bin .add (.bin .pow (.int 10) (.int 30)) (.int 1)) .nil)))))) .nil))))
    .nil)) .nil)
    (.seq (.ret (.call 30 (.cons (.var 0) (.cons (.lst (.cons .non (.cons (.int 0) (.cons (.str "x") (.cons (.tup .nil) (.cons (.lst .nil) (.cons (.bl true) (.cons (.tup (.cons (.int 1) (.cons (.int 1) .nil))) (.cons (.int 7) .nil))))))))) .nil))))
    .nil)))))
/-- 64 -/
def i__law_spoilt_3 : CS :=
    (.seq (.ifs (.and_ (.v (.isT (.var 1) [.tup, .lst])) (.and_ (.v (.cmp .gt (.blt .len (.cons (.var 1) .nil)) (.int 0))) (.v (.cmp .gt (.call 28 (.cons (.var 0) (.cons (.int 7) .nil))) (.int 0))))) (.seq (.asgO 2 (.blt .list (.cons (.var 1) .nil)))
    (.seq (.asg 3 (.call 28 (.cons (.var 0) (.cons (.blt .len (.cons (.var 2) .nil)) .nil))))
    (.seq (.sub 2 (.var 3) (.call 63 (.cons (.var 0) (.cons (.ix (.var 2) (.var 3)) .nil))))
    (.seq (.ret (.ife (.v (.ist (.var 1) .tup)) (.blt .tuple (.cons (.var 2) .nil)) (.var 2)))
    .nil)))) .nil)
    (.seq (.ifs (.v (.isT (.var 1) [.tup, .lst])) (.seq (.asg 4 (.ife (.v (.ist (.var 1) .tup)) (.blt .list (.cons (.var 1) .nil)) (.blt .tuple (.cons (.var 1) .nil))))
    (.seq (.asg 5 (.lst (.cons (.var 4) (.cons (.bin .add (.var 1) (.slH (.var 1) (.int 1))) (.cons (.slL (.var 1) (.int 1)) .nil)))))
    (.seq (.ret (.call 30 (.cons (.var 0) (.cons (.bin .add (.var 5) (.lst (.cons (.rev (.var 1)) (.cons (.tup (.cons (.int 2) (.cons (.int 4) .nil))) (.cons .non .nil))))) .nil))))
    .nil))) .nil)
    (.seq (.ifs (.v (.ist (.var 1) .str)) (.seq (.asg 5 (.lst (.cons (.str "with") (.cons (.str "against") (.cons (.str "length") (.cons (.str "steps") (.cons (.str "pace") .nil)))))))
    (.seq (.ret (.call 30 (.cons (.var 0) (.cons (.bin .add (.var 5) (.lst (.cons (.str "quick") (.cons (.str "meet") (.cons (.str "back") (.cons (.str "") (.cons (.int 0) .nil))))))) .nil))))
    .nil)) .nil)
    (.seq (.ifs (.v (.call 60 (.cons (.var 1) .nil))) (.seq (.asg 5 (.lst (.cons (.neg (.var 1)) (.cons (.bin .add (.var 1) (.int 1)) (.cons (.bin .sub (.var 1) (.int 1)) (.cons (.int 0) (.cons (.bl true) .nil)))))))
    (.seq (.ret (.call 30 (.cons (.var 0) (.cons (.bin .add (.var 5) (.lst (.cons .non (.cons (.str "1") (.cons (.bin .add (.bin .pow (.int 10) (.int 12)) (.int 1)) (.cons (.bin .add (.bin .pow (.int 10) (.int 30)) (.int 1)) .nil)))))) .nil))))
    .nil)) .nil)
    (.seq (.ret (.call 30 (.cons (.var 0) (.cons (.lst (.cons .non (.cons (.int 0) (.cons (.str "x") (.cons (.tup .nil) (.cons (.lst .nil) (.cons (.bl true) (.cons (.tup (.cons (.int 1) (.cons (.int 1) .nil))) (.cons (.int 7) .nil))))))))) .nil))))
    .nil)))))
/-- 65 -/
def i__law_spoilt_4 : CS :=
    (.seq (.ifs (.and_ (.v (.isT (.var 1) [.tup, .lst])) (.and_ (.v (.cmp .gt (.blt .len (.cons (.var 1) .nil)) (.int 0))) (.v (.cmp .gt (.call 28 (.cons (.var 0) (.cons (.int 7) .nil))) (.int 0))))) (.seq (.asgO 2 (.blt .list (.cons (.var 1) .nil)))
    (.seq (.asg 3 (.call 28 (.cons (.var 0) (.cons (.blt .len (.cons (.var 2) .nil)) .nil))))
    (.seq (.sub 2 (.var 3) (.call 64 (.cons (.var 0) (.cons (.ix (.var 2) (.var 3)) .nil))))
    (.seq (.ret (.ife (.v (.ist (.var 1) .tup)) (.blt .tuple (.cons (.var 2) .nil)) (.var 2)))
    .nil)))) .nil)
    (.seq (.ifs (.v (.isT (.var 1) [.tup, .lst])) (.seq (.asg 4 (.ife (.v (.ist (.var 1) .tup)) (.blt .list (.cons (.var 1) .nil)) (.blt .tuple (.cons (.var 1) .nil))))
    (.seq (.asg 5 (.lst (.cons (.var 4) (.cons (.bin .add (.var 1) (.slH (.var 1) (.int 1))) (.cons (.slL (.var 1) (.int 1)) .nil)))))
    (.seq (.ret (.call 30 (.cons (.var 0) (.cons (.bin .add (.var 5) (.lst (.cons (.rev (.var 1)) (.cons (.tup (.cons (.int 2) (.cons (.int 4) .nil))) (.cons .non .nil))))) .nil))))
    .nil))) .nil)
    (.seq (.ifs (.v (.ist (.var 1) .str)) (.seq (.asg 5 (.lst (.cons (.str "with") (.cons (.str "against") (.cons (.str "length") (.cons (.str "steps") (.cons (.str "pace") .nil)))))))
    (.seq (.ret (.call 30 (.cons (.var 0) (.cons (.bin .add (.var 5) (.lst (.cons (.str "quick") (.cons (.str "meet") (.cons (.str "back") (.cons (.str "") (.cons (.int 0) .nil))))))) .nil))))
    .nil)) .nil)
    (.seq (.ifs (.v (.call 60 (.cons (.var 1) .nil))) (.seq (.asg 5 (.lst (.cons (.neg (.var 1)) (.cons (.bin .add (.var 1) (.int 1)) (.cons (.bin .sub (.var 1) (.int 1)) (.cons (.int 0) (.cons (.bl true) .nil)))))))
    (.seq (.ret (.call 30 (.cons (.var 0) (.cons (.bin .add (.var 5) (.lst (.cons .non (.cons (.str "1") (.cons (.bin .add (.bin .pow (.int 10) (.int 12)) (.int 1)) (.cons (.bin .add (.bin .pow (.int 10) (.int 30)) (.int 1)) .nil)))))) .nil))))
    .nil)) .nil)
    (.seq (.ret (.call 30 (.cons (.var 0) (.cons (.lst (.cons .non (.cons (.int 0) (.cons (.str "x") (.cons (.tup .nil) (.cons (.lst .nil) (.cons (.bl true) (.cons (.tup (.cons (.int 1) (.cons (.int 1) .nil))) (.cons (.int 7) .nil))))))))) .nil))))
    .nil)))))
/-- 66 -/
def i__law_spoilt_5 : CS :=
    (.seq (.ifs (.and_ (.v (.isT (.var 1) [.tup, .lst])) (.and_ (.v (.cmp .gt (.blt .len (.cons (.var 1) .nil)) (.int 0))) (.v (.cmp .gt (.call 28 (.cons (.var 0) (.cons (.int 7) .nil))) (.int 0))))) (.seq (.asgO 2 (.blt .list (.cons (.var 1) .nil)))
    (.seq (.asg 3 (.call 28 (.cons (.var 0) (.cons (.blt .len (.cons (.var 2) .nil)) .nil))))
    (.seq (.sub 2 (.var 3) (.call 65 (.cons (.var 0) (.cons (.ix (.var 2) (.var 3)) .nil))))
    (.seq (.ret (.ife (.v (.ist (.var 1) .tup)) (.blt .tuple (.cons (.var 2) .nil)) (.var 2)))
    .nil)))) .nil)
    (.seq (.ifs (.v (.isT (.var 1) [.tup, .lst])) (.seq (.asg 4 (.ife (.v (.ist (.var 1) .tup)) (.blt .list (.cons (.var 1) .nil)) (.blt .tuple (.cons (.var 1) .nil))))
    (.seq (.asg 5 (.lst (.cons (.var 4) (.cons (.bin .add (.var 1) (.slH (.var 1) (.int 1))) (.cons (.slL (.var 1) (.int 1)) .nil)))))
    (.seq (.ret (.call 30 (.cons (.var 0) (.cons (.bin .add (.var 5) (.lst (.cons (.rev (.var 1)) (.cons (.tup (.cons (.int 2) (.cons (.int 4) .nil))) (.cons .non .nil))))) .nil))))
    .nil))) .nil)
    (.seq (.ifs (.v (.ist (.var 1) .str)) (.seq (.asg 5 (.lst (.cons (.str "with") (.cons (.str "against") (.cons (.str "length") (.cons (.str "steps") (.cons (.str "pace") .nil)))))))
    (.seq (.ret (.call 30 (.cons (.var 0) (.cons (.bin .add (.var 5) (.lst (.cons (.str "quick") (.cons (.str "meet") (.cons (.str "back") (.cons (.str "") (.cons (.int 0) .nil))))))) .nil))))
    .nil)) .nil)
    (.seq (.ifs (.v (.call 60 (.cons (.var 1) .nil))) (.seq (.asg 5 (.lst (.cons (.neg (.var 1)) (.cons (.bin .add (.var 1) (.int 1)) (.cons (.bin .sub (.var 1) (.int 1)) (.cons (.int 0) (.cons (.bl true) .nil)))))))
    (.seq (.ret (.call 30 (.cons (.var 0) (.cons (.bin .add (.var 5) (.lst (.cons .non (.cons (.str "1") (.cons (.bin .add (.bin .pow (.int 10) (.int 12)) (.int 1)) (.cons (.bin .add (.bin .pow (.int 10) (.int 30)) (.int 1)) .nil)))))) .nil))))
    .nil)) .nil)
    (.seq (.ret (.call 30 (.cons (.var 0) (.cons (.lst (.cons .non (.cons (.int 0) (.cons (.str "x") (.cons (.tup .nil) (.cons (.lst .nil) (.cons (.bl true) (.cons (.tup (.cons (.int 1) (.cons (.int 1) .nil))) (.cons (.int 7) .nil))))))))) .nil))))
    .nil)))))
/-- 67 -/
def i__law_spoilt_6 : CS :=
    (.seq (.ifs (.and_ (.v (.isT (.var 1) [.tup, .lst])) (.and_ (.v (.cmp .gt (.blt .len (.cons (.var 1) .nil)) (.int 0))) (.v (.cmp .gt (.call 28 (.cons (.var 0) (.cons (.int 7) .nil))) (.int 0))))) (.seq (.asgO 2 (.blt .list (.cons (.var 1) .nil)))
    (.seq (.asg 3 (.call 28 (.cons (.var 0) (.cons (.blt .len (.cons (.var 2) .nil)) .nil))))
    (.seq (.sub 2 (.var 3) (.call 66 (.cons (.var 0) (.cons (.ix (.var 2) (.var 3)) .nil))))
    (.seq (.ret (.ife (.v (.ist (.var 1) .tup)) (.blt .tuple (.cons (.var 2) .nil)) (.var 2)))
    .nil)))) .nil)
    (.seq (.ifs (.v (.isT (.var 1) [.tup, .lst])) (.seq (.asg 4 (.ife (.v (.ist (.var 1) .tup)) (.blt .list (.cons (.var 1) .nil)) (.blt .tuple (.cons (.var 1) .nil))))
    (.seq (.asg 5 (.lst (.cons (.var 4) (.cons (.bin .add (.var 1) (.slH (.var 1) (.int 1))) (.cons (.slL (.var 1) (.int 1)) .nil)))))
    (.seq (.ret (.call 30 (.cons (.var 0) (.cons (.bin .add (.var 5) (.lst (.cons (.rev (.var 1)) (.cons (.tup (.cons (.int 2) (.cons (.int 4) .nil))) (.cons .non .nil))))) .nil))))
    .nil))) .nil)
    (.seq (.ifs (.v (.ist (.var 1) .str)) (.seq (.asg 5 (.lst (.cons (.str "with") (.cons (.str "against") (.cons (.str "length") (.cons (.str "steps") (.cons (.str "pace") .nil)))))))
    (.seq (.ret (.call 30 (.cons (.var 0) (.cons (.bin .add (.var 5) (.lst (.cons (.str "quick") (.cons (.str "meet") (.cons (.str "back") (.cons (.str "") (.cons (.int 0) .nil))))))) .nil))))
    .nil)) .nil)
    (.seq (.ifs (.v (.call 60 (.cons (.var 1) .nil))) (.seq (.asg 5 (.lst (.cons (.neg (.var 1)) (.cons (.bin .add (.var 1) (.int 1)) (.cons (.bin .sub (.var 1) (.int 1)) (.cons (.int 0) (.cons (.bl true) .nil)))))))
    (.seq (.ret (.call 30 (.cons (.var 0) (.cons (.bin .add (.var 5) (.lst (.cons .non (.cons (.str "1") (.cons (.bin .add (.bin .pow (.int 10) (.int 12)) (.int 1)) (.cons (.bin .add (.bin .pow (.int 10) (.int 30)) (.int 1)) .nil)))))) .nil))))
    .nil)) .nil)
    (.seq (.ret (.call 30 (.cons (.var 0) (.cons (.lst (.cons .non (.cons (.int 0) (.cons (.str "x") (.cons (.tup .nil) (.cons (.lst .nil) (.cons (.bl true) (.cons (.tup (.cons (.int 1) (.cons (.int 1) .nil))) (.cons (.int 7) .nil))))))))) .nil))))
    .nil)))))
/-- 68 -/
def i__law_spoilt_7 : CS :=
    (.seq (.ifs (.and_ (.v (.isT (.var 1) [.tup, .lst])) (.and_ (.v (.cmp .gt (.blt .len (.cons (.var 1) .nil)) (.int 0))) (.v (.cmp .gt (.call 28 (.cons (.var 0) (.cons (.int 7) .nil))) (.int 0))))) (.seq (.asgO 2 (.blt .list (.cons (.var 1) .nil)))
    (.seq (.asg 3 (.call 28 (.cons (.var 0) (.cons (.blt .len (.cons (.var 2) .nil)) .nil))))
    (.seq (.sub 2 (.var 3) (.call 67 (.cons (.var 0) (.cons (.ix (.var 2) (.var 3)) .nil))))
    (.seq (.ret (.ife (.v (.ist (.var 1) .tup)) (.blt .tuple (.cons (.var 2) .nil)) (.var 2)))
    .nil)))) .nil)
    (.seq (.ifs (.v (.isT (.var 1) [.tup, .lst])) (.seq (.asg 4 (.ife (.v (.ist (.var 1) .tup)) (.blt .list (.cons (.var 1) .nil)) (.blt .tuple (.cons (.var 1) .nil))))
    (.seq (.asg 5 (.lst (.cons (.var 4) (.cons (.bin .add (.var 1) (.slH (.var 1) (.int 1))) (.cons (.slL (.var 1) (.int 1)) .nil)))))
    (.seq (.ret (.call 30 (.cons (.var 0) (.cons (.bin .add (.var 5) (.lst (.cons (.rev (.var 1)) (.cons (.tup (.cons (.int 2) (.cons (.int 4) .nil))) (.cons .non .nil))))) .nil))))
    .nil))) .nil)
    (.seq (.ifs (.v (.ist (.var 1) .str)) (.seq (.asg 5 (.lst (.cons (.str "with") (.cons (.str "against") (.cons (.str "length") (.cons (.str "steps") (.cons (.str "pace") .nil)))))))
    (.seq (.ret (.call 30 (.cons (.var 0) (.cons (.bin .add (.var 5) (.lst (.cons (.str "quick") (.cons (.str "meet") (.cons (.str "back") (.cons (.str "") (.cons (.int 0) .nil))))))) .nil))))
    .nil)) .nil)
    (.seq (.ifs (.v (.call 60 (.cons (.var 1) .nil))) (.seq (.asg 5 (.lst (.cons (.neg (.var 1)) (.cons (.bin .add (.var 1) (.int 1)) (.cons (.bin .sub (.var 1) (.int 1)) (.cons (.int 0) (.cons (.bl true) .nil)))))))
    (.seq (.ret (.call 30 (.cons (.var 0) (.cons (.bin .add (.var 5) (.lst (.cons .non (.cons (.str "1") (.cons (.bin .add (.bin .pow (.int 10) (.int 12)) (.int 1)) (.cons (.bin .add (.bin .pow (.int 10) (.int 30)) (.int 1)) .nil)))))) .nil))))
    .nil)) .nil)
    (.seq (.ret (.call 30 (.cons (.var 0) (.cons (.lst (.cons .non (.cons (.int 0) (.cons (.str "x") (.cons (.tup .nil) (.cons (.lst .nil) (.cons (.bl true) (.cons (.tup (.cons (.int 1) (.cons (.int 1) .nil))) (.cons (.int 7) .nil))))))))) .nil))))
    .nil)))))
/-- 69 -/
def i__law_number_so : CS :=
    (.seq (.ret (.and_ (.call 60 (.cons (.var 0) .nil)) (.chain .le .le (.var 1) (.var 0) (.var 2))))
    .nil)
/-- 70 -/
def i__law_is_part : CS :=
    (.seq (.ifs (.or_ (.nt (.v (.ist (.var 0) .tup))) (.or_ (.v (.cmp .ne (.blt .len (.cons (.var 0) .nil)) (.int 2))) (.nt (.v (.call 69 (.cons (.ix (.var 0) (.int 0)) (.cons (.int 1) (.cons (.bin .pow (.int 10) (.int 12)) .nil)))))))) (.seq (.ret (.bl false))
    .nil) .nil)
    (.seq (.ret (.and_ (.call 69 (.cons (.ix (.var 0) (.int 1)) (.cons (.int 1) (.cons (.bin .pow (.int 10) (.int 12)) .nil)))) (.cmp .eq (.call 33 (.cons (.ix (.var 0) (.int 0)) (.cons (.ix (.var 0) (.int 1)) .nil))) (.var 0))))
    .nil))
/-- 71 -/
def i__law_are_parts : CS :=
    (.seq (.ifs (.nt (.v (.call 70 (.cons (.var 0) .nil)))) (.seq (.ret (.bl false))
    .nil) .nil)
    (.seq (.ret (.or_ (.isN true (.var 1)) (.and_ (.call 70 (.cons (.var 1) .nil)) (.cmp .le (.bin .mul (.ix (.var 0) (.int 0)) (.ix (.var 1) (.int 1))) (.bin .mul (.ix (.var 1) (.int 0)) (.ix (.var 0) (.int 1)))))))
    .nil))
/-- 72 -/
def i__law_is_fact : CS :=
    (.seq (.ifs (.or_ (.nt (.v (.ist (.var 1) .tup))) (.or_ (.v (.cmp .eq (.var 1) (.tup .nil))) (.nt (.v (.ist (.ix (.var 1) (.int 0)) .str))))) (.seq (.ret (.bl false))
    .nil) .nil)
    (.seq (.tasg [2, 3] (.cons (.ix (.var 1) (.int 0)) (.cons (.slL (.var 1) (.int 1)) .nil)))
    (.seq (.asg 4 (.disp ["length", "steps", "pace", "quick", "meet", "back"] (.cons (.int 2) (.cons (.int 4) (.cons (.int 3) (.cons (.int 4) (.cons (.int 4) (.cons (.int 3) .nil))))))))
    (.seq (.ifs (.or_ (.v (.din false (.var 2) (.var 4))) (.v (.cmp .ne (.blt .len (.cons (.var 3) .nil)) (.dix (.var 4) (.var 2))))) (.seq (.ret (.bl false))
    .nil) .nil)
    (.seq (.ifs (.v (.cmp .eq (.var 2) (.str "length"))) (.seq (.asg 5 (.bin .pow (.int 10) (.int 30)))
    (.seq (.ret (.and_ (.call 69 (.cons (.ix (.var 3) (.int 0)) (.cons (.int 1) (.cons (.var 5) .nil)))) (.or_ (.isN true (.ix (.var 3) (.int 1))) (.call 69 (.cons (.ix (.var 3) (.int 1)) (.cons (.ix (.var 3) (.int 0)) (.cons (.var 5) .nil)))))))
    .nil)) .nil)
    (.seq (.ifs (.nt (.v (.call 69 (.cons (.ix (.var 3) (.int 0)) (.cons (.int 0) (.cons (.bin .sub (.var 0) (.int 1)) .nil)))))) (.seq (.ret (.bl false))
    .nil) .nil)
    (.seq (.ifs (.v (.cmp .eq (.var 2) (.str "pace"))) (.seq (.ret (.call 71 (.cons (.ix (.var 3) (.int 1)) (.cons (.ix (.var 3) (.int 2)) .nil))))
    .nil) .nil)
    (.seq (.ifs (.v (.cmp .eq (.var 2) (.str "back"))) (.seq (.ret (.and_ (.call 69 (.cons (.ix (.var 3) (.int 1)) (.cons (.int 1) (.cons (.bin .pow (.int 10) (.int 12)) .nil)))) (.call 69 (.cons (.ix (.var 3) (.int 2)) (.cons (.bin .add (.ix (.var 3) (.int 1)) (.int 1)) (.cons (.bin .pow (.int 10) (.int 12)) .nil))))))
    .nil) .nil)
    (.seq (.ifs (.v (.cmp .eq (.var 2) (.str "steps"))) (.seq (.asg 6 (.and_ (.ist (.ix (.var 3) (.int 1)) .str) (.cmp .inn (.ix (.var 3) (.int 1)) (.lst (.cons (.str "with") (.cons (.str "against") .nil))))))
    (.seq (.ret (.and_ (.var 6) (.and_ (.call 69 (.cons (.ix (.var 3) (.int 2)) (.cons (.int 1) (.cons (.bin .pow (.int 10) (.int 30)) .nil)))) (.call 69 (.cons (.ix (.var 3) (.int 3)) (.cons (.ix (.var 3) (.int 2)) (.cons (.bin .pow (.int 10) (.int 30)) .nil)))))))
    .nil)) .nil)
    (.seq (.ifs (.or_ (.nt (.v (.call 69 (.cons (.ix (.var 3) (.int 1)) (.cons (.int 0) (.cons (.bin .sub (.var 0) (.int 1)) .nil)))))) (.v (.cmp .eq (.ix (.var 3) (.int 1)) (.ix (.var 3) (.int 0))))) (.seq (.ret (.bl false))
    .nil) .nil)
    (.seq (.ifs (.v (.cmp .eq (.var 2) (.str "quick"))) (.seq (.ret (.call 71 (.cons (.ix (.var 3) (.int 2)) (.cons (.ix (.var 3) (.int 3)) .nil))))
    .nil) .nil)
    (.seq (.ret (.and_ (.call 69 (.cons (.ix (.var 3) (.int 2)) (.cons (.int 1) (.cons (.bin .pow (.int 10) (.int 12)) .nil)))) (.call 69 (.cons (.ix (.var 3) (.int 3)) (.cons (.int 1) (.cons (.bin .pow (.int 10) (.int 12)) .nil))))))
    .nil))))))))))))
/-- 73 -/
def i_law_k01 : CS :=
    (.seq (.for_ [1] true (.seq (.slH (.bin .add (.lst (.cons (.int 0) .nil)) (.var 0)) (.int 10))) (.seq (.asgO 2 (.call 1 (.cons (.var 1) (.cons (.int 1) .nil))))
    (.seq (.asg 3 (.bin .add (.int 1) (.call 28 (.cons (.var 2) (.cons (.int 3) .nil)))))
    (.seq (.asg 4 (.call 59 (.cons (.var 2) (.cons (.var 3) (.cons (.int 5) .nil)))))
    (.seq (.asg 5 (.bin .add (.blt .list (.cons (.var 4) .nil)) (.lst (.cons (.call 42 (.cons (.var 2) (.cons (.var 3) .nil))) (.cons (.call 42 (.cons (.var 2) (.cons (.int 3) .nil))) (.cons .non (.cons (.tup .nil) (.cons (.str "length") .nil))))))))
    (.seq (.for_ [6] true (.seq (.bin .add (.var 5) (.comp (.call 68 (.cons (.var 2) (.cons (.call 42 (.cons (.var 2) (.cons (.var 3) .nil))) .nil))) [7] true (.rng (.int 40))))) (.seq (.asg 8 (.call 68 (.cons (.var 2) (.cons (.var 6) .nil))))
    (.seq (.for_ [9] true (.seq (.tup (.cons (.var 6) (.cons (.var 8) .nil)))) (.seq (.ifs (.nt (.v (.call 51 (.cons (.call 55 (.cons (.var 3) (.cons (.var 9) .nil))) (.cons (.call 72 (.cons (.var 3) (.cons (.var 9) .nil))) .nil))))) (.seq (.ret (.bl false))
    .nil) .nil)
    .nil))
    .nil)))
    (.seq (.for_ [9] true (.seq (.bin .add (.lst (.cons (.var 4) (.cons (.blt .list (.cons (.var 4) .nil)) (.cons (.bin .mul (.var 4) (.int 7)) (.cons .non .nil))))) (.comp (.call 68 (.cons (.var 2) (.cons (.var 4) .nil))) [7] true (.rng (.int 12))))) (.seq (.asg 10 (.and_ (.ist (.var 9) .tup) (.cmp .lt (.blt .len (.cons (.var 9) .nil)) (.int 7))))
    (.seq (.asg 10 (.and_ (.var 10) (.cmp .eq (.compC (.int 1) [6] true (.seq (.var 9)) (.nt (.v (.call 72 (.cons (.var 3) (.cons (.var 6) .nil)))))) (.lst .nil))))
    (.seq (.ifs (.nt (.v (.call 51 (.cons (.call 57 (.cons (.var 3) (.cons (.var 9) .nil))) (.cons (.var 10) .nil))))) (.seq (.ret (.bl false))
    .nil) .nil)
    .nil))))
    (.seq (.for_ [11] true (.seq (.lst (.cons .non (.cons (.int 0) (.cons (.int 4) (.cons (.bl true) (.cons (.str "1") .nil))))))) (.seq (.ifs (.v (.cmp .ne (.tryL (.call 55 (.cons (.var 11) (.cons .non .nil)))) (.str "number +"))) (.seq (.ret (.bl false))
    .nil) .nil)
    (.seq (.ifs (.v (.cmp .ne (.tryL (.call 57 (.cons (.var 11) (.cons .non .nil)))) (.str "number +"))) (.seq (.ret (.bl false))
    .nil) .nil)
    .nil)))
    .nil))))))))
    (.seq (.ret (.call 58 .nil))
    .nil))
/-- 74 -/
def i_need_facts : CS :=
    (.seq (.ifs (.nt (.v (.call 56 (.cons (.var 0) (.cons (.var 1) .nil))))) (.seq (.rai 2)
    .nil) .nil)
    .nil)
/-- 75 -/
def i_shown : CS :=
    (.seq (.ifs (.v (.isN true (.var 0))) (.seq (.ret (.str "-"))
    .nil) .nil)
    (.seq (.ret (.ife (.v (.ist (.var 0) .tup)) (.fst (.cons (.ix (.var 0) (.int 0)) (.cons (.str "/") (.cons (.ix (.var 0) (.int 1)) .nil)))) (.blt .str (.cons (.var 0) .nil))))
    .nil))
/-- 76 -/
def i_fact_line : CS :=
    (.seq (.ret (.mth .join (.str " ") (.comp (.call 75 (.cons (.var 1) .nil)) [1] true (.seq (.var 0)))))
    .nil)
/-- 77 -/
def i_lines_of : CS :=
    (.seq (.ret (.bin .add (.lst (.cons (.fst (.cons (.str "walkers ") (.cons (.var 0) .nil))) .nil)) (.comp (.call 76 (.cons (.var 2) .nil)) [2] true (.seq (.var 1)))))
    .nil)
/-- 78 -/
def i_facts_text : CS :=
    (.seq (.expr (.call 4 (.cons (.var 0) .nil)))
    (.seq (.expr (.call 74 (.cons (.var 0) (.cons (.var 1) .nil))))
    (.seq (.ret (.mth .join (.str "\n") (.call 77 (.cons (.var 0) (.cons (.var 1) .nil)))))
    .nil)))
/-- 79 -/
def i__law_item : CS :=
    (.seq (.ifs (.v (.isN true (.var 0))) (.seq (.ret (.str "-"))
    .nil) .nil)
    (.seq (.ret (.ife (.v (.ist (.var 0) .tup)) (.bin .add (.bin .add (.blt .str (.cons (.ix (.var 0) (.int 0)) .nil)) (.str "/")) (.blt .str (.cons (.ix (.var 0) (.int 1)) .nil))) (.blt .str (.cons (.var 0) .nil))))
    .nil))
/-- 80 -/
def i__law_writing : CS :=
    (.seq (.asgO 2 (.lst (.cons (.bin .add (.str "walkers ") (.blt .str (.cons (.var 0) .nil))) .nil)))
    (.seq (.for_ [3] true (.seq (.var 1)) (.seq (.app 2 (.mth .join (.str " ") (.comp (.call 79 (.cons (.var 4) .nil)) [4] true (.seq (.var 3)))))
    .nil))
    (.seq (.ret (.mth .join (.str "\n") (.var 2)))
    .nil)))
/-- 81 -/
def i_number_in : CS :=
    (.seq (.ifs (.or_ (.v (.cmp .eq (.var 0) (.str ""))) (.or_ (.v (.cmp .gt (.blt .len (.cons (.var 0) .nil)) (.int 31))) (.nt (.v (.blt .all (.cons (.comp (.cmp .inn (.var 1) (.cst 6)) [1] true (.seq (.var 0))) .nil)))))) (.seq (.ret .non)
    .nil) .nil)
    (.seq (.ret (.ife (.or_ (.v (.cmp .eq (.var 0) (.str "0"))) (.v (.cmp .ne (.ix (.var 0) (.int 0)) (.str "0")))) (.blt .int (.cons (.var 0) .nil)) .non))
    .nil))
/-- 82 -/
def i_item_in : CS :=
    (.seq (.ifs (.v (.cmp .eq (.var 0) (.str "-"))) (.seq (.ret .non)
    .nil) .nil)
    (.seq (.asg 1 (.call 81 (.cons (.var 0) .nil)))
    (.seq (.ifs (.v (.isN false (.var 1))) (.seq (.ret (.var 1))
    .nil) .nil)
    (.seq (.asg 2 (.comp (.call 81 (.cons (.var 3) .nil)) [3] true (.seq (.mth .split (.var 0) (.str "/")))))
    (.seq (.ret (.ife (.and_ (.v (.cmp .eq (.blt .len (.cons (.var 2) .nil)) (.int 2))) (.v (.cmp .nin .non (.var 2)))) (.blt .tuple (.cons (.var 2) .nil)) (.var 0)))
    .nil)))))
/-- 83 -/
def i_piece_of : CS :=
    (.seq (.asg 1 (.blt .tuple (.cons (.comp (.call 82 (.cons (.var 2) .nil)) [2] true (.seq (.mth .split (.var 0) (.str " ")))) .nil)))
    (.seq (.ifs (.v (.cmp .eq (.ix (.var 1) (.int 0)) (.str "walkers"))) (.seq (.ret (.ife (.and_ (.v (.cmp .eq (.blt .len (.cons (.var 1) .nil)) (.int 2))) (.v (.cmp .inn (.ix (.var 1) (.int 1)) (.tup (.cons (.int 1) (.cons (.int 2) (.cons (.int 3) .nil))))))) (.tup (.cons (.str "walkers") (.cons (.ix (.var 1) (.int 1)) .nil))) .non))
    .nil) .nil)
    (.seq (.ret (.ife (.v (.call 16 (.cons (.int 3) (.cons (.var 1) .nil)))) (.tup (.cons (.str "fact") (.cons (.var 1) .nil))) .non))
    .nil)))
/-- 84 -/
def i_facts_in : CS :=
    (.seq (.ifs (.nt (.v (.ist (.var 0) .str))) (.seq .bad
    .nil) .nil)
    (.seq (.asgO 1 (.lst .nil))
    (.seq (.for_ [2, 3] false (.enu (.mth .split (.var 0) (.str "\n"))) (.seq (.asg 4 (.call 83 (.cons (.var 3) .nil)))
    (.seq (.ifs (.v (.isN true (.var 4))) (.seq .bad
    .nil) .nil)
    (.seq (.app 1 (.var 4))
    .nil))))
    (.seq (.asg 5 (.comp (.var 6) [6, 7] false (.seq (.var 1))))
    (.seq (.asg 8 (.blt .tuple (.cons (.comp (.var 7) [6, 7] false (.seq (.slL (.var 1) (.int 1)))) .nil)))
    (.seq (.ifs (.or_ (.v (.cmp .ne (.var 5) (.bin .add (.lst (.cons (.str "walkers") .nil)) (.bin .mul (.lst (.cons (.str "fact") .nil)) (.bin .sub (.blt .len (.cons (.var 1) .nil)) (.int 1)))))) (.nt (.v (.call 56 (.cons (.ix (.ix (.var 1) (.int 0)) (.int 1)) (.cons (.var 8) .nil)))))) (.seq .bad
    .nil) .nil)
    (.seq (.ret (.tup (.cons (.ix (.ix (.var 1) (.int 0)) (.int 1)) (.cons (.var 8) .nil))))
    .nil)))))))
/-- 85 -/
def i_read_facts : CS :=
    (.seq (.ret (.call 84 (.cons (.var 0) .nil)))
    .nil)
/-- 86 -/
def i_law_k13 : CS :=
    (.seq (.for_ [1] true (.seq (.slH (.bin .add (.lst (.cons (.int 0) .nil)) (.var 0)) (.int 12))) (.seq (.asgO 2 (.call 1 (.cons (.var 1) (.cons (.int 13) .nil))))
    (.seq (.asg 3 (.bin .add (.int 1) (.call 28 (.cons (.var 2) (.cons (.int 3) .nil)))))
    (.seq (.asg 4 (.bin .add (.int 1) (.call 28 (.cons (.var 2) (.cons (.bin .pow (.int 10) (.int 12)) .nil)))))
    (.seq (.for_ [5] true (.seq (.lst (.cons (.call 59 (.cons (.var 2) (.cons (.var 3) (.cons (.int 5) .nil)))) (.cons (.tup (.cons (.call 42 (.cons (.var 2) (.cons (.var 3) .nil))) (.cons (.tup (.cons (.str "length") (.cons (.var 4) (.cons (.bin .pow (.int 10) (.int 30)) .nil)))) .nil))) .nil)))) (.seq (.asg 6 (.call 80 (.cons (.var 3) (.cons (.var 5) .nil))))
    (.seq (.ifs (.nt (.v (.call 51 (.cons (.call 78 (.cons (.var 3) (.cons (.var 5) .nil))) (.cons (.var 6) .nil))))) (.seq (.ret (.bl false))
    .nil) .nil)
    (.seq (.ifs (.nt (.v (.call 51 (.cons (.tryL (.call 85 (.cons (.var 6) .nil))) (.cons (.tup (.cons (.str "told") (.cons (.tup (.cons (.var 3) (.cons (.var 5) .nil))) .nil))) .nil))))) (.seq (.ret (.bl false))
    .nil) .nil)
    .nil))))
    (.seq (.for_ [7] true (.seq (.lst (.cons .non (.cons (.int 0) (.cons (.int 4) (.cons (.bl true) .nil)))))) (.seq (.ifs (.v (.cmp .ne (.tryL (.call 78 (.cons (.var 7) (.cons .non .nil)))) (.str "number +"))) (.seq (.ret (.bl false))
    .nil) .nil)
    .nil))
    (.seq (.for_ [7] true (.seq (.lst (.cons .non (.cons (.blt .list (.cons (.var 5) .nil)) (.cons (.tup (.cons .non .nil)) (.cons (.var 6) .nil)))))) (.seq (.ifs (.v (.cmp .ne (.tryL (.call 78 (.cons (.var 3) (.cons (.var 7) .nil)))) (.str "facts +"))) (.seq (.ret (.bl false))
    .nil) .nil)
    .nil))
    .nil)))))))
    (.seq (.unp [8, 9, 10, 11, 12] (.call 0 .nil))
    (.seq (.ifs (.v (.cmp .ne (.call 78 (.cons (.int 1) (.cons (.var 8) .nil))) (.str "walkers 1\nsteps 0 with 12 12\nsteps 0 against 36 36"))) (.seq (.ret (.bl false))
    .nil) .nil)
    (.seq (.asg 13 (.tup (.cons (.tup (.cons (.str "quick") (.cons (.int 0) (.cons (.int 1) (.cons (.tup (.cons (.int 1) (.cons (.int 2) .nil))) (.cons .non .nil)))))) (.cons (.tup (.cons (.str "meet") (.cons (.int 1) (.cons (.int 0) (.cons (.int 3) (.cons (.int 4) .nil)))))) (.cons (.tup (.cons (.str "back") (.cons (.int 0) (.cons (.int 4) (.cons (.int 9) .nil))))) (.cons (.tup (.cons (.str "length") (.cons (.int 5) (.cons .non .nil)))) .nil))))))
    (.seq (.asg 6 (.str "walkers 2\nquick 0 1 1/2 -\nmeet 1 0 3 4\nback 0 4 9\nlength 5 -"))
    (.seq (.ret (.and_ (.cmp .eq (.call 78 (.cons (.int 2) (.cons (.var 13) .nil))) (.var 6)) (.and_ (.cmp .eq (.call 85 (.cons (.var 6) .nil)) (.tup (.cons (.int 2) (.cons (.var 13) .nil)))) (.cmp .eq (.call 85 (.cons (.str "walkers 3") .nil)) (.tup (.cons (.int 3) (.cons (.tup .nil) .nil)))))))
    .nil))))))
/-- 87 -/
def i_unit : CS :=
    (.seq (.ret (.blt .tuple (.cons (.comp (.ife (.v (.cmp .eq (.var 1) (.var 2))) (.int 1) (.int 0)) [2] true (.rng (.var 0))) .nil)))
    .nil)
/-- 88 -/
def i_worth : CS :=
    (.seq (.ret (.blt .sum (.cons (.comp (.bin .mul (.var 2) (.var 3)) [2, 3] false (.zip (.var 0) (.var 1))) .nil)))
    .nil)
/-- 89 -/
def i_zeros_at : CS :=
    (.seq (.ret (.blt .tuple (.cons (.compC (.var 2) [2, 3] false (.enu (.var 1)) (.v (.cmp .eq (.call 88 (.cons (.var 3) (.cons (.var 0) .nil))) (.int 0)))) .nil)))
    .nil)
/-- 90 -/
def i_are_neighbours : CS :=
    (.seq (.asg 4 (.compC (.var 5) [5] true (.seq (.ix (.var 3) (.var 0))) (.v (.cmp .inn (.var 5) (.ix (.var 3) (.var 1))))))
    (.seq (.ret (.nt (.blt .any (.cons (.comp (.and_ (.cmp .ne (.var 6) (.var 0)) (.and_ (.cmp .ne (.var 6) (.var 1)) (.blt .all (.cons (.comp (.cmp .inn (.var 5) (.ix (.var 3) (.var 6))) [5] true (.seq (.var 4))) .nil)))) [6] true (.seq (.var 2))) .nil))))
    .nil))
/-- 91 -/
def i_lowest : CS :=
    (.seq (.asg 1 (.int 0))
    (.seq (.for_ [2] true (.seq (.var 0)) (.seq (.asg 1 (.call 11 (.cons (.var 1) (.cons (.var 2) .nil))))
    .nil))
    (.seq (.ret (.blt .tuple (.cons (.comp (.bin .fdiv (.var 2) (.var 1)) [2] true (.seq (.var 0))) .nil)))
    .nil)))
/-- 92 -/
def i_cut : CS :=
    (.seq (.asg 3 .bad)
    (.seq (.asg 5 (.compC (.var 4) [4] true (.seq (.var 0)) (.v (.cmp .gt (.call 88 (.cons (.var 2) (.cons (.var 4) .nil))) (.int 0)))))
    (.seq (.asg 6 (.compC (.var 4) [4] true (.seq (.var 0)) (.v (.cmp .lt (.call 88 (.cons (.var 2) (.cons (.var 4) .nil))) (.int 0)))))
    (.seq (.asgO 7 (.compC (.var 4) [4] true (.seq (.var 0)) (.v (.cmp .ge (.call 88 (.cons (.var 2) (.cons (.var 4) .nil))) (.int 0)))))
    (.seq (.for_ [8] true (.seq (.var 5)) (.seq (.for_ [9] true (.seq (.var 6)) (.seq (.ifs (.v (.call 90 (.cons (.var 8) (.cons (.var 9) (.cons (.var 0) (.cons (.var 3) .nil)))))) (.seq (.tasg [10, 11] (.cons (.call 88 (.cons (.var 2) (.cons (.var 8) .nil))) (.cons (.neg (.call 88 (.cons (.var 2) (.cons (.var 9) .nil)))) .nil)))
    (.seq (.app 7 (.call 91 (.cons (.comp (.bin .add (.bin .mul (.var 11) (.var 12)) (.bin .mul (.var 10) (.var 13))) [12, 13] false (.zip (.var 8) (.var 9))) .nil)))
    .nil)) .nil)
    .nil))
    .nil))
    (.seq (.ret (.var 7))
    .nil))))))
/-- 93 -/
def i_edges_by : CS :=
    (.seq (.asg 2 (.bin .add (.int 2) (.var 0)))
    (.seq (.asg 3 (.comp (.call 87 (.cons (.var 2) (.cons (.var 4) .nil))) [4] true (.rng (.var 2))))
    (.seq (.asg 5 (.blt .list (.cons (.var 3) .nil)))
    (.seq (.for_ [6] true (.seq (.var 1)) (.seq (.asg 3 (.call 92 (.cons (.var 3) (.cons (.var 5) (.cons (.var 6) .nil)))))
    (.seq (.asg 5 (.bin .add (.var 5) (.lst (.cons (.var 6) .nil))))
    .nil)))
    (.seq (.ret .bad)
    .nil)))))
/-- 94 -/
def i_all_rows : CS :=
    (.seq (.asg 2 (.lst .nil))
    (.seq (.for_ [3] true (.seq (.var 1)) (.seq (.asg 2 (.bin .add (.var 2) (.call 26 (.cons (.var 0) (.cons (.var 3) .nil)))))
    .nil))
    (.seq (.ret (.var 2))
    .nil)))
/-- 95 -/
def i_edges_of : CS :=
    (.seq (.ret (.call 93 (.cons (.var 0) (.cons (.call 94 (.cons (.var 0) (.cons (.var 1) .nil))) .nil))))
    .nil)
/-- 96 -/
def i_are_enough : CS :=
    (.seq (.ret (.and_ (.cmp .ne (.var 0) (.lst .nil)) (.blt .all (.cons (.comp (.blt .any (.cons (.comp (.cmp .gt (.ix (.var 1) (.var 2)) (.int 0)) [1] true (.seq (.var 0))) .nil)) [2] true (.rng (.blt .len (.cons (.ix (.var 0) (.int 0)) .nil)))) .nil))))
    .nil)
/-- 97 -/
def i_fraction : CS :=
    (.seq (.asg 2 (.call 11 (.cons (.var 0) (.cons (.var 1) .nil))))
    (.seq (.ret (.ife (.v (.cmp .gt (.var 1) (.int 0))) (.tup (.cons (.bin .fdiv (.var 0) (.var 2)) (.cons (.bin .fdiv (.var 1) (.var 2)) .nil))) (.tup (.cons (.bin .fdiv (.neg (.var 0)) (.var 2)) (.cons (.bin .fdiv (.neg (.var 1)) (.var 2)) .nil)))))
    .nil))
/-- 98 -/
def i_case_of : CS :=
    (.seq (.ret (.tup (.cons (.call 97 (.cons (.ix (.var 0) (.int 0)) (.cons (.ix (.var 0) (.int 1)) .nil))) (.cons (.blt .tuple (.cons (.comp (.call 97 (.cons (.ix (.var 0) (.int 1)) (.cons (.var 1) .nil))) [1] true (.seq (.slL (.var 0) (.int 2)))) .nil)) .nil))))
    .nil)
/-- 99 -/
def i_total : CS :=
    (.seq (.ret (.blt .tuple (.cons (.comp (.blt .sum (.cons (.comp (.ix (.var 1) (.var 2)) [1] true (.seq (.var 0))) .nil)) [2] true (.rng (.blt .len (.cons (.ix (.var 0) (.int 0)) .nil)))) .nil)))
    .nil)
/-- 100 -/
def i_case_for : CS :=
    (.seq (.expr (.call 4 (.cons (.var 0) .nil)))
    (.seq (.expr (.call 74 (.cons (.var 0) (.cons (.var 1) .nil))))
    (.seq (.asg 2 (.call 95 (.cons (.var 0) (.cons (.var 1) .nil))))
    (.seq (.ret (.ife (.v (.call 96 (.cons (.var 2) .nil))) (.call 98 (.cons (.call 99 (.cons (.var 2) .nil)) .nil)) .non))
    .nil))))
/-- 101 -/
def i_is_number : CS :=
    (.seq (.ifs (.or_ (.nt (.v (.call 10 (.cons (.var 0) (.cons (.int 2) (.cons (.int 2) .nil)))))) (.or_ (.nt (.v (.call 2 (.cons (.ix (.var 0) (.int 0)) (.cons (.int 1) (.cons (.cst 4) .nil)))))) (.nt (.v (.call 2 (.cons (.ix (.var 0) (.int 1)) (.cons (.int 1) (.cons (.cst 4) .nil)))))))) (.seq (.ret (.bl false))
    .nil) .nil)
    (.seq (.ret (.cmp .eq (.call 11 (.cons (.ix (.var 0) (.int 0)) (.cons (.ix (.var 0) (.int 1)) .nil))) (.int 1)))
    .nil))
/-- 102 -/
def i_is_case_value : CS :=
    (.seq (.ifs (.or_ (.nt (.v (.call 10 (.cons (.var 1) (.cons (.int 2) (.cons (.int 2) .nil)))))) (.or_ (.nt (.v (.call 101 (.cons (.ix (.var 1) (.int 0)) .nil)))) (.nt (.v (.call 10 (.cons (.ix (.var 1) (.int 1)) (.cons (.var 0) (.cons (.var 0) .nil)))))))) (.seq (.ret (.bl false))
    .nil) .nil)
    (.seq (.ret (.blt .all (.cons (.comp (.call 101 (.cons (.var 2) .nil)) [2] true (.seq (.ix (.var 1) (.int 1)))) .nil)))
    .nil))
/-- 103 -/
def i_need_case : CS :=
    (.seq (.ifs (.nt (.v (.call 102 (.cons (.var 0) (.cons (.var 1) .nil))))) (.seq (.rai 5)
    .nil) .nil)
    .nil)
/-- 104 -/
def i_need_walker : CS :=
    (.seq (.ifs (.nt (.v (.call 6 (.cons (.var 0) (.cons (.var 1) .nil))))) (.seq (.rai 3)
    .nil) .nil)
    .nil)
/-- 105 -/
def i_need_way : CS :=
    (.seq (.ifs (.nt (.v (.call 7 (.cons (.var 0) .nil)))) (.seq (.rai 4)
    .nil) .nil)
    .nil)
/-- 106 -/
def i_over : CS :=
    (.seq (.ret (.call 97 (.cons (.bin .mul (.ix (.var 0) (.int 0)) (.ix (.var 1) (.int 1))) (.cons (.bin .mul (.ix (.var 0) (.int 1)) (.ix (.var 1) (.int 0))) .nil))))
    .nil)
/-- 107 -/
def i_times : CS :=
    (.seq (.ret (.call 97 (.cons (.bin .mul (.ix (.var 0) (.int 0)) (.ix (.var 1) (.int 0))) (.cons (.bin .mul (.ix (.var 0) (.int 1)) (.ix (.var 1) (.int 1))) .nil))))
    .nil)
/-- 108 -/
def i_plus : CS :=
    (.seq (.ret (.call 97 (.cons (.bin .add (.bin .mul (.ix (.var 0) (.int 0)) (.ix (.var 1) (.int 1))) (.bin .mul (.ix (.var 1) (.int 0)) (.ix (.var 0) (.int 1)))) (.cons (.bin .mul (.ix (.var 0) (.int 1)) (.ix (.var 1) (.int 1))) .nil))))
    .nil)
/-- 109 -/
def i_steps_in : CS :=
    (.seq (.tasg [3, 4] (.cons (.ix (.var 0) (.int 0)) (.cons (.ix (.ix (.var 0) (.int 1)) (.var 1)) .nil)))
    (.seq (.ifs (.v (.cmp .eq (.var 2) (.str "with"))) (.seq (.ret (.call 106 (.cons (.call 107 (.cons (.var 3) (.cons (.var 4) .nil))) (.cons (.call 108 (.cons (.var 4) (.cons (.tup (.cons (.int 1) (.cons (.int 1) .nil))) .nil))) .nil))))
    .nil) .nil)
    (.seq (.ifs (.nt (.v (.call 13 (.cons (.tup (.cons (.int 1) (.cons (.int 1) .nil))) (.cons (.var 4) .nil))))) (.seq (.ret .non)
    .nil) .nil)
    (.seq (.ret (.call 106 (.cons (.call 107 (.cons (.var 3) (.cons (.var 4) .nil))) (.cons (.call 108 (.cons (.var 4) (.cons (.tup (.cons (.neg (.int 1)) (.cons (.int 1) .nil))) .nil))) .nil))))
    .nil))))
/-- 110 -/
def i_steps_taken : CS :=
    (.seq (.expr (.call 4 (.cons (.var 0) .nil)))
    (.seq (.expr (.call 103 (.cons (.var 0) (.cons (.var 1) .nil))))
    (.seq (.expr (.call 104 (.cons (.var 0) (.cons (.var 2) .nil))))
    (.seq (.expr (.call 105 (.cons (.var 3) .nil)))
    (.seq (.ret (.call 109 (.cons (.var 1) (.cons (.var 2) (.cons (.var 3) .nil)))))
    .nil)))))
/-- 111 -/
def i__law_two_cases : CS :=
    (.seq (.asg 3 (.call 41 (.cons (.var 0) (.cons (.var 2) .nil))))
    (.seq (.asgO 4 (.blt .list (.cons (.ix (.var 3) (.int 1)) .nil)))
    (.seq (.ifs (.v (.cmp .eq (.ix (.var 1) (.int 0)) (.str "meet"))) (.seq (.asg 5 (.ix (.var 4) (.ix (.var 1) (.int 2))))
    (.seq (.sub 4 (.ix (.var 1) (.int 1)) (.call 33 (.cons (.bin .mul (.ix (.var 1) (.int 3)) (.ix (.var 5) (.int 0))) (.cons (.bin .mul (.ix (.var 1) (.int 4)) (.ix (.var 5) (.int 1))) .nil))))
    (.seq (.ret (.tup (.cons (.call 30 (.cons (.var 0) (.cons (.lst (.cons (.tup (.cons (.bin .add (.ix (.var 1) (.int 3)) (.ix (.var 1) (.int 4))) (.cons (.int 1) .nil))) (.cons (.ix (.var 3) (.int 0)) .nil))) .nil))) (.cons (.blt .tuple (.cons (.var 4) .nil)) .nil))))
    .nil))) .nil)
    (.seq (.ifs (.v (.cmp .eq (.ix (.var 1) (.int 0)) (.str "back"))) (.seq (.sub 4 (.ix (.var 1) (.int 1)) (.call 33 (.cons (.bin .add (.ix (.var 1) (.int 3)) (.ix (.var 1) (.int 2))) (.cons (.bin .sub (.ix (.var 1) (.int 3)) (.ix (.var 1) (.int 2))) .nil))))
    .nil) .nil)
    (.seq (.ret (.tup (.cons (.ix (.var 3) (.int 0)) (.cons (.blt .tuple (.cons (.var 4) .nil)) .nil))))
    .nil)))))
/-- 112 -/
def i_is_possible : CS :=
    (.seq (.expr (.call 4 (.cons (.var 0) .nil)))
    (.seq (.expr (.call 74 (.cons (.var 0) (.cons (.var 1) .nil))))
    (.seq (.ret (.call 96 (.cons (.call 95 (.cons (.var 0) (.cons (.var 1) .nil))) .nil)))
    .nil)))
/-- 113 -/
def i_is_case : CS :=
    (.seq (.expr (.call 4 (.cons (.var 0) .nil)))
    (.seq (.ret (.call 102 (.cons (.var 0) (.cons (.var 1) .nil))))
    .nil))
/-- 114 -/
def i_point_of : CS :=
    (.seq (.unp [1, 2] (.var 0))
    (.seq (.ret (.bin .add (.lst (.cons (.tup (.cons (.int 1) (.cons (.int 1) .nil))) (.cons (.call 106 (.cons (.tup (.cons (.int 1) (.cons (.int 1) .nil))) (.cons (.var 1) .nil))) .nil))) (.comp (.call 106 (.cons (.tup (.cons (.int 1) (.cons (.int 1) .nil))) (.cons (.call 107 (.cons (.var 1) (.cons (.var 3) .nil))) .nil))) [3] true (.seq (.var 2)))))
    .nil))
/-- 115 -/
def i_value_at : CS :=
    (.seq (.asg 2 (.tup (.cons (.int 0) (.cons (.int 1) .nil))))
    (.seq (.for_ [3, 4] false (.zip (.var 0) (.var 1)) (.seq (.asg 2 (.call 108 (.cons (.var 2) (.cons (.call 107 (.cons (.tup (.cons (.var 3) (.cons (.int 1) .nil))) (.cons (.var 4) .nil))) .nil))))
    .nil))
    (.seq (.ret (.var 2))
    .nil)))
/-- 116 -/
def i_does_keep : CS :=
    (.seq (.asg 3 (.call 114 (.cons (.var 2) .nil)))
    (.seq (.ret (.blt .all (.cons (.comp (.cmp .ge (.ix (.call 115 (.cons (.var 4) (.cons (.var 3) .nil))) (.int 0)) (.int 0)) [4] true (.seq (.call 94 (.cons (.var 0) (.cons (.var 1) .nil))))) .nil)))
    .nil))
/-- 117 -/
def i_keeps : CS :=
    (.seq (.expr (.call 4 (.cons (.var 0) .nil)))
    (.seq (.expr (.call 74 (.cons (.var 0) (.cons (.var 1) .nil))))
    (.seq (.expr (.call 103 (.cons (.var 0) (.cons (.var 2) .nil))))
    (.seq (.ret (.call 116 (.cons (.var 0) (.cons (.var 1) (.cons (.var 2) .nil)))))
    .nil))))
/-- 118 -/
def i__law_refused_k03 : CS :=
    (.seq (.for_ [1] true (.seq (.lst (.cons .non (.cons (.int 0) (.cons (.int 4) (.cons (.bl true) .nil)))))) (.seq (.ifs (.v (.cmp .ne (.tryL (.call 117 (.cons (.var 1) (.cons .non (.cons .non .nil))))) (.str "number +"))) (.seq (.ret (.bl false))
    .nil) .nil)
    (.seq (.ifs (.v (.cmp .ne (.tryL (.call 113 (.cons (.var 1) (.cons .non .nil)))) (.str "number +"))) (.seq (.ret (.bl false))
    .nil) .nil)
    (.seq (.ifs (.v (.cmp .ne (.tryL (.call 110 (.cons (.var 1) (.cons .non (.cons .non (.cons .non .nil)))))) (.str "number +"))) (.seq (.ret (.bl false))
    .nil) .nil)
    .nil))))
    (.seq (.asg 2 (.tup (.cons (.tup (.cons (.int 5) (.cons (.int 1) .nil))) (.cons (.bin .mul (.tup (.cons (.tup (.cons (.int 1) (.cons (.int 2) .nil))) .nil)) (.var 0)) .nil))))
    (.seq (.asg 3 (.lst (.cons .non (.cons (.slH (.var 2) (.int 1)) (.cons (.tup (.cons (.tup (.cons (.int 5) (.cons (.int 1) .nil))) (.cons (.tup .nil) .nil))) (.cons (.tup (.cons (.tup (.cons (.int 0) (.cons (.int 1) .nil))) (.cons (.ix (.var 2) (.int 1)) .nil))) (.cons (.tup (.cons (.tup (.cons (.int 5) (.cons (.int 1) .nil))) (.cons (.bin .mul (.tup (.cons (.tup (.cons (.int 2) (.cons (.int 4) .nil))) .nil)) (.var 0)) .nil))) (.cons (.tup (.cons (.tup (.cons (.int 5) (.cons (.int 1) .nil))) (.cons (.blt .list (.cons (.ix (.var 2) (.int 1)) .nil)) .nil))) .nil))))))))
    (.seq (.for_ [1] true (.seq (.bin .add (.var 3) (.lst (.cons (.tup (.cons (.int 5) (.cons (.ix (.var 2) (.int 1)) .nil))) (.cons (.tup (.cons (.tup (.cons (.neg (.int 5)) (.cons (.int 1) .nil))) (.cons (.ix (.var 2) (.int 1)) .nil))) (.cons (.tup (.cons (.tup (.cons (.bl true) (.cons (.int 1) .nil))) (.cons (.ix (.var 2) (.int 1)) .nil))) .nil)))))) (.seq (.ifs (.or_ (.v (.isB false false (.call 113 (.cons (.var 0) (.cons (.var 1) .nil))))) (.v (.cmp .ne (.tryL (.call 117 (.cons (.var 0) (.cons (.tup .nil) (.cons (.var 1) .nil))))) (.str "case +")))) (.seq (.ret (.bl false))
    .nil) .nil)
    (.seq (.ifs (.v (.cmp .ne (.tryL (.call 110 (.cons (.var 0) (.cons (.var 1) (.cons .non (.cons .non .nil)))))) (.str "case +"))) (.seq (.ret (.bl false))
    .nil) .nil)
    .nil)))
    (.seq (.for_ [1] true (.seq (.lst (.cons .non (.cons (.neg (.int 1)) (.cons (.var 0) (.cons (.bl true) .nil)))))) (.seq (.ifs (.v (.cmp .ne (.tryL (.call 110 (.cons (.var 0) (.cons (.var 2) (.cons (.var 1) (.cons .non .nil)))))) (.str "walker +"))) (.seq (.ret (.bl false))
    .nil) .nil)
    .nil))
    (.seq (.for_ [1] true (.seq (.lst (.cons .non (.cons (.str "up") (.cons (.str "With") (.cons (.int 0) (.cons (.str "") .nil))))))) (.seq (.ifs (.v (.cmp .ne (.tryL (.call 110 (.cons (.var 0) (.cons (.var 2) (.cons (.int 0) (.cons (.var 1) .nil)))))) (.str "way +"))) (.seq (.ret (.bl false))
    .nil) .nil)
    .nil))
    (.seq (.ret (.and_ (.cmp .eq (.tryL (.call 100 (.cons (.var 0) (.cons .non .nil)))) (.str "facts +")) (.isB true true (.call 113 (.cons (.var 0) (.cons (.var 2) .nil))))))
    .nil)))))))
/-- 119 -/
def i__law_less : CS :=
    (.seq (.ret (.cmp .lt (.bin .mul (.ix (.var 0) (.int 0)) (.ix (.var 1) (.int 1))) (.bin .mul (.ix (.var 1) (.int 0)) (.ix (.var 0) (.int 1)))))
    .nil)
/-- 120 -/
def i__law_so : CS :=
    (.seq (.tasg [2, 3] (.cons (.ix (.var 0) (.int 0)) (.cons (.ix (.var 0) (.int 1)) .nil)))
    (.seq (.ifs (.v (.cmp .eq (.var 2) (.str "length"))) (.seq (.tasg [4, 5, 6] (.cons (.ix (.var 1) (.int 0)) (.cons (.tup (.cons (.ix (.var 0) (.int 1)) (.cons (.int 1) .nil))) (.cons (.ix (.var 0) (.int 2)) .nil))))
    (.seq (.asg 6 (.ife (.v (.isN true (.var 6))) (.var 6) (.tup (.cons (.var 6) (.cons (.int 1) .nil)))))
    (.seq (.ret (.and_ (.nt (.call 119 (.cons (.var 4) (.cons (.var 5) .nil)))) (.or_ (.isN true (.var 6)) (.nt (.call 119 (.cons (.var 6) (.cons (.var 4) .nil)))))))
    .nil))) .nil)
    (.seq (.asg 7 (.ix (.ix (.var 1) (.int 1)) (.var 3)))
    (.seq (.ifs (.v (.cmp .eq (.var 2) (.str "steps"))) (.seq (.asg 4 (.call 37 (.cons (.var 1) (.cons (.var 3) (.cons (.ix (.var 0) (.int 2)) .nil)))))
    (.seq (.ifs (.or_ (.v (.isN true (.var 4))) (.v (.call 119 (.cons (.var 4) (.cons (.tup (.cons (.ix (.var 0) (.int 3)) (.cons (.int 1) .nil))) .nil))))) (.seq (.ret (.bl false))
    .nil) .nil)
    (.seq (.ret (.nt (.call 119 (.cons (.tup (.cons (.ix (.var 0) (.int 4)) (.cons (.int 1) .nil))) (.cons (.var 4) .nil)))))
    .nil))) .nil)
    (.seq (.ifs (.or_ (.v (.cmp .eq (.var 2) (.str "pace"))) (.v (.cmp .eq (.var 2) (.str "quick")))) (.seq (.asg 4 (.ife (.v (.cmp .eq (.var 2) (.str "pace"))) (.var 7) (.call 35 (.cons (.var 7) (.cons (.ix (.ix (.var 1) (.int 1)) (.ix (.var 0) (.int 2))) .nil)))))
    (.seq (.unp [5, 6] (.slL (.var 0) (.neg (.int 2))))
    (.seq (.ret (.and_ (.nt (.call 119 (.cons (.var 4) (.cons (.var 5) .nil)))) (.or_ (.isN true (.var 6)) (.nt (.call 119 (.cons (.var 6) (.cons (.var 4) .nil)))))))
    .nil))) .nil)
    (.seq (.ifs (.v (.cmp .eq (.var 2) (.str "meet"))) (.seq (.tasg [8, 9] (.cons (.ix (.ix (.var 1) (.int 1)) (.ix (.var 0) (.int 2))) (.cons (.call 35 (.cons (.tup (.cons (.ix (.var 0) (.int 3)) (.cons (.int 1) .nil))) (.cons (.var 7) .nil))) .nil)))
    (.seq (.asg 10 (.call 36 (.cons (.var 9) (.cons (.call 34 (.cons (.var 7) (.cons (.tup (.cons (.int 1) (.cons (.int 1) .nil))) .nil))) .nil))))
    (.seq (.asg 11 (.call 36 (.cons (.var 9) (.cons (.call 34 (.cons (.var 8) (.cons (.tup (.cons (.neg (.int 1)) (.cons (.int 1) .nil))) .nil))) .nil))))
    (.seq (.asg 12 (.and_ (.cmp .eq (.call 36 (.cons (.var 9) (.cons (.var 8) .nil))) (.tup (.cons (.ix (.var 0) (.int 4)) (.cons (.int 1) .nil)))) (.cmp .eq (.call 34 (.cons (.var 10) (.cons (.var 11) .nil))) (.ix (.var 1) (.int 0)))))
    (.seq (.ret (.and_ (.var 12) (.nt (.call 119 (.cons (.var 8) (.cons (.tup (.cons (.int 1) (.cons (.int 1) .nil))) .nil))))))
    .nil))))) .nil)
    (.seq (.asg 13 (.call 36 (.cons (.call 35 (.cons (.tup (.cons (.ix (.var 0) (.int 2)) (.cons (.int 1) .nil))) (.cons (.var 7) .nil))) (.cons (.call 34 (.cons (.var 7) (.cons (.tup (.cons (.int 1) (.cons (.int 1) .nil))) .nil))) .nil))))
    (.seq (.asg 14 (.call 36 (.cons (.call 35 (.cons (.tup (.cons (.ix (.var 0) (.int 3)) (.cons (.int 1) .nil))) (.cons (.var 7) .nil))) (.cons (.call 34 (.cons (.var 7) (.cons (.tup (.cons (.neg (.int 1)) (.cons (.int 1) .nil))) .nil))) .nil))))
    (.seq (.ret (.and_ (.cmp .eq (.var 13) (.var 14)) (.nt (.call 119 (.cons (.ix (.var 1) (.int 0)) (.cons (.var 13) .nil))))))
    .nil)))))))))
/-- 121 -/
def i_law_k03 : CS :=
    (.seq (.for_ [1] true (.seq (.slH (.bin .add (.lst (.cons (.int 0) .nil)) (.var 0)) (.int 10))) (.seq (.asgO 2 (.call 1 (.cons (.var 1) (.cons (.int 3) .nil))))
    (.seq (.asg 3 (.bin .add (.int 1) (.call 28 (.cons (.var 2) (.cons (.int 3) .nil)))))
    (.seq (.for_ [4] true (.rng (.int 14)) (.seq (.asg 5 (.call 42 (.cons (.var 2) (.cons (.var 3) .nil))))
    (.seq (.asg 6 (.call 111 (.cons (.var 2) (.cons (.var 5) (.cons (.var 3) .nil)))))
    (.seq (.ifs (.nt (.v (.call 51 (.cons (.call 117 (.cons (.var 3) (.cons (.tup (.cons (.var 5) .nil)) (.cons (.var 6) .nil)))) (.cons (.call 120 (.cons (.var 5) (.cons (.var 6) .nil))) .nil))))) (.seq (.ret (.bl false))
    .nil) .nil)
    (.seq (.tasg [7, 8] (.cons (.call 28 (.cons (.var 2) (.cons (.var 3) .nil))) (.cons (.call 30 (.cons (.var 2) (.cons (.lst (.cons (.str "with") (.cons (.str "against") .nil))) .nil))) .nil)))
    (.seq (.ifs (.nt (.v (.call 51 (.cons (.call 110 (.cons (.var 3) (.cons (.var 6) (.cons (.var 7) (.cons (.var 8) .nil))))) (.cons (.call 37 (.cons (.var 6) (.cons (.var 7) (.cons (.var 8) .nil)))) .nil))))) (.seq (.ret (.bl false))
    .nil) .nil)
    .nil))))))
    (.seq (.asg 9 (.call 59 (.cons (.var 2) (.cons (.var 3) (.cons (.int 4) .nil)))))
    (.seq (.asg 10 (.call 100 (.cons (.var 3) (.cons (.var 9) .nil))))
    (.seq (.ifs (.v (.cmp .eq (.isN true (.var 10)) (.call 112 (.cons (.var 3) (.cons (.var 9) .nil))))) (.seq (.ret (.bl false))
    .nil) .nil)
    (.seq (.ifs (.and_ (.v (.isN false (.var 10))) (.v (.cmp .ne (.compC (.int 1) [5] true (.seq (.var 9)) (.nt (.v (.call 120 (.cons (.var 5) (.cons (.var 10) .nil)))))) (.lst .nil)))) (.seq (.ret (.bl false))
    .nil) .nil)
    (.seq (.ifs (.nt (.v (.call 118 (.cons (.var 3) .nil)))) (.seq (.ret (.bl false))
    .nil) .nil)
    .nil)))))))))
    (.seq (.unp [11, 12, 13, 14, 15] (.call 0 .nil))
    (.seq (.asg 16 (.tup (.cons (.tup (.cons (.int 18) (.cons (.int 1) .nil))) (.cons (.tup (.cons (.tup (.cons (.int 2) (.cons (.int 1) .nil))) .nil)) .nil))))
    (.seq (.ifs (.v (.cmp .ne (.lst (.cons (.call 117 (.cons (.int 1) (.cons (.var 11) (.cons (.var 16) .nil)))) (.cons (.call 117 (.cons (.int 1) (.cons (.var 12) (.cons (.var 16) .nil)))) (.cons (.call 117 (.cons (.int 1) (.cons (.var 15) (.cons (.var 16) .nil)))) .nil)))) (.lst (.cons (.bl true) (.cons (.bl false) (.cons (.bl true) .nil)))))) (.seq (.ret (.bl false))
    .nil) .nil)
    (.seq (.ifs (.v (.cmp .ne (.lst (.cons (.call 110 (.cons (.int 1) (.cons (.var 16) (.cons (.int 0) (.cons (.str "with") .nil))))) (.cons (.call 110 (.cons (.int 1) (.cons (.var 16) (.cons (.int 0) (.cons (.str "against") .nil))))) .nil))) (.lst (.cons (.tup (.cons (.int 12) (.cons (.int 1) .nil))) (.cons (.tup (.cons (.int 36) (.cons (.int 1) .nil))) .nil))))) (.seq (.ret (.bl false))
    .nil) .nil)
    (.seq (.ifs (.v (.isN false (.call 110 (.cons (.int 1) (.cons (.tup (.cons (.tup (.cons (.int 18) (.cons (.int 1) .nil))) (.cons (.tup (.cons (.tup (.cons (.int 1) (.cons (.int 1) .nil))) .nil)) .nil))) (.cons (.int 0) (.cons (.str "against") .nil))))))) (.seq (.ret (.bl false))
    .nil) .nil)
    (.seq (.ifs (.or_ (.v (.isB false false (.call 117 (.cons (.int 1) (.cons (.var 15) (.cons (.tup (.cons (.tup (.cons (.int 5) (.cons (.int 1) .nil))) (.cons (.tup (.cons (.tup (.cons (.int 2) (.cons (.int 1) .nil))) .nil)) .nil))) .nil)))))) (.v (.isB false false (.call 117 (.cons (.int 2) (.cons (.var 14) (.cons (.tup (.cons (.tup (.cons (.int 30) (.cons (.int 1) .nil))) (.cons (.tup (.cons (.tup (.cons (.int 1) (.cons (.int 3) .nil))) (.cons (.tup (.cons (.int 1) (.cons (.int 2) .nil))) .nil))) .nil))) .nil))))))) (.seq (.ret (.bl false))
    .nil) .nil)
    (.seq (.ret (.and_ (.cmp .eq (.call 100 (.cons (.int 1) (.cons (.var 11) .nil))) (.var 16)) (.cmp .eq (.call 100 (.cons (.int 2) (.cons (.var 13) .nil))) (.tup (.cons (.tup (.cons (.int 40) (.cons (.int 1) .nil))) (.cons (.tup (.cons (.tup (.cons (.int 1) (.cons (.int 3) .nil))) (.cons (.tup (.cons (.int 1) (.cons (.int 1) .nil))) .nil))) .nil))))))
    .nil))))))))
/-- 122 -/
def i_need_both : CS :=
    (.seq (.expr (.call 4 (.cons (.var 0) .nil)))
    (.seq (.expr (.call 74 (.cons (.var 0) (.cons (.var 1) .nil))))
    (.seq (.expr (.call 74 (.cons (.var 0) (.cons (.var 2) .nil))))
    .nil)))
/-- 123 -/
def i_holds : CS :=
    (.seq (.ret (.blt .all (.cons (.comp (.cmp .ge (.call 88 (.cons (.var 1) (.cons (.var 2) .nil))) (.int 0)) [2] true (.seq (.var 0))) .nil)))
    .nil)
/-- 124 -/
def i_far_enough : CS :=
    (.seq (.asg 2 (.ix (.compC (.var 3) [3] true (.seq (.var 0)) (.v (.cmp .lt (.call 88 (.cons (.var 1) (.cons (.var 3) .nil))) (.int 0)))) (.int 0)))
    (.seq (.asg 4 (.call 99 (.cons (.var 0) .nil)))
    (.seq (.asg 5 (.bin .add (.int 1) (.bin .fdiv (.blt .max2 (.cons (.int 0) (.cons (.call 88 (.cons (.var 1) (.cons (.var 4) .nil))) .nil))) (.neg (.call 88 (.cons (.var 1) (.cons (.var 2) .nil)))))))
    (.seq (.ret (.blt .tuple (.cons (.comp (.bin .add (.var 6) (.bin .mul (.var 5) (.var 7))) [6, 7] false (.zip (.var 4) (.var 2))) .nil)))
    .nil))))
/-- 125 -/
def i_kept_apart : CS :=
    (.seq (.ifs (.nt (.v (.call 96 (.cons (.var 1) .nil)))) (.seq (.ret .non)
    .nil) .nil)
    (.seq (.for_ [3] true (.seq (.call 94 (.cons (.var 0) (.cons (.var 2) .nil)))) (.seq (.ifs (.nt (.v (.call 123 (.cons (.var 1) (.cons (.var 3) .nil))))) (.seq (.ret (.call 98 (.cons (.call 124 (.cons (.var 1) (.cons (.var 3) .nil))) .nil)))
    .nil) .nil)
    .nil))
    (.seq (.ret .non)
    .nil)))
/-- 126 -/
def i_parted : CS :=
    (.seq (.asg 3 (.call 125 (.cons (.var 0) (.cons (.call 95 (.cons (.var 0) (.cons (.var 1) .nil))) (.cons (.var 2) .nil)))))
    (.seq (.ret (.ife (.v (.isN false (.var 3))) (.var 3) (.call 125 (.cons (.var 0) (.cons (.call 95 (.cons (.var 0) (.cons (.var 2) .nil))) (.cons (.var 1) .nil))))))
    .nil))
/-- 127 -/
def i_parting : CS :=
    (.seq (.expr (.call 122 (.cons (.var 0) (.cons (.var 1) (.cons (.var 2) .nil)))))
    (.seq (.ret (.call 126 (.cons (.var 0) (.cons (.var 1) (.cons (.var 2) .nil)))))
    .nil))
/-- 128 -/
def i__law_point : CS :=
    (.seq (.asgO 1 (.lst (.cons (.tup (.cons (.int 1) (.cons (.int 1) .nil))) (.cons (.call 35 (.cons (.tup (.cons (.int 1) (.cons (.int 1) .nil))) (.cons (.ix (.var 0) (.int 0)) .nil))) .nil))))
    (.seq (.for_ [2] true (.seq (.ix (.var 0) (.int 1))) (.seq (.app 1 (.call 35 (.cons (.tup (.cons (.int 1) (.cons (.int 1) .nil))) (.cons (.call 36 (.cons (.ix (.var 0) (.int 0)) (.cons (.var 2) .nil))) .nil))))
    .nil))
    (.seq (.ret (.var 1))
    .nil)))
/-- 129 -/
def i__law_all_lines : CS :=
    (.seq (.asg 2 (.lst .nil))
    (.seq (.for_ [3] true (.seq (.var 1)) (.seq (.asg 2 (.bin .add (.var 2) (.call 53 (.cons (.var 0) (.cons (.var 3) .nil)))))
    .nil))
    (.seq (.ret (.var 2))
    .nil)))
/-- 130 -/
def i__law_worth : CS :=
    (.seq (.asg 2 (.tup (.cons (.int 0) (.cons (.int 1) .nil))))
    (.seq (.for_ [3, 4] false (.zip (.var 0) (.var 1)) (.seq (.asg 2 (.call 34 (.cons (.var 2) (.cons (.call 36 (.cons (.tup (.cons (.var 3) (.cons (.int 1) .nil))) (.cons (.var 4) .nil))) .nil))))
    .nil))
    (.seq (.ret (.var 2))
    .nil)))
/-- 131 -/
def i__law_keeps : CS :=
    (.seq (.asg 3 (.call 128 (.cons (.var 2) .nil)))
    (.seq (.ret (.cmp .eq (.compC (.int 1) [4] true (.seq (.call 129 (.cons (.var 0) (.cons (.var 1) .nil)))) (.v (.cmp .lt (.ix (.call 130 (.cons (.var 4) (.cons (.var 3) .nil))) (.int 0)) (.int 0)))) (.lst .nil)))
    .nil))
/-- 132 -/
def i_needless : CS :=
    (.seq (.expr (.call 4 (.cons (.var 0) .nil)))
    (.seq (.expr (.call 74 (.cons (.var 0) (.cons (.var 1) .nil))))
    (.seq (.asgO 2 (.lst .nil))
    (.seq (.for_ [3] true (.rng (.blt .len (.cons (.var 1) .nil))) (.seq (.ifs (.v (.isN true (.call 126 (.cons (.var 0) (.cons (.var 1) (.cons (.bin .add (.slH (.var 1) (.var 3)) (.slL (.var 1) (.bin .add (.var 3) (.int 1)))) .nil)))))) (.seq (.app 2 (.var 3))
    .nil) .nil)
    .nil))
    (.seq (.ret (.var 2))
    .nil)))))
/-- 133 -/
def i__law_other : CS :=
    (.seq (.asg 3 (.call 28 (.cons (.var 0) (.cons (.int 6) .nil))))
    (.seq (.ifs (.and_ (.v (.cmp .eq (.var 3) (.int 0))) (.v (.cmp .ne (.var 2) (.tup .nil)))) (.seq (.ret (.slL (.var 2) (.int 1)))
    .nil) .nil)
    (.seq (.ifs (.and_ (.v (.cmp .eq (.var 3) (.int 1))) (.v (.cmp .lt (.blt .len (.cons (.var 2) .nil)) (.int 5)))) (.seq (.ret (.bin .add (.var 2) (.tup (.cons (.call 42 (.cons (.var 0) (.cons (.var 1) .nil))) .nil))))
    .nil) .nil)
    (.seq (.ifs (.v (.cmp .eq (.var 3) (.int 2))) (.seq (.ret (.rev (.var 2)))
    .nil) .nil)
    (.seq (.ifs (.and_ (.v (.cmp .eq (.var 3) (.int 3))) (.v (.cmp .lt (.blt .len (.cons (.var 2) .nil)) (.int 4)))) (.seq (.ret (.bin .add (.bin .add (.var 2) (.slH (.var 2) (.int 1))) (.tup (.cons (.tup (.cons (.str "length") (.cons (.int 1) (.cons .non .nil)))) .nil))))
    .nil) .nil)
    (.seq (.ret (.ife (.v (.cmp .eq (.var 3) (.int 4))) (.call 59 (.cons (.var 0) (.cons (.var 1) (.cons (.int 3) .nil)))) (.var 2)))
    .nil))))))
/-- 134 -/
def i_need_possible : CS :=
    (.seq (.ifs (.nt (.v (.call 96 (.cons (.var 0) .nil)))) (.seq (.rai 8)
    .nil) .nil)
    .nil)
/-- 135 -/
def i_is_sure_by : CS :=
    (.seq (.ret (.blt .all (.cons (.comp (.call 123 (.cons (.var 1) (.cons (.var 3) .nil))) [3] true (.seq (.call 26 (.cons (.var 0) (.cons (.var 2) .nil))))) .nil)))
    .nil)
/-- 136 -/
def i_how : CS :=
    (.seq (.expr (.call 4 (.cons (.var 0) .nil)))
    (.seq (.expr (.call 74 (.cons (.var 0) (.cons (.var 1) .nil))))
    (.seq (.expr (.call 17 (.cons (.var 0) (.cons (.var 2) .nil))))
    (.seq (.asg 3 (.call 95 (.cons (.var 0) (.cons (.var 1) .nil))))
    (.seq (.expr (.call 134 (.cons (.var 3) .nil)))
    (.seq (.ifs (.v (.call 135 (.cons (.var 0) (.cons (.var 3) (.cons (.var 2) .nil))))) (.seq (.ret (.str "always"))
    .nil) .nil)
    (.seq (.ret (.ife (.v (.call 96 (.cons (.call 93 (.cons (.var 0) (.cons (.bin .add (.call 94 (.cons (.var 0) (.cons (.var 1) .nil))) (.call 26 (.cons (.var 0) (.cons (.var 2) .nil)))) .nil))) .nil))) (.str "sometimes") (.str "never")))
    .nil)))))))
/-- 137 -/
def i__law_within : CS :=
    (.seq (.ifs (.nt (.v (.call 112 (.cons (.var 0) (.cons (.var 1) .nil))))) (.seq (.ret (.bl true))
    .nil) .nil)
    (.seq (.ret (.cmp .eq (.compC (.int 1) [3] true (.seq (.var 2)) (.v (.cmp .ne (.call 136 (.cons (.var 0) (.cons (.var 1) (.cons (.var 3) .nil)))) (.str "always")))) (.lst .nil)))
    .nil))
/-- 138 -/
def i__law_alike : CS :=
    (.seq (.ret (.and_ (.call 137 (.cons (.var 0) (.cons (.var 1) (.cons (.var 2) .nil)))) (.call 137 (.cons (.var 0) (.cons (.var 2) (.cons (.var 1) .nil))))))
    .nil)
/-- 139 -/
def i_alike : CS :=
    (.seq (.expr (.call 122 (.cons (.var 0) (.cons (.var 1) (.cons (.var 2) .nil)))))
    (.seq (.ret (.isN true (.call 126 (.cons (.var 0) (.cons (.var 1) (.cons (.var 2) .nil))))))
    .nil))
/-- 140 -/
def i__law_right_k11 : CS :=
    (.seq (.tasg [3, 4] (.cons (.call 127 (.cons (.var 0) (.cons (.var 1) (.cons (.var 2) .nil)))) (.cons (.call 138 (.cons (.var 0) (.cons (.var 1) (.cons (.var 2) .nil)))) .nil)))
    (.seq (.ifs (.or_ (.nt (.v (.call 51 (.cons (.call 139 (.cons (.var 0) (.cons (.var 1) (.cons (.var 2) .nil)))) (.cons (.var 4) .nil))))) (.v (.cmp .ne (.isN true (.var 3)) (.var 4)))) (.seq (.ret (.bl false))
    .nil) .nil)
    (.seq (.ret (.or_ (.var 4) (.cmp .ne (.call 131 (.cons (.var 0) (.cons (.var 1) (.cons (.var 3) .nil)))) (.call 131 (.cons (.var 0) (.cons (.var 2) (.cons (.var 3) .nil)))))))
    .nil)))
/-- 141 -/
def i_law_k11 : CS :=
    (.seq (.for_ [1] true (.seq (.slH (.bin .add (.lst (.cons (.int 0) .nil)) (.var 0)) (.int 8))) (.seq (.asgO 2 (.call 1 (.cons (.var 1) (.cons (.int 11) .nil))))
    (.seq (.asg 3 (.bin .add (.int 1) (.call 28 (.cons (.var 2) (.cons (.int 2) .nil)))))
    (.seq (.asg 4 (.call 59 (.cons (.var 2) (.cons (.var 3) (.cons (.int 4) .nil)))))
    (.seq (.for_ [5] true (.seq (.lst (.cons (.call 133 (.cons (.var 2) (.cons (.var 3) (.cons (.var 4) .nil)))) (.cons (.call 133 (.cons (.var 2) (.cons (.var 3) (.cons (.var 4) .nil)))) .nil)))) (.seq (.ifs (.or_ (.nt (.v (.call 140 (.cons (.var 3) (.cons (.var 4) (.cons (.var 5) .nil)))))) (.nt (.v (.call 140 (.cons (.var 3) (.cons (.var 5) (.cons (.var 4) .nil))))))) (.seq (.ret (.bl false))
    .nil) .nil)
    .nil))
    (.seq (.asgO 6 (.lst .nil))
    (.seq (.for_ [7] true (.rng (.blt .len (.cons (.var 4) .nil))) (.seq (.ifs (.v (.call 138 (.cons (.var 3) (.cons (.var 4) (.cons (.bin .add (.slH (.var 4) (.var 7)) (.slL (.var 4) (.bin .add (.var 7) (.int 1)))) .nil))))) (.seq (.app 6 (.var 7))
    .nil) .nil)
    .nil))
    (.seq (.ifs (.nt (.v (.call 51 (.cons (.call 132 (.cons (.var 3) (.cons (.var 4) .nil))) (.cons (.var 6) .nil))))) (.seq (.ret (.bl false))
    .nil) .nil)
    (.seq (.for_ [8] true (.seq (.lst (.cons .non (.cons (.blt .list (.cons (.var 4) .nil)) (.cons (.tup (.cons .non .nil)) (.cons (.tup (.cons (.tup (.cons (.str "length") (.cons (.int 2) .nil))) .nil)) .nil)))))) (.seq (.ifs (.v (.cmp .ne (.tryL (.call 139 (.cons (.var 3) (.cons (.var 8) (.cons .non .nil))))) (.str "facts +"))) (.seq (.ret (.bl false))
    .nil) .nil)
    (.seq (.ifs (.v (.cmp .ne (.tryL (.call 127 (.cons (.var 3) (.cons (.tup .nil) (.cons (.var 8) .nil))))) (.str "facts +"))) (.seq (.ret (.bl false))
    .nil) .nil)
    (.seq (.ifs (.v (.cmp .ne (.tryL (.call 132 (.cons (.var 3) (.cons (.var 8) .nil)))) (.str "facts +"))) (.seq (.ret (.bl false))
    .nil) .nil)
    .nil))))
    .nil)))))))))
    (.seq (.unp [9, 10, 11, 12, 13] (.call 0 .nil))
    (.seq (.asg 14 (.tup (.cons (.tup (.cons (.str "length") (.cons (.int 18) (.cons (.int 18) .nil)))) (.cons (.tup (.cons (.str "pace") (.cons (.int 0) (.cons (.tup (.cons (.int 2) (.cons (.int 1) .nil))) (.cons (.tup (.cons (.int 2) (.cons (.int 1) .nil))) .nil))))) .nil))))
    (.seq (.ifs (.v (.cmp .ne (.lst (.cons (.call 139 (.cons (.int 1) (.cons (.var 9) (.cons (.var 14) .nil)))) (.cons (.call 139 (.cons (.int 1) (.cons (.var 9) (.cons (.var 10) .nil)))) (.cons (.call 127 (.cons (.int 1) (.cons (.var 9) (.cons (.var 14) .nil)))) .nil)))) (.lst (.cons (.bl true) (.cons (.bl false) (.cons .non .nil)))))) (.seq (.ret (.bl false))
    .nil) .nil)
    (.seq (.asg 15 (.call 127 (.cons (.int 1) (.cons (.var 10) (.cons (.tup .nil) .nil)))))
    (.seq (.ifs (.or_ (.v (.isN true (.var 15))) (.or_ (.v (.call 131 (.cons (.int 1) (.cons (.var 10) (.cons (.var 15) .nil))))) (.v (.cmp .ne (.call 132 (.cons (.int 1) (.cons (.bin .add (.var 9) (.var 14)) .nil))) (.lst (.cons (.int 0) (.cons (.int 1) (.cons (.int 2) (.cons (.int 3) .nil))))))))) (.seq (.ret (.bl false))
    .nil) .nil)
    (.seq (.tasg [16, 17] (.cons (.bin .add (.var 10) (.tup (.cons (.tup (.cons (.str "length") (.cons (.int 1) (.cons (.int 10) .nil)))) .nil))) (.cons (.bin .add (.var 10) (.tup (.cons (.tup (.cons (.str "length") (.cons (.int 5) (.cons (.int 9) .nil)))) .nil))) .nil)))
    (.seq (.ifs (.or_ (.v (.isB false true (.call 139 (.cons (.int 1) (.cons (.var 16) (.cons (.var 17) .nil)))))) (.v (.isN true (.call 127 (.cons (.int 1) (.cons (.var 16) (.cons (.tup .nil) .nil))))))) (.seq (.ret (.bl false))
    .nil) .nil)
    (.seq (.ifs (.v (.cmp .ne (.comp (.call 132 (.cons (.int 1) (.cons (.var 18) .nil))) [18] true (.seq (.tup (.cons (.var 9) (.cons (.bin .mul (.var 10) (.int 2)) (.cons (.bin .add (.var 10) (.var 17)) (.cons (.var 16) .nil))))))) (.lst (.cons (.lst .nil) (.cons (.lst (.cons (.int 0) (.cons (.int 1) .nil))) (.cons (.lst (.cons (.int 0) (.cons (.int 1) .nil))) (.cons (.lst .nil) .nil))))))) (.seq (.ret (.bl false))
    .nil) .nil)
    (.seq (.ret (.cmp .eq (.call 132 (.cons (.int 1) (.cons (.tup (.cons (.tup (.cons (.str "length") (.cons (.int 1) (.cons .non .nil)))) (.cons (.ix (.var 10) (.int 0)) .nil))) .nil))) (.lst (.cons (.int 0) .nil))))
    .nil))))))))))
def TAB : List DefI := [⟨0, 3, i__law_known, false⟩,
  ⟨2, 2, i__law_deck, false⟩,
  ⟨3, 3, i_is_within, false⟩,
  ⟨1, 1, i_is_many_value, false⟩,
  ⟨1, 1, i_need_many, false⟩,
  ⟨1, 1, i_is_length, false⟩,
  ⟨2, 2, i_is_walker, false⟩,
  ⟨1, 1, i_is_way, false⟩,
  ⟨3, 3, i_are_numbers, false⟩,
  ⟨2, 2, i_is_steps, false⟩,
  ⟨3, 3, i_has_items, false⟩,
  ⟨2, 2, i_gcd, false⟩,
  ⟨1, 1, i_is_quotient, false⟩,
  ⟨2, 2, i_is_less, false⟩,
  ⟨2, 2, i_are_quotients, false⟩,
  ⟨3, 3, i_are_two, false⟩,
  ⟨2, 5, i_is_fact_value, false⟩,
  ⟨2, 2, i_need_fact, false⟩,
  ⟨4, 7, i_row_of, false⟩,
  ⟨2, 3, i_length_rows, false⟩,
  ⟨2, 8, i_steps_rows, false⟩,
  ⟨2, 7, i_pace_rows, false⟩,
  ⟨2, 8, i_quick_rows, false⟩,
  ⟨1, 2, i_negative, false⟩,
  ⟨2, 9, i_meet_rows, false⟩,
  ⟨2, 7, i_back_rows, false⟩,
  ⟨2, 3, i_rows_of, false⟩,
  ⟨2, 2, i_fact_rows, false⟩,
  ⟨2, 4, i__law_pick, false⟩,
  ⟨1, 1, i__law_floor, false⟩,
  ⟨2, 2, i__law_one, false⟩,
  ⟨1, 1, i__law_ceiling, false⟩,
  ⟨2, 3, i__law_range, false⟩,
  ⟨2, 5, i__law_low, false⟩,
  ⟨2, 2, i__law_add, false⟩,
  ⟨2, 2, i__law_over, false⟩,
  ⟨2, 2, i__law_mul, false⟩,
  ⟨3, 6, i__law_taken, false⟩,
  ⟨2, 3, i__law_about, false⟩,
  ⟨2, 10, i__law_true_fact, false⟩,
  ⟨2, 2, i__law_part, false⟩,
  ⟨2, 4, i__law_a_case, false⟩,
  ⟨2, 6, i__law_any_fact, false⟩,
  ⟨1, 1, i__law_sort, false⟩,
  ⟨2, 4, i__law_same_0, false⟩,
  ⟨2, 4, i__law_same_1, false⟩,
  ⟨2, 4, i__law_same_2, false⟩,
  ⟨2, 4, i__law_same_3, false⟩,
  ⟨2, 4, i__law_same_4, false⟩,
  ⟨2, 4, i__law_same_5, false⟩,
  ⟨2, 4, i__law_same_6, false⟩,
  ⟨2, 4, i__law_same_7, false⟩,
  ⟨2, 5, i__law_parts_of, false⟩,
  ⟨2, 16, i__law_lines, false⟩,
  ⟨1, 15, i_law_k02, true⟩,
  ⟨2, 2, i_is_fact, false⟩,
  ⟨2, 3, i_are_facts_value, false⟩,
  ⟨2, 2, i_are_facts, false⟩,
  ⟨0, 8, i__law_written_k01, false⟩,
  ⟨3, 6, i__law_some_facts, false⟩,
  ⟨1, 1, i__law_whole, false⟩,
  ⟨2, 6, i__law_spoilt_0, false⟩,
  ⟨2, 6, i__law_spoilt_1, false⟩,
  ⟨2, 6, i__law_spoilt_2, false⟩,
  ⟨2, 6, i__law_spoilt_3, false⟩,
  ⟨2, 6, i__law_spoilt_4, false⟩,
  ⟨2, 6, i__law_spoilt_5, false⟩,
  ⟨2, 6, i__law_spoilt_6, false⟩,
  ⟨2, 6, i__law_spoilt_7, false⟩,
  ⟨3, 3, i__law_number_so, false⟩,
  ⟨1, 1, i__law_is_part, false⟩,
  ⟨2, 2, i__law_are_parts, false⟩,
  ⟨2, 7, i__law_is_fact, false⟩,
  ⟨1, 12, i_law_k01, true⟩,
  ⟨2, 2, i_need_facts, false⟩,
  ⟨1, 1, i_shown, false⟩,
  ⟨1, 2, i_fact_line, false⟩,
  ⟨2, 3, i_lines_of, false⟩,
  ⟨2, 2, i_facts_text, false⟩,
  ⟨1, 1, i__law_item, false⟩,
  ⟨2, 5, i__law_writing, false⟩,
  ⟨1, 2, i_number_in, false⟩,
  ⟨1, 4, i_item_in, false⟩,
  ⟨1, 3, i_piece_of, false⟩,
  ⟨1, 9, i_facts_in, false⟩,
  ⟨1, 1, i_read_facts, false⟩,
  ⟨1, 14, i_law_k13, true⟩,
  ⟨2, 3, i_unit, false⟩,
  ⟨2, 4, i_worth, false⟩,
  ⟨2, 4, i_zeros_at, false⟩,
  ⟨4, 7, i_are_neighbours, false⟩,
  ⟨1, 3, i_lowest, false⟩,
  ⟨3, 14, i_cut, false⟩,
  ⟨2, 7, i_edges_by, false⟩,
  ⟨2, 4, i_all_rows, false⟩,
  ⟨2, 2, i_edges_of, false⟩,
  ⟨1, 3, i_are_enough, false⟩,
  ⟨2, 3, i_fraction, false⟩,
  ⟨1, 2, i_case_of, false⟩,
  ⟨1, 3, i_total, false⟩,
  ⟨2, 3, i_case_for, false⟩,
  ⟨1, 1, i_is_number, false⟩,
  ⟨2, 3, i_is_case_value, false⟩,
  ⟨2, 2, i_need_case, false⟩,
  ⟨2, 2, i_need_walker, false⟩,
  ⟨1, 1, i_need_way, false⟩,
  ⟨2, 2, i_over, false⟩,
  ⟨2, 2, i_times, false⟩,
  ⟨2, 2, i_plus, false⟩,
  ⟨3, 5, i_steps_in, false⟩,
  ⟨4, 4, i_steps_taken, false⟩,
  ⟨3, 6, i__law_two_cases, false⟩,
  ⟨2, 2, i_is_possible, false⟩,
  ⟨2, 2, i_is_case, false⟩,
  ⟨1, 4, i_point_of, false⟩,
  ⟨2, 5, i_value_at, false⟩,
  ⟨3, 5, i_does_keep, false⟩,
  ⟨3, 3, i_keeps, false⟩,
  ⟨1, 4, i__law_refused_k03, true⟩,
  ⟨2, 2, i__law_less, false⟩,
  ⟨2, 15, i__law_so, false⟩,
  ⟨1, 17, i_law_k03, false⟩,
  ⟨3, 3, i_need_both, false⟩,
  ⟨2, 3, i_holds, false⟩,
  ⟨2, 8, i_far_enough, false⟩,
  ⟨3, 4, i_kept_apart, false⟩,
  ⟨3, 4, i_parted, false⟩,
  ⟨3, 3, i_parting, false⟩,
  ⟨1, 3, i__law_point, false⟩,
  ⟨2, 4, i__law_all_lines, false⟩,
  ⟨2, 5, i__law_worth, false⟩,
  ⟨3, 5, i__law_keeps, false⟩,
  ⟨2, 4, i_needless, false⟩,
  ⟨3, 4, i__law_other, false⟩,
  ⟨1, 1, i_need_possible, false⟩,
  ⟨3, 4, i_is_sure_by, false⟩,
  ⟨3, 4, i_how, false⟩,
  ⟨3, 4, i__law_within, false⟩,
  ⟨3, 3, i__law_alike, false⟩,
  ⟨3, 3, i_alike, false⟩,
  ⟨3, 5, i__law_right_k11, false⟩,
  ⟨1, 19, i_law_k11, true⟩]
noncomputable abbrev Fn (n : Nat) : List W → Sto → R EV := fnAt B0 TAB n
noncomputable abbrev G (n : Nat) : Sg := gAt B0 TAB n
theorem tab_len : TAB.length = 142 := rfl
@[simp] theorem G_F {n k : Nat} (h : n < k) (hk : k ≤ 142) : (gAt B0 TAB k).F n = fnAt B0 TAB n := gAt_F B0 TAB k n h hk
@[simp] theorem G_C {n k : Nat} : (gAt B0 TAB k).C n = B0C n := by rw [(gAt_C B0 TAB k).1]; rfl
@[simp] theorem G_kin {k : Nat} : (gAt B0 TAB k).kin = kinOf excA := by rw [(gAt_C B0 TAB k).2.1]; rfl
theorem f__law_known : fnAt B0 TAB 0 = evDef (gAt B0 TAB 0) 0 3 i__law_known := rfl
theorem f__law_deck : fnAt B0 TAB 1 = evDef (gAt B0 TAB 1) 2 2 i__law_deck := rfl
theorem f_is_within : fnAt B0 TAB 2 = evDef (gAt B0 TAB 2) 3 3 i_is_within := rfl
theorem f_is_many_value : fnAt B0 TAB 3 = evDef (gAt B0 TAB 3) 1 1 i_is_many_value := rfl
theorem f_need_many : fnAt B0 TAB 4 = evDef (gAt B0 TAB 4) 1 1 i_need_many := rfl
theorem f_is_length : fnAt B0 TAB 5 = evDef (gAt B0 TAB 5) 1 1 i_is_length := rfl
theorem f_is_walker : fnAt B0 TAB 6 = evDef (gAt B0 TAB 6) 2 2 i_is_walker := rfl
theorem f_is_way : fnAt B0 TAB 7 = evDef (gAt B0 TAB 7) 1 1 i_is_way := rfl
theorem f_are_numbers : fnAt B0 TAB 8 = evDef (gAt B0 TAB 8) 3 3 i_are_numbers := rfl
theorem f_is_steps : fnAt B0 TAB 9 = evDef (gAt B0 TAB 9) 2 2 i_is_steps := rfl
theorem f_has_items : fnAt B0 TAB 10 = evDef (gAt B0 TAB 10) 3 3 i_has_items := rfl
theorem f_gcd : fnAt B0 TAB 11 = evDef (gAt B0 TAB 11) 2 2 i_gcd := rfl
theorem f_is_quotient : fnAt B0 TAB 12 = evDef (gAt B0 TAB 12) 1 1 i_is_quotient := rfl
theorem f_is_less : fnAt B0 TAB 13 = evDef (gAt B0 TAB 13) 2 2 i_is_less := rfl
theorem f_are_quotients : fnAt B0 TAB 14 = evDef (gAt B0 TAB 14) 2 2 i_are_quotients := rfl
theorem f_are_two : fnAt B0 TAB 15 = evDef (gAt B0 TAB 15) 3 3 i_are_two := rfl
theorem f_is_fact_value : fnAt B0 TAB 16 = evDef (gAt B0 TAB 16) 2 5 i_is_fact_value := rfl
theorem f_need_fact : fnAt B0 TAB 17 = evDef (gAt B0 TAB 17) 2 2 i_need_fact := rfl
theorem f_row_of : fnAt B0 TAB 18 = evDef (gAt B0 TAB 18) 4 7 i_row_of := rfl
theorem f_length_rows : fnAt B0 TAB 19 = evDef (gAt B0 TAB 19) 2 3 i_length_rows := rfl
theorem f_steps_rows : fnAt B0 TAB 20 = evDef (gAt B0 TAB 20) 2 8 i_steps_rows := rfl
theorem f_pace_rows : fnAt B0 TAB 21 = evDef (gAt B0 TAB 21) 2 7 i_pace_rows := rfl
theorem f_quick_rows : fnAt B0 TAB 22 = evDef (gAt B0 TAB 22) 2 8 i_quick_rows := rfl
theorem f_negative : fnAt B0 TAB 23 = evDef (gAt B0 TAB 23) 1 2 i_negative := rfl
theorem f_meet_rows : fnAt B0 TAB 24 = evDef (gAt B0 TAB 24) 2 9 i_meet_rows := rfl
theorem f_back_rows : fnAt B0 TAB 25 = evDef (gAt B0 TAB 25) 2 7 i_back_rows := rfl
theorem f_rows_of : fnAt B0 TAB 26 = evDef (gAt B0 TAB 26) 2 3 i_rows_of := rfl
theorem f_fact_rows : fnAt B0 TAB 27 = evDef (gAt B0 TAB 27) 2 2 i_fact_rows := rfl
theorem f__law_pick : fnAt B0 TAB 28 = evDef (gAt B0 TAB 28) 2 4 i__law_pick := rfl
theorem f__law_floor : fnAt B0 TAB 29 = evDef (gAt B0 TAB 29) 1 1 i__law_floor := rfl
theorem f__law_one : fnAt B0 TAB 30 = evDef (gAt B0 TAB 30) 2 2 i__law_one := rfl
theorem f__law_ceiling : fnAt B0 TAB 31 = evDef (gAt B0 TAB 31) 1 1 i__law_ceiling := rfl
theorem f__law_range : fnAt B0 TAB 32 = evDef (gAt B0 TAB 32) 2 3 i__law_range := rfl
theorem f__law_low : fnAt B0 TAB 33 = evDef (gAt B0 TAB 33) 2 5 i__law_low := rfl
theorem f__law_add : fnAt B0 TAB 34 = evDef (gAt B0 TAB 34) 2 2 i__law_add := rfl
theorem f__law_over : fnAt B0 TAB 35 = evDef (gAt B0 TAB 35) 2 2 i__law_over := rfl
theorem f__law_mul : fnAt B0 TAB 36 = evDef (gAt B0 TAB 36) 2 2 i__law_mul := rfl
theorem f__law_taken : fnAt B0 TAB 37 = evDef (gAt B0 TAB 37) 3 6 i__law_taken := rfl
theorem f__law_about : fnAt B0 TAB 38 = evDef (gAt B0 TAB 38) 2 3 i__law_about := rfl
theorem f__law_true_fact : fnAt B0 TAB 39 = evDef (gAt B0 TAB 39) 2 10 i__law_true_fact := rfl
theorem f__law_part : fnAt B0 TAB 40 = evDef (gAt B0 TAB 40) 2 2 i__law_part := rfl
theorem f__law_a_case : fnAt B0 TAB 41 = evDef (gAt B0 TAB 41) 2 4 i__law_a_case := rfl
theorem f__law_any_fact : fnAt B0 TAB 42 = evDef (gAt B0 TAB 42) 2 6 i__law_any_fact := rfl
theorem f__law_sort : fnAt B0 TAB 43 = evDef (gAt B0 TAB 43) 1 1 i__law_sort := rfl
theorem f__law_same_0 : fnAt B0 TAB 44 = evDef (gAt B0 TAB 44) 2 4 i__law_same_0 := rfl
theorem f__law_same_1 : fnAt B0 TAB 45 = evDef (gAt B0 TAB 45) 2 4 i__law_same_1 := rfl
theorem f__law_same_2 : fnAt B0 TAB 46 = evDef (gAt B0 TAB 46) 2 4 i__law_same_2 := rfl
theorem f__law_same_3 : fnAt B0 TAB 47 = evDef (gAt B0 TAB 47) 2 4 i__law_same_3 := rfl
theorem f__law_same_4 : fnAt B0 TAB 48 = evDef (gAt B0 TAB 48) 2 4 i__law_same_4 := rfl
theorem f__law_same_5 : fnAt B0 TAB 49 = evDef (gAt B0 TAB 49) 2 4 i__law_same_5 := rfl
theorem f__law_same_6 : fnAt B0 TAB 50 = evDef (gAt B0 TAB 50) 2 4 i__law_same_6 := rfl
theorem f__law_same_7 : fnAt B0 TAB 51 = evDef (gAt B0 TAB 51) 2 4 i__law_same_7 := rfl
theorem f__law_parts_of : fnAt B0 TAB 52 = evDef (gAt B0 TAB 52) 2 5 i__law_parts_of := rfl
theorem f__law_lines : fnAt B0 TAB 53 = evDef (gAt B0 TAB 53) 2 16 i__law_lines := rfl
theorem f_law_k02 : fnAt B0 TAB 54 = evDef (gAt B0 TAB 54) 1 15 i_law_k02 := rfl
theorem f_is_fact : fnAt B0 TAB 55 = evDef (gAt B0 TAB 55) 2 2 i_is_fact := rfl
theorem f_are_facts_value : fnAt B0 TAB 56 = evDef (gAt B0 TAB 56) 2 3 i_are_facts_value := rfl
theorem f_are_facts : fnAt B0 TAB 57 = evDef (gAt B0 TAB 57) 2 2 i_are_facts := rfl
theorem f__law_written_k01 : fnAt B0 TAB 58 = evDef (gAt B0 TAB 58) 0 8 i__law_written_k01 := rfl
theorem f__law_some_facts : fnAt B0 TAB 59 = evDef (gAt B0 TAB 59) 3 6 i__law_some_facts := rfl
theorem f__law_whole : fnAt B0 TAB 60 = evDef (gAt B0 TAB 60) 1 1 i__law_whole := rfl
theorem f__law_spoilt_0 : fnAt B0 TAB 61 = evDef (gAt B0 TAB 61) 2 6 i__law_spoilt_0 := rfl
theorem f__law_spoilt_1 : fnAt B0 TAB 62 = evDef (gAt B0 TAB 62) 2 6 i__law_spoilt_1 := rfl
theorem f__law_spoilt_2 : fnAt B0 TAB 63 = evDef (gAt B0 TAB 63) 2 6 i__law_spoilt_2 := rfl
theorem f__law_spoilt_3 : fnAt B0 TAB 64 = evDef (gAt B0 TAB 64) 2 6 i__law_spoilt_3 := rfl
theorem f__law_spoilt_4 : fnAt B0 TAB 65 = evDef (gAt B0 TAB 65) 2 6 i__law_spoilt_4 := rfl
theorem f__law_spoilt_5 : fnAt B0 TAB 66 = evDef (gAt B0 TAB 66) 2 6 i__law_spoilt_5 := rfl
theorem f__law_spoilt_6 : fnAt B0 TAB 67 = evDef (gAt B0 TAB 67) 2 6 i__law_spoilt_6 := rfl
theorem f__law_spoilt_7 : fnAt B0 TAB 68 = evDef (gAt B0 TAB 68) 2 6 i__law_spoilt_7 := rfl
theorem f__law_number_so : fnAt B0 TAB 69 = evDef (gAt B0 TAB 69) 3 3 i__law_number_so := rfl
theorem f__law_is_part : fnAt B0 TAB 70 = evDef (gAt B0 TAB 70) 1 1 i__law_is_part := rfl
theorem f__law_are_parts : fnAt B0 TAB 71 = evDef (gAt B0 TAB 71) 2 2 i__law_are_parts := rfl
theorem f__law_is_fact : fnAt B0 TAB 72 = evDef (gAt B0 TAB 72) 2 7 i__law_is_fact := rfl
theorem f_law_k01 : fnAt B0 TAB 73 = evDef (gAt B0 TAB 73) 1 12 i_law_k01 := rfl
theorem f_need_facts : fnAt B0 TAB 74 = evDef (gAt B0 TAB 74) 2 2 i_need_facts := rfl
theorem f_shown : fnAt B0 TAB 75 = evDef (gAt B0 TAB 75) 1 1 i_shown := rfl
theorem f_fact_line : fnAt B0 TAB 76 = evDef (gAt B0 TAB 76) 1 2 i_fact_line := rfl
theorem f_lines_of : fnAt B0 TAB 77 = evDef (gAt B0 TAB 77) 2 3 i_lines_of := rfl
theorem f_facts_text : fnAt B0 TAB 78 = evDef (gAt B0 TAB 78) 2 2 i_facts_text := rfl
theorem f__law_item : fnAt B0 TAB 79 = evDef (gAt B0 TAB 79) 1 1 i__law_item := rfl
theorem f__law_writing : fnAt B0 TAB 80 = evDef (gAt B0 TAB 80) 2 5 i__law_writing := rfl
theorem f_number_in : fnAt B0 TAB 81 = evDef (gAt B0 TAB 81) 1 2 i_number_in := rfl
theorem f_item_in : fnAt B0 TAB 82 = evDef (gAt B0 TAB 82) 1 4 i_item_in := rfl
theorem f_piece_of : fnAt B0 TAB 83 = evDef (gAt B0 TAB 83) 1 3 i_piece_of := rfl
theorem f_facts_in : fnAt B0 TAB 84 = evDef (gAt B0 TAB 84) 1 9 i_facts_in := rfl
theorem f_read_facts : fnAt B0 TAB 85 = evDef (gAt B0 TAB 85) 1 1 i_read_facts := rfl
theorem f_law_k13 : fnAt B0 TAB 86 = evDef (gAt B0 TAB 86) 1 14 i_law_k13 := rfl
theorem f_unit : fnAt B0 TAB 87 = evDef (gAt B0 TAB 87) 2 3 i_unit := rfl
theorem f_worth : fnAt B0 TAB 88 = evDef (gAt B0 TAB 88) 2 4 i_worth := rfl
theorem f_zeros_at : fnAt B0 TAB 89 = evDef (gAt B0 TAB 89) 2 4 i_zeros_at := rfl
theorem f_are_neighbours : fnAt B0 TAB 90 = evDef (gAt B0 TAB 90) 4 7 i_are_neighbours := rfl
theorem f_lowest : fnAt B0 TAB 91 = evDef (gAt B0 TAB 91) 1 3 i_lowest := rfl
theorem f_cut : fnAt B0 TAB 92 = evDef (gAt B0 TAB 92) 3 14 i_cut := rfl
theorem f_edges_by : fnAt B0 TAB 93 = evDef (gAt B0 TAB 93) 2 7 i_edges_by := rfl
theorem f_all_rows : fnAt B0 TAB 94 = evDef (gAt B0 TAB 94) 2 4 i_all_rows := rfl
theorem f_edges_of : fnAt B0 TAB 95 = evDef (gAt B0 TAB 95) 2 2 i_edges_of := rfl
theorem f_are_enough : fnAt B0 TAB 96 = evDef (gAt B0 TAB 96) 1 3 i_are_enough := rfl
theorem f_fraction : fnAt B0 TAB 97 = evDef (gAt B0 TAB 97) 2 3 i_fraction := rfl
theorem f_case_of : fnAt B0 TAB 98 = evDef (gAt B0 TAB 98) 1 2 i_case_of := rfl
theorem f_total : fnAt B0 TAB 99 = evDef (gAt B0 TAB 99) 1 3 i_total := rfl
theorem f_case_for : fnAt B0 TAB 100 = evDef (gAt B0 TAB 100) 2 3 i_case_for := rfl
theorem f_is_number : fnAt B0 TAB 101 = evDef (gAt B0 TAB 101) 1 1 i_is_number := rfl
theorem f_is_case_value : fnAt B0 TAB 102 = evDef (gAt B0 TAB 102) 2 3 i_is_case_value := rfl
theorem f_need_case : fnAt B0 TAB 103 = evDef (gAt B0 TAB 103) 2 2 i_need_case := rfl
theorem f_need_walker : fnAt B0 TAB 104 = evDef (gAt B0 TAB 104) 2 2 i_need_walker := rfl
theorem f_need_way : fnAt B0 TAB 105 = evDef (gAt B0 TAB 105) 1 1 i_need_way := rfl
theorem f_over : fnAt B0 TAB 106 = evDef (gAt B0 TAB 106) 2 2 i_over := rfl
theorem f_times : fnAt B0 TAB 107 = evDef (gAt B0 TAB 107) 2 2 i_times := rfl
theorem f_plus : fnAt B0 TAB 108 = evDef (gAt B0 TAB 108) 2 2 i_plus := rfl
theorem f_steps_in : fnAt B0 TAB 109 = evDef (gAt B0 TAB 109) 3 5 i_steps_in := rfl
theorem f_steps_taken : fnAt B0 TAB 110 = evDef (gAt B0 TAB 110) 4 4 i_steps_taken := rfl
theorem f__law_two_cases : fnAt B0 TAB 111 = evDef (gAt B0 TAB 111) 3 6 i__law_two_cases := rfl
theorem f_is_possible : fnAt B0 TAB 112 = evDef (gAt B0 TAB 112) 2 2 i_is_possible := rfl
theorem f_is_case : fnAt B0 TAB 113 = evDef (gAt B0 TAB 113) 2 2 i_is_case := rfl
theorem f_point_of : fnAt B0 TAB 114 = evDef (gAt B0 TAB 114) 1 4 i_point_of := rfl
theorem f_value_at : fnAt B0 TAB 115 = evDef (gAt B0 TAB 115) 2 5 i_value_at := rfl
theorem f_does_keep : fnAt B0 TAB 116 = evDef (gAt B0 TAB 116) 3 5 i_does_keep := rfl
theorem f_keeps : fnAt B0 TAB 117 = evDef (gAt B0 TAB 117) 3 3 i_keeps := rfl
theorem f__law_refused_k03 : fnAt B0 TAB 118 = evDef (gAt B0 TAB 118) 1 4 i__law_refused_k03 := rfl
theorem f__law_less : fnAt B0 TAB 119 = evDef (gAt B0 TAB 119) 2 2 i__law_less := rfl
theorem f__law_so : fnAt B0 TAB 120 = evDef (gAt B0 TAB 120) 2 15 i__law_so := rfl
theorem f_law_k03 : fnAt B0 TAB 121 = evDef (gAt B0 TAB 121) 1 17 i_law_k03 := rfl
theorem f_need_both : fnAt B0 TAB 122 = evDef (gAt B0 TAB 122) 3 3 i_need_both := rfl
theorem f_holds : fnAt B0 TAB 123 = evDef (gAt B0 TAB 123) 2 3 i_holds := rfl
theorem f_far_enough : fnAt B0 TAB 124 = evDef (gAt B0 TAB 124) 2 8 i_far_enough := rfl
theorem f_kept_apart : fnAt B0 TAB 125 = evDef (gAt B0 TAB 125) 3 4 i_kept_apart := rfl
theorem f_parted : fnAt B0 TAB 126 = evDef (gAt B0 TAB 126) 3 4 i_parted := rfl
theorem f_parting : fnAt B0 TAB 127 = evDef (gAt B0 TAB 127) 3 3 i_parting := rfl
theorem f__law_point : fnAt B0 TAB 128 = evDef (gAt B0 TAB 128) 1 3 i__law_point := rfl
theorem f__law_all_lines : fnAt B0 TAB 129 = evDef (gAt B0 TAB 129) 2 4 i__law_all_lines := rfl
theorem f__law_worth : fnAt B0 TAB 130 = evDef (gAt B0 TAB 130) 2 5 i__law_worth := rfl
theorem f__law_keeps : fnAt B0 TAB 131 = evDef (gAt B0 TAB 131) 3 5 i__law_keeps := rfl
theorem f_needless : fnAt B0 TAB 132 = evDef (gAt B0 TAB 132) 2 4 i_needless := rfl
theorem f__law_other : fnAt B0 TAB 133 = evDef (gAt B0 TAB 133) 3 4 i__law_other := rfl
theorem f_need_possible : fnAt B0 TAB 134 = evDef (gAt B0 TAB 134) 1 1 i_need_possible := rfl
theorem f_is_sure_by : fnAt B0 TAB 135 = evDef (gAt B0 TAB 135) 3 4 i_is_sure_by := rfl
theorem f_how : fnAt B0 TAB 136 = evDef (gAt B0 TAB 136) 3 4 i_how := rfl
theorem f__law_within : fnAt B0 TAB 137 = evDef (gAt B0 TAB 137) 3 4 i__law_within := rfl
theorem f__law_alike : fnAt B0 TAB 138 = evDef (gAt B0 TAB 138) 3 3 i__law_alike := rfl
theorem f_alike : fnAt B0 TAB 139 = evDef (gAt B0 TAB 139) 3 3 i_alike := rfl
theorem f__law_right_k11 : fnAt B0 TAB 140 = evDef (gAt B0 TAB 140) 3 5 i__law_right_k11 := rfl
theorem f_law_k11 : fnAt B0 TAB 141 = evDef (gAt B0 TAB 141) 1 19 i_law_k11 := rfl
end LW

set_option Elab.async false
set_option maxRecDepth 100000
namespace Hd
open PySem PySem.Spec PyProof.Rows L2
/-- the head's facts over a written list of addresses -/
def obsA (as : List Addr) (fa : List He.Fa) (fn : List He.DefD) (tf : List He.Defn) (ex : PySem.W.Frag → Bool) (g : Addr → Option Obj) : He.AlX :=
  (fun K => (He.obsT fa fn [] K, ex K && He.tabsB g tf K)) (He.frT g as)
theorem saysA {as : List Addr} {fa : List He.Fa} {fn : List He.DefD} {tf : List He.Defn} {ex : PySem.W.Frag → Bool} {w : World} {h : Heap}
    (e : obsA as fa fn tf ex h.get? = He.valX fn [] w) : He.SaysX fa fn [] tf ex w h (He.frT h.get? as) := by
  have a1 : He.obsT fa fn [] (He.frT h.get? as) = He.valT fn [] w := congrArg Prod.fst e
  have a2 : (ex (He.frT h.get? as) && He.tabsB h.get? tf (He.frT h.get? as)) = true := congrArg Prod.snd e
  obtain ⟨b1, b2⟩ := He.ba a2
  have key : ∀ p ∈ tf, PySem.W.codeHdIn (He.frT h.get? as) (He.cT (He.frT h.get? as) p).1 (He.cT (He.frT h.get? as) p).2 = true ∧
      ∃ o, h.get? (He.cT (He.frT h.get? as) p).2 = some o ∧ He.emptyTab o = true := by
    intro p hp
    obtain ⟨c1, c2⟩ := He.ba (List.all_eq_true.mp b2 p hp)
    refine ⟨c1, ?_⟩
    revert c2
    cases h.get? (He.cT (He.frT h.get? as) p).2 with
    | none => intro z; cases z
    | some o => intro z; exact ⟨o, rfl, z⟩
  refine ⟨a1, b1, fun p hp => (key p hp).1, fun p hp => ?_, fun p hp => ?_⟩
  · obtain ⟨_, o, q, z⟩ := key p hp
    exact He.frT_none q z
  · obtain ⟨_, o, q, z⟩ := key p hp
    rw [q, He.emptyTab_eq z]
def hookA (as : List Addr) (fa : List He.Fa) (fn : List He.DefD) (tf : List He.Defn) (ex : PySem.W.Frag → Bool) : PySem.W.Hook :=
  { α := He.AlX, obs := fun s => obsA as fa fn tf ex s.heap.get?, val := fun w => He.valX fn [] w,
    says := fun w h => ∃ K : PySem.W.Frag, K.In h ∧ He.SaysX fa fn [] tf ex w h K,
    of := fun _ _ e => ⟨_, He.frT_in, saysA e⟩,
    keeps := fun _ _ _ z k => by
      obtain ⟨K, hK, c⟩ := z
      exact ⟨K, PySem.W.Frag.In.keeps hK k, c.t, c.more, c.hd, c.out, fun p hp => k _ _ (c.empty p hp)⟩ }
theorem obsA_eq {as : List Addr} {fa : List He.Fa} {fn : List He.DefD} {tf : List He.Defn} {ex : PySem.W.Frag → Bool} {g : Addr → Option Obj} {s : Shared} (h : ∀ a, g a = s.heap.get? a) :
    obsA as fa fn tf ex g = (hookA as fa fn tf ex).obs s := by
  show _ = obsA as fa fn tf ex s.heap.get?
  rw [show g = s.heap.get? from funext h]
end Hd

set_option Elab.async false
set_option linter.all false
set_option maxRecDepth 100000
set_option maxHeartbeats 0
namespace LW
open PySem PySem.Spec PyProof.Rows L2 DL
def top (i : Nat) : Stmt := PySem.Challenge.pw_anystairs_k13_texts_of_facts.main.body.getD i (.Pass ⟨0, 0, 0, 0⟩)
def us : List (Str × Nat) := ([("gcd", 16), ("is_less", 17), ("is_within", 23), ("has_items", 24), ("is_many_value", 25), ("is_walker", 26), ("is_way", 27), ("is_quotient", 28), ("are_numbers", 29), ("are_quotients", 30), ("are_two", 31), ("is_length", 32), ("is_steps", 33), ("is_fact_value", 34), ("are_facts_value", 35), ("need_many", 36), ("need_facts", 37), ("shown", 40), ("fact_line", 41), ("lines_of", 42), ("number_in", 43), ("item_in", 44), ("piece_of", 45), ("facts_in", 46), ("facts_text", 47), ("read_facts", 48), ("_law_deck", 50), ("_law_pick", 51), ("_law_one", 52), ("_law_sort", 53)] : List (Str × Nat)) ++ ([("_law_same", 54), ("_law_kin", 55), ("_law_try", 56), ("_law_low", 57), ("_law_add", 58), ("_law_mul", 59), ("_law_over", 60), ("_law_part", 61), ("_law_a_case", 62), ("_law_taken", 63), ("_law_floor", 64), ("_law_ceiling", 65), ("_law_range", 66), ("_law_about", 67), ("_law_true_fact", 68), ("_law_any_fact", 69), ("_law_some_facts", 70), ("_law_known", 71), ("_law_item", 72), ("_law_writing", 73), ("law", 74)] : List (Str × Nat))
def tf : List He.Defn := [("law", none)]
def qN : Nm := ⟨([some "_law_known", some "_law_deck", some "is_within", some "is_many_value", some "need_many", some "is_length", some "is_walker", some "is_way", some "are_numbers", some "is_steps", some "has_items", some "gcd", some "is_quotient", some "is_less", some "are_quotients", some "are_two", some "is_fact_value", none, none, none, none, none, none, none, none, none, none, none, some "_law_pick", some "_law_floor"] : List (Option Str)) ++ ([some "_law_one", some "_law_ceiling", some "_law_range", some "_law_low", some "_law_add", some "_law_over", some "_law_mul", some "_law_taken", some "_law_about", some "_law_true_fact", some "_law_part", some "_law_a_case", some "_law_any_fact", some "_law_sort", some "_law_same", some "_law_same", some "_law_same", some "_law_same", some "_law_same", some "_law_same", some "_law_same", some "_law_same", none, none, none, none, some "are_facts_value", none, none, some "_law_some_facts"] : List (Option Str)) ++ ([none, none, none, none, none, none, none, none, none, none, none, none, none, none, some "need_facts", some "shown", some "fact_line", some "lines_of", some "facts_text", some "_law_item", some "_law_writing", some "number_in", some "item_in", some "piece_of", some "facts_in", some "read_facts", some "law", none, none, none] : List (Option Str)) ++ ([none, none, none, none, none, none, none, none, none, none, none, none, none, none, none, none, none, none, none, none, none, none, none, none, none, none, none, none, none, none] : List (Option Str)) ++ ([none, none, none, none, none, none, none, none, none, none, none, none, none, none, none, none, none, none, none, none, none, none] : List (Option Str)), [some "GREAT", some "WAYS", some "LARGE", some "MOST_FACTS", none, none, some "SIGNS", none], excP, false⟩
def pds : List Pd := ([⟨0, "_law_known", 71, ["one", "two", "three"], []⟩, ⟨1, "_law_deck", 50, ["cell", "turn"], ["cell", "turn"]⟩, ⟨2, "is_within", 23, ["value", "low", "high"], ["value", "low", "high"]⟩, ⟨3, "is_many_value", 25, ["value"], ["value"]⟩, ⟨4, "need_many", 36, ["value"], ["value"]⟩, ⟨5, "is_length", 32, ["value"], ["value"]⟩, ⟨6, "is_walker", 26, ["many", "value"], ["many", "value"]⟩, ⟨7, "is_way", 27, ["value"], ["value"]⟩, ⟨8, "are_numbers", 29, ["low", "high", "most"], ["low", "high", "most"]⟩, ⟨9, "is_steps", 33, ["many", "value"], ["many", "value"]⟩, ⟨10, "has_items", 24, ["value", "low", "high"], ["value", "low", "high"]⟩, ⟨11, "gcd", 16, ["one", "other"], ["one", "other"]⟩, ⟨12, "is_quotient", 28, ["value"], ["value"]⟩, ⟨13, "is_less", 17, ["one", "other"], ["one", "other"]⟩, ⟨14, "are_quotients", 30, ["low", "high"], ["low", "high"]⟩, ⟨15, "are_two", 31, ["many", "one", "other"], ["many", "one", "other"]⟩, ⟨16, "is_fact_value", 34, ["many", "value", "word", "size", "one"], ["many", "value"]⟩, ⟨28, "_law_pick", 51, ["deck", "size", "found", "number"], ["deck", "size"]⟩, ⟨29, "_law_floor", 64, ["number"], ["number"]⟩, ⟨30, "_law_one", 52, ["deck", "some"], ["deck", "some"]⟩, ⟨31, "_law_ceiling", 65, ["number"], ["number"]⟩, ⟨32, "_law_range", 66, ["deck", "number", "low"], ["deck", "number"]⟩, ⟨33, "_law_low", 57, ["top", "below_so", "part", "rest", "sign"], ["top", "below_so"]⟩, ⟨34, "_law_add", 58, ["one", "two"], ["one", "two"]⟩, ⟨35, "_law_over", 60, ["one", "two"], ["one", "two"]⟩, ⟨36, "_law_mul", 59, ["one", "two"], ["one", "two"]⟩, ⟨37, "_law_taken", 63, ["case_so", "walker_so", "direction", "length_so", "pace_so", "speed"], ["case_so", "walker_so", "direction"]⟩, ⟨38, "_law_about", 67, ["deck", "number", "low"], ["deck", "number"]⟩, ⟨39, "_law_true_fact", 68, ["deck", "case_so", "walkers", "way_so", "mine", "direction", "steps_so", "low", "high", "yours"], ["deck", "case_so"]⟩, ⟨40, "_law_part", 61, ["deck", "most"], ["deck", "most"]⟩] : List (Pd)) ++ ([⟨41, "_law_a_case", 62, ["deck", "walkers", "paces", "walker_so"], ["deck", "walkers"]⟩, ⟨42, "_law_any_fact", 69, ["deck", "walkers", "way_so", "mine", "yours", "out"], ["deck", "walkers"]⟩, ⟨43, "_law_sort", 53, ["thing"], ["thing"]⟩, ⟨44, "_law_same", 54, ["told", "due", "k", "part"], ["told", "due"]⟩, ⟨45, "_law_same", 54, ["told", "due", "k", "part"], ["told", "due"]⟩, ⟨46, "_law_same", 54, ["told", "due", "k", "part"], ["told", "due"]⟩, ⟨47, "_law_same", 54, ["told", "due", "k", "part"], ["told", "due"]⟩, ⟨48, "_law_same", 54, ["told", "due", "k", "part"], ["told", "due"]⟩, ⟨49, "_law_same", 54, ["told", "due", "k", "part"], ["told", "due"]⟩, ⟨50, "_law_same", 54, ["told", "due", "k", "part"], ["told", "due"]⟩, ⟨51, "_law_same", 54, ["told", "due", "k", "part"], ["told", "due"]⟩, ⟨56, "are_facts_value", 35, ["many", "value", "one"], ["many", "value"]⟩, ⟨59, "_law_some_facts", 70, ["deck", "walkers", "most", "case_so", "found", "turn"], ["deck", "walkers", "most"]⟩, ⟨74, "need_facts", 37, ["many", "value"], ["many", "value"]⟩, ⟨75, "shown", 40, ["item"], ["item"]⟩, ⟨76, "fact_line", 41, ["fact", "item"], ["fact"]⟩, ⟨77, "lines_of", 42, ["many", "facts", "fact"], ["many", "facts"]⟩, ⟨78, "facts_text", 47, ["many", "facts"], ["many", "facts"]⟩, ⟨79, "_law_item", 72, ["item"], ["item"]⟩, ⟨80, "_law_writing", 73, ["walkers", "facts_so", "lines", "fact_so", "item"], ["walkers", "facts_so"]⟩, ⟨81, "number_in", 43, ["word", "sign"], ["word"]⟩, ⟨82, "item_in", 44, ["word", "number", "halves", "half"], ["word"]⟩, ⟨83, "piece_of", 45, ["text", "items", "word"], ["text"]⟩, ⟨84, "facts_in", 46, ["value", "found", "number", "text", "piece", "kinds", "kind", "part", "facts"], ["value"]⟩, ⟨85, "read_facts", 48, ["value"], ["value"]⟩, ⟨86, "law", 74, ["script", "cell", "deck", "walkers", "far", "facts_so", "due", "odd", "one", "two", "three", "four", "five", "some"], ["script"]⟩] : List (Pd))
theorem pds_ok : (pds.all fun p => pdB top us tf qN TAB p) = true := by decide +kernel
theorem cov_ok : coverB qN.fn pds = true := by decide +kernel
theorem b_gcd : BindH (defArgs (top 16)) ["one", "other"] := fun _ _ _ _ _ _ _ _ _ _ us hl => match us, hl with | [_, _], _ => rfl
theorem b_is_less : BindH (defArgs (top 17)) ["one", "other"] := fun _ _ _ _ _ _ _ _ _ _ us hl => match us, hl with | [_, _], _ => rfl
theorem b_is_within : BindH (defArgs (top 23)) ["value", "low", "high"] := fun _ _ _ _ _ _ _ _ _ _ us hl => match us, hl with | [_, _, _], _ => rfl
theorem b_has_items : BindH (defArgs (top 24)) ["value", "low", "high"] := fun _ _ _ _ _ _ _ _ _ _ us hl => match us, hl with | [_, _, _], _ => rfl
theorem b_is_many_value : BindH (defArgs (top 25)) ["value"] := fun _ _ _ _ _ _ _ _ _ _ us hl => match us, hl with | [_], _ => rfl
theorem b_is_walker : BindH (defArgs (top 26)) ["many", "value"] := fun _ _ _ _ _ _ _ _ _ _ us hl => match us, hl with | [_, _], _ => rfl
theorem b_is_way : BindH (defArgs (top 27)) ["value"] := fun _ _ _ _ _ _ _ _ _ _ us hl => match us, hl with | [_], _ => rfl
theorem b_is_quotient : BindH (defArgs (top 28)) ["value"] := fun _ _ _ _ _ _ _ _ _ _ us hl => match us, hl with | [_], _ => rfl
theorem b_are_numbers : BindH (defArgs (top 29)) ["low", "high", "most"] := fun _ _ _ _ _ _ _ _ _ _ us hl => match us, hl with | [_, _, _], _ => rfl
theorem b_are_quotients : BindH (defArgs (top 30)) ["low", "high"] := fun _ _ _ _ _ _ _ _ _ _ us hl => match us, hl with | [_, _], _ => rfl
theorem b_are_two : BindH (defArgs (top 31)) ["many", "one", "other"] := fun _ _ _ _ _ _ _ _ _ _ us hl => match us, hl with | [_, _, _], _ => rfl
theorem b_is_length : BindH (defArgs (top 32)) ["value"] := fun _ _ _ _ _ _ _ _ _ _ us hl => match us, hl with | [_], _ => rfl
theorem b_is_steps : BindH (defArgs (top 33)) ["many", "value"] := fun _ _ _ _ _ _ _ _ _ _ us hl => match us, hl with | [_, _], _ => rfl
theorem b_is_fact_value : BindH (defArgs (top 34)) ["many", "value"] := fun _ _ _ _ _ _ _ _ _ _ us hl => match us, hl with | [_, _], _ => rfl
theorem b_are_facts_value : BindH (defArgs (top 35)) ["many", "value"] := fun _ _ _ _ _ _ _ _ _ _ us hl => match us, hl with | [_, _], _ => rfl
theorem b_need_many : BindH (defArgs (top 36)) ["value"] := fun _ _ _ _ _ _ _ _ _ _ us hl => match us, hl with | [_], _ => rfl
theorem b_need_facts : BindH (defArgs (top 37)) ["many", "value"] := fun _ _ _ _ _ _ _ _ _ _ us hl => match us, hl with | [_, _], _ => rfl
theorem b_shown : BindH (defArgs (top 40)) ["item"] := fun _ _ _ _ _ _ _ _ _ _ us hl => match us, hl with | [_], _ => rfl
theorem b_fact_line : BindH (defArgs (top 41)) ["fact"] := fun _ _ _ _ _ _ _ _ _ _ us hl => match us, hl with | [_], _ => rfl
theorem b_lines_of : BindH (defArgs (top 42)) ["many", "facts"] := fun _ _ _ _ _ _ _ _ _ _ us hl => match us, hl with | [_, _], _ => rfl
theorem b_number_in : BindH (defArgs (top 43)) ["word"] := fun _ _ _ _ _ _ _ _ _ _ us hl => match us, hl with | [_], _ => rfl
theorem b_item_in : BindH (defArgs (top 44)) ["word"] := fun _ _ _ _ _ _ _ _ _ _ us hl => match us, hl with | [_], _ => rfl
theorem b_piece_of : BindH (defArgs (top 45)) ["text"] := fun _ _ _ _ _ _ _ _ _ _ us hl => match us, hl with | [_], _ => rfl
theorem b_facts_in : BindH (defArgs (top 46)) ["value"] := fun _ _ _ _ _ _ _ _ _ _ us hl => match us, hl with | [_], _ => rfl
theorem b_facts_text : BindH (defArgs (top 47)) ["many", "facts"] := fun _ _ _ _ _ _ _ _ _ _ us hl => match us, hl with | [_, _], _ => rfl
theorem b_read_facts : BindH (defArgs (top 48)) ["value"] := fun _ _ _ _ _ _ _ _ _ _ us hl => match us, hl with | [_], _ => rfl
theorem b__law_deck : BindH (defArgs (top 50)) ["cell", "turn"] := fun _ _ _ _ _ _ _ _ _ _ us hl => match us, hl with | [_, _], _ => rfl
theorem b__law_pick : BindH (defArgs (top 51)) ["deck", "size"] := fun _ _ _ _ _ _ _ _ _ _ us hl => match us, hl with | [_, _], _ => rfl
theorem b__law_one : BindH (defArgs (top 52)) ["deck", "some"] := fun _ _ _ _ _ _ _ _ _ _ us hl => match us, hl with | [_, _], _ => rfl
theorem b__law_sort : BindH (defArgs (top 53)) ["thing"] := fun _ _ _ _ _ _ _ _ _ _ us hl => match us, hl with | [_], _ => rfl
theorem b__law_same : BindH (defArgs (top 54)) ["told", "due"] := fun _ _ _ _ _ _ _ _ _ _ us hl => match us, hl with | [_, _], _ => rfl
theorem b__law_kin : BindH (defArgs (top 55)) ["e"] := fun _ _ _ _ _ _ _ _ _ _ us hl => match us, hl with | [_], _ => rfl
theorem b__law_try : BindH (defArgs (top 56)) ["call_so"] := fun _ _ _ _ _ _ _ _ _ _ us hl => match us, hl with | [_], _ => rfl
theorem b__law_low : BindH (defArgs (top 57)) ["top", "below_so"] := fun _ _ _ _ _ _ _ _ _ _ us hl => match us, hl with | [_, _], _ => rfl
theorem b__law_add : BindH (defArgs (top 58)) ["one", "two"] := fun _ _ _ _ _ _ _ _ _ _ us hl => match us, hl with | [_, _], _ => rfl
theorem b__law_mul : BindH (defArgs (top 59)) ["one", "two"] := fun _ _ _ _ _ _ _ _ _ _ us hl => match us, hl with | [_, _], _ => rfl
theorem b__law_over : BindH (defArgs (top 60)) ["one", "two"] := fun _ _ _ _ _ _ _ _ _ _ us hl => match us, hl with | [_, _], _ => rfl
theorem b__law_part : BindH (defArgs (top 61)) ["deck", "most"] := fun _ _ _ _ _ _ _ _ _ _ us hl => match us, hl with | [_, _], _ => rfl
theorem b__law_a_case : BindH (defArgs (top 62)) ["deck", "walkers"] := fun _ _ _ _ _ _ _ _ _ _ us hl => match us, hl with | [_, _], _ => rfl
theorem b__law_taken : BindH (defArgs (top 63)) ["case_so", "walker_so", "direction"] := fun _ _ _ _ _ _ _ _ _ _ us hl => match us, hl with | [_, _, _], _ => rfl
theorem b__law_floor : BindH (defArgs (top 64)) ["number"] := fun _ _ _ _ _ _ _ _ _ _ us hl => match us, hl with | [_], _ => rfl
theorem b__law_ceiling : BindH (defArgs (top 65)) ["number"] := fun _ _ _ _ _ _ _ _ _ _ us hl => match us, hl with | [_], _ => rfl
theorem b__law_range : BindH (defArgs (top 66)) ["deck", "number"] := fun _ _ _ _ _ _ _ _ _ _ us hl => match us, hl with | [_, _], _ => rfl
theorem b__law_about : BindH (defArgs (top 67)) ["deck", "number"] := fun _ _ _ _ _ _ _ _ _ _ us hl => match us, hl with | [_, _], _ => rfl
theorem b__law_true_fact : BindH (defArgs (top 68)) ["deck", "case_so"] := fun _ _ _ _ _ _ _ _ _ _ us hl => match us, hl with | [_, _], _ => rfl
theorem b__law_any_fact : BindH (defArgs (top 69)) ["deck", "walkers"] := fun _ _ _ _ _ _ _ _ _ _ us hl => match us, hl with | [_, _], _ => rfl
theorem b__law_some_facts : BindH (defArgs (top 70)) ["deck", "walkers", "most"] := fun _ _ _ _ _ _ _ _ _ _ us hl => match us, hl with | [_, _, _], _ => rfl
theorem b__law_known : BindH (defArgs (top 71)) [] := fun _ _ _ _ _ _ _ _ _ _ us hl => match us, hl with | [], _ => rfl
theorem b__law_item : BindH (defArgs (top 72)) ["item"] := fun _ _ _ _ _ _ _ _ _ _ us hl => match us, hl with | [_], _ => rfl
theorem b__law_writing : BindH (defArgs (top 73)) ["walkers", "facts_so"] := fun _ _ _ _ _ _ _ _ _ _ us hl => match us, hl with | [_, _], _ => rfl
theorem b_law : BindH (defArgs (top 74)) ["script"] := fun _ _ _ _ _ _ _ _ _ _ us hl => match us, hl with | [_], _ => rfl
theorem bind_ok : ∀ p ∈ pds, BindH (defArgs (top p.ix)) p.ps := by
  have nil : ∀ p ∈ ([] : List Pd), BindH (defArgs (top p.ix)) p.ps := fun _ h => nomatch h
  have c : ∀ {q : Pd} {l : List Pd}, BindH (defArgs (top q.ix)) q.ps → (∀ p ∈ l, BindH (defArgs (top p.ix)) p.ps) → ∀ p ∈ q :: l, BindH (defArgs (top p.ix)) p.ps := fun h1 h2 p hp => (List.mem_cons.mp hp).elim (fun e => e ▸ h1) (h2 p)
  exact c b__law_known (
    c b__law_deck (
    c b_is_within (
    c b_is_many_value (
    c b_need_many (
    c b_is_length (
    c b_is_walker (
    c b_is_way (
    c b_are_numbers (
    c b_is_steps (
    c b_has_items (
    c b_gcd (
    c b_is_quotient (
    c b_is_less (
    c b_are_quotients (
    c b_are_two (
    c b_is_fact_value (
    c b__law_pick (
    c b__law_floor (
    c b__law_one (
    c b__law_ceiling (
    c b__law_range (
    c b__law_low (
    c b__law_add (
    c b__law_over (
    c b__law_mul (
    c b__law_taken (
    c b__law_about (
    c b__law_true_fact (
    c b__law_part (
    c b__law_a_case (
    c b__law_any_fact (
    c b__law_sort (
    c b__law_same (
    c b__law_same (
    c b__law_same (
    c b__law_same (
    c b__law_same (
    c b__law_same (
    c b__law_same (
    c b__law_same (
    c b_are_facts_value (
    c b__law_some_facts (
    c b_need_facts (
    c b_shown (
    c b_fact_line (
    c b_lines_of (
    c b_facts_text (
    c b__law_item (
    c b__law_writing (
    c b_number_in (
    c b_item_in (
    c b_piece_of (
    c b_facts_in (
    c b_read_facts (
    c b_law (
    nil))))))))))))))))))))))))))))))))))))))))))))))))))))))))
theorem kin_b : KinB kinN (defScope (top 55)) (defBody (top 55)) := fun X p D d bit k =>
  kin_body k rfl rfl (.cons (c := "InvalidMany") (by decide) (.cons (c := "InvalidFact") (by decide) (.cons (c := "InvalidFacts") (by decide) .nil)))
    (.cons (c := "InvalidWalker") (by decide) (.cons (c := "InvalidWay") (by decide) (.cons (c := "InvalidCase") (by decide) .nil)))
    (.cons (c := "InvalidPaper") (by decide) (.cons (c := "InvalidIndex") (by decide) (.cons (c := "Impossible") (by decide) .nil)))
    (.cons (c := "Unlike") (by decide) (.cons (c := "NothingToUndo") (by decide) (.cons (c := "TooMany") (by decide) .nil)))
    (.cons (c := "InvalidText") (by decide) (.cons (c := "ValueError") (by decide) .nil))
    (by decide) rfl rfl
theorem try_b (X : Cx) (IT TM SE g : Addr) (cdg : Value) (q : Str) (S : TryS X (defScope (top 56)) (defScope (top 55)) IT TM SE) (hr : ∀ (s : Shared), Room 1 (X.A.deeper (envOfC "_law_try" (defScope (top 56)) s.heap.objs.size g cdg))) :
    GivesToN X tryN "_law_try" (defScope (top 56)) g cdg (defBody (top 56)) "call_so" q (TTtry X.K X.mg (defScope (top 55)) IT TM SE) := try_gives S hr
end LW

set_option Elab.async false
set_option linter.all false
set_option maxRecDepth 100000
set_option maxHeartbeats 0
namespace LW
open PySem PySem.Spec PyProof.Rows L2 DL
def loose : List Str := (["StairsError", "InvalidMany", "InvalidFact", "InvalidFacts", "InvalidWalker", "InvalidWay", "InvalidCase", "InvalidPaper", "InvalidIndex", "Impossible", "Unlike", "NothingToUndo", "TooMany", "InvalidText", "gcd", "is_less", "GREAT", "LARGE", "MOST_FACTS", "WAYS", "is_within", "has_items", "is_many_value", "is_walker", "is_way", "is_quotient", "are_numbers", "are_quotients", "are_two", "is_length"] : List (Str)) ++ (["is_steps", "is_fact_value", "are_facts_value", "need_many", "need_facts", "SIGNS", "shown", "fact_line", "lines_of", "number_in", "item_in", "piece_of", "facts_in", "facts_text", "read_facts", "_law_deck", "_law_pick", "_law_one", "_law_sort", "_law_same", "_law_kin", "_law_try", "_law_low", "_law_add", "_law_mul", "_law_over", "_law_part", "_law_a_case", "_law_taken", "_law_floor"] : List (Str)) ++ (["_law_ceiling", "_law_range", "_law_about", "_law_true_fact", "_law_any_fact", "_law_some_facts", "_law_known", "_law_item", "_law_writing"] : List (Str))
def addrs : List Addr := List.range 543
abbrev RR : PySem.W.OpenRow := PySem.W.OpenLaw.row PySem.Challenge.rw_anystairs_k13_texts_of_facts
def hk : PySem.W.Hook := Hd.hookA addrs (faOf us) (fnOf top us) tf (exB tf excA qN B0.C)
def ob (s : PySem.W.SharedT) : He.AlX := Hd.obsA addrs (faOf us) (fnOf top us) tf (exB tf excA qN B0.C) (HandSHeadRun.getT s)
theorem ob_eq (s : PySem.W.SharedT) : ob s = hk.obs s.abs := Hd.obsA_eq (HandSHeadRun.getT_eq s)
theorem run (w : World) : HandSHeadRun.RunEq RR (PySem.W.view RR.prog [74]) hk ob 6000 loose w := by
  intro os
  kernel_rfl
end LW

set_option Elab.async false
set_option linter.all false
set_option maxRecDepth 100000
set_option maxHeartbeats 2000000
/-! SP1: computing with the evaluator. -/
namespace DL
open PySem PySem.Spec PyProof.Rows L2
/-! ### simp looks at what comes first only -/
theorem R.bind_congr {α β : Type} {r r' : R α} {f : α → Sto → R β} (h : r = r') : r.bind f = r'.bind f := by rw [h]
theorem R.st_congr {α : Type} {r r' : R α} {f : α → Sto → SR} (h : r = r') : r.st f = r'.st f := by rw [h]
theorem SR.bind_congr {r r' : SR} {f : Rho → Sto → SR} (h : r = r') : r.bind f = r'.bind f := by rw [h]
/-! ### branches -/
section
variable {α β : Type} {p : Prop} [Decidable p]
@[simp] theorem R.bind_ite (a b : R α) (f : α → Sto → R β) : (if p then a else b).bind f = if p then a.bind f else b.bind f := by split <;> rfl
@[simp] theorem R.st_ite (a b : R α) (f : α → Sto → SR) : (if p then a else b).st f = if p then a.st f else b.st f := by split <;> rfl
@[simp] theorem R.w_ite (a b : R EV) : (if p then a else b).w = if p then a.w else b.w := by split <;> rfl
@[simp] theorem SR.bind_ite (a b : SR) (f : Rho → Sto → SR) : (if p then a else b).bind f = if p then a.bind f else b.bind f := by split <;> rfl
@[simp] theorem fin_ite (n : Nat) (a b : SR) : fin n (if p then a else b) = if p then fin n a else fin n b := by split <;> rfl
@[simp] theorem rOpt_ite (a b : Option α) (S : Sto) : rOpt (if p then a else b) S = if p then rOpt a S else rOpt b S := by split <;> rfl
end
@[simp] theorem R.w_sh (w : W) (S : Sto) : (R.ok (.sh w) S).w = .ok w S := (id rfl)
@[simp] theorem R.w_frl (ds : List D) (S : Sto) : (R.ok (.fr (.lst ds)) S).w = .ok (.p (.lst ds)) S := (id rfl)
@[simp] theorem R.w_exc (x : Exn) (S : Sto) : (R.exc x S : R EV).w = .exc x S := (id rfl)
@[simp] theorem R.w_bad : (R.bad : R EV).w = .bad := (id rfl)
@[simp] theorem R.w_rOpt (o : Option EV) (S : Sto) : (rOpt o S).w = (match o with | some e => rOpt e.w S | none => .bad) := by cases o <;> rfl
@[simp] theorem fin_nx (n : Nat) (ρ : Rho) (S : Sto) : fin n (.nx ρ S) = .ok (.sh (.p .non)) (S.take n) := (id rfl)
@[simp] theorem fin_p (n : Nat) (d : D) (S : Sto) : fin n (.rt (.sh (.p d)) S) = .ok (.sh (.p d)) (S.take n) := (id rfl)
@[simp] theorem fin_fr (n : Nat) (c : Cell) (S : Sto) : fin n (.rt (.fr c) S) = .ok (.fr c) (S.take n) := (id rfl)
@[simp] theorem fin_exc (n : Nat) (x : Exn) (S : Sto) : fin n (.exc x S) = .exc x (S.take n) := (id rfl)
@[simp] theorem fin_bad (n : Nat) : fin n .bad = .bad := (id rfl)
theorem fin_o {n m : Nat} {c : Cell} {S : Sto} (h : n ≤ m) (e : S[m]? = some (some c)) : fin n (.rt (.sh (.o m)) S) = .ok (.fr c) (S.take n) := by
  unfold fin
  dsimp only
  rw [if_neg (by omega), e]
@[simp] theorem EV.w_sh (w : W) : (EV.sh w).w = some w := (id rfl)
@[simp] theorem EV.w_frl (ds : List D) : (EV.fr (.lst ds)).w = some (.p (.lst ds)) := (id rfl)
@[simp] theorem den_p (S : Sto) (d : D) : den S (.p d) = some d := (id rfl)
@[simp] theorem shD_eq (d : D) (S : Sto) : shD d S = .ok (.sh (.p d)) S := (id rfl)
@[simp] theorem frL_eq (ds : List D) (S : Sto) : frL ds S = .ok (.fr (.lst ds)) S := (id rfl)
@[simp] theorem rOpt_map_bl (b : Bool) (S : Sto) : rOpt ((some b).map fun k => EV.sh (.p (.bl k))) S = .ok (.sh (.p (.bl b))) S := (id rfl)
/-! ### while -/
theorem wIter_mono {c : Rho → Sto → R Bool} {b : Rho → Sto → SR} : ∀ {n m : Nat} {ρ : Rho} {S : Sto} {r : SR}, wIter c b n ρ S = some r → n ≤ m → wIter c b m ρ S = some r
  | 0, _, _, _, _, h, _ => by cases h
  | n + 1, 0, _, _, _, _, h => absurd h (by omega)
  | n + 1, m + 1, ρ, S, r, h, hm => by
    unfold wIter at h ⊢
    split at h
    · rename_i S1 e
      split at h
      · rename_i ρ2 S2 e2
        exact wIter_mono h (by omega)
      · exact h
    · exact h
    · exact h
    · exact h
theorem wLoop_eq {c : Rho → Sto → R Bool} {b : Rho → Sto → SR} {n : Nat} {ρ : Rho} {S : Sto} {r : SR} (h : wIter c b n ρ S = some r) : wLoop c b ρ S = r := by
  have hx : ∃ r n, wIter c b n ρ S = some r := ⟨r, n, h⟩
  unfold wLoop
  rw [dif_pos hx]
  obtain ⟨m, hm⟩ := hx.choose_spec
  have h1 := wIter_mono hm (Nat.le_max_left m n)
  have h2 := wIter_mono h (Nat.le_max_right m n)
  rw [h1] at h2
  exact Option.some.inj h2
/-! ### comprehensions -/
theorem keeps_append {t : Wt} {S : Sto} {c : Option Cell} (h : Keeps t S) : Keeps t (S ++ [c]) := fun p hp => by
  have e := h p hp
  have := (List.getElem?_eq_some_iff.mp e).1
  rw [List.getElem?_append_left this]; exact e
/-- items that are told without a change of the store -/
theorem cLoop_pure {t : Wt} {S : Sto} {f : D → Sto → R (Option D)} {g : D → Option D} (hk : Keeps t S) : ∀ (ds acc : List D), (∀ d ∈ ds, ∀ acc : List D, f d (S ++ [some (.lst acc)]) = .ok (g d) (S ++ [some (.lst acc)])) → acc.length + (ds.filterMap g).length ≤ sizeLine →
    cLoop S.length t f ds (S ++ [some (.lst acc)]) acc = .ok (acc ++ ds.filterMap g) S
  | [], acc, _, _ => by
    unfold cLoop
    rw [if_pos (by constructor <;> simp)]
    simp
  | d :: ds, acc, h, hl => by
    unfold cLoop
    rw [h d List.mem_cons_self acc]
    have e1 : (S ++ [some (Cell.lst acc)])[S.length]? = some (some (.lst acc)) := by simp
    cases hg : g d with
    | none =>
      dsimp only
      rw [if_pos ⟨keeps_append hk, e1⟩, cLoop_pure hk ds acc (fun d hd => h d (List.mem_cons_of_mem _ hd)) (by rw [List.filterMap_cons, hg] at hl; exact hl)]
      rw [List.filterMap_cons, hg]
    | some y =>
      dsimp only
      rw [List.filterMap_cons, hg] at hl
      simp only [List.length_cons] at hl
      rw [if_pos ⟨keeps_append hk, e1, by omega⟩]
      have e2 : (S ++ [some (Cell.lst acc)]).set S.length (some (.lst (acc ++ [y]))) = S ++ [some (.lst (acc ++ [y]))] := by
        rw [List.set_append_right _ _ (Nat.le_refl _), Nat.sub_self]; rfl
      rw [e2, cLoop_pure hk ds (acc ++ [y]) (fun d hd => h d (List.mem_cons_of_mem _ hd)) (by simp only [List.length_append, List.length_cons, List.length_nil]; omega)]
      rw [List.filterMap_cons, hg, List.append_assoc]; rfl
/-! ### for -/
open Classical in
theorem fLoop_nil (t : Wt) (f : D → Rho → Sto → SR) (ρ : Rho) (S : Sto) : fLoop t f [] ρ S = .nx ρ S := by unfold fLoop; rfl
open Classical in
theorem fLoop_cons (t : Wt) (f : D → Rho → Sto → SR) (d : D) (ds : List D) (ρ : Rho) (S : Sto) {ρ' : Rho} {S' : Sto} (h : f d ρ S = .nx ρ' S') (k : Keeps t S') : fLoop t f (d :: ds) ρ S = fLoop t f ds ρ' S' := by
  rw [fLoop, h]
  show (if Keeps t S' then _ else _) = _
  rw [if_pos k]
/-- a loop that goes through keeps an invariant -/
theorem fLoop_inv {t : Wt} {f : D → Rho → Sto → SR} (I : Nat → Rho → Sto → Prop) : ∀ (ds : List D) (n : Nat) (ρ : Rho) (S : Sto), I n ρ S → (∀ (i : Nat) (d : D) (ρ : Rho) (S : Sto), ds[i]? = some d → I (n + i) ρ S → ∃ ρ' S', f d ρ S = .nx ρ' S' ∧ Keeps t S' ∧ I (n + i + 1) ρ' S') →
    ∃ ρ' S', fLoop t f ds ρ S = .nx ρ' S' ∧ I (n + ds.length) ρ' S'
  | [], n, ρ, S, h, _ => ⟨ρ, S, fLoop_nil _ _ _ _, h⟩
  | d :: ds, n, ρ, S, h, hs => by
    obtain ⟨ρ1, S1, e1, k1, i1⟩ := hs 0 d ρ S rfl h
    rw [fLoop_cons _ _ _ _ _ _ e1 k1]
    obtain ⟨ρ2, S2, e2, i2⟩ := fLoop_inv I ds (n + 1) ρ1 S1 i1 fun i d ρ S hd hi => by
      have := hs (i + 1) d ρ S (by simpa using hd) (by rw [show n + (i + 1) = n + 1 + i by omega]; exact hi)
      rw [show n + (i + 1) + 1 = n + 1 + i + 1 by omega] at this
      exact this
    exact ⟨ρ2, S2, e2, by rw [List.length_cons, show n + (ds.length + 1) = n + 1 + ds.length by omega]; exact i2⟩
end DL

set_option Elab.async false
set_option linter.all false
set_option maxRecDepth 100000
set_option maxHeartbeats 2000000
/-! SP2: the evaluator's equations in a form that simp computes with. -/
namespace DL
open PySem PySem.Spec PyProof.Rows L2
section
variable (g : Sg) (n0 : Nat)
variable {i n : Nat} {a b c e f : CE} {t u v : CT} {l es : CL} {it : CI} {o p : CO} {ρ : Rho} {S : Sto}
@[simp] theorem e_var : evE g n0 (.var i) ρ S = (match ρ[i]? with | some (some w) => .ok (.sh w) S | _ => .bad) := by unfold evE; rfl
@[simp] theorem e_int {k : Int} : evE g n0 (.int k) ρ S = .ok (.sh (.p (.int k))) S := by unfold evE; rfl
@[simp] theorem e_str {x : Str} : evE g n0 (.str x) ρ S = .ok (.sh (.p (.str x))) S := by unfold evE; rfl
@[simp] theorem e_bl {x : Bool} : evE g n0 (.bl x) ρ S = .ok (.sh (.p (.bl x))) S := by unfold evE; rfl
@[simp] theorem e_non : evE g n0 .non ρ S = .ok (.sh (.p .non)) S := by unfold evE; rfl
@[simp] theorem e_cst : evE g n0 (.cst n) ρ S = .ok (.sh (.p (g.C n))) S := by unfold evE; rfl
@[simp] theorem e_fnv : evE g n0 (.fnv n) ρ S = .ok (.sh (.p (.fn n))) S := by unfold evE; rfl
@[simp] theorem e_bin {o : BO} : evE g n0 (.bin o a b) ρ S = (evE g n0 a ρ S).w.bind fun x S => (evE g n0 b ρ S).w.bind fun y S => binW o x y S := by rw [evE]
@[simp] theorem e_neg : evE g n0 (.neg a) ρ S = (evE g n0 a ρ S).w.bind fun x S => match x with
    | .p (.int i) => .ok (.sh (.p (.int (-i)))) S
    | _ => .bad := by rw [evE] <;> rfl
@[simp] theorem e_cmp : evE g n0 (.cmp o a b) ρ S = (evE g n0 a ρ S).w.bind fun x S => (evE g n0 b ρ S).w.bind fun y S => (rOpt (cmpW o x y S) S).bind fun k S => .ok (.sh (.p (.bl k))) S := by
  rw [evE]; congr; funext x S; congr; funext y S; cases cmpW o x y S <;> rfl
@[simp] theorem e_chain : evE g n0 (.chain o p a b c) ρ S = (evE g n0 a ρ S).w.bind fun x S => (evE g n0 b ρ S).w.bind fun y S => (rOpt (cmpW o x y S) S).bind fun k S => if k = true then (evE g n0 c ρ S).w.bind fun z S => (rOpt (cmpW p y z S) S).bind fun k S => .ok (.sh (.p (.bl k))) S else .ok (.sh (.p (.bl false))) S := by
  rw [evE]; congr; funext x S; congr; funext y S
  cases cmpW o x y S with
  | none => rfl
  | some k =>
    cases k with
    | false => rfl
    | true =>
      show ((evE g n0 c ρ S).w.bind fun z S => rOpt ((cmpW p y z S).map fun k => EV.sh (.p (.bl k))) S) = (evE g n0 c ρ S).w.bind fun z S => (rOpt (cmpW p y z S) S).bind fun k S => .ok (.sh (.p (.bl k))) S
      congr; funext z S; cases cmpW p y z S <;> rfl
@[simp] theorem e_isN {k : Bool} : evE g n0 (.isN k a) ρ S = (evE g n0 a ρ S).w.bind fun x S => match x with
    | .p .non => .ok (.sh (.p (.bl k))) S
    | .p _ => .ok (.sh (.p (.bl !k))) S
    | .o _ => .bad := by rw [evE] <;> rfl
@[simp] theorem e_isB {k x : Bool} : evE g n0 (.isB k x a) ρ S = (evE g n0 a ρ S).w.bind fun y S => match y with
    | .p (.bl c) => .ok (.sh (.p (.bl ((c == x) == k)))) S
    | _ => .bad := by rw [evE] <;> rfl
@[simp] theorem e_nt : evE g n0 (.nt a) ρ S = (evE g n0 a ρ S).w.bind fun x S => match x with
    | .p (.bl c) => .ok (.sh (.p (.bl !c))) S
    | _ => .bad := by rw [evE] <;> rfl
@[simp] theorem e_and : evE g n0 (.and_ a b) ρ S = (evE g n0 a ρ S).w.bind fun x S => match x with
    | .p (.bl c) => if c = true then evE g n0 b ρ S else .ok (.sh (.p (.bl false))) S
    | _ => .bad := by rw [evE] <;> rfl
@[simp] theorem e_or : evE g n0 (.or_ a b) ρ S = (evE g n0 a ρ S).w.bind fun x S => match x with
    | .p (.bl c) => if c = true then .ok (.sh (.p (.bl true))) S else evE g n0 b ρ S
    | _ => .bad := by rw [evE] <;> rfl
@[simp] theorem e_ife : evE g n0 (.ife t a b) ρ S = (evT g n0 t ρ S).bind fun k S => if k = true then evE g n0 a ρ S else evE g n0 b ρ S := by rw [evE]
@[simp] theorem e_tup : evE g n0 (.tup es) ρ S = (evL g n0 es ρ S).bind fun ws S => match giveL n0 ws S with
    | some q => if q.1.length ≤ sizeLine then .ok (.sh (.p (.tup q.1))) q.2 else .bad
    | none => .bad := by rw [evE] <;> rfl
@[simp] theorem e_lst : evE g n0 (.lst es) ρ S = (evL g n0 es ρ S).bind fun ws S => match giveL n0 ws S with
    | some q => if q.1.length ≤ sizeLine then .ok (.fr (.lst q.1)) q.2 else .bad
    | none => .bad := by rw [evE] <;> rfl
@[simp] theorem e_ix : evE g n0 (.ix a b) ρ S = (evE g n0 a ρ S).w.bind fun x S => (evE g n0 b ρ S).w.bind fun y S => match den S x, y with
    | some d, .p k => (rOpt (ixD d k) S).bind fun d S => .ok (.sh (.p d)) S
    | _, _ => .bad := by
  rw [evE]; congr; funext x S; congr; funext y S
  cases den S x with
  | none => rfl
  | some d =>
    cases y with
    | o n => rfl
    | p k => dsimp only; cases ixD d k <;> rfl
@[simp] theorem e_slL : evE g n0 (.slL a b) ρ S = (evE g n0 a ρ S).w.bind fun x S => (evE g n0 b ρ S).w.bind fun y S => slW x (some y) none S := by rw [evE]
@[simp] theorem e_slH : evE g n0 (.slH a b) ρ S = (evE g n0 a ρ S).w.bind fun x S => (evE g n0 b ρ S).w.bind fun y S => slW x none (some y) S := by rw [evE]
@[simp] theorem e_slB : evE g n0 (.slB a b c) ρ S = (evE g n0 a ρ S).w.bind fun x S => (evE g n0 b ρ S).w.bind fun y S => match intO (some y) with
    | some _ => (evE g n0 c ρ S).w.bind fun z S => slW x (some y) (some z) S
    | none => .bad := by rw [evE] <;> rfl
@[simp] theorem e_rev : evE g n0 (.rev a) ρ S = (evE g n0 a ρ S).w.bind fun x S => match den S x with
    | some (.lst xs) => .ok (.fr (.lst xs.reverse)) S
    | some (.tup xs) => .ok (.sh (.p (.tup xs.reverse))) S
    | _ => .bad := by rw [evE] <;> rfl
@[simp] theorem e_call : evE g n0 (.call n es) ρ S = (evL g n0 es ρ S).bind fun ws S => g.F n ws S := by rw [evE]
@[simp] theorem e_blt {k : Bl} : evE g n0 (.blt k es) ρ S = (evL g n0 es ρ S).bind fun ws S => bltW k ws S := by rw [evE]
@[simp] theorem e_ist {k : Ty} : evE g n0 (.ist a k) ρ S = (evE g n0 a ρ S).w.bind fun x S => (rOpt ((den S x).bind fun d => isTy d k) S).bind fun k S => .ok (.sh (.p (.bl k))) S := by
  rw [evE]; congr; funext x S; cases (den S x).bind fun d => isTy d k <;> rfl
@[simp] theorem e_isT {ts : List Ty} : evE g n0 (.isT a ts) ρ S = (evE g n0 a ρ S).w.bind fun x S => (rOpt ((den S x).bind fun d => mapO (isTy d) ts) S).bind fun ks S => .ok (.sh (.p (.bl (ks.any id)))) S := by
  rw [evE]; congr; funext x S; cases (den S x).bind fun d => mapO (isTy d) ts <;> rfl
@[simp] theorem e_mth {m : Mt} : evE g n0 (.mth m a b) ρ S = (evE g n0 a ρ S).w.bind fun x S => match x with
    | .p (.str z) => (evE g n0 b ρ S).w.bind fun y S => match den S y with
      | some d => mthD m z d S
      | none => .bad
    | _ => .bad := by rw [evE] <;> rfl
theorem e_comp {tg : List Nat} {one : Bool} : evE g n0 (.comp e tg one it) ρ S = (evI g n0 it ρ S).bind fun q S => (match cLoop S.length q.2 (fun d S => match bindT one tg d (wipeR ρ tg) with
        | some ρ' => (giveR n0 (evE g n0 e ρ' S).w).bind fun y S => .ok (some y) S
        | none => .bad) q.1 (S ++ [some (.lst [])]) [] with
      | .ok ys S => .ok (.fr (.lst ys)) S
      | _ => .bad) := by rw [evE] <;> rfl
theorem e_compC {tg : List Nat} {one : Bool} : evE g n0 (.compC e tg one it t) ρ S = (evI g n0 it ρ S).bind fun q S => (match cLoop S.length q.2 (fun d S => match bindT one tg d (wipeR ρ tg) with
        | some ρ' => (evT g n0 t ρ' S).bind fun k S => if k = true then (giveR n0 (evE g n0 e ρ' S).w).bind fun y S => .ok (some y) S else .ok none S
        | none => .bad) q.1 (S ++ [some (.lst [])]) [] with
      | .ok ys S => .ok (.fr (.lst ys)) S
      | _ => .bad) := by rw [evE] <;> rfl
@[simp] theorem e_disp {ks : List Str} : evE g n0 (.disp ks es) ρ S = (match dispV es with
    | some ds => if ks ≠ [] ∧ ks.Nodup ∧ ks.length = ds.length ∧ ks.length ≤ 15 then .ok (.sh (.p (.dic ks ds))) S else .bad
    | none => .bad) := by rw [evE] <;> rfl
@[simp] theorem e_dix : evE g n0 (.dix a b) ρ S = (evE g n0 a ρ S).w.bind fun x S => (evE g n0 b ρ S).w.bind fun y S => match x, y with
    | .p (.dic ks vs), .p (.str z) => (rOpt (dGet ks vs z) S).bind fun d S => .ok (.sh (.p d)) S
    | _, _ => .bad := by
  rw [evE]; congr; funext x S; congr; funext y S
  cases x with
  | o n => rfl
  | p d =>
    cases d <;> first | rfl | skip
    cases y with
    | o n => rfl
    | p e =>
      cases e <;> first | rfl | skip
      rename_i ks vs z
      show rOpt ((dGet ks vs z).map fun d => EV.sh (.p d)) S = (rOpt (dGet ks vs z) S).bind fun d S => .ok (.sh (.p d)) S
      cases dGet ks vs z <;> rfl
@[simp] theorem e_din {k : Bool} : evE g n0 (.din k a b) ρ S = (evE g n0 a ρ S).w.bind fun x S => (evE g n0 b ρ S).w.bind fun y S => match y, x with
    | .p (.dic ks vs), .p (.str z) => if ks.length = vs.length then .ok (.sh (.p (.bl ((dGet ks vs z).isSome == k)))) S else .bad
    | _, _ => .bad := by rw [evE] <;> rfl
@[simp] theorem e_callD {ns : List Nat} : evE g n0 (.callD ns f es) ρ S = (evE g n0 f ρ S).w.bind fun x S => match x with
    | .p (.fn n) => if n ∈ ns then (evL g n0 es ρ S).bind fun ws S => g.F n ws S else .bad
    | _ => .bad := by rw [evE] <;> rfl
@[simp] theorem e_fst : evE g n0 (.fst es) ρ S = evF g n0 Str.empty es ρ S := by rw [evE]
@[simp] theorem e_tryL : evE g n0 (.tryL a) ρ S = tryR g.kin (evE g n0 a ρ S).w := by rw [evE]
@[simp] theorem l_nil : evL g n0 .nil ρ S = .ok [] S := by rw [evL]
@[simp] theorem l_cons : evL g n0 (.cons e es) ρ S = (evE g n0 e ρ S).w.bind fun w S => (evL g n0 es ρ S).bind fun ws S => .ok (w :: ws) S := by rw [evL]
@[simp] theorem f_nil {acc : Str} : evF g n0 acc .nil ρ S = .ok (.sh (.p (.str acc))) S := by rw [evF]; rfl
@[simp] theorem f_cons {acc : Str} : evF g n0 acc (.cons e es) ρ S = (evE g n0 e ρ S).w.bind fun w S => (rOpt ((den S w).bind strD) S).bind fun y S => if (acc ++ y).length ≤ sizeLine then evF g n0 (acc ++ y) es ρ S else .bad := by
  rw [evF]; congr; funext w S; cases (den S w).bind strD <;> rfl
@[simp] theorem t_v : evT g n0 (.v e) ρ S = (evE g n0 e ρ S).w.bind fun w S => rOpt (truW S w) S := by rw [evT]
@[simp] theorem t_nt : evT g n0 (.nt t) ρ S = (evT g n0 t ρ S).bind fun k S => .ok (!k) S := by rw [evT]
@[simp] theorem t_and : evT g n0 (.and_ t u) ρ S = (evT g n0 t ρ S).bind fun k S => if k = true then evT g n0 u ρ S else .ok false S := by rw [evT]
@[simp] theorem t_or : evT g n0 (.or_ t u) ρ S = (evT g n0 t ρ S).bind fun k S => if k = true then .ok true S else evT g n0 u ρ S := by rw [evT]
@[simp] theorem i_seq : evI g n0 (.seq e) ρ S = (evE g n0 e ρ S).w.bind fun w S => rOpt (iterW S w) S := by rw [evI]
@[simp] theorem i_rng : evI g n0 (.rng e) ρ S = (evE g n0 e ρ S).w.bind fun w S => match w with
    | .p (.int j) => if -(2 ^ 62) ≤ j ∧ j < 2 ^ 62 then .ok ((List.range j.toNat).map fun i => D.int (i : Nat), []) S else .bad
    | _ => .bad := by rw [evI] <;> rfl
@[simp] theorem i_rng2 : evI g n0 (.rng2 a b) ρ S = (evE g n0 a ρ S).w.bind fun v S => (evE g n0 b ρ S).w.bind fun w S => match v, w with
    | .p (.int i), .p (.int j) => if -(2 ^ 62) ≤ i ∧ i < 2 ^ 62 ∧ -(2 ^ 62) ≤ j ∧ j < 2 ^ 62 then .ok ((List.range (j - i).toNat).map fun k => D.int (i + (k : Nat)), []) S else .bad
    | _, _ => .bad := by rw [evI] <;> rfl
@[simp] theorem i_enu : evI g n0 (.enu e) ρ S = (evE g n0 e ρ S).w.bind fun w S => (rOpt (seqW S w) S).bind fun ds S => .ok (ds.zipIdx.map fun p => .tup [.int (p.2 : Nat), p.1], wtOf w ds) S := by
  rw [evI]; congr; funext w S; cases seqW S w <;> rfl
@[simp] theorem i_zip : evI g n0 (.zip a b) ρ S = (evE g n0 a ρ S).w.bind fun v S => (evE g n0 b ρ S).w.bind fun w S => match seqW S v, seqW S w with
    | some xs, some ys => .ok ((xs.zip ys).map fun p => .tup [p.1, p.2], wtOf v xs ++ wtOf w ys) S
    | _, _ => .bad := by rw [evI] <;> rfl
@[simp] theorem m_nil : evM g n0 .nil ρ S = .ok [] S := by rw [evM]
@[simp] theorem m_cons : evM g n0 (.cons e es) ρ S = (evE g n0 e ρ S).bind fun v S => match v with
    | .sh w => (evM g n0 es ρ S).bind fun ws S => .ok (w :: ws) S
    | .fr c => (evM g n0 es ρ (S ++ [some c])).bind fun ws S' => .ok (.o S.length :: ws) S' := by rw [evM] <;> rfl
variable {x y : CS}
@[simp] theorem s_asg : evS g n0 (.asg i e) ρ S = (evE g n0 e ρ S).w.st fun w S => .nx (ρ.set i (some w)) S := by rw [evS]
@[simp] theorem s_asgO : evS g n0 (.asgO i e) ρ S = (evE g n0 e ρ S).st fun v S => match v with
    | .sh w => .nx (ρ.set i (some w)) S
    | .fr c => .nx (ρ.set i (some (.o S.length))) (S ++ [some c]) := by rw [evS] <;> rfl
@[simp] theorem s_tasg {tg : List Nat} : evS g n0 (.tasg tg es) ρ S = (evM g n0 es ρ S).st fun ws S => if ws.length = tg.length then .nx (setL tg ws ρ) S else .bad := by rw [evS]
@[simp] theorem s_unp {tg : List Nat} : evS g n0 (.unp tg e) ρ S = (evE g n0 e ρ S).w.st fun w S => match w with
    | .p d => match bindT false tg d ρ with
      | some ρ => .nx ρ S
      | none => .bad
    | _ => .bad := by rw [evS] <;> rfl
@[simp] theorem s_expr : evS g n0 (.expr e) ρ S = (evE g n0 e ρ S).w.st fun _ S => .nx ρ S := by rw [evS]
@[simp] theorem s_ret : evS g n0 (.ret e) ρ S = (evE g n0 e ρ S).st fun v S => .rt v S := by rw [evS]
@[simp] theorem s_retN : evS g n0 .retN ρ S = .rt (.sh (.p .non)) S := by rw [evS]
@[simp] theorem s_ifs : evS g n0 (.ifs t x y) ρ S = (evT g n0 t ρ S).st fun k S => if k = true then evS g n0 x ρ S else evS g n0 y ρ S := by rw [evS]
theorem s_whl : evS g n0 (.whl t x) ρ S = wLoop (evT g n0 t) (evS g n0 x) ρ S := by rw [evS]
/-- a loop's body -/
noncomputable def forB (g : Sg) (n0 : Nat) (one : Bool) (tg : List Nat) (b : CS) : D → Rho → Sto → SR := fun d ρ S => match bindT one tg d ρ with
      | some ρ => evS g n0 b ρ S
      | none => .bad
theorem forB_some {one : Bool} {tg : List Nat} {d : D} {ρ' : Rho} (h : bindT one tg d ρ = some ρ') : forB g n0 one tg x d ρ S = evS g n0 x ρ' S := by
  unfold forB
  rw [h]
theorem s_for {tg : List Nat} {one : Bool} : evS g n0 (.for_ tg one it x) ρ S = (evI g n0 it ρ S).st fun q S => fLoop q.2 (forB g n0 one tg x) q.1 ρ S := by rw [evS] <;> rfl
@[simp] theorem s_rai : evS g n0 (.rai n) ρ S = .exc ⟨n, []⟩ S := by rw [evS]
@[simp] theorem s_nil : evS g n0 .nil ρ S = .nx ρ S := by rw [evS]
@[simp] theorem s_seq : evS g n0 (.seq x y) ρ S = (evS g n0 x ρ S).bind fun ρ S => evS g n0 y ρ S := by rw [evS]
@[simp] theorem s_sub {k : CE} : evS g n0 (.sub i k e) ρ S = (evE g n0 e ρ S).w.st fun w S => match w, objL ρ S i with
    | .p d, some _ => (evE g n0 k ρ S).w.st fun y S => match y, objL ρ S i with
      | .p (.int j), some (n, ds) => match ixN ds.length j with
        | some m => .nx ρ (S.set n (some (.lst (ds.set m d))))
        | none => .bad
      | _, _ => .bad
    | _, _ => .bad := by rw [evS] <;> rfl
@[simp] theorem s_aug {k : CE} : evS g n0 (.aug i k e) ρ S = (match objL ρ S i with
    | some _ => (evE g n0 k ρ S).w.st fun y S => match y, objL ρ S i with
      | .p (.int j), some (_, ds) => match atI ds j with
        | some (.int a) => (evE g n0 e ρ S).w.st fun w S => match w, objL ρ S i with
          | .p (.int b), some (n, ds) => match ixN ds.length j with
            | some m => .nx ρ (S.set n (some (.lst (ds.set m (.int (a + b))))))
            | none => .bad
          | _, _ => .bad
        | _ => .bad
      | _, _ => .bad
    | none => .bad) := by rw [evS] <;> rfl
@[simp] theorem s_app : evS g n0 (.app i e) ρ S = (match objL ρ S i with
    | some _ => (evE g n0 e ρ S).w.st fun w S => match giveW n0 w S with
      | some (d, S) => match objL ρ S i with
        | some (n, ds) => if ds.length < sizeLine then .nx ρ (S.set n (some (.lst (ds ++ [d])))) else .bad
        | none => .bad
      | none => .bad
    | none => .bad) := by rw [evS] <;> rfl
end
/-! ### values -/
section
variable {S : Sto} {i j : Int} {n0 : Nat}
@[simp] theorem give_nil : giveL n0 [] S = some ([], S) := (id rfl)
@[simp] theorem give_p {d : D} {ws : List W} : giveL n0 (.p d :: ws) S = (giveL n0 ws S).map fun r => (d :: r.1, r.2) := (id rfl)
@[simp] theorem giveW_p {d : D} : giveW n0 (.p d) S = some (d, S) := (id rfl)
theorem giveW_o {n : Nat} {ds : List D} (h : n0 ≤ n) (e : S[n]? = some (some (.lst ds))) : giveW n0 (.o n) S = some (.lst ds, S.set n none) := by
  show (if n0 ≤ n then _ else none) = _
  rw [if_pos h, e]
@[simp] theorem giveR_p {d : D} : giveR n0 (.ok (.p d) S) = .ok d S := (id rfl)
@[simp] theorem bin_add : binW .add (.p (.int i)) (.p (.int j)) S = .ok (.sh (.p (.int (i + j)))) S := (id rfl)
@[simp] theorem bin_sub : binW .sub (.p (.int i)) (.p (.int j)) S = .ok (.sh (.p (.int (i - j)))) S := (id rfl)
theorem bin_mul (h : i.natAbs.log2 + j.natAbs.log2 < 1000000) : binW .mul (.p (.int i)) (.p (.int j)) S = .ok (.sh (.p (.int (i * j)))) S := by
  show rOpt ((if _ then _ else _ : Option Int).map _) S = _
  rw [if_pos h]; rfl
theorem bin_fdiv (h : 0 < j) (h2 : j.natAbs.log2 < 9000) : binW .fdiv (.p (.int i)) (.p (.int j)) S = .ok (.sh (.p (.int (i / j)))) S := by
  show rOpt ((if _ then _ else _ : Option Int).map _) S = _
  rw [if_pos ⟨h, h2⟩]; rfl
theorem bin_mod (h : 0 < j) : binW .mod (.p (.int i)) (.p (.int j)) S = .ok (.sh (.p (.int (i % j)))) S := by
  show rOpt ((if _ then _ else _ : Option Int).map _) S = _
  rw [if_pos h]; rfl
theorem bin_pow (h : 0 ≤ j) (h2 : j ≤ 1000000) (h3 : i.natAbs < 2 ^ 64) : binW .pow (.p (.int i)) (.p (.int j)) S = .ok (.sh (.p (.int (i ^ j.toNat)))) S := by
  show rOpt ((if _ then _ else _ : Option Int).map _) S = _
  rw [if_pos ⟨h, h2, h3⟩]; rfl
@[simp] theorem bin_catL {xs ys : List D} : binW .add (.p (.lst xs)) (.p (.lst ys)) S = if xs.length + ys.length ≤ sizeLine then .ok (.fr (.lst (xs ++ ys))) S else .bad := (id rfl)
@[simp] theorem bin_catT {xs ys : List D} : binW .add (.p (.tup xs)) (.p (.tup ys)) S = if xs.length + ys.length ≤ sizeLine then .ok (.sh (.p (.tup (xs ++ ys)))) S else .bad := (id rfl)
@[simp] theorem bin_catS {x y : Str} : binW .add (.p (.str x)) (.p (.str y)) S = if x.length + y.length ≤ sizeLine then .ok (.sh (.p (.str (x ++ y)))) S else .bad := (id rfl)
theorem bin_mulL {xs : List D} {k : Int} (h1 : -(2 ^ 63) ≤ k) (h2 : k < 2 ^ 63) (h3 : xs.length * k.toNat ≤ sizeLine) : binW .mul (.p (.lst xs)) (.p (.int k)) S = .ok (.fr (.lst (List.replicate k.toNat xs).flatten)) S := by
  show (if _ then _ else _) = _
  rw [if_pos ⟨h1, h2, h3⟩]; rfl
theorem bin_mulT {xs : List D} {k : Int} (h1 : 2 ≤ k) (h2 : k ≤ 1000) (h3 : xs.length ≤ 1000) : binW .mul (.p (.tup xs)) (.p (.int k)) S = .ok (.sh (.p (.tup (List.replicate k.toNat xs).flatten))) S := by
  show (if _ then _ else _) = _
  rw [if_pos ⟨h1, h2, h3⟩]; rfl
@[simp] theorem cmp_lt : cmpW .lt (.p (.int i)) (.p (.int j)) S = some (decide (i < j)) := (id rfl)
@[simp] theorem cmp_le : cmpW .le (.p (.int i)) (.p (.int j)) S = some (decide (i ≤ j)) := (id rfl)
@[simp] theorem cmp_gt : cmpW .gt (.p (.int i)) (.p (.int j)) S = some (decide (j < i)) := (id rfl)
@[simp] theorem cmp_ge : cmpW .ge (.p (.int i)) (.p (.int j)) S = some (decide (j ≤ i)) := (id rfl)
@[simp] theorem cmp_eq {x y : D} : cmpW .eq (.p x) (.p y) S = eqD x y := (id rfl)
@[simp] theorem cmp_ne {x y : D} : cmpW .ne (.p x) (.p y) S = (eqD x y).map not := (id rfl)
@[simp] theorem cmp_inL {x : D} {ys : List D} : cmpW .inn (.p x) (.p (.lst ys)) S = inD x ys := (id rfl)
@[simp] theorem cmp_inT {x : D} {ys : List D} : cmpW .inn (.p x) (.p (.tup ys)) S = inD x ys := (id rfl)
@[simp] theorem cmp_ninL {x : D} {ys : List D} : cmpW .nin (.p x) (.p (.lst ys)) S = (inD x ys).map not := (id rfl)
@[simp] theorem cmp_ninT {x : D} {ys : List D} : cmpW .nin (.p x) (.p (.tup ys)) S = (inD x ys).map not := (id rfl)
@[simp] theorem tru_bl {b : Bool} : truW S (.p (.bl b)) = some b := (id rfl)
@[simp] theorem tru_non : truW S (.p .non) = some false := (id rfl)
@[simp] theorem tru_int : truW S (.p (.int i)) = some (i != 0) := (id rfl)
@[simp] theorem tru_lst {xs : List D} : truW S (.p (.lst xs)) = some (!xs.isEmpty) := (id rfl)
@[simp] theorem tru_tup {xs : List D} : truW S (.p (.tup xs)) = some (!xs.isEmpty) := (id rfl)
@[simp] theorem blt_len_t {xs : List D} : bltW .len [.p (.tup xs)] S = .ok (.sh (.p (.int (xs.length : Int)))) S := (id rfl)
@[simp] theorem blt_len_l {xs : List D} : bltW .len [.p (.lst xs)] S = .ok (.sh (.p (.int (xs.length : Int)))) S := (id rfl)
@[simp] theorem blt_abs : bltW .abs [.p (.int i)] S = .ok (.sh (.p (.int (i.natAbs : Int)))) S := by
  have e : (if i < 0 then -i else i) = (i.natAbs : Int) := by split <;> omega
  show R.ok (EV.sh (.p (.int (if i < 0 then -i else i)))) S = _
  rw [e]
@[simp] theorem blt_max : bltW .max2 [.p (.int i), .p (.int j)] S = .ok (.sh (.p (.int (max i j)))) S := by
  have e : (if j > i then j else i) = max i j := by split <;> omega
  show R.ok (EV.sh (.p (.int (if j > i then j else i)))) S = _
  rw [e]
@[simp] theorem blt_min : bltW .min2 [.p (.int i), .p (.int j)] S = .ok (.sh (.p (.int (min i j)))) S := by
  have e : (if j < i then j else i) = min i j := by split <;> omega
  show R.ok (EV.sh (.p (.int (if j < i then j else i)))) S = _
  rw [e]
@[simp] theorem blt_int : bltW .int [.p (.int i)] S = .ok (.sh (.p (.int i))) S := (id rfl)
@[simp] theorem blt_tupL {xs : List D} : bltW .tuple [.p (.lst xs)] S = .ok (.sh (.p (.tup xs))) S := (id rfl)
@[simp] theorem blt_tupT {xs : List D} : bltW .tuple [.p (.tup xs)] S = .ok (.sh (.p (.tup xs))) S := (id rfl)
@[simp] theorem blt_lstL {xs : List D} : bltW .list [.p (.lst xs)] S = .ok (.fr (.lst xs)) S := (id rfl)
@[simp] theorem blt_lstT {xs : List D} : bltW .list [.p (.tup xs)] S = .ok (.fr (.lst xs)) S := (id rfl)
@[simp] theorem iterW_l {xs : List D} : iterW S (.p (.lst xs)) = some (xs, []) := (id rfl)
@[simp] theorem iterW_t {xs : List D} : iterW S (.p (.tup xs)) = some (xs, []) := (id rfl)
@[simp] theorem iterW_s {z : Str} : iterW S (.p (.str z)) = some (signsD z, []) := (id rfl)
@[simp] theorem iterW_o {n : Nat} : iterW S (.o n) = (seqW S (.o n)).map fun ds => (ds, wtOf (.o n) ds) := (id rfl)
@[simp] theorem seqW_l {xs : List D} : seqW S (.p (.lst xs)) = some xs := (id rfl)
@[simp] theorem seqW_t {xs : List D} : seqW S (.p (.tup xs)) = some xs := (id rfl)
@[simp] theorem wtOf_p {d : D} {xs : List D} : wtOf (.p d) xs = [] := (id rfl)
theorem den_o {n : Nat} {ds : List D} (e : S[n]? = some (some (.lst ds))) : den S (.o n) = some (.lst ds) := by
  show (match S[n]? with | some (some (.lst ds)) => some (D.lst ds) | _ => none) = _
  rw [e]
theorem objL_of {ρ : Rho} {k n : Nat} {ds : List D} (h : ρ[k]? = some (some (.o n))) (e : S[n]? = some (some (.lst ds))) : objL ρ S k = some (n, ds) := by
  unfold objL
  rw [h]
  dsimp only
  rw [e]
theorem blt_tupO {n : Nat} {ds : List D} (e : S[n]? = some (some (.lst ds))) : bltW .tuple [.o n] S = .ok (.sh (.p (.tup ds))) S := by
  show (match mapO (den S) [.o n] with | some ds => bltD .tuple ds S | none => .bad) = _
  unfold mapO
  rw [den_o e]; rfl
theorem blt_lenO {n : Nat} {ds : List D} (e : S[n]? = some (some (.lst ds))) : bltW .len [.o n] S = .ok (.sh (.p (.int (ds.length : Int)))) S := by
  show (match mapO (den S) [.o n] with | some ds => bltD .len ds S | none => .bad) = _
  unfold mapO
  rw [den_o e]; rfl
@[simp] theorem ixD_t {xs : List D} : ixD (.tup xs) (.int i) = atI xs i := (id rfl)
@[simp] theorem ixD_l {xs : List D} : ixD (.lst xs) (.int i) = atI xs i := (id rfl)
@[simp] theorem atI_0 {α : Type} {x : α} {xs : List α} : atI (x :: xs) 0 = some x := by
  unfold atI ixN; simp
@[simp] theorem atI_1 {α : Type} {x y : α} {xs : List α} : atI (x :: y :: xs) 1 = some y := by
  unfold atI ixN
  rw [if_pos (by decide), if_pos (by simp only [List.length_cons]; omega)]; rfl
@[simp] theorem atI_2 {α : Type} {x y z : α} {xs : List α} : atI (x :: y :: z :: xs) 2 = some z := by
  unfold atI ixN
  rw [if_pos (by decide), if_pos (by simp only [List.length_cons]; omega)]; rfl
@[simp] theorem atI_3 {α : Type} {x y z u : α} {xs : List α} : atI (x :: y :: z :: u :: xs) 3 = some u := by
  unfold atI ixN
  rw [if_pos (by decide), if_pos (by simp only [List.length_cons]; omega)]; rfl
@[simp] theorem atI_4 {α : Type} {x y z u v : α} {xs : List α} : atI (x :: y :: z :: u :: v :: xs) 4 = some v := by
  unfold atI ixN
  rw [if_pos (by decide), if_pos (by simp only [List.length_cons]; omega)]; rfl
end
@[simp] theorem take_set {α : Type} (S : List α) (n : Nat) (c : α) : (S.set n c).take S.length = S.set n c := by
  rw [List.take_of_length_le (by simp)]
@[simp] theorem take_len {α : Type} (S : List α) : S.take S.length = S := List.take_length
@[simp] theorem take_app {α : Type} (S T : List α) : (S ++ T).take S.length = S := by simp
theorem log2_lt {n k : Nat} (h : n < 2 ^ k) (hk : 0 < k) : n.log2 < k := by
  by_cases h0 : n = 0
  · subst h0; simpa using hk
  · exact (Nat.log2_lt h0).mpr h
theorem run_def {g : Sg} {np nv : Nat} {b : CS} {ws : List W} {S : Sto} (h : ws.length = np) : evDef g np nv b ws S = fin S.length (evS g S.length b (ws.map some ++ List.replicate (nv - np) none) S) := by
  unfold evDef
  rw [if_pos h]
end DL

set_option Elab.async false
set_option linter.all false
set_option maxRecDepth 100000
set_option maxHeartbeats 2000000
/-! SP3: equality of data. -/
namespace DL
open PySem PySem.Spec PyProof.Rows L2
mutual
/-- plain data -/
def D.pl : D → Bool
  | .non | .bl _ | .int _ => true
  | .str x => PyData.strOk x
  | .lst xs | .tup xs => D.plA xs
  | _ => false
def D.plA : List D → Bool
  | [] => true
  | x :: xs => D.pl x && D.plA xs
end
mutual
def D.dp : D → Nat
  | .lst xs | .tup xs => D.dpA xs + 1
  | _ => 0
def D.dpA : List D → Nat
  | [] => 0
  | x :: xs => max (D.dp x) (D.dpA xs)
end
mutual
/-- == -/
def eqv : D → D → Bool
  | .non, .non => true
  | .bl a, .bl b => a == b
  | .bl a, .int j => (if a then 1 else 0) == j
  | .int i, .bl b => i == (if b then 1 else 0)
  | .int i, .int j => i == j
  | .str x, .str y => x == y
  | .lst xs, .lst ys => eqvA xs ys
  | .tup xs, .tup ys => eqvA xs ys
  | _, _ => false
def eqvA : List D → List D → Bool
  | [], [] => true
  | x :: xs, y :: ys => eqv x y && eqvA xs ys
  | _, _ => false
end
mutual
theorem py_of : ∀ {d : D}, d.pl = true → ∃ p, d.py = some p ∧ p.canLay0 = true ∧ p.depth = d.dp
  | .non, _ => ⟨.none, by unfold D.py; rfl, by simp [PyData.canLay0], by simp [PyData.depth, D.dp]⟩
  | .bl b, _ => ⟨.bool b, by unfold D.py; rfl, by simp [PyData.canLay0], by simp [PyData.depth, D.dp]⟩
  | .int b, _ => ⟨.int b, by unfold D.py; rfl, by simp [PyData.canLay0], by simp [PyData.depth, D.dp]⟩
  | .str x, h => ⟨.str x, by unfold D.py; rfl, by simpa [PyData.canLay0, D.pl] using h, by simp [PyData.depth, D.dp]⟩
  | .lst xs, h => by
    obtain ⟨ps, e1, e2, e3⟩ := pyL_of (show D.plA xs = true by simpa [D.pl] using h)
    exact ⟨.list ps, by unfold D.py; rw [e1]; rfl, by simpa [PyData.canLay0] using e2, by simp [PyData.depth, D.dp, e3]⟩
  | .tup xs, h => by
    obtain ⟨ps, e1, e2, e3⟩ := pyL_of (show D.plA xs = true by simpa [D.pl] using h)
    exact ⟨.tuple ps, by unfold D.py; rw [e1]; rfl, by simpa [PyData.canLay0] using e2, by simp [PyData.depth, D.dp, e3]⟩
  | .fn _, h => by simp [D.pl] at h
  | .dic _ _, h => by simp [D.pl] at h
theorem pyL_of : ∀ {ds : List D}, D.plA ds = true → ∃ ps, D.py.pyL ds = some ps ∧ PyData.canLayAll0 ps = true ∧ PyData.depthAll ps = D.dpA ds
  | [], _ => ⟨[], by unfold D.py.pyL; rfl, by simp [PyData.canLayAll0], by simp [PyData.depthAll, D.dpA]⟩
  | d :: ds, h => by
    simp only [D.plA, Bool.and_eq_true] at h
    obtain ⟨p, e1, e2, e3⟩ := py_of h.1
    obtain ⟨ps, f1, f2, f3⟩ := pyL_of h.2
    exact ⟨p :: ps, by unfold D.py.pyL; rw [e1, f1]; rfl, by simp [PyData.canLayAll0, e2, f2], by simp [PyData.depthAll, D.dpA, e3, f3]⟩
end
theorem py_inv {b : D} {q : PyData} (h : b.py = some q) : (b = .non ∧ q = .none) ∨ (∃ x, b = .bl x ∧ q = .bool x) ∨ (∃ x, b = .int x ∧ q = .int x) ∨ (∃ x, b = .str x ∧ q = .str x) ∨ (∃ xs ps, b = .lst xs ∧ q = .list ps ∧ D.py.pyL xs = some ps) ∨ (∃ xs ps, b = .tup xs ∧ q = .tuple ps ∧ D.py.pyL xs = some ps) := by
  cases b <;> unfold D.py at h
  · cases h; exact .inl ⟨rfl, rfl⟩
  · cases h; exact .inr (.inl ⟨_, rfl, rfl⟩)
  · cases h; exact .inr (.inr (.inl ⟨_, rfl, rfl⟩))
  · cases h; exact .inr (.inr (.inr (.inl ⟨_, rfl, rfl⟩)))
  · obtain ⟨ps, e1, e2⟩ := Option.map_eq_some_iff.mp h
    exact .inr (.inr (.inr (.inr (.inl ⟨_, ps, rfl, e2.symm, e1⟩))))
  · obtain ⟨ps, e1, e2⟩ := Option.map_eq_some_iff.mp h
    exact .inr (.inr (.inr (.inr (.inr ⟨_, ps, rfl, e2.symm, e1⟩))))
  · cases h
  · cases h
mutual
theorem eqv_of : ∀ {a b : D} {p q : PyData}, a.py = some p → b.py = some q → PyData.eqv p q = eqv a b
  | .lst xs, b, p, q, h, h' => by
    rcases py_inv h with ⟨z, _⟩ | ⟨_, z, _⟩ | ⟨_, z, _⟩ | ⟨_, z, _⟩ | ⟨xs', ps, z, rfl, e1⟩ | ⟨_, _, z, _⟩ <;> cases z
    rcases py_inv h' with ⟨rfl, rfl⟩ | ⟨y, rfl, rfl⟩ | ⟨y, rfl, rfl⟩ | ⟨y, rfl, rfl⟩ | ⟨ys, qs, rfl, rfl, f1⟩ | ⟨ys, qs, rfl, rfl, f1⟩ <;> simp only [PyData.eqv, eqv]
    exact eqvA_of e1 f1
  | .tup xs, b, p, q, h, h' => by
    rcases py_inv h with ⟨z, _⟩ | ⟨_, z, _⟩ | ⟨_, z, _⟩ | ⟨_, z, _⟩ | ⟨_, _, z, _⟩ | ⟨xs', ps, z, rfl, e1⟩ <;> cases z
    rcases py_inv h' with ⟨rfl, rfl⟩ | ⟨y, rfl, rfl⟩ | ⟨y, rfl, rfl⟩ | ⟨y, rfl, rfl⟩ | ⟨ys, qs, rfl, rfl, f1⟩ | ⟨ys, qs, rfl, rfl, f1⟩ <;> simp only [PyData.eqv, eqv]
    exact eqvA_of e1 f1
  | .non, b, p, q, h, h' => by
    unfold D.py at h; cases h
    rcases py_inv h' with ⟨rfl, rfl⟩ | ⟨y, rfl, rfl⟩ | ⟨y, rfl, rfl⟩ | ⟨y, rfl, rfl⟩ | ⟨ys, qs, rfl, rfl, f1⟩ | ⟨ys, qs, rfl, rfl, f1⟩ <;> simp only [PyData.eqv, eqv]
  | .bl x, b, p, q, h, h' => by
    unfold D.py at h; cases h
    rcases py_inv h' with ⟨rfl, rfl⟩ | ⟨y, rfl, rfl⟩ | ⟨y, rfl, rfl⟩ | ⟨y, rfl, rfl⟩ | ⟨ys, qs, rfl, rfl, f1⟩ | ⟨ys, qs, rfl, rfl, f1⟩ <;> simp only [PyData.eqv, eqv]
  | .int x, b, p, q, h, h' => by
    unfold D.py at h; cases h
    rcases py_inv h' with ⟨rfl, rfl⟩ | ⟨y, rfl, rfl⟩ | ⟨y, rfl, rfl⟩ | ⟨y, rfl, rfl⟩ | ⟨ys, qs, rfl, rfl, f1⟩ | ⟨ys, qs, rfl, rfl, f1⟩ <;> simp only [PyData.eqv, eqv]
  | .str x, b, p, q, h, h' => by
    unfold D.py at h; cases h
    rcases py_inv h' with ⟨rfl, rfl⟩ | ⟨y, rfl, rfl⟩ | ⟨y, rfl, rfl⟩ | ⟨y, rfl, rfl⟩ | ⟨ys, qs, rfl, rfl, f1⟩ | ⟨ys, qs, rfl, rfl, f1⟩ <;> simp only [PyData.eqv, eqv]
  | .fn _, _, _, _, h, _ => by unfold D.py at h; cases h
  | .dic _ _, _, _, _, h, _ => by unfold D.py at h; cases h
theorem eqvA_of : ∀ {as bs : List D} {ps qs : List PyData}, D.py.pyL as = some ps → D.py.pyL bs = some qs → PyData.eqvAll ps qs = eqvA as bs
  | [], [], ps, qs, h, h' => by unfold D.py.pyL at h h'; cases h; cases h'; simp [PyData.eqvAll, eqvA]
  | [], b :: bs, ps, qs, h, h' => by
    unfold D.py.pyL at h h'; cases h
    obtain ⟨q, e1, e2⟩ := Option.bind_eq_some_iff.mp h'
    obtain ⟨qs', e3, e4⟩ := Option.bind_eq_some_iff.mp e2
    cases e4
    simp [PyData.eqvAll, eqvA]
  | a :: as, [], ps, qs, h, h' => by
    unfold D.py.pyL at h h'; cases h'
    obtain ⟨q, e1, e2⟩ := Option.bind_eq_some_iff.mp h
    obtain ⟨qs', e3, e4⟩ := Option.bind_eq_some_iff.mp e2
    cases e4
    simp [PyData.eqvAll, eqvA]
  | a :: as, b :: bs, ps, qs, h, h' => by
    unfold D.py.pyL at h h'
    obtain ⟨q, e1, e2⟩ := Option.bind_eq_some_iff.mp h
    obtain ⟨qs', e3, e4⟩ := Option.bind_eq_some_iff.mp e2
    cases e4
    obtain ⟨r, f1, f2⟩ := Option.bind_eq_some_iff.mp h'
    obtain ⟨rs', f3, f4⟩ := Option.bind_eq_some_iff.mp f2
    cases f4
    simp only [PyData.eqvAll, eqvA]
    rw [eqv_of e1 f1, eqvA_of e3 f3]
end
/-- data that may be compared -/
def D.fit (d : D) : Prop := d.pl = true ∧ d.dp ≤ 60
theorem D.fit.py {d : D} (h : d.fit) : ∃ p, d.py = some p ∧ SeqAt.shaped p = true := by
  obtain ⟨p, e1, e2, e3⟩ := py_of h.1
  refine ⟨p, e1, ?_⟩
  unfold SeqAt.shaped
  rw [e2, e3, decide_eq_true (Nat.le_trans h.2 (by decide))]; rfl
theorem eqD_fit {a b : D} (ha : a.fit) (hb : b.fit) : eqD a b = some (eqv a b) := by
  obtain ⟨p, e1, e2⟩ := ha.py
  obtain ⟨q, f1, f2⟩ := hb.py
  unfold eqD
  rw [e1, f1]
  show (if _ then _ else _) = _
  rw [e2, f2, if_pos (by decide), eqv_of e1 f1]
def fitA (ds : List D) : Prop := D.plA ds = true ∧ D.dpA ds ≤ 59
theorem fitA.py {ds : List D} (h : fitA ds) : ∃ ps, D.py.pyL ds = some ps ∧ SeqAt.shaped (.list ps) = true := by
  obtain ⟨p, e1, e2, e3⟩ := pyL_of h.1
  refine ⟨p, e1, ?_⟩
  unfold SeqAt.shaped
  have h2 := h.2
  rw [show PyData.canLay0 (.list p) = true by simpa [PyData.canLay0] using e2, decide_eq_true (by show PyData.depth (.list p) ≤ 64; simp only [PyData.depth]; omega)]; rfl
theorem any_of {a : D} {p : PyData} (h : a.py = some p) : ∀ {ds : List D} {ps : List PyData}, D.py.pyL ds = some ps → ps.any (fun z => PyData.eqv z p) = ds.any fun z => eqv z a
  | [], ps, h' => by unfold D.py.pyL at h'; cases h'; rfl
  | d :: ds, ps, h' => by
    unfold D.py.pyL at h'
    obtain ⟨q, e1, e2⟩ := Option.bind_eq_some_iff.mp h'
    obtain ⟨qs', e3, e4⟩ := Option.bind_eq_some_iff.mp e2
    cases e4
    rw [List.any_cons, List.any_cons, eqv_of e1 h, any_of h e3]
theorem inD_fit {a : D} {ds : List D} (ha : a.fit) (hb : fitA ds) : inD a ds = some (ds.any fun z => eqv z a) := by
  obtain ⟨p, e1, e2⟩ := ha.py
  obtain ⟨q, f1, f2⟩ := hb.py
  unfold inD
  rw [e1, f1]
  show (if _ then _ else _) = _
  rw [e2, f2, if_pos (by decide), any_of e1 f1]
mutual
theorem eqv_refl : ∀ {d : D}, d.pl = true → eqv d d = true
  | .non, _ => by simp [eqv]
  | .bl b, _ => by simp [eqv]
  | .int i, _ => by simp [eqv]
  | .str x, _ => by simp [eqv]
  | .lst xs, h => by simp only [eqv]; exact eqvA_refl (by simpa [D.pl] using h)
  | .tup xs, h => by simp only [eqv]; exact eqvA_refl (by simpa [D.pl] using h)
  | .fn _, h => by simp [D.pl] at h
  | .dic _ _, h => by simp [D.pl] at h
theorem eqvA_refl : ∀ {ds : List D}, D.plA ds = true → eqvA ds ds = true
  | [], _ => by simp [eqvA]
  | d :: ds, h => by
    simp only [D.plA, Bool.and_eq_true] at h
    simp only [eqvA, Bool.and_eq_true]
    exact ⟨eqv_refl h.1, eqvA_refl h.2⟩
end
@[simp] theorem eqD_int (i j : Int) : eqD (.int i) (.int j) = some (decide (i = j)) := by
  rw [eqD_fit ⟨by simp [D.pl], by simp [D.dp]⟩ ⟨by simp [D.pl], by simp [D.dp]⟩]
  simp only [eqv]
  congr 1
theorem eqD_str {x y : Str} (hx : PyData.strOk x = true) (hy : PyData.strOk y = true) : eqD (.str x) (.str y) = some (decide (x = y)) := by
  rw [eqD_fit ⟨by simpa [D.pl] using hx, by simp [D.dp]⟩ ⟨by simpa [D.pl] using hy, by simp [D.dp]⟩]
  simp only [eqv]
  by_cases h : x = y
  · subst h; simp
  · rw [decide_eq_false h, beq_eq_false_iff_ne.mpr h]
@[simp] theorem plA_ints (ns : List Int) : D.plA (ns.map D.int) = true := by
  induction ns with
  | nil => simp [D.plA]
  | cons a r ih => simp [D.plA, D.pl, ih]
@[simp] theorem dpA_ints (ns : List Int) : D.dpA (ns.map D.int) = 0 := by
  induction ns with
  | nil => simp [D.dpA]
  | cons a r ih => simp [D.dpA, D.dp, ih]
theorem eqvA_ints : ∀ {as bs : List Int}, eqvA (as.map D.int) (bs.map D.int) = decide (as = bs)
  | [], [] => by simp [eqvA]
  | [], b :: bs => by simp [eqvA]
  | a :: as, [] => by simp [eqvA]
  | a :: as, b :: bs => by
    simp only [List.map_cons, eqvA, eqv, eqvA_ints]
    by_cases h : a = b
    · subst h; simp
    · simp [h]
end DL
namespace DL
open PySem PySem.Spec PyProof.Rows L2
/-- a comprehension whose items are told without a change -/
theorem comp_pure {g : Sg} {n0 : Nat} {e : CE} {tg : List Nat} {one : Bool} {it : CI} {ρ : Rho} {S : Sto} {ds : List D} {t : Wt} (h : D → D) (hi : evI g n0 it ρ S = .ok (ds, t) S) (hk : Keeps t S) (hl : ds.length ≤ sizeLine)
    (hf : ∀ d ∈ ds, ∀ acc : List D, ∃ ρ', bindT one tg d (wipeR ρ tg) = some ρ' ∧ giveR n0 (evE g n0 e ρ' (S ++ [some (.lst acc)])).w = .ok (h d) (S ++ [some (.lst acc)])) :
    evE g n0 (.comp e tg one it) ρ S = .ok (.fr (.lst (ds.map h))) S := by
  rw [e_comp, hi, R.bind_ok]
  rw [cLoop_pure (g := fun d => some (h d)) hk ds [] (fun d hd acc => ?_) (by rw [List.filterMap_eq_map']; simpa using hl)]
  · show R.ok (EV.fr (.lst ([] ++ ds.filterMap fun d => some (h d)))) S = _
    rw [List.nil_append, List.filterMap_eq_map']
  · obtain ⟨ρ', e1, e2⟩ := hf d hd acc
    rw [e1]
    dsimp only
    rw [e2]; rfl
/-- turns of a comprehension that change what lies below -/
theorem cLoop_gen {f : D → Sto → R (Option D)} (I : Nat → Sto → List D → Prop) {n : Nat} : ∀ (ds : List D) (i : Nat) (S : Sto) (acc : List D), S.length = n → I i S acc → acc.length + ds.length ≤ sizeLine →
    (∀ (j : Nat) (d : D) (S : Sto) (acc : List D), ds[j]? = some d → S.length = n → I (i + j) S acc → ∃ y S1, f d (S ++ [some (.lst acc)]) = .ok (some y) (S1 ++ [some (.lst acc)]) ∧ S1.length = n ∧ I (i + j + 1) S1 (acc ++ [y])) →
    ∃ S' acc', cLoop n [] f ds (S ++ [some (.lst acc)]) acc = .ok acc' S' ∧ S'.length = n ∧ I (i + ds.length) S' acc'
  | [], i, S, acc, hn, h, _, _ => by
    refine ⟨S, acc, ?_, hn, h⟩
    unfold cLoop
    subst hn
    rw [if_pos (by constructor <;> simp)]
    simp
  | d :: ds, i, S, acc, hn, h, hl, hs => by
    obtain ⟨y, S1, e1, l1, h1⟩ := hs 0 d S acc rfl hn h
    obtain ⟨S', acc', e2, l2, h2⟩ := cLoop_gen I ds (i + 1) S1 (acc ++ [y]) l1 h1 (by simp only [List.length_append, List.length_cons, List.length_nil] at hl ⊢; omega) fun j d S acc hd hS hI => by
      have := hs (j + 1) d S acc (by simpa using hd) hS (by rw [show i + (j + 1) = i + 1 + j by omega]; exact hI)
      rw [show i + (j + 1) + 1 = i + 1 + j + 1 by omega] at this
      exact this
    refine ⟨S', acc', ?_, l2, by rw [List.length_cons, show i + (ds.length + 1) = i + 1 + ds.length by omega]; exact h2⟩
    unfold cLoop
    rw [e1]
    dsimp only
    have g1 : (S1 ++ [some (Cell.lst acc)])[n]? = some (some (.lst acc)) := by subst l1; simp
    have g2 : (S1 ++ [some (Cell.lst acc)]).set n (some (.lst (acc ++ [y]))) = S1 ++ [some (.lst (acc ++ [y]))] := by
      subst l1
      rw [List.set_append_right _ _ (Nat.le_refl _), Nat.sub_self]; rfl
    rw [if_pos ⟨keeps_nil _, g1, by simp only [List.length_cons] at hl; omega⟩, g2]
    exact e2
theorem comp_gen {g : Sg} {n0 : Nat} {e : CE} {tg : List Nat} {one : Bool} {it : CI} {ρ : Rho} {S S0 : Sto} {ds : List D} (I : Nat → Sto → List D → Prop) (hi : evI g n0 it ρ S = .ok (ds, []) S0) (hl : ds.length ≤ sizeLine) (h0 : I 0 S0 [])
    (hs : ∀ (j : Nat) (d : D) (S : Sto) (acc : List D), ds[j]? = some d → S.length = S0.length → I j S acc → ∃ y S1 ρ', bindT one tg d (wipeR ρ tg) = some ρ' ∧ giveR n0 (evE g n0 e ρ' (S ++ [some (.lst acc)])).w = .ok y (S1 ++ [some (.lst acc)]) ∧ S1.length = S0.length ∧ I (j + 1) S1 (acc ++ [y])) :
    ∃ S' acc, evE g n0 (.comp e tg one it) ρ S = .ok (.fr (.lst acc)) S' ∧ S'.length = S0.length ∧ I ds.length S' acc := by
  obtain ⟨S', acc, e1, l1, h1⟩ := cLoop_gen (f := fun d S => match bindT one tg d (wipeR ρ tg) with
        | some ρ' => (giveR n0 (evE g n0 e ρ' S).w).bind fun y S => .ok (some y) S
        | none => .bad) (n := S0.length) I ds 0 S0 [] rfl h0 (by simpa using hl) fun j d S acc hd hS hI => by
    obtain ⟨y, S1, ρ', b1, b2, b3, b4⟩ := hs j d S acc hd hS (by simpa using hI)
    refine ⟨y, S1, ?_, b3, by simpa using b4⟩
    rw [b1]
    dsimp only
    rw [b2]; rfl
  refine ⟨S', acc, ?_, l1, by simpa using h1⟩
  rw [e_comp, hi, R.bind_ok]
  dsimp only
  have : ∀ r : R (List D), r = .ok acc S' → (match r with | .ok ys S => R.ok (EV.fr (Cell.lst ys)) S | _ => .bad) = .ok (.fr (.lst acc)) S' := fun r h => by rw [h]
  exact this _ e1
theorem compC_pure {g : Sg} {n0 : Nat} {e : CE} {tg : List Nat} {one : Bool} {it : CI} {c : CT} {ρ : Rho} {S : Sto} {ds : List D} {t : Wt} (h : D → D) (b : D → Bool) (hi : evI g n0 it ρ S = .ok (ds, t) S) (hk : Keeps t S) (hl : (ds.filter b).length ≤ sizeLine)
    (hf : ∀ d ∈ ds, ∀ acc : List D, ∃ ρ', bindT one tg d (wipeR ρ tg) = some ρ' ∧ evT g n0 c ρ' (S ++ [some (.lst acc)]) = .ok (b d) (S ++ [some (.lst acc)]) ∧ (b d = true → giveR n0 (evE g n0 e ρ' (S ++ [some (.lst acc)])).w = .ok (h d) (S ++ [some (.lst acc)]))) :
    evE g n0 (.compC e tg one it c) ρ S = .ok (.fr (.lst ((ds.filter b).map h))) S := by
  have hfm : ds.filterMap (fun d => if b d = true then some (h d) else none) = (ds.filter b).map h := by
    clear hi hl hf hk
    induction ds with
    | nil => rfl
    | cons d r ih =>
      cases hb : b d with
      | true => rw [List.filterMap_cons, List.filter_cons, hb, if_pos rfl, if_pos rfl, List.map_cons, ih]
      | false => rw [List.filterMap_cons, List.filter_cons, hb, if_neg Bool.false_ne_true, if_neg Bool.false_ne_true, ih]
  rw [e_compC, hi, R.bind_ok]
  rw [cLoop_pure (g := fun d => if b d = true then some (h d) else none) hk ds [] (fun d hd acc => ?_) (by rw [hfm]; simpa using hl)]
  · show R.ok (EV.fr (.lst ([] ++ ds.filterMap fun d => if b d = true then some (h d) else none))) S = _
    rw [List.nil_append, hfm]
  · obtain ⟨ρ', e1, e2, e3⟩ := hf d hd acc
    rw [e1]
    dsimp only
    rw [e2, R.bind_ok]
    cases hb : b d with
    | true => rw [if_pos rfl, if_pos rfl, e3 hb]; rfl
    | false => rw [if_neg Bool.false_ne_true, if_neg Bool.false_ne_true]
theorem blt_all {bs : List Bool} {S : Sto} : bltW .all [.p (.lst (bs.map D.bl))] S = .ok (.sh (.p (.bl (bs.all id)))) S := by
  have h : boolsD (bs.map D.bl) = some bs := by
    induction bs with
    | nil => rfl
    | cons b r ih => simp only [List.map_cons, boolsD, ih]; rfl
  show rOpt ((boolsD (bs.map D.bl)).map fun bs => EV.sh (.p (.bl (bs.all id)))) S = _
  rw [h]; rfl
theorem blt_any {bs : List Bool} {S : Sto} : bltW .any [.p (.lst (bs.map D.bl))] S = .ok (.sh (.p (.bl (bs.any id)))) S := by
  have h : boolsD (bs.map D.bl) = some bs := by
    induction bs with
    | nil => rfl
    | cons b r ih => simp only [List.map_cons, boolsD, ih]; rfl
  show rOpt ((boolsD (bs.map D.bl)).map fun bs => EV.sh (.p (.bl (bs.any id)))) S = _
  rw [h]; rfl
theorem blt_sum {bs : List Int} {S : Sto} : bltW .sum [.p (.lst (bs.map D.int))] S = .ok (.sh (.p (.int bs.sum))) S := by
  have h : intsD (bs.map D.int) = some bs := by
    induction bs with
    | nil => rfl
    | cons b r ih => simp only [List.map_cons, intsD, ih]; rfl
  show rOpt ((intsD (bs.map D.int)).map fun bs => EV.sh (.p (.int bs.sum))) S = _
  rw [h]; rfl
@[simp] theorem slW_tlo {xs : List D} {i : Int} {S : Sto} : slW (.p (.tup xs)) (some (.p (.int i))) none S = .ok (.sh (.p (.tup (cutD xs (some i) none)))) S := (id rfl)
@[simp] theorem slW_thi {xs : List D} {i : Int} {S : Sto} : slW (.p (.tup xs)) none (some (.p (.int i))) S = .ok (.sh (.p (.tup (cutD xs none (some i))))) S := (id rfl)
@[simp] theorem slW_tb {xs : List D} {i j : Int} {S : Sto} : slW (.p (.tup xs)) (some (.p (.int i))) (some (.p (.int j))) S = .ok (.sh (.p (.tup (cutD xs (some i) (some j))))) S := (id rfl)
@[simp] theorem slW_llo {xs : List D} {i : Int} {S : Sto} : slW (.p (.lst xs)) (some (.p (.int i))) none S = .ok (.fr (.lst (cutD xs (some i) none))) S := (id rfl)
@[simp] theorem slW_lhi {xs : List D} {i : Int} {S : Sto} : slW (.p (.lst xs)) none (some (.p (.int i))) S = .ok (.fr (.lst (cutD xs none (some i)))) S := (id rfl)
@[simp] theorem slW_lb {xs : List D} {i j : Int} {S : Sto} : slW (.p (.lst xs)) (some (.p (.int i))) (some (.p (.int j))) S = .ok (.fr (.lst (cutD xs (some i) (some j)))) S := (id rfl)
theorem cut_lo {xs : List D} {k : Nat} : cutD xs (some (k : Int)) none = xs.drop k := by
  unfold cutD
  rw [HT.sIx_nat, HT.sIx_none]
  rw [List.take_of_length_le (by simp)]
  by_cases h : k ≤ xs.length
  · rw [Nat.min_eq_left h]
  · rw [Nat.min_eq_right (by omega), List.drop_length, List.drop_eq_nil_of_le (by omega)]
theorem cut_hi {xs : List D} {k : Nat} : cutD xs none (some (k : Int)) = xs.take k := by
  unfold cutD
  rw [HT.sIx_nat, HT.sIx_none, List.drop_zero, Nat.sub_zero]
  by_cases h : k ≤ xs.length
  · rw [Nat.min_eq_left h]
  · rw [Nat.min_eq_right (by omega), List.take_length, List.take_of_length_le (by omega)]
end DL
namespace DL
open PySem PySem.Spec
theorem char_inj {a b : Char} (h : a.toNat = b.toNat) : a = b := by
  have : a.val.toNat = b.val.toNat := h
  exact Char.ext (UInt32.toNat_inj.mp this)
@[simp] theorem str_inj {x y : String} : (Str.ofString x = Str.ofString y) = (x = y) := by
  refine propext ⟨fun h => ?_, fun h => by rw [h]⟩
  rw [Str.ofString_eq_toList, Str.ofString_eq_toList] at h
  have h1 : (x.toList.map Char.toNat).toArray = (y.toList.map Char.toNat).toArray := congrArg Str.cps h
  have h2 : x.toList.map Char.toNat = y.toList.map Char.toNat := by simpa using h1
  have h3 : x.toList = y.toList := by
    have inj : ∀ {l m : List Char}, l.map Char.toNat = m.map Char.toNat → l = m := fun {l} => by
      induction l with
      | nil => intro m h; cases m with
        | nil => rfl
        | cons _ _ => cases h
      | cons a r ih => intro m h; cases m with
        | nil => cases h
        | cons b t =>
          simp only [List.map_cons, List.cons.injEq] at h
          rw [char_inj h.1, ih h.2]
    exact inj h2
  exact String.toList_inj.mp h3
@[simp] theorem ok_lit (x : String) : PyData.strOk (Str.ofString x) = true := by
  rw [Str.ofString_eq_toList]
  unfold PyData.strOk
  simp
  intro c _
  have h := c.valid
  have e : c.toNat = c.val.toNat := rfl
  simp only [UInt32.isValidChar, Nat.isValidChar] at h
  omega
end DL

set_option Elab.async false
set_option linter.all false
set_option maxRecDepth 100000
set_option maxHeartbeats 4000000
/-! SP4: what the defs of facts compute. -/
namespace LW
open PySem PySem.Spec PyProof.Rows L2 DL
/-- the great bounds -/
def GR : Int := 1000000000000000000000000000000
def LG : Int := 1000000000000
@[simp] theorem B0C_0 : B0C 0 = .int GR := rfl
@[simp] theorem B0C_1 : B0C 1 = .tup [.str "against", .str "with"] := rfl
@[simp] theorem B0C_2 : B0C 2 = .int LG := rfl
@[simp] theorem size1 {n : Nat} (h : n ≤ 1000) : n ≤ sizeLine := by rw [sizeLine_eq]; omega
@[simp] theorem size2 {n : Nat} (h : n ≤ 1000) : n < sizeLine := by rw [sizeLine_eq]; omega
def withinB (d : D) (lo hi : Int) : Bool := match d with
  | .int i => decide (lo ≤ i) && decide (i ≤ hi)
  | _ => false
@[simp] theorem within_int (i lo hi : Int) : withinB (.int i) lo hi = (decide (lo ≤ i) && decide (i ≤ hi)) := rfl
theorem within_of {d : D} {lo hi : Int} (h : withinB d lo hi = true) : ∃ i, d = .int i ∧ lo ≤ i ∧ i ≤ hi := by
  cases d <;> first | (cases h; done) | skip
  rename_i i
  simp only [within_int, Bool.and_eq_true, decide_eq_true_eq] at h
  exact ⟨i, rfl, h.1, h.2⟩
theorem sp_within {d : D} (hd : d.pl = true) (lo hi : Int) (S : Sto) : fnAt B0 TAB 2 [.p d, .p (.int lo), .p (.int hi)] S = .ok (.sh (.p (.bl (withinB d lo hi)))) S := by
  rw [f_is_within]
  unfold i_is_within
  cases d <;> first | (simp [D.pl] at hd; done) | simp [evDef, isTy, withinB]
  rename_i i
  by_cases h : lo ≤ i <;> simp [h]
theorem sp_many {d : D} (hd : d.pl = true) (S : Sto) : fnAt B0 TAB 3 [.p d] S = .ok (.sh (.p (.bl (withinB d 1 3)))) S := by
  rw [f_is_many_value]
  unfold i_is_many_value
  simp [evDef, sp_within hd]
theorem sp_need_many {d : D} (hd : d.pl = true) (S : Sto) : fnAt B0 TAB 4 [.p d] S = if withinB d 1 3 = true then .ok (.sh (.p .non)) S else .exc ⟨0, []⟩ S := by
  rw [f_need_many]
  unfold i_need_many
  cases h : withinB d 1 3 <;> simp [evDef, sp_many hd, h]
def intD : D → Int
  | .int i => i
  | _ => 0
def isNon : D → Bool
  | .non => true
  | _ => false
/-- an end above that may be left open -/
def lenB (a b : D) : Bool := withinB a 1 GR && (isNon b || withinB b (intD a) GR)
theorem sp_length3 {x a b : D} (ha : a.pl = true) (hb : b.pl = true) (S : Sto) : fnAt B0 TAB 5 [.p (.tup [x, a, b])] S = .ok (.sh (.p (.bl (lenB a b)))) S := by
  rw [f_is_length]
  unfold i_is_length
  cases h : withinB a 1 GR with
  | false => simp [evDef, sp_within ha, h, lenB]
  | true =>
    obtain ⟨i, rfl, h1, h2⟩ := within_of h
    cases b <;> first | (simp [D.pl] at hb; done) | simp [evDef, sp_within ha, sp_within hb, h1, h2, lenB, isNon, intD]
theorem sp_lengthN {xs : List D} (hl : xs.length ≠ 3) (S : Sto) : fnAt B0 TAB 5 [.p (.tup xs)] S = .ok (.sh (.p (.bl false))) S := by
  rw [f_is_length]
  unfold i_is_length
  have : (xs.length : Int) ≠ 3 := by omega
  simp [evDef, this]
theorem sp_walker {d : D} (hd : d.pl = true) (m : Int) (S : Sto) : fnAt B0 TAB 6 [.p (.int m), .p d] S = .ok (.sh (.p (.bl (withinB d 0 (m - 1))))) S := by
  rw [f_is_walker]
  unfold i_is_walker
  simp [evDef, sp_within hd]
def wayB (d : D) : Bool := match d with
  | .str x => decide (x = ("against" : Str)) || decide (x = ("with" : Str))
  | _ => false
theorem fit_str {x : Str} (h : PyData.strOk x = true) : (D.str x).fit := ⟨by simpa [D.pl] using h, by simp [D.dp]⟩
theorem inD_str {x : Str} (h : PyData.strOk x = true) (ys : List Str) (hy : ys.all PyData.strOk = true) : inD (.str x) (ys.map D.str) = some (decide (x ∈ ys)) := by
  have hp : D.plA (ys.map D.str) = true := by
    induction ys with
    | nil => simp [D.plA]
    | cons a r ih =>
      simp only [List.all_cons, Bool.and_eq_true] at hy
      simp [D.plA, D.pl, hy.1, ih hy.2]
  have hd : D.dpA (ys.map D.str) = 0 := by
    clear hp hy
    induction ys with
    | nil => simp [D.dpA]
    | cons a r ih => simp [D.dpA, D.dp, ih]
  rw [inD_fit (fit_str h) ⟨hp, by omega⟩]
  congr 1
  rw [List.any_map]
  by_cases hx : x ∈ ys
  · rw [decide_eq_true hx, List.any_eq_true]
    exact ⟨x, hx, by simp [eqv]⟩
  · rw [decide_eq_false hx, Bool.eq_false_iff]
    intro z
    obtain ⟨y, h1, h2⟩ := List.any_eq_true.mp z
    simp only [Function.comp, eqv, beq_iff_eq] at h2
    exact hx (h2 ▸ h1)
theorem sp_way {d : D} (hd : d.pl = true) (S : Sto) : fnAt B0 TAB 7 [.p d] S = .ok (.sh (.p (.bl (wayB d)))) S := by
  rw [f_is_way]
  unfold i_is_way
  cases d <;> first | (simp [D.pl] at hd; done) | simp [evDef, isTy, wayB]
  rename_i x
  have := inD_str (x := x) (by simpa [D.pl] using hd) ["against", "with"] (by decide +kernel)
  simp only [List.map_cons, List.map_nil] at this
  rw [this]
  simp
theorem sp_numbers {a b : D} (ha : a.pl = true) (hb : b.pl = true) (m : Int) (S : Sto) : fnAt B0 TAB 8 [.p a, .p b, .p (.int m)] S = .ok (.sh (.p (.bl (withinB a 1 m && withinB b (intD a) m)))) S := by
  rw [f_are_numbers]
  unfold i_are_numbers
  cases h : withinB a 1 m with
  | false => simp [evDef, sp_within ha, h]
  | true =>
    obtain ⟨i, rfl, h1, h2⟩ := within_of h
    simp [evDef, sp_within ha, sp_within hb, h1, h2, intD]
def stepsB (m : Int) (w y a b : D) : Bool := withinB w 0 (m - 1) && (wayB y && (withinB a 1 GR && withinB b (intD a) GR))
theorem sp_steps5 {x w y a b : D} (hw : w.pl = true) (hy : y.pl = true) (ha : a.pl = true) (hb : b.pl = true) (m : Int) (S : Sto) : fnAt B0 TAB 9 [.p (.int m), .p (.tup [x, w, y, a, b])] S = .ok (.sh (.p (.bl (stepsB m w y a b)))) S := by
  rw [f_is_steps]
  unfold i_is_steps
  cases h : withinB w 0 (m - 1) <;> cases h2 : wayB y <;> simp [evDef, sp_walker hw, sp_way hy, sp_numbers ha hb, h, h2, stepsB]
theorem sp_stepsN {xs : List D} (hl : xs.length ≠ 5) (m : Int) (S : Sto) : fnAt B0 TAB 9 [.p (.int m), .p (.tup xs)] S = .ok (.sh (.p (.bl false))) S := by
  rw [f_is_steps]
  unfold i_is_steps
  have : (xs.length : Int) ≠ 5 := by omega
  simp [evDef, this]
def itemsB (d : D) (lo hi : Int) : Bool := match d with
  | .tup xs => decide (lo ≤ xs.length) && decide ((xs.length : Int) ≤ hi)
  | _ => false
theorem sp_items {d : D} (hd : d.pl = true) (lo hi : Int) (S : Sto) : fnAt B0 TAB 10 [.p d, .p (.int lo), .p (.int hi)] S = .ok (.sh (.p (.bl (itemsB d lo hi)))) S := by
  rw [f_has_items]
  unfold i_has_items
  cases d <;> first | (simp [D.pl] at hd; done) | simp [evDef, isTy, itemsB]
  rename_i xs
  by_cases h : lo ≤ xs.length <;> simp [h]
end LW

set_option Elab.async false
set_option linter.all false
set_option maxRecDepth 100000
set_option maxHeartbeats 4000000
/-! SP5: fractions and facts. -/
namespace LW
open PySem PySem.Spec PyProof.Rows L2 DL
/-! ### the loop of the greatest common divisor -/
theorem gcd_turn (g : Sg) (n0 : Nat) (S : Sto) : ∀ b a : Nat, ∃ n, wIter (evT g n0 (.v (.cmp .ne (.var 1) (.int 0)))) (evS g n0 (.seq (.tasg [0, 1] (.cons (.var 1) (.cons (.bin .mod (.var 0) (.var 1)) .nil))) .nil)) n [some (.p (.int a)), some (.p (.int b))] S =
    some (.nx [some (.p (.int (Nat.gcd a b : Nat))), some (.p (.int 0))] S) := by
  intro b
  induction b using Nat.strongRecOn with
  | _ b ih =>
    intro a
    by_cases hb : b = 0
    · subst hb
      exact ⟨1, by simp [wIter]⟩
    · obtain ⟨n, hn⟩ := ih (a % b) (Nat.mod_lt _ (Nat.pos_of_ne_zero hb)) b
      refine ⟨n + 1, ?_⟩
      have hb' : (b : Int) ≠ 0 := by omega
      have hb2 : (0 : Int) < b := by omega
      have e : Nat.gcd a b = Nat.gcd b (a % b) := by rw [Nat.gcd_comm, Nat.gcd_rec b a, Nat.gcd_comm]
      rw [e, ← hn]
      simp [wIter, hb', hb, bin_mod hb2, setL]
theorem sp_gcd (a b : Int) (S : Sto) : fnAt B0 TAB 11 [.p (.int a), .p (.int b)] S = .ok (.sh (.p (.int (Int.gcd a b : Nat)))) S := by
  rw [f_gcd]
  unfold i_gcd
  obtain ⟨n, hn⟩ := gcd_turn (gAt B0 TAB 11) S.length S b.natAbs a.natAbs
  simp [evDef, setL, s_whl, wLoop_eq hn, Int.gcd]
/-- fractions as they are handed in -/
def quotB (d : D) : Bool := match d with
  | .tup [a, b] => withinB a 1 LG && (withinB b 1 LG && decide (Int.gcd (intD a) (intD b) = 1))
  | _ => false
theorem pl_tup {xs : List D} (h : (D.tup xs).pl = true) : ∀ x ∈ xs, x.pl = true := by
  have h : D.plA xs = true := by simpa [D.pl] using h
  induction xs with
  | nil => intro x hx; cases hx
  | cons a r ih =>
    simp only [D.plA, Bool.and_eq_true] at h
    intro x hx
    rcases List.mem_cons.mp hx with rfl | hx
    · exact h.1
    · exact ih (by simpa [D.pl] using h.2) h.2 x hx
theorem sp_quot {d : D} (hd : d.pl = true) (S : Sto) : fnAt B0 TAB 12 [.p d] S = .ok (.sh (.p (.bl (quotB d)))) S := by
  rw [f_is_quotient]
  unfold i_is_quotient
  have no : itemsB d 2 2 = false → quotB d = false → (evDef (gAt B0 TAB 12) 1 1 i_is_quotient [.p d] S = .ok (.sh (.p (.bl (quotB d)))) S) := fun h h2 => by
    unfold i_is_quotient
    simp [evDef, sp_items hd, h, h2]
  cases d with
  | tup xs =>
    match xs, hd with
    | [], hd => exact no (by simp [itemsB]) rfl
    | [x], hd => exact no (by simp [itemsB]) rfl
    | x :: y :: z :: r, hd => exact no (by simp [itemsB]; omega) rfl
    | [a, b], hd =>
      have ha := pl_tup hd a (by simp)
      have hb := pl_tup hd b (by simp)
      have hi : itemsB (.tup [a, b]) 2 2 = true := by simp [itemsB]
      cases h1 : withinB a 1 LG with
      | false => simp [evDef, sp_items hd, hi, sp_within ha, h1, quotB]
      | true =>
        cases h2 : withinB b 1 LG with
        | false => simp [evDef, sp_items hd, hi, sp_within ha, sp_within hb, h1, h2, quotB]
        | true =>
          obtain ⟨i, rfl, _, _⟩ := within_of h1
          obtain ⟨j, rfl, _, _⟩ := within_of h2
          have e : ((Int.gcd i j : Nat) : Int) = 1 ↔ Int.gcd i j = 1 := by omega
          simp only [within_int] at h1 h2
          simp [evDef, sp_items hd, hi, sp_within ha, sp_within hb, h1, h2, quotB, sp_gcd, intD, e]
          exact decide_eq_decide.mpr Iff.rfl
  | _ => exact no rfl rfl
theorem quot_of {d : D} (h : quotB d = true) : ∃ a b : Int, d = .tup [.int a, .int b] ∧ 1 ≤ a ∧ a ≤ LG ∧ 1 ≤ b ∧ b ≤ LG ∧ Int.gcd a b = 1 := by
  unfold quotB at h
  split at h
  · rename_i a b
    simp only [Bool.and_eq_true, decide_eq_true_eq] at h
    obtain ⟨h1, h2, h3⟩ := h
    obtain ⟨i, rfl, i1, i2⟩ := within_of h1
    obtain ⟨j, rfl, j1, j2⟩ := within_of h2
    exact ⟨i, j, rfl, i1, i2, j1, j2, h3⟩
  · cases h
/-- numbers of few bits -/
def Bd (i : Int) (k : Nat) : Prop := i.natAbs < 2 ^ k
theorem Bd.log {i : Int} {k : Nat} (h : Bd i k) : i.natAbs.log2 ≤ k := by
  by_cases h0 : i.natAbs = 0
  · rw [h0]; simp
  · exact Nat.le_of_lt ((Nat.log2_lt h0).mpr h)
theorem Bd.mono {i : Int} {k l : Nat} (h : Bd i k) (hl : k ≤ l) : Bd i l := Nat.lt_of_lt_of_le h (Nat.pow_le_pow_right (by decide) hl)
theorem Bd.mul {i j : Int} {k l : Nat} (h : Bd i k) (h2 : Bd j l) : Bd (i * j) (k + l) := by
  unfold Bd
  rw [Int.natAbs_mul, Nat.pow_add]
  exact Nat.mul_lt_mul'' h h2
theorem Bd.neg {i : Int} {k : Nat} (h : Bd i k) : Bd (-i) k := by
  unfold Bd
  rw [Int.natAbs_neg]; exact h
theorem Bd.add {i j : Int} {k : Nat} (h : Bd i k) (h2 : Bd j k) : Bd (i + j) (k + 1) := by
  unfold Bd at *
  rw [Nat.pow_succ]; omega
theorem Bd.sub {i j : Int} {k : Nat} (h : Bd i k) (h2 : Bd j k) : Bd (i - j) (k + 1) := by
  unfold Bd at *
  rw [Nat.pow_succ]; omega
theorem Bd.of {i : Int} {k : Nat} {n : Int} (h1 : -n ≤ i) (h2 : i ≤ n) (h : n.toNat < 2 ^ k) : Bd i k := by
  unfold Bd; omega
theorem mulB {i j : Int} {k l : Nat} (h : Bd i k) (h2 : Bd j l) (hk : k + l < 1000000) (S : Sto) : binW .mul (.p (.int i)) (.p (.int j)) S = .ok (.sh (.p (.int (i * j)))) S :=
  bin_mul (by have := h.log; have := h2.log; omega)
theorem sp_less {a b c d : Int} {k : Nat} (ha : Bd a k) (hb : Bd b k) (hc : Bd c k) (hd : Bd d k) (hk : k < 400000) (S : Sto) : fnAt B0 TAB 13 [.p (.tup [.int a, .int b]), .p (.tup [.int c, .int d])] S = .ok (.sh (.p (.bl (decide (a * d < c * b))))) S := by
  rw [f_is_less]
  unfold i_is_less
  simp [evDef, mulB ha hd (by omega), mulB hc hb (by omega)]
def quotsB (a b : D) : Bool := quotB a && (isNon b || (quotB b && (match a, b with
  | .tup [.int p, .int q], .tup [.int r, .int s] => !decide (r * q < p * s)
  | _, _ => false)))
theorem Bd_LG {i : Int} (h1 : 1 ≤ i) (h2 : i ≤ LG) : Bd i 40 := Bd.of (n := LG) (by unfold LG at *; omega) h2 (by decide)
theorem sp_quots {a b : D} (ha : a.pl = true) (hb : b.pl = true) (S : Sto) : fnAt B0 TAB 14 [.p a, .p b] S = .ok (.sh (.p (.bl (quotsB a b)))) S := by
  rw [f_are_quotients]
  unfold i_are_quotients
  cases h : quotB a with
  | false => simp [evDef, sp_quot ha, h, quotsB]
  | true =>
    cases h2 : quotB b with
    | false => cases b <;> first | (simp [D.pl] at hb; done) | simp [evDef, sp_quot ha, sp_quot hb, h, h2, quotsB, isNon]
    | true =>
      obtain ⟨p, q, rfl, p1, p2, q1, q2, _⟩ := quot_of h
      obtain ⟨r, s, rfl, r1, r2, s1, s2, _⟩ := quot_of h2
      simp [evDef, sp_quot ha, sp_quot hb, h, h2, quotsB, isNon, sp_less (Bd_LG r1 r2) (Bd_LG s1 s2) (Bd_LG p1 p2) (Bd_LG q1 q2) (by decide)]
def twoB (m : Int) (a b : D) : Bool := withinB a 0 (m - 1) && (withinB b 0 (m - 1) && !decide (intD a = intD b))
theorem sp_two {a b : D} (ha : a.pl = true) (hb : b.pl = true) (m : Int) (S : Sto) : fnAt B0 TAB 15 [.p (.int m), .p a, .p b] S = .ok (.sh (.p (.bl (twoB m a b)))) S := by
  rw [f_are_two]
  unfold i_are_two
  cases h : withinB a 0 (m - 1) with
  | false => simp [evDef, sp_walker ha, h, twoB]
  | true =>
    cases h2 : withinB b 0 (m - 1) with
    | false => simp [evDef, sp_walker ha, sp_walker hb, h, h2, twoB]
    | true =>
      obtain ⟨i, rfl, _, _⟩ := within_of h
      obtain ⟨j, rfl, _, _⟩ := within_of h2
      simp only [within_int] at h h2
      simp [evDef, sp_walker ha, sp_walker hb, h, h2, twoB, intD]
      exact decide_eq_decide.mpr Iff.rfl
/-! ### facts -/
def isFactB (m : Int) : D → Bool
  | .tup [.str w, a, b] => decide (w = ("length" : Str)) && lenB a b
  | .tup [.str w, a, b, c] => (decide (w = ("pace" : Str)) && (withinB a 0 (m - 1) && quotsB b c)) || (decide (w = ("back" : Str)) && (withinB a 0 (m - 1) && (withinB b 1 LG && withinB c (intD b + 1) LG)))
  | .tup [.str w, a, b, c, d] => (decide (w = ("steps" : Str)) && stepsB m a b c d) || ((decide (w = ("quick" : Str)) && (twoB m a b && quotsB c d)) || (decide (w = ("meet" : Str)) && (twoB m a b && (withinB c 1 LG && withinB d 1 LG))))
  | _ => false
@[simp] theorem eqD_lit {x y : Str} (hx : PyData.strOk x = true) (hy : PyData.strOk y = true) : eqD (.str x) (.str y) = some (decide (x = y)) := eqD_str hx hy
set_option maxHeartbeats 40000000 in
theorem sp_fact {d : D} (hd : d.pl = true) (m : Int) (S : Sto) : fnAt B0 TAB 16 [.p (.int m), .p d] S = .ok (.sh (.p (.bl (isFactB m d)))) S := by
  rw [f_is_fact_value]
  have no : itemsB d 3 5 = false → isFactB m d = false → (evDef (gAt B0 TAB 16) 2 5 i_is_fact_value [.p (.int m), .p d] S = .ok (.sh (.p (.bl (isFactB m d)))) S) := fun h h2 => by
    unfold i_is_fact_value
    simp [evDef, sp_items hd, h, h2]
  have no2 : ∀ (x : D) (xs : List D), d = .tup (x :: xs) → itemsB d 3 5 = true → (∀ w, x ≠ .str w) → isFactB m d = false → (evDef (gAt B0 TAB 16) 2 5 i_is_fact_value [.p (.int m), .p d] S = .ok (.sh (.p (.bl (isFactB m d)))) S) := fun x xs e h h1 h2 => by
    unfold i_is_fact_value
    subst e
    have hx := pl_tup hd x (by simp)
    cases x <;> first | (simp [D.pl] at hx; done) | (exact absurd rfl (h1 _)) | simp [evDef, sp_items hd, h, h2, isTy]
  cases d with
  | tup xs =>
    match xs, hd with
    | [], hd => exact no (by simp [itemsB]) rfl
    | [x], hd => exact no (by simp [itemsB]) (by cases x <;> rfl)
    | [x, y], hd => exact no (by simp [itemsB]) (by cases x <;> rfl)
    | x :: y :: z :: u :: v :: t :: r, hd => exact no (by simp [itemsB]; omega) (by cases x <;> rfl)
    | [x, a, b], hd =>
      have hi : itemsB (.tup [x, a, b]) 3 5 = true := by simp [itemsB]
      by_cases hs : ∃ w, x = .str w
      · obtain ⟨w, rfl⟩ := hs
        have hw : PyData.strOk w = true := by simpa [D.pl] using pl_tup hd _ (List.mem_cons_self)
        have ha := pl_tup hd a (by simp)
        have hb := pl_tup hd b (by simp)
        unfold i_is_fact_value isFactB
        by_cases e1 : w = ("length" : Str)
        · subst e1
          simp [evDef, sp_items hd, hi, isTy, setL, sp_length3 ha hb]
        · by_cases e2 : w = ("steps" : Str)
          · subst e2
            simp [evDef, sp_items hd, hi, isTy, setL, sp_stepsN, hw, e1]
          · by_cases e3 : w = ("pace" : Str)
            · subst e3
              simp [evDef, sp_items hd, hi, isTy, setL, hw, e1, e2]
            · by_cases e4 : w = ("quick" : Str)
              · subst e4
                simp [evDef, sp_items hd, hi, isTy, setL, hw, e1, e2, e3]
              · by_cases e5 : w = ("meet" : Str)
                · subst e5
                  simp [evDef, sp_items hd, hi, isTy, setL, hw, e1, e2, e3, e4]
                · simp [evDef, sp_items hd, hi, isTy, setL, hw, e1, e2, e3, e4, e5]
      · exact no2 x _ rfl hi (fun w e => hs ⟨w, e⟩) (by cases x <;> first | rfl | exact absurd ⟨_, rfl⟩ hs)
    | [x, a, b, c], hd =>
      have hi : itemsB (.tup [x, a, b, c]) 3 5 = true := by simp [itemsB]
      by_cases hs : ∃ w, x = .str w
      · obtain ⟨w, rfl⟩ := hs
        have hw : PyData.strOk w = true := by simpa [D.pl] using pl_tup hd _ (List.mem_cons_self)
        have ha := pl_tup hd a (by simp)
        have hb := pl_tup hd b (by simp)
        have hc := pl_tup hd c (by simp)
        unfold i_is_fact_value isFactB
        by_cases e1 : w = ("length" : Str)
        · subst e1
          simp [evDef, sp_items hd, hi, isTy, setL, sp_lengthN]
        · by_cases e2 : w = ("steps" : Str)
          · subst e2
            simp [evDef, sp_items hd, hi, isTy, setL, sp_stepsN, hw, e1]
          · by_cases e3 : w = ("pace" : Str)
            · subst e3
              cases hA : withinB a 0 (m - 1) <;> simp [evDef, sp_items hd, hi, isTy, setL, hw, e1, e2, sp_walker ha, hA, sp_quots hb hc]
            · by_cases e4 : w = ("quick" : Str)
              · subst e4
                simp [evDef, sp_items hd, hi, isTy, setL, hw, e1, e2, e3]
              · by_cases e5 : w = ("meet" : Str)
                · subst e5
                  simp [evDef, sp_items hd, hi, isTy, setL, hw, e1, e2, e3, e4]
                · by_cases e6 : w = ("back" : Str)
                  · subst e6
                    cases hA : withinB a 0 (m - 1) with
                    | false => simp [evDef, sp_items hd, hi, isTy, setL, hw, e1, e2, e3, e4, e5, sp_walker ha, hA]
                    | true =>
                      cases hB : withinB b 1 LG with
                      | false => simp [evDef, sp_items hd, hi, isTy, setL, hw, e1, e2, e3, e4, e5, sp_walker ha, hA, sp_within hb, hB]
                      | true =>
                        obtain ⟨i, rfl, i1, i2⟩ := within_of hB
                        simp [evDef, sp_items hd, hi, isTy, setL, hw, e1, e2, e3, e4, e5, sp_walker ha, hA, sp_within hb, sp_within hc, i1, i2, intD]
                  · simp [evDef, sp_items hd, hi, isTy, setL, hw, e1, e2, e3, e4, e5, e6]
      · exact no2 x _ rfl hi (fun w e => hs ⟨w, e⟩) (by cases x <;> first | rfl | exact absurd ⟨_, rfl⟩ hs)
    | [x, a, b, c, e], hd =>
      have hi : itemsB (.tup [x, a, b, c, e]) 3 5 = true := by simp [itemsB]
      by_cases hs : ∃ w, x = .str w
      · obtain ⟨w, rfl⟩ := hs
        have hw : PyData.strOk w = true := by simpa [D.pl] using pl_tup hd _ (List.mem_cons_self)
        have ha := pl_tup hd a (by simp)
        have hb := pl_tup hd b (by simp)
        have hc := pl_tup hd c (by simp)
        have he := pl_tup hd e (by simp)
        unfold i_is_fact_value isFactB
        by_cases e1 : w = ("length" : Str)
        · subst e1
          simp [evDef, sp_items hd, hi, isTy, setL, sp_lengthN]
        · by_cases e2 : w = ("steps" : Str)
          · subst e2
            simp [evDef, sp_items hd, hi, isTy, setL, sp_steps5 ha hb hc he, hw, e1]
          · by_cases e3 : w = ("pace" : Str)
            · subst e3
              simp [evDef, sp_items hd, hi, isTy, setL, hw, e1, e2]
            · by_cases e4 : w = ("quick" : Str)
              · subst e4
                cases hA : twoB m a b <;> simp [evDef, sp_items hd, hi, isTy, setL, hw, e1, e2, e3, sp_two ha hb, hA, sp_quots hc he]
              · by_cases e5 : w = ("meet" : Str)
                · subst e5
                  cases hA : twoB m a b with
                  | false => simp [evDef, sp_items hd, hi, isTy, setL, hw, e1, e2, e3, e4, sp_two ha hb, hA]
                  | true =>
                    have hcm : ∀ ρ : Rho, ρ[1]? = some (some (.p (.tup [.str "meet", a, b, c, e]))) → ρ.length = 5 → evE (gAt B0 TAB 16) S.length (.comp (.call 2 (.cons (.var 4) (.cons (.int 1) (.cons (.cst 2) .nil)))) [4] true (.seq (.slL (.var 1) (.int 3)))) ρ S = .ok (.fr (.lst (([c, e] : List D).map fun d => .bl (withinB d 1 LG)))) S := fun ρ hρ hl => by
                      have hcut : cutD [.str "meet", a, b, c, e] (some 3) none = [c, e] := cut_lo (k := 3)
                      refine comp_pure (ds := [c, e]) (t := []) (fun d => .bl (withinB d 1 LG)) (by simp [hρ, hcut]) (keeps_nil S) (by simp) fun d hd acc => ?_
                      have hp : d.pl = true := by
                        simp only [List.mem_cons, List.not_mem_nil, or_false] at hd
                        rcases hd with rfl | rfl <;> assumption
                      refine ⟨_, rfl, ?_⟩
                      have : ((wipeR ρ [4]).set 4 (some (.p d)))[4]? = some (some (.p d)) := by
                        rw [List.getElem?_set_self]; simp [wipeR, hl]
                      simp [this, sp_within hp]
                    have hal : bltW .all [.p (.lst [.bl (withinB c 1 LG), .bl (withinB e 1 LG)])] S = .ok (.sh (.p (.bl (withinB c 1 LG && withinB e 1 LG)))) S := by
                      have := blt_all (bs := [withinB c 1 LG, withinB e 1 LG]) (S := S)
                      simpa using this
                    simp [evDef, sp_items hd, hi, isTy, setL, hw, e1, e2, e3, e4, sp_two ha hb, hA, hcm, hal]
                · simp [evDef, sp_items hd, hi, isTy, setL, hw, e1, e2, e3, e4, e5]
      · exact no2 x _ rfl hi (fun w e => hs ⟨w, e⟩) (by cases x <;> first | rfl | exact absurd ⟨_, rfl⟩ hs)
  | _ => exact no rfl rfl
end LW

set_option Elab.async false
set_option linter.all false
set_option maxRecDepth 100000
set_option maxHeartbeats 4000000
/-! SP6: rows of facts. -/
namespace LW
open PySem PySem.Spec PyProof.Rows L2 DL
theorem sp_need_fact {d : D} (hd : d.pl = true) (m : Int) (S : Sto) : fnAt B0 TAB 17 [.p (.int m), .p d] S = if isFactB m d = true then .ok (.sh (.p .non)) S else .exc ⟨1, []⟩ S := by
  rw [f_need_fact]
  unfold i_need_fact
  cases h : isFactB m d <;> simp [evDef, sp_fact hd, h]
/-! ### facts, plainly -/
inductive Fct where
  | len (lo : Int) (hi : Option Int)
  | steps (w : Int) (up : Bool) (lo hi : Int)
  | pace (w : Int) (lo : Int × Int) (hi : Option (Int × Int))
  | quick (w o : Int) (lo : Int × Int) (hi : Option (Int × Int))
  | meet (w o a b : Int)
  | back (w a b : Int)
def fr (p : Int × Int) : D := .tup [.int p.1, .int p.2]
def optI : Option Int → D
  | some i => .int i
  | none => .non
def optF : Option (Int × Int) → D
  | some i => fr i
  | none => .non
def wayD (up : Bool) : D := .str (if up then "with" else "against")
def Fct.d : Fct → D
  | .len lo hi => .tup [.str "length", .int lo, optI hi]
  | .steps w up lo hi => .tup [.str "steps", .int w, wayD up, .int lo, .int hi]
  | .pace w lo hi => .tup [.str "pace", .int w, fr lo, optF hi]
  | .quick w o lo hi => .tup [.str "quick", .int w, .int o, fr lo, optF hi]
  | .meet w o a b => .tup [.str "meet", .int w, .int o, .int a, .int b]
  | .back w a b => .tup [.str "back", .int w, .int a, .int b]
/-- a fraction that may be handed in -/
def Fok (p : Int × Int) : Prop := 1 ≤ p.1 ∧ p.1 ≤ LG ∧ 1 ≤ p.2 ∧ p.2 ≤ LG ∧ Int.gcd p.1 p.2 = 1
def Hok (lo : Int × Int) : Option (Int × Int) → Prop
  | some hi => Fok hi ∧ lo.1 * hi.2 ≤ hi.1 * lo.2
  | none => True
def Fct.ok (m : Int) : Fct → Prop
  | .len lo hi => 1 ≤ lo ∧ lo ≤ GR ∧ ∀ h, hi = some h → lo ≤ h ∧ h ≤ GR
  | .steps w _ lo hi => (0 ≤ w ∧ w ≤ m - 1) ∧ 1 ≤ lo ∧ lo ≤ GR ∧ lo ≤ hi ∧ hi ≤ GR
  | .pace w lo hi => (0 ≤ w ∧ w ≤ m - 1) ∧ Fok lo ∧ Hok lo hi
  | .quick w o lo hi => (0 ≤ w ∧ w ≤ m - 1) ∧ (0 ≤ o ∧ o ≤ m - 1) ∧ w ≠ o ∧ Fok lo ∧ Hok lo hi
  | .meet w o a b => (0 ≤ w ∧ w ≤ m - 1) ∧ (0 ≤ o ∧ o ≤ m - 1) ∧ w ≠ o ∧ (1 ≤ a ∧ a ≤ LG) ∧ (1 ≤ b ∧ b ≤ LG)
  | .back w a b => (0 ≤ w ∧ w ≤ m - 1) ∧ (1 ≤ a ∧ a ≤ LG) ∧ (a + 1 ≤ b ∧ b ≤ LG)
@[simp] theorem pl_fr (p : Int × Int) : (fr p).pl = true := by simp [fr, D.pl, D.plA]
@[simp] theorem pl_optI (p : Option Int) : (optI p).pl = true := by cases p <;> simp [optI, D.pl]
@[simp] theorem pl_optF (p : Option (Int × Int)) : (optF p).pl = true := by cases p <;> simp [optF, D.pl]
@[simp] theorem pl_way (b : Bool) : (wayD b).pl = true := by cases b <;> simp [wayD, D.pl]
@[simp] theorem pl_fct (f : Fct) : f.d.pl = true := by cases f <;> simp [Fct.d, D.pl, D.plA]
theorem quotB_fr {p : Int × Int} : quotB (fr p) = true ↔ Fok p := by
  simp [quotB, fr, Fok, intD, and_assoc]
  intro _ _ _ _
  exact decide_eq_true_iff
theorem quotsB_fr {lo : Int × Int} {hi : Option (Int × Int)} : quotsB (fr lo) (optF hi) = true ↔ Fok lo ∧ Hok lo hi := by
  unfold quotsB
  rw [Bool.and_eq_true, quotB_fr]
  refine and_congr_right fun _ => ?_
  cases hi with
  | none => simp [optF, isNon, Hok]
  | some h =>
    simp only [optF, Hok, Bool.or_eq_true, Bool.and_eq_true, quotB_fr]
    simp [fr, isNon]
theorem fact_ok {m : Int} {f : Fct} (h : f.ok m) : isFactB m f.d = true := by
  cases f with
  | len lo hi =>
    obtain ⟨h1, h2, h3⟩ := h
    cases hi with
    | none => simp [Fct.d, isFactB, lenB, optI, isNon, h1, h2]
    | some x => simp [Fct.d, isFactB, lenB, optI, isNon, h1, h2, h3 x rfl, intD]
  | steps w up lo hi =>
    obtain ⟨h1, h2, h3, h4, h5⟩ := h
    cases up <;> simp [Fct.d, isFactB, stepsB, wayD, wayB, h1, h2, h3, h4, h5, intD]
  | pace w lo hi =>
    obtain ⟨h1, h2⟩ := h
    simp [Fct.d, isFactB, h1, quotsB_fr.mpr h2]
  | quick w o lo hi =>
    obtain ⟨h1, h2, h3, h4⟩ := h
    simp [Fct.d, isFactB, h1, h2, h3, twoB, intD, quotsB_fr.mpr h4]
  | meet w o a b =>
    obtain ⟨h1, h2, h3, h4, h5⟩ := h
    simp [Fct.d, isFactB, h1, h2, h3, h4, h5, twoB, intD]
  | back w a b =>
    obtain ⟨h1, h2, h3⟩ := h
    simp [Fct.d, isFactB, h1, h2, h3, intD]
end LW

set_option Elab.async false
set_option linter.all false
set_option maxRecDepth 100000
set_option maxHeartbeats 4000000
namespace LW
open PySem PySem.Spec PyProof.Rows L2 DL
/-! ### rows -/
def zL (r : List Int) : List D := r.map D.int
@[simp] theorem zL_len (r : List Int) : (zL r).length = r.length := by simp [zL]
@[simp] theorem zL_cons (a : Int) (r : List Int) : zL (a :: r) = .int a :: zL r := rfl
@[simp] theorem zL_nil : zL [] = [] := rfl
/-- one share more -/
def share (r : List Int) (p : Int × Int) : List Int := r.set (2 + p.1).toNat (r.getD (2 + p.1).toNat 0 + p.2)
def rowOf (n : Nat) (num len : Int) (ps : List (Int × Int)) : List Int := ps.foldl share (num :: len :: List.replicate n 0)
@[simp] theorem share_len (r : List Int) (p : Int × Int) : (share r p).length = r.length := by simp [share]
theorem atI_zL {r : List Int} {i : Int} (h0 : 0 ≤ i) (h : i < r.length) : atI (zL r) i = some (.int (r.getD i.toNat 0)) ∧ ixN (zL r).length i = some i.toNat := by
  have e : ixN (zL r).length i = some i.toNat := by
    unfold ixN
    rw [if_pos h0, if_pos (by simpa using h)]
  refine ⟨?_, e⟩
  unfold atI
  rw [e]
  show (zL r)[i.toNat]? = _
  have : i.toNat < r.length := by omega
  simp [zL, this, List.getD_eq_getElem?_getD]
theorem set_zL (r : List Int) (k : Nat) (x : Int) : (zL r).set k (.int x) = zL (r.set k x) := by
  unfold zL
  rw [List.map_set]
theorem row_loop (g : Sg) (n0 : Nat) (S : Sto) : ∀ (ps : List (Int × Int)) (r : List Int) (ρ : Rho), ρ[4]? = some (some (.o S.length)) → ρ.length = 7 → (∀ p ∈ ps, 0 ≤ p.1 ∧ 2 + p.1 < r.length) →
    ∃ ρ', fLoop [] (forB g n0 false [5, 6] (.seq (.aug 4 (.bin .add (.int 2) (.var 5)) (.var 6)) .nil)) (ps.map fr) ρ (S ++ [some (.lst (zL r))]) = .nx ρ' (S ++ [some (.lst (zL (ps.foldl share r)))]) ∧ ρ'[4]? = some (some (.o S.length))
  | [], r, ρ, h4, hl, _ => ⟨ρ, fLoop_nil _ _ _ _, h4⟩
  | p :: ps, r, ρ, h4, hl, hp => by
    obtain ⟨p1, p2⟩ := hp p List.mem_cons_self
    obtain ⟨a1, a2⟩ := atI_zL (r := r) (i := 2 + p.1) (by omega) p2
    let ρ1 : Rho := (ρ.set 5 (some (.p (.int p.1)))).set 6 (some (.p (.int p.2)))
    have g4 : ρ1[4]? = some (some (.o S.length)) := by simp [ρ1, h4]
    have g5 : ρ1[5]? = some (some (.p (.int p.1))) := by simp [ρ1, hl]
    have g6 : ρ1[6]? = some (some (.p (.int p.2))) := by simp [ρ1, hl]
    have ho : ∀ (xs : List D), objL ρ1 (S ++ [some (.lst xs)]) 4 = some (S.length, xs) := fun xs => objL_of g4 (by simp)
    have hb : bindT false [5, 6] (fr p) ρ = some ρ1 := by simp [bindT, fr, ρ1]
    obtain ⟨ρ', e1, e2⟩ := row_loop g n0 S ps (share r p) ρ1 g4 (by simp [ρ1, hl]) (fun q hq => by rw [share_len]; exact hp q (List.mem_cons_of_mem _ hq))
    refine ⟨ρ', ?_, e2⟩
    rw [List.map_cons, fLoop_cons (ρ' := ρ1) (S' := S ++ [some (.lst (zL (share r p)))]) _ _ _ _ _ _ ?_ (keeps_nil _)]
    · exact e1
    · rw [forB_some g n0 hb]
      simp only [s_seq, s_aug, ho, e_bin, e_int, e_var, g5, g6, R.w_sh, R.bind_ok, bin_add, R.st_ok, a1, a2, s_nil, SR.bind_nx]
      simp [share, set_zL, List.set_append_right]
theorem rep_one {α : Type} (x : α) : ∀ n : Nat, (List.replicate n [x]).flatten = List.replicate n x
  | 0 => rfl
  | n + 1 => by rw [List.replicate_succ, List.flatten_cons, rep_one x n, List.replicate_succ]; rfl
theorem rep_zL {n : Nat} (hn : n ≤ 1000) (S : Sto) : binW .mul (.p (.lst [.int 0])) (.p (.int (n : Int))) S = .ok (.fr (.lst (zL (List.replicate n 0)))) S := by
  rw [bin_mulL (by omega) (by omega) (size1 (by rw [Int.toNat_natCast, List.length_singleton]; omega)), Int.toNat_natCast, rep_one]
  unfold zL
  rw [List.map_replicate]
theorem sp_row {n : Nat} (hn : n ≤ 100) (num len : Int) (ps : List (Int × Int)) (hp : ∀ p ∈ ps, 0 ≤ p.1 ∧ p.1 < n) (S : Sto) :
    fnAt B0 TAB 18 [.p (.int n), .p (.int num), .p (.int len), .p (.lst (ps.map fr))] S = .ok (.sh (.p (.tup (zL (rowOf n num len ps))))) S := by
  rw [f_row_of]
  unfold i_row_of
  obtain ⟨ρ', e1, e2⟩ := row_loop (gAt B0 TAB 18) S.length S ps (num :: len :: List.replicate n 0) [some (.p (.int n)), some (.p (.int num)), some (.p (.int len)), some (.p (.lst (ps.map fr))), some (.o S.length), none, none] rfl rfl (fun p h => by
    have := hp p h
    simp only [List.length_cons, List.length_replicate]; omega)
  have hc : 2 + n ≤ sizeLine := size1 (by omega)
  have h1 : evS (gAt B0 TAB 18) S.length (.asgO 4 (.bin .add (.lst (.cons (.var 1) (.cons (.var 2) .nil))) (.bin .mul (.lst (.cons (.int 0) .nil)) (.var 0)))) [some (.p (.int n)), some (.p (.int num)), some (.p (.int len)), some (.p (.lst (ps.map fr))), none, none, none] S =
      .nx [some (.p (.int n)), some (.p (.int num)), some (.p (.int len)), some (.p (.lst (ps.map fr))), some (.o S.length), none, none] (S ++ [some (.lst (zL (num :: len :: List.replicate n 0)))]) := by
    simp [rep_zL (n := n) (by omega), hc]
  have h2 : evS (gAt B0 TAB 18) S.length (.ret (.blt .tuple (.cons (.var 4) .nil))) ρ' (S ++ [some (.lst (zL (rowOf n num len ps)))]) = .rt (.sh (.p (.tup (zL (rowOf n num len ps))))) (S ++ [some (.lst (zL (rowOf n num len ps)))]) := by
    simp [e2, blt_tupO (n := S.length) (ds := zL (rowOf n num len ps))]
  rw [run_def (by rfl), s_seq]
  show fin S.length ((evS _ _ _ [some (.p (.int n)), some (.p (.int num)), some (.p (.int len)), some (.p (.lst (ps.map fr))), none, none, none] S).bind _) = _
  rw [h1, SR.bind_nx, s_seq, s_for]
  simp only [i_seq, e_var, R.w_sh, R.bind_ok, List.getElem?_cons_succ, List.getElem?_cons_zero, iterW_l, rOpt_some, R.st_ok]
  rw [e1, SR.bind_nx, s_seq]
  show fin S.length ((evS _ _ _ ρ' (S ++ [some (.lst (zL (rowOf n num len ps)))])).bind _) = _
  rw [h2]
  simp
end LW

set_option Elab.async false
set_option linter.all false
set_option maxRecDepth 100000
set_option maxHeartbeats 4000000
/-! SP8: rows of facts, the defs. -/
namespace DL
@[simp] theorem get_new (S : Sto) (c : Option Cell) : (S ++ [c])[S.length]? = some c := by simp
@[simp] theorem set_new (S : Sto) (c d : Option Cell) : (S ++ [c]).set S.length d = S ++ [d] := by
  rw [List.set_append_right _ _ (Nat.le_refl _), Nat.sub_self]; rfl
@[simp] theorem fin_new_o (S : Sto) (c : Cell) : fin S.length (.rt (.sh (.o S.length)) (S ++ [some c])) = .ok (.fr c) S := by
  rw [fin_o (Nat.le_refl _) (get_new S (some c)), take_app]
end DL
namespace LW
open PySem PySem.Spec PyProof.Rows L2 DL
def tupsD (rs : List (List Int)) : List D := rs.map fun r => .tup (zL r)
def negR (r : List Int) : List Int := r.map fun i => -i
def optL {α β : Type} (o : Option α) (f : α → β) : List β := match o with
  | some a => [f a]
  | none => []
/-- +1 with the stairs, -1 against them -/
def sgn (up : Bool) : Int := if up then 1 else -1
def Fct.rows (n : Nat) : Fct → List (List Int)
  | .len lo hi => rowOf n 1 (-lo) [] :: optL hi fun h => rowOf n (-1) h []
  | .steps w up lo hi => [rowOf n 1 (-lo) [(w, -sgn up * lo)], rowOf n (-1) hi [(w, sgn up * hi)]]
  | .pace w lo hi => rowOf n 0 lo.2 [(w, -lo.1)] :: optL hi fun h => rowOf n 0 (-h.2) [(w, h.1)]
  | .quick w o lo hi => rowOf n 0 0 [(o, lo.2), (w, -lo.1)] :: optL hi fun h => rowOf n 0 0 [(o, -h.2), (w, h.1)]
  | .meet w o a b => [rowOf n (-1) (a + b) [], negR (rowOf n (-1) (a + b) []), rowOf n 0 0 [(o, b), (w, -a)], negR (rowOf n 0 0 [(o, b), (w, -a)]), rowOf n 0 1 [(o, -1)]]
  | .back w a b => [rowOf n 0 (b - a) [(w, -b - a)], negR (rowOf n 0 (b - a) [(w, -b - a)]), rowOf n 1 (-a) [(w, -a)]]
section
variable {n : Nat} (hn : n ≤ 100) (num len : Int) (S : Sto)
include hn
theorem sp_row0 : fnAt B0 TAB 18 [.p (.int n), .p (.int num), .p (.int len), .p (.lst [])] S = .ok (.sh (.p (.tup (zL (rowOf n num len []))))) S :=
  sp_row hn num len [] (fun _ h => by cases h) S
theorem sp_row1 {w s : Int} (hw : 0 ≤ w ∧ w ≤ (n : Int) - 1) : fnAt B0 TAB 18 [.p (.int n), .p (.int num), .p (.int len), .p (.lst [.tup [.int w, .int s]])] S = .ok (.sh (.p (.tup (zL (rowOf n num len [(w, s)]))))) S :=
  sp_row hn num len [(w, s)] (fun p h => by rw [List.mem_singleton.mp h]; exact ⟨hw.1, by show w < _; omega⟩) S
theorem sp_row2 {w s o t : Int} (hw : 0 ≤ w ∧ w ≤ (n : Int) - 1) (ho : 0 ≤ o ∧ o ≤ (n : Int) - 1) : fnAt B0 TAB 18 [.p (.int n), .p (.int num), .p (.int len), .p (.lst [.tup [.int w, .int s], .tup [.int o, .int t]])] S = .ok (.sh (.p (.tup (zL (rowOf n num len [(w, s), (o, t)]))))) S :=
  sp_row hn num len [(w, s), (o, t)] (fun p h => by
    simp only [List.mem_cons, List.not_mem_nil, or_false] at h
    rcases h with rfl | rfl
    · exact ⟨hw.1, by show w < _; omega⟩
    · exact ⟨ho.1, by show o < _; omega⟩) S
end
theorem sp_length_rows {n : Nat} (hn : n ≤ 100) (lo : Int) (hi : Option Int) (S : Sto) : fnAt B0 TAB 19 [.p (.int n), .p (Fct.len lo hi).d] S = .ok (.fr (.lst (tupsD ((Fct.len lo hi).rows n)))) S := by
  rw [f_length_rows]
  unfold i_length_rows
  cases hi <;> simp [run_def, Fct.d, optI, sp_row0 hn, objL, tupsD, Fct.rows, optL]
theorem Bd_GR {i : Int} (h1 : 1 ≤ i) (h2 : i ≤ GR) : Bd i 100 := Bd.of (n := GR) (by unfold GR at *; omega) h2 (by decide)
theorem Bd_sgn (up : Bool) : Bd (sgn up) 2 := by cases up <;> (unfold Bd sgn; decide)
theorem sp_steps_rows {n : Nat} (hn : n ≤ 100) {w : Int} {up : Bool} {lo hi : Int} (h : (Fct.steps w up lo hi).ok n) (S : Sto) : fnAt B0 TAB 20 [.p (.int n), .p (Fct.steps w up lo hi).d] S = .ok (.fr (.lst (tupsD ((Fct.steps w up lo hi).rows n)))) S := by
  obtain ⟨h1, h2, h3, h4, h5⟩ := h
  rw [f_steps_rows]
  unfold i_steps_rows
  have b1 : Bd lo 100 := Bd_GR h2 h3
  have b2 : Bd hi 100 := Bd_GR (by omega) h5
  cases up with
  | true =>
    have m1 := mulB (i := -1) (j := lo) (k := 2) (by unfold Bd; decide) b1 (by decide)
    have m2 := mulB (i := 1) (j := hi) (k := 2) (by unfold Bd; decide) b2 (by decide)
    simp [run_def, Fct.d, wayD, bindT, sp_row1 hn (w := w) _ _ _ h1, tupsD, Fct.rows, m1, m2, sgn, eqD_lit]
  | false =>
    have m1 := mulB (i := 1) (j := lo) (k := 2) (by unfold Bd; decide) b1 (by decide)
    have m2 := mulB (i := -1) (j := hi) (k := 2) (by unfold Bd; decide) b2 (by decide)
    simp [run_def, Fct.d, wayD, bindT, sp_row1 hn (w := w) _ _ _ h1, tupsD, Fct.rows, m1, m2, sgn, eqD_lit]
theorem sp_pace_rows {n : Nat} (hn : n ≤ 100) {w : Int} {lo : Int × Int} {hi : Option (Int × Int)} (h : (Fct.pace w lo hi).ok n) (S : Sto) : fnAt B0 TAB 21 [.p (.int n), .p (Fct.pace w lo hi).d] S = .ok (.fr (.lst (tupsD ((Fct.pace w lo hi).rows n)))) S := by
  obtain ⟨h1, h2, h3⟩ := h
  rw [f_pace_rows]
  unfold i_pace_rows
  cases hi <;> simp [run_def, Fct.d, bindT, optF, fr, sp_row1 hn (w := w) _ _ _ h1, objL, tupsD, Fct.rows, optL]
theorem sp_quick_rows {n : Nat} (hn : n ≤ 100) {w o : Int} {lo : Int × Int} {hi : Option (Int × Int)} (h : (Fct.quick w o lo hi).ok n) (S : Sto) : fnAt B0 TAB 22 [.p (.int n), .p (Fct.quick w o lo hi).d] S = .ok (.fr (.lst (tupsD ((Fct.quick w o lo hi).rows n)))) S := by
  obtain ⟨h1, h2, h3, h4, h5⟩ := h
  rw [f_quick_rows]
  unfold i_quick_rows
  cases hi <;> simp [run_def, Fct.d, bindT, optF, fr, sp_row2 hn (w := o) (o := w) _ _ _ h2 h1, objL, tupsD, Fct.rows, optL]
theorem sp_negative {r : List Int} (hr : r.length ≤ 1000) (S : Sto) : fnAt B0 TAB 23 [.p (.tup (zL r))] S = .ok (.sh (.p (.tup (zL (negR r))))) S := by
  rw [f_negative]
  unfold i_negative
  have hc : evE (gAt B0 TAB 23) S.length (.comp (.neg (.var 1)) [1] true (.seq (.var 0))) [some (.p (.tup (zL r))), none] S = .ok (.fr (.lst ((zL r).map fun d => .int (-(intD d))))) S := by
    refine comp_pure (ds := zL r) (t := []) _ (by simp) (keeps_nil S) (size1 (by simpa using hr)) fun d hd acc => ?_
    obtain ⟨i, _, rfl⟩ := List.mem_map.mp hd
    refine ⟨_, rfl, ?_⟩
    simp [wipeR, intD]
  have e : ((zL r).map fun d => D.int (-(intD d))) = zL (negR r) := by
    unfold zL negR
    rw [List.map_map, List.map_map]; rfl
  rw [e] at hc
  simp [run_def, hc]
@[simp] theorem rowOf_len (n : Nat) (a b : Int) (ps : List (Int × Int)) : (rowOf n a b ps).length = n + 2 := by
  unfold rowOf
  generalize hr : (a :: b :: List.replicate n 0) = r
  have hl : r.length = n + 2 := by rw [← hr]; simp
  clear hr
  induction ps generalizing r with
  | nil => exact hl
  | cons p ps ih => exact ih _ (by rw [share_len]; exact hl)
theorem sp_meet_rows {n : Nat} (hn : n ≤ 100) {w o a b : Int} (h : (Fct.meet w o a b).ok n) (S : Sto) : fnAt B0 TAB 24 [.p (.int n), .p (Fct.meet w o a b).d] S = .ok (.fr (.lst (tupsD ((Fct.meet w o a b).rows n)))) S := by
  obtain ⟨h1, h2, h3, h4, h5⟩ := h
  rw [f_meet_rows]
  unfold i_meet_rows
  have e1 := sp_negative (r := rowOf n (-1) (a + b) []) (by rw [rowOf_len]; omega)
  have e2 := sp_negative (r := rowOf n 0 0 [(o, b), (w, -a)]) (by rw [rowOf_len]; omega)
  simp [run_def, Fct.d, bindT, fr, sp_row0 hn, sp_row1 hn (w := o) _ _ _ h2, sp_row2 hn (w := o) (o := w) _ _ _ h2 h1, e1, e2, tupsD, Fct.rows]
theorem sp_back_rows {n : Nat} (hn : n ≤ 100) {w a b : Int} (h : (Fct.back w a b).ok n) (S : Sto) : fnAt B0 TAB 25 [.p (.int n), .p (Fct.back w a b).d] S = .ok (.fr (.lst (tupsD ((Fct.back w a b).rows n)))) S := by
  obtain ⟨h1, h2, h3⟩ := h
  rw [f_back_rows]
  unfold i_back_rows
  have e1 := sp_negative (r := rowOf n 0 (b - a) [(w, -b - a)]) (by rw [rowOf_len]; omega)
  simp [run_def, Fct.d, bindT, fr, sp_row1 hn (w := w) _ _ _ h1, e1, tupsD, Fct.rows]
theorem sp_rows_of {n : Nat} (hn : n ≤ 100) {f : Fct} (h : f.ok n) (S : Sto) : fnAt B0 TAB 26 [.p (.int n), .p f.d] S = .ok (.fr (.lst (tupsD (f.rows n)))) S := by
  rw [f_rows_of]
  unfold i_rows_of
  have hnd : (["length", "steps", "pace", "quick", "meet", "back"] : List Str).Nodup := by decide +kernel
  cases f with
  | len lo hi =>
    have e := sp_length_rows hn lo hi S
    simp only [Fct.d] at e
    simp [run_def, Fct.d, dispV, conV, hnd, dGet, e]
  | steps w up lo hi =>
    have e := sp_steps_rows hn h S
    simp only [Fct.d] at e
    simp [run_def, Fct.d, dispV, conV, hnd, dGet, e]
  | pace w lo hi =>
    have e := sp_pace_rows hn h S
    simp only [Fct.d] at e
    simp [run_def, Fct.d, dispV, conV, hnd, dGet, e]
  | quick w o lo hi =>
    have e := sp_quick_rows hn h S
    simp only [Fct.d] at e
    simp [run_def, Fct.d, dispV, conV, hnd, dGet, e]
  | meet w o a b =>
    have e := sp_meet_rows hn h S
    simp only [Fct.d] at e
    simp [run_def, Fct.d, dispV, conV, hnd, dGet, e]
  | back w a b =>
    have e := sp_back_rows hn h S
    simp only [Fct.d] at e
    simp [run_def, Fct.d, dispV, conV, hnd, dGet, e]
theorem sp_fact_rows {n : Nat} (h1 : 1 ≤ n) (h3 : n ≤ 3) {f : Fct} (h : f.ok n) (S : Sto) : fnAt B0 TAB 27 [.p (.int n), .p f.d] S = .ok (.fr (.lst (tupsD (f.rows n)))) S := by
  rw [f_fact_rows]
  unfold i_fact_rows
  have hm : withinB (.int n) 1 3 = true := by simp; omega
  simp only [within_int] at hm
  simp [run_def, sp_need_many (d := .int n) (by simp [D.pl]), hm, sp_need_fact, fact_ok h, sp_rows_of (n := n) (by omega) h]
end LW

set_option Elab.async false
set_option linter.all false
set_option maxRecDepth 100000
set_option maxHeartbeats 4000000
/-! SP9: the deck, draws. -/
namespace LW
open PySem PySem.Spec PyProof.Rows L2 DL
def deckD (a b t : Int) : List D := [.int a, .int b, .int t]
/-- a deck at n, drawn from at most T times -/
def Dk (n T : Nat) (S : Sto) : Prop := ∃ a b t : Int, S[n]? = some (some (.lst (deckD a b t))) ∧ 0 ≤ a ∧ 0 ≤ b ∧ b < 2147483648 ∧ 0 ≤ t ∧ t ≤ T
/-- but for n the store is as before -/
def Fr (n : Nat) (S S' : Sto) : Prop := ∃ c, S' = S.set n c
theorem Fr.refl (n : Nat) (S : Sto) : Fr n S S := by
  by_cases h : n < S.length
  · exact ⟨S[n], (List.set_getElem_self h).symm⟩
  · exact ⟨none, (List.set_eq_of_length_le (by omega)).symm⟩
theorem Fr.trans {n : Nat} {S S1 S2 : Sto} (h : Fr n S S1) (k : Fr n S1 S2) : Fr n S S2 := by
  obtain ⟨c, rfl⟩ := h
  obtain ⟨d, rfl⟩ := k
  exact ⟨d, by simp⟩
theorem Fr.len {n : Nat} {S S' : Sto} (h : Fr n S S') : S'.length = S.length := by
  obtain ⟨c, rfl⟩ := h
  simp
theorem Fr.get {n m : Nat} {S S' : Sto} (h : Fr n S S') (k : n ≠ m) : S'[m]? = S[m]? := by
  obtain ⟨c, rfl⟩ := h
  exact List.getElem?_set_ne k
theorem Fr.app {n : Nat} {S S' : Sto} (h : Fr n S S') (hn : n < S.length) (c : Option Cell) : Fr n (S ++ [c]) (S' ++ [c]) := by
  obtain ⟨d, rfl⟩ := h
  exact ⟨d, (List.set_append_left _ _ hn).symm⟩
theorem Fr.of_app {n : Nat} {S S' : Sto} {c : Option Cell} (h : Fr n (S ++ [c]) S') (hn : n < S.length) : ∃ S1, S' = S1 ++ [c] ∧ Fr n S S1 := by
  obtain ⟨d, rfl⟩ := h
  exact ⟨S.set n d, List.set_append_left _ _ hn, d, rfl⟩
theorem Dk.mono {n T T' : Nat} {S : Sto} (h : Dk n T S) (k : T ≤ T') : Dk n T' S := by
  obtain ⟨a, b, t, h1, h2, h3, h4, h5, h6⟩ := h
  exact ⟨a, b, t, h1, h2, h3, h4, h5, by omega⟩
theorem Dk.lt {n T : Nat} {S : Sto} (h : Dk n T S) : n < S.length := by
  obtain ⟨a, b, t, h1, _⟩ := h
  exact (List.getElem?_eq_some_iff.mp h1).1
theorem Dk.app {n T : Nat} {S : Sto} (h : Dk n T S) (c : Option Cell) : Dk n T (S ++ [c]) := by
  have hl := h.lt
  obtain ⟨a, b, t, h1, r⟩ := h
  exact ⟨a, b, t, by rw [List.getElem?_append_left hl]; exact h1, r⟩
theorem Dk.of_app {n T : Nat} {S : Sto} {c : Option Cell} (h : Dk n T (S ++ [c])) (hn : n < S.length) : Dk n T S := by
  obtain ⟨a, b, t, h1, r⟩ := h
  exact ⟨a, b, t, by rw [List.getElem?_append_left hn] at h1; exact h1, r⟩
/-- what a draw gives: at most c draws, the result as P -/
def Gen (n T c : Nat) (S : Sto) (P : D → Prop) (r : R EV) : Prop := ∃ d S', r = .ok (.sh (.p d)) S' ∧ Fr n S S' ∧ Dk n (T + c) S' ∧ P d
theorem sp_deck {c : Int} {t : Int} (S : Sto) : ∃ a b : Int, fnAt B0 TAB 1 [.p (.int c), .p (.int t)] S = .ok (.fr (.lst (deckD a b t))) S ∧ 0 ≤ a ∧ 0 ≤ b ∧ b < 2147483648 := by
  rw [f__law_deck]
  unfold i__law_deck
  have hp : ∀ S : Sto, binW .pow (.p (.int 10)) (.p (.int 18)) S = .ok (.sh (.p (.int 1000000000000000000))) S := fun S => bin_pow (by decide) (by decide) (by decide)
  have hm : ∀ S : Sto, binW .mod (.p (.int c)) (.p (.int 2147483579)) S = .ok (.sh (.p (.int (c % 2147483579)))) S := fun S => bin_mod (by decide)
  have h1 : 0 ≤ c % 2147483579 := Int.emod_nonneg _ (by decide)
  have h2 : c % 2147483579 < 2147483579 := Int.emod_lt_of_pos _ (by decide)
  by_cases h : 1000000000000000000 ≤ c
  · exact ⟨c - 1000000000000000000, c % 2147483579, by simp [run_def, hp, hm, h, deckD], by omega, h1, by omega⟩
  · exact ⟨0, c % 2147483579, by simp [run_def, hp, hm, h, deckD], by omega, h1, by omega⟩
theorem sp_pick {n T : Nat} {S : Sto} (h : Dk n T S) (hT : T ≤ 68719476736) {k : Int} (hk : 0 < k) (hk2 : k ≤ 1000000000000000) :
    ∃ r S', fnAt B0 TAB 28 [.o n, .p (.int k)] S = .ok (.sh (.p (.int r))) S' ∧ Fr n S S' ∧ Dk n (T + 1) S' ∧ 0 ≤ r ∧ r < k := by
  have hl := h.lt
  obtain ⟨a, b, t, e, h1, h2, h3, h4, h5⟩ := h
  rw [f__law_pick]
  unfold i__law_pick
  have hg : ∀ d : Option Cell, (S.set n d)[n]? = some d := fun d => List.getElem?_set_self hl
  have hkb : k.natAbs.log2 < 9000 := Nat.lt_of_le_of_lt (Bd.log (Bd.of (n := 1000000000000000) (k := 60) (by omega) hk2 (by decide))) (by decide)
  by_cases ha : 1 < a
  · have e2 : 0 ≤ a / k := Int.ediv_nonneg h1 (by omega)
    have i0 : ixN (deckD a b t).length 0 = some 0 := rfl
    refine ⟨a % k, S.set n (some (.lst (deckD (a / k) b t))), ?_, ⟨_, rfl⟩, ⟨a / k, b, t, hg _, e2, h2, h3, h4, by omega⟩, Int.emod_nonneg _ (by omega), Int.emod_lt_of_pos _ hk⟩
    simp [run_def, den_o e, deckD, ha, bin_mod hk, bin_fdiv hk hkb, objL, e, ixN]
  · have b1 : (b + 15485867 * (t + 1)).natAbs < 2 ^ 64 := by omega
    let x := (b + 15485867 * (t + 1)) ^ 5 % 2147483647
    have x1 : 0 ≤ x := Int.emod_nonneg _ (by decide)
    have x2 : x < 2147483647 := Int.emod_lt_of_pos _ (by decide)
    have b2 : (x + 7919 * (t + 1)).natAbs < 2 ^ 64 := by omega
    let y := (x + 7919 * (t + 1)) ^ 3 % 2147483629 / 32
    have hsz : ∀ i : Int, 0 ≤ i → i ≤ 68719476738 → Bd i 60 := fun i u v => Bd.of (n := 68719476738) (by omega) v (by decide)
    refine ⟨y % k, S.set n (some (.lst (deckD a b (t + 1)))), ?_, ⟨_, rfl⟩, ⟨a, b, t + 1, hg _, h1, h2, h3, by omega, by omega⟩, Int.emod_nonneg _ (by omega), Int.emod_lt_of_pos _ hk⟩
    have den2 := den_o (hg (some (.lst (deckD a b (t + 1)))))
    have m1 : ∀ S, binW .mul (.p (.int 15485867)) (.p (.int (t + 1))) S = .ok (.sh (.p (.int (15485867 * (t + 1))))) S := fun S => mulB (k := 30) (l := 60) (by unfold Bd; decide) (hsz _ (by omega) (by omega)) (by decide) S
    have m2 : ∀ S, binW .mul (.p (.int 7919)) (.p (.int (t + 1))) S = .ok (.sh (.p (.int (7919 * (t + 1))))) S := fun S => mulB (k := 30) (l := 60) (by unfold Bd; decide) (hsz _ (by omega) (by omega)) (by decide) S
    have p1 : ∀ S, binW .pow (.p (.int (b + 15485867 * (t + 1)))) (.p (.int 5)) S = .ok (.sh (.p (.int ((b + 15485867 * (t + 1)) ^ 5)))) S := fun S => bin_pow (by decide) (by decide) b1
    have p2 : ∀ S, binW .pow (.p (.int (x + 7919 * (t + 1)))) (.p (.int 3)) S = .ok (.sh (.p (.int ((x + 7919 * (t + 1)) ^ 3)))) S := fun S => bin_pow (by decide) (by decide) b2
    have q1 : ∀ (i : Int) S, binW .mod (.p (.int i)) (.p (.int 2147483647)) S = .ok (.sh (.p (.int (i % 2147483647)))) S := fun i S => bin_mod (by decide)
    have q2 : ∀ (i : Int) S, binW .mod (.p (.int i)) (.p (.int 2147483629)) S = .ok (.sh (.p (.int (i % 2147483629)))) S := fun i S => bin_mod (by decide)
    have q3 : ∀ (i : Int) S, binW .fdiv (.p (.int i)) (.p (.int 32)) S = .ok (.sh (.p (.int (i / 32)))) S := fun i S => bin_fdiv (by decide) (by decide)
    have q4 : ∀ (i : Int) S, binW .mod (.p (.int i)) (.p (.int k)) S = .ok (.sh (.p (.int (i % k)))) S := fun i S => bin_mod hk
    have ha' : ¬ 1 < a := ha
    simp only [deckD] at e den2
    simp [run_def, den_o e, deckD, ha', objL, e, ixN, den2, m1, p1, q1]
    have p2' := fun S => p2 S
    simp only [x] at m2 p2'
    simp [m2, p2', q2, q3, q4, x, y]
end LW

set_option Elab.async false
set_option linter.all false
set_option maxRecDepth 100000
set_option maxHeartbeats 4000000
/-! SP10: the law's fractions. -/
namespace LW
open PySem PySem.Spec PyProof.Rows L2 DL
theorem low_turn (g : Sg) (n0 : Nat) (S : Sto) (t c : D) (s : W) : ∀ b a : Nat, ∃ n, wIter (evT g n0 (.v (.cmp .ne (.var 3) (.int 0)))) (evS g n0 (.seq (.tasg [2, 3] (.cons (.var 3) (.cons (.bin .mod (.var 2) (.var 3)) .nil))) .nil)) n [some (.p t), some (.p c), some (.p (.int a)), some (.p (.int b)), some s] S =
    some (.nx [some (.p t), some (.p c), some (.p (.int (Nat.gcd a b : Nat))), some (.p (.int 0)), some s] S) := by
  intro b
  induction b using Nat.strongRecOn with
  | _ b ih =>
    intro a
    by_cases hb : b = 0
    · subst hb
      exact ⟨1, by simp [wIter]⟩
    · obtain ⟨n, hn⟩ := ih (a % b) (Nat.mod_lt _ (Nat.pos_of_ne_zero hb)) b
      refine ⟨n + 1, ?_⟩
      have hb' : (b : Int) ≠ 0 := by omega
      have hb2 : (0 : Int) < b := by omega
      have e : Nat.gcd a b = Nat.gcd b (a % b) := by rw [Nat.gcd_comm, Nat.gcd_rec b a, Nat.gcd_comm]
      rw [e, ← hn]
      simp [wIter, hb', hb, bin_mod hb2, setL]
def lowI (t b : Int) : Int × Int := if 0 < b then (t / (Int.gcd t b : Nat), b / (Int.gcd t b : Nat)) else (-t / (Int.gcd t b : Nat), -b / (Int.gcd t b : Nat))
theorem gcd_pos {t b : Int} (h : b ≠ 0) : 0 < (Int.gcd t b : Int) := by
  have := Int.gcd_pos_of_ne_zero_right t h
  omega
theorem gcd_le {t b : Int} (h : b ≠ 0) : Int.gcd t b ≤ b.natAbs := Nat.le_of_dvd (by omega) (Nat.gcd_dvd_right _ _)
theorem sp_low {t b : Int} {k : Nat} (hb : b ≠ 0) (ht : Bd t k) (hb2 : Bd b k) (hk : k < 9000) (S : Sto) : fnAt B0 TAB 33 [.p (.int t), .p (.int b)] S = .ok (.sh (.p (fr (lowI t b)))) S := by
  rw [f__law_low]
  unfold i__law_low
  have hg := gcd_pos (t := t) hb
  have hgb : (Int.gcd t b : Int).natAbs.log2 < 9000 := by
    have : Bd (Int.gcd t b : Int) k := by
      unfold Bd at *
      have := gcd_le (t := t) hb
      omega
    exact Nat.lt_of_le_of_lt this.log hk
  have fd : ∀ (i : Int) S, binW .fdiv (.p (.int i)) (.p (.int (Int.gcd t b : Int))) S = .ok (.sh (.p (.int (i / (Int.gcd t b : Int))))) S := fun i S => bin_fdiv hg hgb
  have m1 : ∀ i : Int, Bd i k → ∀ S, binW .mul (.p (.int 1)) (.p (.int i)) S = .ok (.sh (.p (.int (1 * i)))) S := fun i h S => mulB (k := 2) (by unfold Bd; decide) h (by omega) S
  have m2 : ∀ i : Int, Bd i k → ∀ S, binW .mul (.p (.int (-1))) (.p (.int i)) S = .ok (.sh (.p (.int (-1 * i)))) S := fun i h S => mulB (k := 2) (by unfold Bd; decide) h (by omega) S
  by_cases h : 0 < b
  · obtain ⟨n, hn⟩ := low_turn (gAt B0 TAB 33) S.length S (.int t) (.int b) (.p (.int 1)) b.natAbs t.natAbs
    have hw := wLoop_eq hn
    simp only [← Int.gcd.eq_1] at hw
    simp [run_def, setL, s_whl, h, hw, m1 t ht, m1 b hb2, fd, lowI, fr]
  · obtain ⟨n, hn⟩ := low_turn (gAt B0 TAB 33) S.length S (.int t) (.int b) (.p (.int (-1))) b.natAbs t.natAbs
    have hw := wLoop_eq hn
    simp only [← Int.gcd.eq_1] at hw
    simp [run_def, setL, s_whl, h, hw, m2 t ht, m2 b hb2, fd, lowI, fr]
/-- fractions above 0 with numbers to B -/
def Pos (B : Int) (p : Int × Int) : Prop := 1 ≤ p.1 ∧ p.1 ≤ B ∧ 1 ≤ p.2 ∧ p.2 ≤ B ∧ Int.gcd p.1 p.2 = 1
theorem Pos.mono {B C : Int} {p : Int × Int} (h : Pos B p) (k : B ≤ C) : Pos C p := ⟨h.1, by have := h.2.1; omega, h.2.2.1, by have := h.2.2.2.1; omega, h.2.2.2.2⟩
theorem lowI_eq {t b : Int} (hb : 0 < b) : ∃ g : Int, 0 < g ∧ t = g * (lowI t b).1 ∧ b = g * (lowI t b).2 := by
  refine ⟨(Int.gcd t b : Nat), gcd_pos (by omega), ?_, ?_⟩
  · unfold lowI
    rw [if_pos hb]
    exact (Int.mul_ediv_cancel' (Int.gcd_dvd_left t b)).symm
  · unfold lowI
    rw [if_pos hb]
    exact (Int.mul_ediv_cancel' (Int.gcd_dvd_right t b)).symm
theorem lowI_gcd {t b : Int} (hb : 0 < b) : Int.gcd (lowI t b).1 (lowI t b).2 = 1 := by
  unfold lowI
  rw [if_pos hb]
  have hg : 0 < Int.gcd t b := Int.gcd_pos_of_ne_zero_right t (by omega)
  have h := Int.gcd_ediv (Int.gcd_dvd_left t b) (Int.gcd_dvd_right t b)
  rw [h]
  simp
  exact Nat.div_self hg
theorem lowI_den {t b : Int} (hb : 0 < b) : 1 ≤ (lowI t b).2 ∧ (lowI t b).2 ≤ b := by
  obtain ⟨g, g0, h1, h2⟩ := lowI_eq (t := t) hb
  have hp : 0 < (lowI t b).2 := by
    rcases Int.lt_trichotomy 0 (lowI t b).2 with h | h | h
    · exact h
    · rw [← h, Int.mul_zero] at h2; omega
    · have := Int.mul_neg_of_pos_of_neg g0 h; omega
  refine ⟨hp, ?_⟩
  have : 1 * (lowI t b).2 ≤ g * (lowI t b).2 := Int.mul_le_mul_of_nonneg_right g0 (by omega)
  omega
theorem lowI_pos {t b B : Int} (ht : 0 < t) (ht2 : t ≤ B) (hb : 0 < b) (hb2 : b ≤ B) : Pos B (lowI t b) := by
  obtain ⟨g, g0, h1, h2⟩ := lowI_eq (t := t) hb
  obtain ⟨d1, d2⟩ := lowI_den (t := t) hb
  have hp : 0 < (lowI t b).1 := by
    rcases Int.lt_trichotomy 0 (lowI t b).1 with h | h | h
    · exact h
    · rw [← h, Int.mul_zero] at h1; omega
    · have := Int.mul_neg_of_pos_of_neg g0 h; omega
  have : 1 * (lowI t b).1 ≤ g * (lowI t b).1 := Int.mul_le_mul_of_nonneg_right g0 (by omega)
  exact ⟨hp, by omega, d1, by omega, lowI_gcd hb⟩
/-- the sign -/
theorem lowI_sign {t b : Int} (hb : 0 < b) : 0 < (lowI t b).1 ↔ 0 < t := by
  obtain ⟨g, g0, h1, h2⟩ := lowI_eq (t := t) hb
  constructor
  · intro h
    rw [h1]; exact Int.mul_pos g0 h
  · intro h
    rcases Int.lt_trichotomy 0 (lowI t b).1 with h3 | h3 | h3
    · exact h3
    · rw [← h3, Int.mul_zero] at h1; omega
    · have := Int.mul_neg_of_pos_of_neg g0 h3; omega
theorem lowI_abs {t b : Int} (hb : 0 < b) : (lowI t b).1.natAbs ≤ t.natAbs := by
  obtain ⟨g, g0, h1, h2⟩ := lowI_eq (t := t) hb
  have e : t.natAbs = g.natAbs * (lowI t b).1.natAbs := by
    have := congrArg Int.natAbs h1
    rw [Int.natAbs_mul] at this
    exact this
  rw [e]
  exact Nat.le_mul_of_pos_left _ (by omega)
theorem lowI_cross {t b : Int} (hb : 0 < b) : (lowI t b).1 * b = t * (lowI t b).2 := by
  obtain ⟨g, g0, h1, h2⟩ := lowI_eq (t := t) hb
  generalize lowI t b = p at *
  rw [h1, h2, ← Int.mul_assoc, Int.mul_comm p.1 g]
def addI (p q : Int × Int) : Int × Int := lowI (p.1 * q.2 + q.1 * p.2) (p.2 * q.2)
def mulI (p q : Int × Int) : Int × Int := lowI (p.1 * q.1) (p.2 * q.2)
def overI (p q : Int × Int) : Int × Int := lowI (p.1 * q.2) (p.2 * q.1)
/-- fractions with few bits -/
def Fb (k : Nat) (p : Int × Int) : Prop := Bd p.1 k ∧ Bd p.2 k ∧ 0 < p.2
theorem sp_add {p q : Int × Int} {k : Nat} (hp : Fb k p) (hq : Fb k q) (hk : k < 4000) (S : Sto) : fnAt B0 TAB 34 [.p (fr p), .p (fr q)] S = .ok (.sh (.p (fr (addI p q)))) S := by
  rw [f__law_add]
  unfold i__law_add
  obtain ⟨p1, p2, p3⟩ := hp
  obtain ⟨q1, q2, q3⟩ := hq
  have h := sp_low (t := p.1 * q.2 + q.1 * p.2) (b := p.2 * q.2) (k := k + k + 1) (by have := Int.mul_pos p3 q3; omega) ((p1.mul q2).add (q1.mul p2)) ((p2.mul q2).mono (by omega)) (by omega)
  simp [run_def, fr, mulB p1 q2 (by omega), mulB q1 p2 (by omega), mulB p2 q2 (by omega), h, addI]
theorem sp_mul {p q : Int × Int} {k : Nat} (hp : Fb k p) (hq : Fb k q) (hk : k < 4000) (S : Sto) : fnAt B0 TAB 36 [.p (fr p), .p (fr q)] S = .ok (.sh (.p (fr (mulI p q)))) S := by
  rw [f__law_mul]
  unfold i__law_mul
  obtain ⟨p1, p2, p3⟩ := hp
  obtain ⟨q1, q2, q3⟩ := hq
  have h := sp_low (t := p.1 * q.1) (b := p.2 * q.2) (k := k + k + 1) (by have := Int.mul_pos p3 q3; omega) ((p1.mul q1).mono (by omega)) ((p2.mul q2).mono (by omega)) (by omega)
  simp [run_def, fr, mulB p1 q1 (by omega), mulB p2 q2 (by omega), h, mulI]
theorem sp_over {p q : Int × Int} {k : Nat} (hp : Fb k p) (hq : Fb k q) (h0 : q.1 ≠ 0) (hk : k < 4000) (S : Sto) : fnAt B0 TAB 35 [.p (fr p), .p (fr q)] S = .ok (.sh (.p (fr (overI p q)))) S := by
  rw [f__law_over]
  unfold i__law_over
  obtain ⟨p1, p2, p3⟩ := hp
  obtain ⟨q1, q2, q3⟩ := hq
  have h := sp_low (t := p.1 * q.2) (b := p.2 * q.1) (k := k + k + 1) (Int.mul_ne_zero (by omega) h0) ((p1.mul q2).mono (by omega)) ((p2.mul q1).mono (by omega)) (by omega)
  simp [run_def, fr, mulB p1 q2 (by omega), mulB p2 q1 (by omega), h, overI]
theorem sp_floor {p : Int × Int} {k : Nat} (hp : Fb k p) (hk : k < 9000) (S : Sto) : fnAt B0 TAB 29 [.p (fr p)] S = .ok (.sh (.p (.int (p.1 / p.2)))) S := by
  rw [f__law_floor]
  unfold i__law_floor
  obtain ⟨p1, p2, p3⟩ := hp
  have fd : ∀ S, binW .fdiv (.p (.int p.1)) (.p (.int p.2)) S = .ok (.sh (.p (.int (p.1 / p.2)))) S := fun S => bin_fdiv p3 (Nat.lt_of_le_of_lt p2.log hk)
  simp [run_def, fr, fd]
theorem sp_ceil {p : Int × Int} {k : Nat} (hp : Fb k p) (hk : k < 9000) (S : Sto) : fnAt B0 TAB 31 [.p (fr p)] S = .ok (.sh (.p (.int (-(-p.1 / p.2))))) S := by
  rw [f__law_ceiling]
  unfold i__law_ceiling
  obtain ⟨p1, p2, p3⟩ := hp
  have fd : ∀ S, binW .fdiv (.p (.int (-p.1))) (.p (.int p.2)) S = .ok (.sh (.p (.int (-p.1 / p.2)))) S := fun S => bin_fdiv p3 (Nat.lt_of_le_of_lt p2.log hk)
  simp [run_def, fr, fd]
theorem sp_one {n T : Nat} {S : Sto} (h : Dk n T S) (hT : T ≤ 68719476736) {xs : List D} (hx : xs ≠ []) (hl : xs.length ≤ 1000) :
    ∃ d S', fnAt B0 TAB 30 [.o n, .p (.lst xs)] S = .ok (.sh (.p d)) S' ∧ Fr n S S' ∧ Dk n (T + 1) S' ∧ d ∈ xs := by
  have hx' : 0 < xs.length := List.length_pos_iff.mpr hx
  obtain ⟨r, S', e1, e2, e3, e4, e5⟩ := sp_pick h hT (k := xs.length) (by omega) (by omega)
  have hr : r.toNat < xs.length := by omega
  refine ⟨xs[r.toNat], S', ?_, e2, e3, List.getElem_mem hr⟩
  rw [f__law_one]
  unfold i__law_one
  have ha : atI xs r = some xs[r.toNat] := by
    unfold atI ixN
    rw [if_pos e4, if_pos e5]
    simp [hr]
  have tk : S'.take S.length = S' := by rw [← e2.len]; simp
  simp [run_def, e1, ha, tk]
end LW

set_option Elab.async false
set_option linter.all false
set_option maxRecDepth 100000
set_option maxHeartbeats 4000000
/-! SP11: drawn cases and facts. -/
namespace LW
open PySem PySem.Spec PyProof.Rows L2 DL
/-- most draws -/
def TM : Nat := 68719476736
theorem Pos.fb {B : Int} {p : Int × Int} (h : Pos B p) {k : Nat} (hB : B.toNat < 2 ^ k) : Fb k p := ⟨Bd.of (n := B) (by have := h.1; have := h.2.1; omega) h.2.1 hB, Bd.of (n := B) (by have := h.2.2.1; have := h.2.2.2.1; omega) h.2.2.2.1 hB, by have := h.2.2.1; omega⟩
theorem Pos.fb60 {B : Int} {p : Int × Int} (h : Pos B p) (hB : B ≤ 1000000000000000) : Fb 60 p := (h.mono hB).fb (by decide)
theorem tk {n : Nat} {S S' : Sto} (h : Fr n S S') : S'.take S.length = S' := by rw [← h.len]; simp
theorem sp_part {n T : Nat} {S : Sto} (h : Dk n T S) (hT : T + 2 ≤ TM) {k : Int} (hk : 0 < k) (hk2 : k ≤ 1000) :
    ∃ p S', fnAt B0 TAB 40 [.o n, .p (.int k)] S = .ok (.sh (.p (fr p))) S' ∧ Fr n S S' ∧ Dk n (T + 2) S' ∧ Pos (max k 4) p := by
  obtain ⟨r, S1, e1, f1, d1, r1, r2⟩ := sp_pick h (by unfold TM at hT; omega) hk (by omega)
  obtain ⟨s, S2, e2, f2, d2, s1, s2⟩ := sp_pick d1 (by unfold TM at hT; omega) (k := 4) (by decide) (by decide)
  have hl := sp_low (t := 1 + r) (b := 1 + s) (k := 60) (by omega) (Bd.of (n := 1000) (by omega) (by omega) (by decide)) (Bd.of (n := 1000) (by omega) (by omega) (by decide)) (by decide) S2
  refine ⟨lowI (1 + r) (1 + s), S2, ?_, f1.trans f2, d2, lowI_pos (by omega) (by omega) (by omega) (by omega)⟩
  rw [f__law_part]
  unfold i__law_part
  simp [run_def, e1, e2, hl, tk (f1.trans f2)]
/-- ranges around a number -/
theorem sp_range {n T : Nat} {S : Sto} (h : Dk n T S) (hT : T + 2 ≤ TM) {p : Int × Int} {B : Int} (hp : Pos B p) (hB : B ≤ 1000000000) :
    ∃ lo hi S', fnAt B0 TAB 32 [.o n, .p (fr p)] S = .ok (.sh (.p (.tup [.int lo, .int hi]))) S' ∧ Fr n S S' ∧ Dk n (T + 2) S' ∧ 1 ≤ lo ∧ lo ≤ hi ∧ hi ≤ B + 8 := by
  have hb := hp.fb60 (by omega)
  obtain ⟨a, S1, e1, f1, d1, m1⟩ := sp_one h (by unfold TM at hT; omega) (xs := [.int 0, .int 0, .int 1, .int 5]) (by simp) (by simp)
  obtain ⟨b, S2, e2, f2, d2, m2⟩ := sp_one d1 (by unfold TM at hT; omega) (xs := [.int 0, .int 0, .int 1, .int 7]) (by simp) (by simp)
  have a1 : ∃ i : Int, a = .int i ∧ 0 ≤ i ∧ i ≤ 5 := by
    simp only [List.mem_cons, List.not_mem_nil, or_false] at m1
    rcases m1 with rfl | rfl | rfl | rfl <;> exact ⟨_, rfl, by decide, by decide⟩
  have b1 : ∃ i : Int, b = .int i ∧ 0 ≤ i ∧ i ≤ 7 := by
    simp only [List.mem_cons, List.not_mem_nil, or_false] at m2
    rcases m2 with rfl | rfl | rfl | rfl <;> exact ⟨_, rfl, by decide, by decide⟩
  obtain ⟨i, rfl, i1, i2⟩ := a1
  obtain ⟨j, rfl, j1, j2⟩ := b1
  obtain ⟨p1, p2, p3, p4, _⟩ := hp
  have q1 : p.1 / p.2 ≤ B := by
    have := Int.ediv_le_self p.2 (show 0 ≤ p.1 by omega); omega
  have q2 : -(-p.1 / p.2) ≤ B := by
    have : -p.1 ≤ -p.1 / p.2 := by
      rw [Int.le_ediv_iff_mul_le (by omega)]
      have : p.1 * 1 ≤ p.1 * p.2 := Int.mul_le_mul_of_nonneg_left p3 (by omega)
      rw [Int.neg_mul]; omega
    omega
  refine ⟨max 1 (p.1 / p.2 - i), max (max 1 (p.1 / p.2 - i)) (-(-p.1 / p.2) + j), S2, ?_, f1.trans f2, d2, by omega, by omega, by omega⟩
  rw [f__law_range]
  unfold i__law_range
  simp [run_def, sp_floor hb, sp_ceil hb, e1, e2, tk (f1.trans f2)]
/-- bounds of a pace -/
theorem sp_about {n T : Nat} {S : Sto} (h : Dk n T S) (hT : T + 2 ≤ TM) {p : Int × Int} {B : Int} (hp : Pos B p) (hB : B ≤ 1000000000) :
    ∃ lo hi S', fnAt B0 TAB 38 [.o n, .p (fr p)] S = .ok (.sh (.p (.tup [fr lo, optF hi]))) S' ∧ Fr n S S' ∧ Dk n (T + 2) S' ∧ Pos (3 * B) lo ∧ (∀ x, hi = some x → Pos (3 * B) x ∧ lo.1 * x.2 ≤ x.1 * lo.2) := by
  have hb := hp.fb60 (by omega)
  obtain ⟨p1, p2, p3, p4, p5⟩ := hp
  obtain ⟨b1, b2, b3⟩ := hb
  have two : Bd 2 10 := by unfold Bd; decide
  have three : Bd 3 10 := by unfold Bd; decide
  have l1 := fun S => sp_low (t := p.1) (b := p.2 * 2) (k := 70) (by omega) (b1.mono (by decide)) (b2.mul two) (by decide) S
  have l2 := fun S => sp_low (t := p.1 * 2) (b := p.2 * 3) (k := 70) (by omega) (b1.mul two) (b2.mul three) (by decide) S
  have l3 := fun S => sp_low (t := p.1 * 3) (b := p.2 * 2) (k := 70) (by omega) (b1.mul three) (b2.mul two) (by decide) S
  obtain ⟨a, S1, e1, f1, d1, m1⟩ := sp_one h (by unfold TM at hT; omega) (xs := [fr p, fr (lowI p.1 (p.2 * 2)), fr (lowI (p.1 * 2) (p.2 * 3))]) (by simp) (by simp)
  obtain ⟨b, S2, e2, f2, d2, m2⟩ := sp_one d1 (by unfold TM at hT; omega) (xs := [fr p, .non, fr (lowI (p.1 * 3) (p.2 * 2)), fr p]) (by simp) (by simp)
  have P0 : Pos (3 * B) p := ⟨p1, by omega, p3, by omega, p5⟩
  have P1 : Pos (3 * B) (lowI p.1 (p.2 * 2)) := lowI_pos (by omega) (by omega) (by omega) (by omega)
  have P2 : Pos (3 * B) (lowI (p.1 * 2) (p.2 * 3)) := lowI_pos (by omega) (by omega) (by omega) (by omega)
  have P3 : Pos (3 * B) (lowI (p.1 * 3) (p.2 * 2)) := lowI_pos (by omega) (by omega) (by omega) (by omega)
  have c1 := lowI_cross (t := p.1) (b := p.2 * 2) (by omega)
  have c2 := lowI_cross (t := p.1 * 2) (b := p.2 * 3) (by omega)
  have c3 := lowI_cross (t := p.1 * 3) (b := p.2 * 2) (by omega)
  -- what is not above the number
  have key : ∀ {q : Int × Int} {u v : Int}, 0 < u → 0 < v → u ≤ v → 1 ≤ q.1 → 1 ≤ q.2 → q.1 * (p.2 * v) = p.1 * u * q.2 → q.1 * p.2 ≤ p.1 * q.2 := fun {q u v} hu hv huv h1 h2 e => by
    have e1 : v * (q.1 * p.2) = u * (p.1 * q.2) := by
      rw [show v * (q.1 * p.2) = q.1 * (p.2 * v) by rw [Int.mul_comm v, Int.mul_assoc], e, Int.mul_comm p.1 u, Int.mul_assoc]
    have e2 : u * (p.1 * q.2) ≤ v * (p.1 * q.2) := Int.mul_le_mul_of_nonneg_right huv (Int.le_of_lt (Int.mul_pos (by omega) (by omega)))
    exact Int.le_of_mul_le_mul_left (by omega) hv
  have keyU : ∀ {q : Int × Int} {u v : Int}, 0 < u → 0 < v → v ≤ u → 1 ≤ q.1 → 1 ≤ q.2 → q.1 * (p.2 * v) = p.1 * u * q.2 → p.1 * q.2 ≤ q.1 * p.2 := fun {q u v} hu hv huv h1 h2 e => by
    have e1 : v * (q.1 * p.2) = u * (p.1 * q.2) := by
      rw [show v * (q.1 * p.2) = q.1 * (p.2 * v) by rw [Int.mul_comm v, Int.mul_assoc], e, Int.mul_comm p.1 u, Int.mul_assoc]
    have e2 : v * (p.1 * q.2) ≤ u * (p.1 * q.2) := Int.mul_le_mul_of_nonneg_right huv (Int.le_of_lt (Int.mul_pos (by omega) (by omega)))
    exact Int.le_of_mul_le_mul_left (by omega) hv
  have A : ∃ lo, a = fr lo ∧ Pos (3 * B) lo ∧ lo.1 * p.2 ≤ p.1 * lo.2 := by
    simp only [List.mem_cons, List.not_mem_nil, or_false] at m1
    rcases m1 with rfl | rfl | rfl
    · exact ⟨_, rfl, P0, Int.le_refl _⟩
    · exact ⟨_, rfl, P1, key (u := 1) (v := 2) (by decide) (by decide) (by decide) P1.1 P1.2.2.1 (by rw [Int.mul_one]; exact c1)⟩
    · exact ⟨_, rfl, P2, key (u := 2) (v := 3) (by decide) (by decide) (by decide) P2.1 P2.2.2.1 c2⟩
  have Bb : ∃ hi, b = optF hi ∧ ∀ x, hi = some x → Pos (3 * B) x ∧ p.1 * x.2 ≤ x.1 * p.2 := by
    simp only [List.mem_cons, List.not_mem_nil, or_false] at m2
    rcases m2 with rfl | rfl | rfl | rfl
    · exact ⟨some p, rfl, fun x e => by cases e; exact ⟨P0, Int.le_refl _⟩⟩
    · exact ⟨none, rfl, fun x e => by cases e⟩
    · exact ⟨some _, rfl, fun x e => by cases e; exact ⟨P3, keyU (u := 3) (v := 2) (by decide) (by decide) (by decide) P3.1 P3.2.2.1 c3⟩⟩
    · exact ⟨some p, rfl, fun x e => by cases e; exact ⟨P0, Int.le_refl _⟩⟩
  obtain ⟨lo, rfl, L1, L2⟩ := A
  obtain ⟨hi, rfl, U⟩ := Bb
  refine ⟨lo, hi, S2, ?_, f1.trans f2, d2, L1, fun x e => ⟨(U x e).1, ?_⟩⟩
  · rw [f__law_about]
    unfold i__law_about
    have mm : ∀ (i : Int), Bd i 60 → ∀ (j : Int), Bd j 10 → ∀ S, binW .mul (.p (.int i)) (.p (.int j)) S = .ok (.sh (.p (.int (i * j)))) S := fun i hi j hj S => mulB hi hj (by decide) S
    simp only [fr] at e1 e2 l1 l2 l3
    simp [run_def, fr, mm p.1 b1, mm p.2 b2, two, three, l1, l2, l3, e1, e2, tk (f1.trans f2)]
  · obtain ⟨x1, x2⟩ := U x e
    -- lo ≤ p ≤ x
    have h1 : lo.1 * p.2 * x.2 ≤ p.1 * lo.2 * x.2 := Int.mul_le_mul_of_nonneg_right L2 (by have := x1.2.2.1; omega)
    have h2 : p.1 * x.2 * lo.2 ≤ x.1 * p.2 * lo.2 := Int.mul_le_mul_of_nonneg_right x2 (by have := L1.2.2.1; omega)
    have e1 : p.2 * (lo.1 * x.2) ≤ p.2 * (x.1 * lo.2) := by
      have a1 : p.2 * (lo.1 * x.2) = lo.1 * p.2 * x.2 := by rw [← Int.mul_assoc, Int.mul_comm p.2]
      have a2 : p.2 * (x.1 * lo.2) = x.1 * p.2 * lo.2 := by rw [← Int.mul_assoc, Int.mul_comm p.2]
      have a3 : p.1 * lo.2 * x.2 = p.1 * x.2 * lo.2 := by rw [Int.mul_assoc, Int.mul_comm lo.2, ← Int.mul_assoc]
      omega
    exact Int.le_of_mul_le_mul_left e1 (by omega)
end LW

set_option Elab.async false
set_option linter.all false
set_option maxRecDepth 100000
set_option maxHeartbeats 8000000
/-! SP12: drawn cases. -/
namespace LW
open PySem PySem.Spec PyProof.Rows L2 DL
def caseD (L : Int × Int) (ps : List (Int × Int)) : D := .tup [fr L, .tup (ps.map fr)]
/-- a drawn case -/
def Cok (m : Nat) (L : Int × Int) (ps : List (Int × Int)) : Prop := ps.length = m ∧ Pos 63 L ∧ ∀ p ∈ ps, Pos 9 p
theorem sp_a_case {n T m : Nat} {S : Sto} (h : Dk n T S) (hm : m ≤ 3) (hT : T + 20 ≤ TM) :
    ∃ L ps S', fnAt B0 TAB 41 [.o n, .p (.int m)] S = .ok (.sh (.p (caseD L ps))) S' ∧ Fr n S S' ∧ Dk n (T + 17) S' ∧ Cok m L ps := by
  have hl := h.lt
  rw [f__law_a_case]
  unfold i__law_a_case
  have step := fLoop_inv (t := []) (f := forB (gAt B0 TAB 41) S.length true [3] (.seq (.app 2 (.call 30 (.cons (.var 0) (.cons (.lst (.cons (.call 40 (.cons (.var 0) (.cons (.int 9) .nil))) (.cons (.tup (.cons (.int 1) (.cons (.int 1) .nil))) (.cons (.tup (.cons (.int 2) (.cons (.int 1) .nil))) (.cons (.call 40 (.cons (.var 0) (.cons (.int 4) .nil))) .nil))))) .nil)))) .nil))
    (fun i ρ S' => ∃ S1 ps, S' = S1 ++ [some (.lst (ps.map fr))] ∧ Fr n S S1 ∧ Dk n (T + 5 * i) S1 ∧ ps.length = i ∧ (∀ p ∈ ps, Pos 9 p) ∧ ρ[0]? = some (some (.o n)) ∧ ρ[2]? = some (some (.o S.length)) ∧ ρ.length = 4)
    ((List.range m).map fun i => D.int (i : Nat)) 0 [some (.o n), some (.p (.int m)), some (.o S.length), none] (S ++ [some (.lst [])])
    ⟨S, [], rfl, Fr.refl _ _, h, rfl, (fun p hp => nomatch hp), rfl, rfl, rfl⟩ ?_
  · obtain ⟨ρ', S', e0, S1, ps, rfl, f1, d1, hps, hP, r0, r2, r3⟩ := step
    simp only [List.length_map, List.length_range, Nat.zero_add] at d1 hps
    have a1 := sp_pick (d1.app (some (.lst (ps.map fr)))) (by unfold TM at hT; omega) (k := 60) (by decide) (by decide)
    obtain ⟨r, S2, e1, f2, d2, u1, u2⟩ := a1
    obtain ⟨S2, rfl, f2'⟩ := f2.of_app (by rw [f1.len]; exact hl)
    obtain ⟨s, S3, e2, f3, d3, v1, v2⟩ := sp_pick d2 (by unfold TM at hT; omega) (k := 2) (by decide) (by decide)
    obtain ⟨S3, rfl, f3'⟩ := f3.of_app (by rw [f2'.len, f1.len]; exact hl)
    have f13 := (f1.trans f2').trans f3'
    have hlow := sp_low (t := 4 + r) (b := 1 + s) (k := 20) (by omega) (Bd.of (n := 100) (by omega) (by omega) (by decide)) (Bd.of (n := 100) (by omega) (by omega) (by decide)) (by decide)
    refine ⟨lowI (4 + r) (1 + s), ps, S3, ?_, f13, (d3.of_app (by rw [f13.len]; exact hl)).mono (by omega), hps, lowI_pos (by omega) (by omega) (by omega) (by omega), hP⟩
    have hr : (-(2 ^ 62) : Int) ≤ m ∧ (m : Int) < 2 ^ 62 := by omega
    have hn : (S3 ++ [some (Cell.lst (ps.map fr))])[S.length]? = some (some (.lst (ps.map fr))) := by rw [← f13.len]; simp
    have tt : (S3 ++ [some (Cell.lst (ps.map fr))]).take S.length = S3 := by rw [← f13.len]; simp
    rw [run_def (by rfl), s_seq]
    simp only [s_asgO, e_lst, l_nil, R.bind_ok, give_nil]
    simp only [List.length_nil, Nat.zero_le, if_pos, R.st_ok, SR.bind_nx, s_seq, s_for, i_rng]
    simp [hr.1, hr.2, e0, r0, r2, e1, e2, hlow, caseD, blt_tupO hn, tt]
    omega
  · intro i d ρ S' hd hI
    obtain ⟨S1, ps, rfl, f1, d1, hps, hP, r0, r2, r3⟩ := hI
    have him : i < m := by
      have := (List.getElem?_eq_some_iff.mp hd).1
      simpa using this
    simp only [Nat.zero_add] at d1 hps ⊢
    have hl1 : n < S1.length := by rw [f1.len]; exact hl
    let c : Option Cell := some (.lst (ps.map fr))
    obtain ⟨p, S2, e1, f2, d2, P1⟩ := sp_part (d1.app c) (by omega) (k := 9) (by decide) (by decide)
    obtain ⟨q, S3, e2, f3, d3, P2⟩ := sp_part d2 (by omega) (k := 4) (by decide) (by decide)
    obtain ⟨x, S4, e3, f4, d4, mx⟩ := sp_one d3 (by unfold TM at hT; omega) (xs := [fr p, fr (1, 1), fr (2, 1), fr q]) (by simp) (by simp)
    have f24 := (f2.trans f3).trans f4
    obtain ⟨S5, rfl, f5⟩ := f24.of_app hl1
    have hx : ∃ z, x = fr z ∧ Pos 9 z := by
      simp only [List.mem_cons, List.not_mem_nil, or_false] at mx
      rcases mx with rfl | rfl | rfl | rfl
      · exact ⟨p, rfl, P1⟩
      · exact ⟨(1, 1), rfl, by unfold Pos; decide⟩
      · exact ⟨(2, 1), rfl, by unfold Pos; decide⟩
      · exact ⟨q, rfl, P2.mono (by decide)⟩
    obtain ⟨z, rfl, Pz⟩ := hx
    have hlen : S5.length = S.length := by rw [f5.len, f1.len]
    refine ⟨ρ.set 3 (some (.p d)), S5 ++ [some (.lst ((ps ++ [z]).map fr))], ?_, keeps_nil _, S5, ps ++ [z], rfl, f1.trans f5, (d4.of_app (by rw [hlen]; exact hl)).mono (by omega), by simp [hps], fun w hw => ?_, by simp [r0], by simp [r2], by simp [r3]⟩
    · rw [forB_some (ρ' := ρ.set 3 (some (.p d))) _ _ rfl]
      have g0 : (ρ.set 3 (some (.p d)))[0]? = some (some (.o n)) := by simp [r0]
      have g2 : (ρ.set 3 (some (.p d)))[2]? = some (some (.o S.length)) := by simp [r2]
      have o1 : objL (ρ.set 3 (some (.p d))) (S1 ++ [c]) 2 = some (S.length, ps.map fr) := objL_of g2 (by rw [← f1.len]; simp [c])
      have o2 : objL (ρ.set 3 (some (.p d))) (S5 ++ [c]) 2 = some (S.length, ps.map fr) := objL_of g2 (by rw [← hlen]; simp [c])
      have hsz : ps.length < sizeLine := size2 (by omega)
      have st : (S5 ++ [c]).set S.length (some (.lst (ps.map fr ++ [fr z]))) = S5 ++ [some (.lst (ps.map fr ++ [fr z]))] := by rw [← hlen]; exact set_new _ _ _
      simp only [fr] at e1 e2 e3 o1 o2 hsz st
      simp only [s_seq, s_app, fr, c] at *
      simp [o1, o2, g0, e1, e2, e3, hsz, st, fr]
    · rcases List.mem_append.mp hw with h1 | h1
      · exact hP w h1
      · rw [List.mem_singleton.mp h1]; exact Pz
end LW

set_option Elab.async false
set_option linter.all false
set_option maxRecDepth 100000
set_option maxHeartbeats 8000000
/-! SP13: drawn facts. -/
namespace LW
open PySem PySem.Spec PyProof.Rows L2 DL
def takenI (L p : Int × Int) (up : Bool) : Option (Int × Int) := if 0 < (addI p (sgn up, 1)).1 then some (overI (mulI L p) (addI p (sgn up, 1))) else none
theorem atI_map {α : Type} {f : α → D} {ps : List α} {w : Int} (h0 : 0 ≤ w) (h : w < ps.length) : ∃ p, ps[w.toNat]? = some p ∧ atI (ps.map f) w = some (f p) := by
  have hw : w.toNat < ps.length := by omega
  refine ⟨ps[w.toNat], List.getElem?_eq_getElem hw, ?_⟩
  unfold atI ixN
  rw [if_pos h0, if_pos (by simpa using h)]
  simp [hw]
theorem taken_pos {L p : Int × Int} (hL : Pos 63 L) (hp : Pos 9 p) {up : Bool} {q : Int × Int} (h : takenI L p up = some q) : Pos 20000 q := by
  obtain ⟨L1, L2, L3, L4, _⟩ := hL
  obtain ⟨p1, p2, p3, p4, _⟩ := hp
  unfold takenI at h
  split at h
  · rename_i hs
    cases h
    have s1 : sgn up ≤ 1 ∧ -1 ≤ sgn up := by cases up <;> (unfold sgn; decide)
    have e2 := lowI_den (t := p.1 * 1 + sgn up * p.2) (b := p.2 * 1) (by omega)
    have e1 := lowI_abs (t := p.1 * 1 + sgn up * p.2) (b := p.2 * 1) (by omega)
    have hle : (p.1 * 1 + sgn up * p.2).natAbs ≤ 18 := by
      have : (sgn up * p.2).natAbs ≤ 9 := by
        rw [Int.natAbs_mul]
        have : (sgn up).natAbs = 1 := by cases up <;> rfl
        rw [this]; omega
      omega
    have hm : Pos 567 (mulI L p) := by
      have m1 : L.1 * p.1 ≤ 63 * 9 := Int.mul_le_mul L2 p2 (by omega) (by decide)
      have m2 : L.2 * p.2 ≤ 63 * 9 := Int.mul_le_mul L4 p4 (by omega) (by decide)
      exact lowI_pos (Int.mul_pos (by omega) (by omega)) (by omega) (Int.mul_pos (by omega) (by omega)) (by omega)
    have hA : (addI p (sgn up, 1)).1 ≤ 18 := by
      show (lowI (p.1 * 1 + sgn up * p.2) (p.2 * 1)).1 ≤ 18
      omega
    have hB : 1 ≤ (addI p (sgn up, 1)).2 ∧ (addI p (sgn up, 1)).2 ≤ 9 := by
      show 1 ≤ (lowI (p.1 * 1 + sgn up * p.2) (p.2 * 1)).2 ∧ (lowI (p.1 * 1 + sgn up * p.2) (p.2 * 1)).2 ≤ 9
      omega
    generalize addI p (sgn up, 1) = s at *
    obtain ⟨h1, h2, h3, h4, _⟩ := hm
    have n1 : (mulI L p).1 * s.2 ≤ 567 * 9 := Int.mul_le_mul h2 hB.2 (by omega) (by decide)
    have n2 : (mulI L p).2 * s.1 ≤ 567 * 18 := Int.mul_le_mul h4 hA (by omega) (by decide)
    exact lowI_pos (Int.mul_pos (by omega) (by omega)) (by omega) (Int.mul_pos (by omega) (by omega)) (by omega)
  · cases h
theorem sp_taken {L : Int × Int} {ps : List (Int × Int)} (hL : Pos 63 L) (hP : ∀ p ∈ ps, Pos 9 p) {w : Int} (h0 : 0 ≤ w) (h : w < ps.length) (up : Bool) :
    ∃ p, ps[w.toNat]? = some p ∧ ∀ S, fnAt B0 TAB 37 [.p (caseD L ps), .p (.int w), .p (wayD up)] S = .ok (.sh (.p (optF (takenI L p up)))) S := by
  obtain ⟨p, hp, ha⟩ := atI_map (f := fr) h0 h
  have Pp := hP p (List.mem_of_getElem? hp)
  refine ⟨p, hp, fun S => ?_⟩
  rw [f__law_taken]
  unfold i__law_taken
  have fp := Pp.fb60 (by decide)
  have fL := hL.fb60 (by decide)
  have fs : Fb 60 (sgn up, 1) := ⟨by cases up <;> (unfold Bd sgn; decide), by show Bd 1 60; unfold Bd; decide, by show (0 : Int) < 1; decide⟩
  have e1 := fun S => sp_add fp fs (by decide) S
  have e2 := fun S => sp_mul fL fp (by decide) S
  obtain ⟨q1, q2, q3, q4, _⟩ := Pp
  have dn := lowI_den (t := p.1 * 1 + sgn up * p.2) (b := p.2 * 1) (by omega)
  have fA : Fb 100 (addI p (sgn up, 1)) := by
    have ab := lowI_abs (t := p.1 * 1 + sgn up * p.2) (b := p.2 * 1) (by omega)
    have hs : (sgn up * p.2).natAbs ≤ 9 := by
      rw [Int.natAbs_mul]
      have : (sgn up).natAbs = 1 := by cases up <;> rfl
      rw [this]; omega
    refine ⟨?_, ?_, dn.1⟩
    · show (lowI (p.1 * 1 + sgn up * p.2) (p.2 * 1)).1.natAbs < 2 ^ 100
      have : (18 : Nat) < 2 ^ 100 := by decide
      omega
    · show (lowI (p.1 * 1 + sgn up * p.2) (p.2 * 1)).2.natAbs < 2 ^ 100
      have : (18 : Nat) < 2 ^ 100 := by decide
      omega
  have fM : Fb 100 (mulI L p) := by
    obtain ⟨L1, L2, L3, L4, _⟩ := hL
    have m1 : L.1 * p.1 ≤ 63 * 9 := Int.mul_le_mul L2 q2 (by omega) (by decide)
    have m2 : L.2 * p.2 ≤ 63 * 9 := Int.mul_le_mul L4 q4 (by omega) (by decide)
    exact (lowI_pos (B := 567) (Int.mul_pos (by omega) (by omega)) (by omega) (Int.mul_pos (by omega) (by omega)) (by omega)).fb (by decide)
  unfold takenI
  have hfr : D.tup [D.int (sgn up), D.int 1] = fr (sgn up, 1) := rfl
  by_cases hs : 0 < (addI p (sgn up, 1)).1
  · have e3 := fun S => sp_over fM fA (by omega) (by decide) S
    cases up <;> (simp only [fr, sgn, if_true, if_false, Bool.false_eq_true] at e1 e2 e3 hs ha hfr; simp [run_def, caseD, setL, wayD, ha, fr, e1, e2, e3, hs, sgn, optF])
  · cases up <;> (simp only [fr, sgn, if_true, if_false, Bool.false_eq_true] at e1 e2 hs ha hfr; simp [run_def, caseD, setL, wayD, ha, fr, e1, e2, hs, sgn, optF])
end LW

set_option Elab.async false
set_option linter.all false
set_option maxRecDepth 100000
set_option maxHeartbeats 8000000
/-! SP14: drawn facts. -/
namespace LW
open PySem PySem.Spec PyProof.Rows L2 DL
/-- a drawn fact: its numbers are small -/
def Fct.sm : Fct → Prop
  | .len lo hi => lo ≤ 30000 ∧ ∀ h, hi = some h → h ≤ 30000
  | .steps _ _ lo hi => lo ≤ 30000 ∧ hi ≤ 30000
  | .pace _ lo hi => Pos 30000 lo ∧ ∀ h, hi = some h → Pos 30000 h
  | .quick _ _ lo hi => Pos 30000 lo ∧ ∀ h, hi = some h → Pos 30000 h
  | .meet _ _ a b => a ≤ 30000 ∧ b ≤ 30000
  | .back _ a b => a ≤ 30000 ∧ b ≤ 30000
theorem Pos.fok {p : Int × Int} (h : Pos 30000 p) : Fok p := ⟨h.1, by have := h.2.1; unfold LG; omega, h.2.2.1, by have := h.2.2.2.1; unfold LG; omega, h.2.2.2.2⟩
theorem hok_of {lo : Int × Int} {hi : Option (Int × Int)} (h : ∀ x, hi = some x → Pos 30000 x ∧ lo.1 * x.2 ≤ x.1 * lo.2) : Hok lo hi := by
  cases hi with
  | none => trivial
  | some x => exact ⟨(h x rfl).1.fok, (h x rfl).2⟩
theorem sp_true_fact {n T m : Nat} {S : Sto} (h : Dk n T S) (hT : T + 20 ≤ TM) {L : Int × Int} {ps : List (Int × Int)} (hc : Cok m L ps) (h1 : 1 ≤ m) (h3 : m ≤ 3) :
    ∃ f S', fnAt B0 TAB 39 [.o n, .p (caseD L ps)] S = .ok (.sh (.p (Fct.d f))) S' ∧ Fr n S S' ∧ Dk n (T + 6) S' ∧ f.ok m ∧ f.sm := by
  obtain ⟨hl, hL, hP⟩ := hc
  rw [f__law_true_fact]
  unfold i__law_true_fact
  obtain ⟨w, S1, e1, f1, d1, w1, w2⟩ := sp_pick h (by unfold TM at hT; omega) (k := 8) (by decide) (by decide)
  obtain ⟨x, S2, e2, f2, d2, x1, x2⟩ := sp_pick d1 (by unfold TM at hT; omega) (k := m) (by omega) (by omega)
  have f12 := f1.trans f2
  have hxl : x < ps.length := by omega
  obtain ⟨p, hp, hap⟩ := atI_map (f := fr) x1 hxl
  have Pp := hP p (List.mem_of_getElem? hp)
  have LG1 : (30000 : Int) ≤ LG := by unfold LG; decide
  have GR1 : (30000 : Int) ≤ GR := by unfold GR; decide
  have hlen : (ps.map fr).length = m := by simp [hl]
  -- the paces
  have pace : ∀ (S3 : Sto) (T3 : Nat), Dk n T3 S3 → T3 ≤ T + 3 → Fr n S S3 → ∃ lo hi S4, fnAt B0 TAB 38 [.o n, .p (fr p)] S3 = .ok (.sh (.p (.tup [fr lo, optF hi]))) S4 ∧ Fr n S S4 ∧ Dk n (T + 6) S4 ∧ (Fct.pace x lo hi).ok m ∧ (Fct.pace x lo hi).sm := fun S3 T3 d3 ht f3 => by
    obtain ⟨lo, hi, S4, e4, f4, d4, P1, P2⟩ := sp_about d3 (by omega) Pp (by decide)
    have Q1 : Pos 30000 lo := P1.mono (by decide)
    have Q2 : ∀ x, hi = some x → Pos 30000 x ∧ lo.1 * x.2 ≤ x.1 * lo.2 := fun x e => ⟨(P2 x e).1.mono (by decide), (P2 x e).2⟩
    exact ⟨lo, hi, S4, e4, f3.trans f4, d4.mono (by omega), ⟨⟨x1, by omega⟩, Q1.fok, hok_of Q2⟩, Q1, fun y e => (Q2 y e).1⟩
  by_cases c3 : w < 3
  · -- a way
    obtain ⟨dr, S3, e3, f3, d3, m3⟩ := sp_one d2 (by unfold TM at hT; omega) (xs := [.str "with", .str "with", .str "against"]) (by simp) (by simp)
    have hup : ∃ up, dr = wayD up := by
      simp only [List.mem_cons, List.not_mem_nil, or_false] at m3
      rcases m3 with rfl | rfl | rfl
      · exact ⟨true, rfl⟩
      · exact ⟨true, rfl⟩
      · exact ⟨false, rfl⟩
    obtain ⟨up, rfl⟩ := hup
    obtain ⟨p', hp', ht⟩ := sp_taken hL hP x1 hxl up
    obtain rfl : p = p' := by rw [hp] at hp'; exact Option.some.inj hp'
    have f13 := f12.trans f3
    have c5 : w < 5 := by omega
    by_cases hs : ∃ q, takenI L p up = some q ∧ q.2 ≤ q.1
    · obtain ⟨q, hq, hq2⟩ := hs
      have Pq := taken_pos hL Pp hq
      obtain ⟨lo, hi, S4, e4, f4, d4, l1, l2, l3⟩ := sp_range d3 (by omega) Pq (by decide)
      refine ⟨.steps x up lo hi, S4, ?_, f13.trans f4, d4.mono (by omega), ⟨⟨x1, by omega⟩, l1, by omega, l2, by omega⟩, by omega, by omega⟩
      have tt := tk (f13.trans f4)
      simp only [hq, optF, fr] at ht e4
      simp only [caseD, fr] at ht hap hlen ⊢
      simp [run_def, hlen, e1, e2, e3, e4, ht, c3, hq2, setL, bindT, tt, Fct.d]
    · obtain ⟨lo, hi, S4, e4, f4, d4, o1, o2⟩ := pace S3 _ d3 (by omega) f13
      refine ⟨.pace x lo hi, S4, ?_, f4, d4, o1, o2⟩
      have tt := tk f4
      cases hq : takenI L p up with
      | none =>
        simp only [hq, optF, fr] at ht
        simp only [fr] at e4
        simp only [caseD, fr] at ht hap hlen ⊢
        simp [run_def, hlen, e1, e2, e3, e4, ht, c3, c5, setL, bindT, tt, Fct.d, hap, fr]
      | some q =>
        have hq2 : ¬ q.2 ≤ q.1 := fun z => hs ⟨q, hq, z⟩
        simp only [hq, optF, fr] at ht
        simp only [fr] at e4
        simp only [caseD, fr] at ht hap hlen ⊢
        simp [run_def, hlen, e1, e2, e3, e4, ht, c3, c5, hq2, setL, bindT, tt, Fct.d, hap, fr]
  · by_cases c5 : w < 5
    · obtain ⟨lo, hi, S4, e4, f4, d4, o1, o2⟩ := pace S2 _ d2 (by omega) f12
      refine ⟨.pace x lo hi, S4, ?_, f4, d4, o1, o2⟩
      have tt := tk f4
      simp only [fr] at e4
      simp only [caseD, fr] at hap hlen ⊢
      simp [run_def, hlen, e1, e2, e4, c3, c5, setL, bindT, tt, Fct.d, hap, fr]
    · by_cases c7 : w < 7 ∧ 1 < m
      · obtain ⟨c71, c72⟩ := c7
        obtain ⟨y, S3, e3, f3, d3, y1, y2⟩ := sp_pick d2 (by unfold TM at hT; omega) (k := m - 1) (by omega) (by omega)
        have hm0 : (0 : Int) < m := by omega
        have z0 : 0 ≤ (x + 1 + y) % m := Int.emod_nonneg _ (by omega)
        have z1 : (x + 1 + y) % m < m := Int.emod_lt_of_pos _ hm0
        have hne : x ≠ (x + 1 + y) % m := by
          intro hh
          by_cases hlt : x + 1 + y < m
          · rw [Int.emod_eq_of_lt (by omega) hlt] at hh; omega
          · have : (x + 1 + y) % m = x + 1 + y - m := by
              rw [← Int.sub_emod_right, Int.emod_eq_of_lt (by omega) (by omega)]
            omega
        obtain ⟨o, ho, hao⟩ := atI_map (f := fr) (ps := ps) z0 (by omega)
        have Po := hP o (List.mem_of_getElem? ho)
        have e5 := fun S => sp_over (Pp.fb60 (by decide)) (Po.fb60 (by decide)) (by have := Po.1; omega) (by decide) S
        have Pq : Pos 81 (overI p o) := by
          obtain ⟨a1, a2, a3, a4, _⟩ := Pp
          obtain ⟨b1, b2, b3, b4, _⟩ := Po
          have n1 : p.1 * o.2 ≤ 9 * 9 := Int.mul_le_mul a2 b4 (by omega) (by decide)
          have n2 : p.2 * o.1 ≤ 9 * 9 := Int.mul_le_mul a4 b2 (by omega) (by decide)
          exact lowI_pos (Int.mul_pos (by omega) (by omega)) (by omega) (Int.mul_pos (by omega) (by omega)) (by omega)
        obtain ⟨lo, hi, S4, e4, f4, d4, P1, P2⟩ := sp_about d3 (by omega) Pq (by decide)
        have Q1 : Pos 30000 lo := P1.mono (by decide)
        have Q2 : ∀ x, hi = some x → Pos 30000 x ∧ lo.1 * x.2 ≤ x.1 * lo.2 := fun x e => ⟨(P2 x e).1.mono (by decide), (P2 x e).2⟩
        refine ⟨.quick x ((x + 1 + y) % m) lo hi, S4, ?_, (f12.trans f3).trans f4, d4.mono (by omega), ⟨⟨x1, by omega⟩, ⟨z0, by omega⟩, hne, Q1.fok, hok_of Q2⟩, Q1, fun y e => (Q2 y e).1⟩
        have tt := tk ((f12.trans f3).trans f4)
        have md : ∀ S, binW .mod (.p (.int (x + 1 + y))) (.p (.int m)) S = .ok (.sh (.p (.int ((x + 1 + y) % m)))) S := fun S => bin_mod hm0
        simp only [fr] at e4 e5 hao
        simp only [caseD, fr] at hap hlen ⊢
        have q1 : ¬ (m : Int) ≤ 1 := by omega
        have q2 : (1 : Int) < m := by omega
        simp [run_def, hlen, e1, e2, e3, e4, e5, c3, c5, c71, c72, q1, q2, setL, bindT, tt, Fct.d, hap, hao, md, fr]
      · obtain ⟨lo, hi, S4, e4, f4, d4, l1, l2, l3⟩ := sp_range d2 (by omega) hL (by decide)
        obtain ⟨z, S5, e5, f5, d5, m5⟩ := sp_one d4 (by unfold TM at hT; omega) (xs := [.int hi, .int hi, .non]) (by simp) (by simp)
        have hz : ∃ o, z = optI o ∧ (∀ h, o = some h → h = hi) := by
          simp only [List.mem_cons, List.not_mem_nil, or_false] at m5
          rcases m5 with rfl | rfl | rfl
          · exact ⟨some hi, rfl, fun h e => by cases e; rfl⟩
          · exact ⟨some hi, rfl, fun h e => by cases e; rfl⟩
          · exact ⟨none, rfl, fun h e => by cases e⟩
        obtain ⟨o, rfl, ho⟩ := hz
        refine ⟨.len lo o, S5, ?_, (f12.trans f4).trans f5, d5.mono (by omega), ⟨l1, by omega, fun h e => by rw [ho h e]; omega⟩, by omega, fun h e => by rw [ho h e]; omega⟩
        have tt := tk ((f12.trans f4).trans f5)
        have c7' : w < 7 → m ≤ 1 := fun u => Nat.le_of_not_lt fun v => c7 ⟨u, v⟩
        simp only [fr] at e4
        simp only [caseD, fr] at hap hlen ⊢
        by_cases c71 : w < 7
        · have hm1 := c7' c71
          have : ¬ (1 : Int) < m := by omega
          simp [run_def, hlen, e1, e2, e4, e5, c3, c5, c71, hm1, this, setL, bindT, tt, Fct.d, fr]
        · simp [run_def, hlen, e1, e2, e4, e5, c3, c5, c71, setL, bindT, tt, Fct.d, fr]
theorem sp_any_fact {n T m : Nat} {S : Sto} (h : Dk n T S) (hT : T + 50 ≤ TM) (h1 : 1 ≤ m) (h3 : m ≤ 3) :
    ∃ f S', fnAt B0 TAB 42 [.o n, .p (.int m)] S = .ok (.sh (.p (Fct.d f))) S' ∧ Fr n S S' ∧ Dk n (T + 40) S' ∧ f.ok m ∧ f.sm := by
  rw [f__law_any_fact]
  unfold i__law_any_fact
  have hm0 : (0 : Int) < m := by omega
  have LG1 : (30000 : Int) ≤ LG := by unfold LG; decide
  obtain ⟨w, S1, e1, f1, d1, w1, w2⟩ := sp_pick h (by unfold TM at hT; omega) (k := 6) (by decide) (by decide)
  obtain ⟨x, S2, e2, f2, d2, x1, x2⟩ := sp_pick d1 (by unfold TM at hT; omega) (k := m) (by omega) (by omega)
  obtain ⟨y, S3, e3, f3, d3, y1, y2⟩ := sp_pick d2 (by unfold TM at hT; omega) (k := max 1 (m - 1)) (by omega) (by omega)
  have f13 := (f1.trans f2).trans f3
  have z0 : 0 ≤ (x + 1 + y) % m := Int.emod_nonneg _ (by omega)
  have z1 : (x + 1 + y) % m < m := Int.emod_lt_of_pos _ hm0
  have md : ∀ S, binW .mod (.p (.int (x + 1 + y))) (.p (.int m)) S = .ok (.sh (.p (.int ((x + 1 + y) % m)))) S := fun S => bin_mod hm0
  by_cases c0 : w = 0
  · subst c0
    obtain ⟨a, S4, e4, f4, d4, a1, a2⟩ := sp_pick d3 (by unfold TM at hT; omega) (k := 9) (by decide) (by decide)
    obtain ⟨b, S5, e5, f5, d5, b1, b2⟩ := sp_pick d4 (by unfold TM at hT; omega) (k := 12) (by decide) (by decide)
    refine ⟨.back x (1 + a) (1 + a + 1 + b), S5, ?_, (f13.trans f4).trans f5, d5.mono (by omega), ⟨⟨x1, by omega⟩, ⟨by omega, by omega⟩, by omega, by omega⟩, by omega, by omega⟩
    have tt := tk ((f13.trans f4).trans f5)
    simp [run_def, e1, e2, e3, e4, e5, md, setL, tt, Fct.d]
  · by_cases c1 : w = 1 ∧ 1 < m
    · obtain ⟨rfl, c12⟩ := c1
      obtain ⟨a, S4, e4, f4, d4, a1, a2⟩ := sp_pick d3 (by unfold TM at hT; omega) (k := 20) (by decide) (by decide)
      obtain ⟨b, S5, e5, f5, d5, b1, b2⟩ := sp_pick d4 (by unfold TM at hT; omega) (k := 20) (by decide) (by decide)
      have hne : x ≠ (x + 1 + y) % m := by
        intro hh
        by_cases hlt : x + 1 + y < m
        · rw [Int.emod_eq_of_lt (by omega) hlt] at hh; omega
        · have : (x + 1 + y) % m = x + 1 + y - m := by
            rw [← Int.sub_emod_right, Int.emod_eq_of_lt (by omega) (by omega)]
          omega
      refine ⟨.meet x ((x + 1 + y) % m) (1 + a) (1 + b), S5, ?_, (f13.trans f4).trans f5, d5.mono (by omega), ⟨⟨x1, by omega⟩, ⟨z0, by omega⟩, hne, ⟨by omega, by omega⟩, by omega, by omega⟩, by omega, by omega⟩
      have tt := tk ((f13.trans f4).trans f5)
      have q1 : ¬ (m : Int) ≤ 1 := by omega
      have q2 : (1 : Int) < m := by omega
      simp [run_def, e1, e2, e3, e4, e5, md, setL, tt, Fct.d, c12, q1, q2]
    · obtain ⟨L, ps, S4, e4, f4, d4, C⟩ := sp_a_case d3 h3 (by omega)
      obtain ⟨f, S5, e5, f5, d5, o1, o2⟩ := sp_true_fact d4 (by omega) C h1 h3
      refine ⟨f, S5, ?_, (f13.trans f4).trans f5, d5.mono (by omega), o1, o2⟩
      have tt := tk ((f13.trans f4).trans f5)
      by_cases c2 : w = 1
      · subst c2
        have q1 : (m : Int) ≤ 1 := by
          have : ¬ 1 < m := fun z => c1 ⟨rfl, z⟩
          omega
        have q2 : ¬ (1 : Int) < m := by omega
        simp [run_def, e1, e2, e3, e4, e5, md, setL, tt, q1, q2]
      · simp [run_def, e1, e2, e3, e4, e5, md, setL, tt, c0, c2]
end LW

set_option Elab.async false
set_option linter.all false
set_option maxRecDepth 100000
set_option maxHeartbeats 8000000
/-! SP15: things that are the same. -/
namespace LW
open PySem PySem.Spec PyProof.Rows L2 DL
def sortN : D → Int
  | .bl _ => 1
  | .int _ => 2
  | .str _ => 3
  | .lst _ => 4
  | .tup _ => 5
  | _ => 6
theorem sp_sort {a : W} {S : Sto} {d : D} (hd : d.pl = true) (ha : den S a = some d) : fnAt B0 TAB 43 [a] S = .ok (.sh (.p (.int (sortN d)))) S := by
  rw [f__law_sort]
  unfold i__law_sort
  cases d <;> first | (simp [D.pl] at hd; done) | simp [run_def, ha, isTy, sortN]
def sameBody (j : Nat) : CS :=
    (.seq (.ifs (.v (.cmp .ne (.call 43 (.cons (.var 0) .nil)) (.call 43 (.cons (.var 1) .nil)))) (.seq (.ret (.bl false))
    .nil) .nil)
    (.seq (.ifs (.and_ (.v (.cmp .gt (.call 43 (.cons (.var 0) .nil)) (.int 3))) (.v (.cmp .lt (.call 43 (.cons (.var 0) .nil)) (.int 6)))) (.seq (.ifs (.v (.cmp .ne (.blt .len (.cons (.var 0) .nil)) (.blt .len (.cons (.var 1) .nil)))) (.seq (.ret (.bl false))
    .nil) .nil)
    (.seq (.ret (.cmp .eq (.compC (.var 2) [2, 3] false (.enu (.var 0)) (.nt (.v (.call j (.cons (.var 3) (.cons (.ix (.var 1) (.var 2)) .nil)))))) (.lst .nil)))
    .nil)) .nil)
    (.seq (.ret (.cmp .eq (.var 0) (.var 1)))
    .nil)))
theorem blt_len_den {a : W} {S : Sto} {xs : List D} (h : den S a = some (.lst xs) ∨ den S a = some (.tup xs)) : bltW .len [a] S = .ok (.sh (.p (.int (xs.length : Int)))) S := by
  show (match mapO (den S) [a] with | some ds => bltD .len ds S | none => .bad) = _
  unfold mapO
  rcases h with h | h <;> rw [h] <;> rfl
theorem den_app {a : W} {S : Sto} {d : D} {c : Option Cell} (h : den S a = some d) : den (S ++ [c]) a = some d := by
  cases a with
  | p x => exact h
  | o n =>
    unfold den at h ⊢
    dsimp only at h ⊢
    cases e : S[n]? with
    | none => rw [e] at h; cases h
    | some z =>
      have hn := (List.getElem?_eq_some_iff.mp e).1
      rw [List.getElem?_append_left hn, e]
      rw [e] at h
      exact h
theorem keeps_den {a : W} {S : Sto} {xs : List D} (h : den S a = some (.lst xs) ∨ den S a = some (.tup xs)) : seqW S a = some xs ∧ Keeps (wtOf a xs) S := by
  have hs : seqW S a = some xs := by
    unfold seqW
    rcases h with h | h <;> rw [h] <;> rfl
  exact ⟨hs, by
    cases a with
    | p x => exact keeps_nil S
    | o n =>
      intro p hp
      have hp : p ∈ [(n, xs)] := hp
      rw [List.mem_singleton.mp hp]
      rcases h with h | h
      · unfold den at h
        dsimp only at h
        split at h
        · rename_i ds e
          cases h; exact e
        · cases h
      · unfold den at h
        dsimp only at h
        split at h <;> cases h⟩
/-- a thing is the same as itself -/
def SameOk (F : List W → Sto → R EV) (k : Nat) : Prop := ∀ (a b : W) (S : Sto) (x : D), den S a = some x → den S b = some x → x.pl = true → x.dp ≤ k → F [a, b] S = .ok (.sh (.p (.bl true))) S
theorem dpA_mem {x : D} : ∀ {xs : List D}, x ∈ xs → x.dp ≤ D.dpA xs
  | y :: ys, h => by
    unfold D.dpA
    rcases List.mem_cons.mp h with rfl | h
    · omega
    · have := dpA_mem h; omega
theorem plA_mem {x : D} : ∀ {xs : List D}, D.plA xs = true → x ∈ xs → x.pl = true
  | y :: ys, hp, h => by
    simp only [D.plA, Bool.and_eq_true] at hp
    rcases List.mem_cons.mp h with rfl | h
    · exact hp.1
    · exact plA_mem hp.2 h
theorem atI_nat {xs : List D} {i : Nat} (h : i < xs.length) : atI xs (i : Int) = some xs[i] := by
  unfold atI ixN
  rw [if_pos (by omega), if_pos (by omega)]
  simp [h]
theorem filt_no (ds : List D) : ds.filter (fun _ => false) = [] := by
  induction ds with
  | nil => rfl
  | cons a r ih => rw [List.filter_cons_of_neg (by decide), ih]
theorem same_step {g : Sg} {k j : Nat} (hs : g.F 43 = fnAt B0 TAB 43) (h : ∀ k', k = k' + 1 → SameOk (g.F j) k') (hk : k ≤ 50) : SameOk (evDef g 2 4 (sameBody j)) k := by
  intro a b S x ha hb hp hd
  unfold sameBody
  have s1 := fun S h => sp_sort (a := a) (S := S) hp h
  have s2 := fun S h => sp_sort (a := b) (S := S) hp h
  have hfit : x.fit := ⟨hp, by omega⟩
  -- of a list or a tuple
  have many : ∀ xs : List D, (x = .lst xs ∨ x = .tup xs) → evDef g 2 4 (sameBody j) [a, b] S = .ok (.sh (.p (.bl true))) S := fun xs hx => by
    have hxp : D.plA xs = true := by rcases hx with rfl | rfl <;> simpa [D.pl] using hp
    have hxd : D.dpA xs + 1 ≤ k := by rcases hx with rfl | rfl <;> simpa [D.dp] using hd
    have hda : den S a = some (.lst xs) ∨ den S a = some (.tup xs) := by rcases hx with rfl | rfl <;> simp [ha]
    have hdb : den S b = some (.lst xs) ∨ den S b = some (.tup xs) := by rcases hx with rfl | rfl <;> simp [hb]
    obtain ⟨q1, q2⟩ := keeps_den hda
    obtain ⟨k', rfl⟩ : ∃ k', k = k' + 1 := ⟨k - 1, by omega⟩
    have hF := h k' rfl
    have hc : evE g S.length (.compC (.var 2) [2, 3] false (.enu (.var 0)) (.nt (.v (.call j (.cons (.var 3) (.cons (.ix (.var 1) (.var 2)) .nil)))))) [some a, some b, none, none] S = .ok (.fr (.lst [])) S := by
      have := compC_pure (g := g) (n0 := S.length) (e := .var 2) (tg := [2, 3]) (one := false) (it := .enu (.var 0)) (c := .nt (.v (.call j (.cons (.var 3) (.cons (.ix (.var 1) (.var 2)) .nil))))) (ρ := [some a, some b, none, none]) (S := S)
        (ds := xs.zipIdx.map fun p => .tup [.int (p.2 : Nat), p.1]) (t := wtOf a xs) (fun d => d) (fun _ => false) (by simp [q1]) q2 (by rw [filt_no]; exact Nat.zero_le _) fun d hd acc => ?_
      · rw [filt_no] at this; exact this
      · obtain ⟨p, hp1, rfl⟩ := List.mem_map.mp hd
        have hm : xs[p.2]? = some p.1 := by
          have := List.mem_zipIdx_iff_getElem?.mp hp1
          simpa using this
        have hlt := (List.getElem?_eq_some_iff.mp hm).1
        have hmem := List.mem_of_getElem? hm
        have hat : atI xs (p.2 : Int) = some p.1 := by
          rw [atI_nat hlt]
          rw [List.getElem?_eq_getElem hlt] at hm
          exact hm
        have hix : ∃ db, den (S ++ [some (Cell.lst acc)]) b = some db ∧ ixD db (.int (p.2 : Nat)) = some p.1 := by
          rcases hdb with h1 | h1
          · exact ⟨_, den_app h1, hat⟩
          · exact ⟨_, den_app h1, hat⟩
        obtain ⟨db, h1, h2⟩ := hix
        have hcall := hF (.p p.1) (.p p.1) (S ++ [some (Cell.lst acc)]) p.1 rfl rfl (plA_mem hxp hmem) (by have := dpA_mem hmem; omega)
        refine ⟨[some a, some b, some (.p (.int (p.2 : Nat))), some (.p p.1)], by simp [bindT, wipeR], ?_, fun z => nomatch z⟩
        simp [h1, h2, hcall]
    have hso : (3 : Int) < sortN x ∧ sortN x < 6 := by rcases hx with rfl | rfl <;> (show (3 : Int) < _ ∧ _ < 6; simp [sortN])
    have hne : eqD (.lst []) (.lst []) = some true := by
      rw [eqD_fit ⟨by simp [D.pl, D.plA], by simp [D.dp, D.dpA]⟩ ⟨by simp [D.pl, D.plA], by simp [D.dp, D.dpA]⟩]
      simp [eqv, eqvA]
    unfold sameBody
    simp [run_def, hs, s1 S ha, s2 S hb, hso.1, hso.2, blt_len_den hda, blt_len_den hdb, hc, hne]
  -- of anything else
  have one : ¬ ((3 : Int) < sortN x ∧ sortN x < 6) → evDef g 2 4 (sameBody j) [a, b] S = .ok (.sh (.p (.bl true))) S := fun hso => by
    have he : eqD x x = some true := by rw [eqD_fit hfit hfit, eqv_refl hp]
    have hcm : cmpW .eq a b S = some true := by
      unfold cmpW
      rw [ha, hb]
      exact he
    unfold sameBody
    by_cases h3 : (3 : Int) < sortN x
    · have h6 : ¬ sortN x < 6 := fun z => hso ⟨h3, z⟩
      simp [run_def, hs, s1 S ha, s2 S hb, h3, h6, hcm]
    · simp [run_def, hs, s1 S ha, s2 S hb, h3, hcm]
  cases x with
  | lst xs => exact many xs (.inl rfl)
  | tup xs => exact many xs (.inr rfl)
  | non => exact one (by decide)
  | bl b => exact one (by simp [sortN])
  | int b => exact one (by simp [sortN])
  | str b => exact one (by simp [sortN])
  | fn _ => simp [D.pl] at hp
  | dic _ _ => simp [D.pl] at hp
theorem same0 : SameOk (fnAt B0 TAB 44) 0 := by
  intro a b S x ha hb hp hd
  have e : (CE.call 99 (.cons (.var 3) (.cons (.ix (.var 1) (.var 2)) .nil))) = CE.call 99 (.cons (.var 3) (.cons (.ix (.var 1) (.var 2)) .nil)) := rfl
  have hso : ¬ ((3 : Int) < sortN x ∧ sortN x < 6) := by
    cases x <;> first | (simp [D.dp] at hd; done) | simp [sortN]
  have s1 := sp_sort (a := a) (S := S) hp ha
  have s2 := sp_sort (a := b) (S := S) hp hb
  have he : eqD x x = some true := by rw [eqD_fit ⟨hp, by omega⟩ ⟨hp, by omega⟩, eqv_refl hp]
  have hcm : cmpW .eq a b S = some true := by
    unfold cmpW
    rw [ha, hb]
    exact he
  rw [f__law_same_0]
  unfold i__law_same_0
  by_cases h3 : (3 : Int) < sortN x
  · have h6 : ¬ sortN x < 6 := fun z => hso ⟨h3, z⟩
    simp [run_def, s1, s2, h3, h6, hcm]
  · simp [run_def, s1, s2, h3, hcm]
theorem same1 : SameOk (fnAt B0 TAB 45) 1 := by
  rw [f__law_same_1, show i__law_same_1 = sameBody 44 from rfl]
  exact same_step (G_F (by decide) (by decide)) (fun k e => by cases e; rw [G_F (by decide) (by decide)]; exact same0) (by decide)
theorem same2 : SameOk (fnAt B0 TAB 46) 2 := by
  rw [f__law_same_2, show i__law_same_2 = sameBody 45 from rfl]
  exact same_step (G_F (by decide) (by decide)) (fun k e => by cases e; rw [G_F (by decide) (by decide)]; exact same1) (by decide)
theorem same3 : SameOk (fnAt B0 TAB 47) 3 := by
  rw [f__law_same_3, show i__law_same_3 = sameBody 46 from rfl]
  exact same_step (G_F (by decide) (by decide)) (fun k e => by cases e; rw [G_F (by decide) (by decide)]; exact same2) (by decide)
theorem same4 : SameOk (fnAt B0 TAB 48) 4 := by
  rw [f__law_same_4, show i__law_same_4 = sameBody 47 from rfl]
  exact same_step (G_F (by decide) (by decide)) (fun k e => by cases e; rw [G_F (by decide) (by decide)]; exact same3) (by decide)
theorem same5 : SameOk (fnAt B0 TAB 49) 5 := by
  rw [f__law_same_5, show i__law_same_5 = sameBody 48 from rfl]
  exact same_step (G_F (by decide) (by decide)) (fun k e => by cases e; rw [G_F (by decide) (by decide)]; exact same4) (by decide)
theorem same6 : SameOk (fnAt B0 TAB 50) 6 := by
  rw [f__law_same_6, show i__law_same_6 = sameBody 49 from rfl]
  exact same_step (G_F (by decide) (by decide)) (fun k e => by cases e; rw [G_F (by decide) (by decide)]; exact same5) (by decide)
theorem sp_same : SameOk (fnAt B0 TAB 51) 7 := by
  rw [f__law_same_7, show i__law_same_7 = sameBody 50 from rfl]
  exact same_step (G_F (by decide) (by decide)) (fun k e => by cases e; rw [G_F (by decide) (by decide)]; exact same6) (by decide)
end LW

set_option Elab.async false
set_option linter.all false
set_option maxRecDepth 100000
set_option maxHeartbeats 8000000
/-! SP16: the law's lines. -/
namespace LW
open PySem PySem.Spec PyProof.Rows L2 DL
def sharP (r : List Int) (p : Int × Int) : List Int := r.set p.1.toNat (r.getD p.1.toNat 0 + p.2)
@[simp] theorem sharP_len (r : List Int) (p : Int × Int) : (sharP r p).length = r.length := by simp [sharP]
def partsOf (n : Nat) (ps : List (Int × Int)) : List Int := ps.foldl sharP (List.replicate (n + 2) 0)
theorem parts_loop (g : Sg) (n0 : Nat) (S : Sto) : ∀ (ps : List (Int × Int)) (r : List Int) (ρ : Rho), ρ[2]? = some (some (.o S.length)) → ρ.length = 5 → (∀ p ∈ ps, 0 ≤ p.1 ∧ p.1 < r.length) →
    ∃ ρ', fLoop [] (forB g n0 false [3, 4] (.seq (.sub 2 (.var 3) (.bin .add (.ix (.var 2) (.var 3)) (.var 4))) .nil)) (ps.map fr) ρ (S ++ [some (.lst (zL r))]) = .nx ρ' (S ++ [some (.lst (zL (ps.foldl sharP r)))]) ∧ ρ'[2]? = some (some (.o S.length))
  | [], r, ρ, h4, hl, _ => ⟨ρ, fLoop_nil _ _ _ _, h4⟩
  | p :: ps, r, ρ, h4, hl, hp => by
    obtain ⟨p1, p2⟩ := hp p List.mem_cons_self
    obtain ⟨a1, a2⟩ := atI_zL (r := r) (i := p.1) (by omega) p2
    let ρ1 : Rho := (ρ.set 3 (some (.p (.int p.1)))).set 4 (some (.p (.int p.2)))
    have g4 : ρ1[2]? = some (some (.o S.length)) := by simp [ρ1, h4]
    have g5 : ρ1[3]? = some (some (.p (.int p.1))) := by simp [ρ1, hl]
    have g6 : ρ1[4]? = some (some (.p (.int p.2))) := by simp [ρ1, hl]
    have ho : ∀ (xs : List D), objL ρ1 (S ++ [some (.lst xs)]) 2 = some (S.length, xs) := fun xs => objL_of g4 (by simp)
    have hd : ∀ (xs : List D), den (S ++ [some (.lst xs)]) (.o S.length) = some (.lst xs) := fun xs => den_o (by simp)
    have hb : bindT false [3, 4] (fr p) ρ = some ρ1 := by simp [bindT, fr, ρ1]
    obtain ⟨ρ', e1, e2⟩ := parts_loop g n0 S ps (sharP r p) ρ1 g4 (by simp [ρ1, hl]) (fun q hq => by rw [sharP_len]; exact hp q (List.mem_cons_of_mem _ hq))
    refine ⟨ρ', ?_, e2⟩
    rw [List.map_cons, fLoop_cons (ρ' := ρ1) (S' := S ++ [some (.lst (zL (sharP r p)))]) _ _ _ _ _ _ ?_ (keeps_nil _)]
    · exact e1
    · rw [forB_some g n0 hb]
      simp only [s_seq, s_sub, ho, e_bin, e_ix, e_var, g4, g5, g6, R.w_sh, R.bind_ok, R.st_ok, hd, ixD_l, a1, a2, rOpt_some, bin_add, s_nil, SR.bind_nx]
      simp [sharP, set_zL, a2]
theorem sp_parts {n : Nat} (hn : n ≤ 100) (ps : List (Int × Int)) (hp : ∀ p ∈ ps, 0 ≤ p.1 ∧ p.1 < n + 2) (S : Sto) :
    fnAt B0 TAB 52 [.p (.int n), .p (.lst (ps.map fr))] S = .ok (.sh (.p (.tup (zL (partsOf n ps))))) S := by
  rw [f__law_parts_of]
  unfold i__law_parts_of
  obtain ⟨ρ', e1, e2⟩ := parts_loop (gAt B0 TAB 52) S.length S ps (List.replicate (n + 2) 0) [some (.p (.int n)), some (.p (.lst (ps.map fr))), some (.o S.length), none, none] rfl rfl (fun p h => by
    have := hp p h
    simp only [List.length_replicate]; omega)
  have hr : ∀ S : Sto, binW .mul (.p (.lst [.int 0])) (.p (.int (2 + (n : Int)))) S = .ok (.fr (.lst (zL (List.replicate (n + 2) 0)))) S := fun S => by
    have := rep_zL (n := n + 2) (by omega) S
    rw [show (2 + (n : Int)) = ((n + 2 : Nat) : Int) by omega]
    exact this
  have h1 : evS (gAt B0 TAB 52) S.length (.asgO 2 (.bin .mul (.lst (.cons (.int 0) .nil)) (.bin .add (.int 2) (.var 0)))) [some (.p (.int n)), some (.p (.lst (ps.map fr))), none, none, none] S =
      .nx [some (.p (.int n)), some (.p (.lst (ps.map fr))), some (.o S.length), none, none] (S ++ [some (.lst (zL (List.replicate (n + 2) 0)))]) := by
    simp [hr]
  have h2 : evS (gAt B0 TAB 52) S.length (.ret (.blt .tuple (.cons (.var 2) .nil))) ρ' (S ++ [some (.lst (zL (partsOf n ps)))]) = .rt (.sh (.p (.tup (zL (partsOf n ps))))) (S ++ [some (.lst (zL (partsOf n ps)))]) := by
    simp [e2, blt_tupO (n := S.length) (ds := zL (partsOf n ps))]
  rw [run_def (by rfl), s_seq]
  show fin S.length ((evS _ _ _ [some (.p (.int n)), some (.p (.lst (ps.map fr))), none, none, none] S).bind _) = _
  rw [h1, SR.bind_nx, s_seq, s_for]
  simp only [i_seq, e_var, R.w_sh, R.bind_ok, List.getElem?_cons_succ, List.getElem?_cons_zero, iterW_l, rOpt_some, R.st_ok]
  rw [e1, SR.bind_nx, s_seq]
  show fin S.length ((evS _ _ _ ρ' (S ++ [some (.lst (zL (partsOf n ps)))])).bind _) = _
  rw [h2]
  simp
/-! ### parts are rows -/
def shf (p : Int × Int) : Int × Int := (2 + p.1, p.2)
theorem parts_row (n : Nat) (a b : Int) (qs : List (Int × Int)) : partsOf n ((0, a) :: (1, b) :: qs.map shf) = rowOf n a b qs := by
  unfold partsOf rowOf
  rw [List.foldl_cons, List.foldl_cons]
  have e : sharP (sharP (List.replicate (n + 2) 0) (0, a)) (1, b) = a :: b :: List.replicate n 0 := by
    simp [sharP, List.replicate_succ]
  rw [e, List.foldl_map]
  rfl
theorem parts_0 (n : Nat) (qs : List (Int × Int)) : partsOf n ((0, 0) :: qs) = partsOf n qs := by
  unfold partsOf
  rw [List.foldl_cons]
  have e : sharP (List.replicate (n + 2) 0) (0, 0) = List.replicate (n + 2) 0 := by simp [sharP, List.replicate_succ]
  rw [e]
theorem parts_1 (n : Nat) (a : Int) (qs : List (Int × Int)) : partsOf n ((0, a) :: (1, 0) :: qs) = partsOf n ((0, a) :: qs) := by
  unfold partsOf
  rw [List.foldl_cons, List.foldl_cons, List.foldl_cons]
  have e : sharP (sharP (List.replicate (n + 2) 0) (0, a)) (1, 0) = sharP (List.replicate (n + 2) 0) (0, a) := by simp [sharP, List.replicate_succ]
  rw [e]
theorem row_00 (n : Nat) (qs : List (Int × Int)) : partsOf n (qs.map shf) = rowOf n 0 0 qs := by rw [← parts_row, parts_1, parts_0]
theorem row_0 (n : Nat) (b : Int) (qs : List (Int × Int)) : partsOf n ((1, b) :: qs.map shf) = rowOf n 0 b qs := by rw [← parts_row, parts_0]
theorem negR_share (r : List Int) (p : Int × Int) : negR (share r p) = share (negR r) (p.1, -p.2) := by
  unfold negR share
  rw [List.map_set]
  congr 1
  by_cases h : (2 + p.1).toNat < r.length
  · simp [h, List.getD_eq_getElem?_getD]; omega
  · simp [List.getD_eq_getElem?_getD, List.getElem?_eq_none (Nat.le_of_not_lt h)]
theorem negR_row (n : Nat) (a b : Int) (qs : List (Int × Int)) : negR (rowOf n a b qs) = rowOf n (-a) (-b) (qs.map fun p => (p.1, -p.2)) := by
  unfold rowOf
  have e : negR (a :: b :: List.replicate n 0) = -a :: -b :: List.replicate n 0 := by simp [negR]
  rw [← e]
  generalize (a :: b :: List.replicate n 0) = r
  induction qs generalizing r with
  | nil => rfl
  | cons p ps ih =>
    rw [List.map_cons, List.foldl_cons, List.foldl_cons, ih, negR_share]
end LW

set_option Elab.async false
set_option linter.all false
set_option maxRecDepth 100000
set_option maxHeartbeats 8000000
/-! SP17: the law's lines of a fact. -/
namespace LW
open PySem PySem.Spec PyProof.Rows L2 DL
@[simp] theorem take_app2 {α : Type} (S T U : List α) : ((S ++ T) ++ U).take S.length = S := by
  rw [List.append_assoc]; simp
theorem bin_catO {c : Nat} {xs ys : List D} {S : Sto} (h : S[c]? = some (some (.lst xs))) : binW .add (.o c) (.p (.lst ys)) S = if xs.length + ys.length ≤ sizeLine then .ok (.fr (.lst (xs ++ ys))) S else .bad := by
  unfold binW
  rw [den_o h]; rfl
def shL (shs : List (List (Int × Int))) : List D := shs.map fun ps => .lst (ps.map fr)
theorem lines_end {m : Nat} (hm : m ≤ 3) (shs : List (List (Int × Int))) (hsh : ∀ ps ∈ shs, ∀ p ∈ ps, 0 ≤ p.1 ∧ p.1 < (m : Int) + 2) (hl : shs.length ≤ 1000) {n0 c : Nat} {ρ : Rho} {S : Sto} (h3 : ρ[3]? = some (some (.o c))) (h0 : ρ[0]? = some (some (.p (.int m)))) (hL : ρ.length = 16)
    (hS : S[c]? = some (some (.lst (shL shs)))) :
    evE (gAt B0 TAB 53) n0 (.comp (.call 52 (.cons (.var 0) (.cons (.var 15) .nil))) [15] true (.seq (.var 3))) ρ S = .ok (.fr (.lst (tupsD (shs.map (partsOf m))))) S := by
  have hq := keeps_den (a := .o c) (S := S) (xs := shL shs) (.inl (den_o hS))
  have := comp_pure (g := gAt B0 TAB 53) (n0 := n0) (e := .call 52 (.cons (.var 0) (.cons (.var 15) .nil))) (tg := [15]) (one := true) (it := .seq (.var 3)) (ρ := ρ) (S := S) (ds := shL shs) (t := wtOf (.o c) (shL shs))
    (fun d => match d with | .lst xs => .tup (zL (partsOf m (xs.map fun d => match d with | .tup [.int a, .int b] => (a, b) | _ => (0, 0)))) | _ => .non) (by simp [h3, hq.1]) hq.2 (size1 (by simpa [shL] using hl)) fun d hd acc => ?_
  · rw [this]
    congr 3
    unfold shL tupsD
    rw [List.map_map, List.map_map]
    refine List.map_congr_left fun ps hps => ?_
    show D.tup (zL (partsOf m ((ps.map fr).map _))) = D.tup (zL (partsOf m ps))
    congr 3
    rw [List.map_map]
    exact (List.map_congr_left fun p _ => rfl).trans (List.map_id ps)
  · obtain ⟨ps, hps, rfl⟩ := List.mem_map.mp hd
    have e := sp_parts (n := m) (by omega) ps (hsh ps hps) (S ++ [some (Cell.lst acc)])
    have e15 : ((wipeR ρ [15]).set 15 (some (.p (.lst (ps.map fr)))))[15]? = some (some (.p (.lst (ps.map fr)))) := by
      rw [List.getElem?_set_self]; simp [wipeR, hL]
    have e0 : ((wipeR ρ [15]).set 15 (some (.p (.lst (ps.map fr)))))[0]? = some (some (.p (.int m))) := by simp [wipeR, h0]
    refine ⟨_, rfl, ?_⟩
    have em : (ps.map fr).map (fun d => match d with | .tup [.int a, .int b] => (a, b) | _ => (0, 0)) = ps := by
      rw [List.map_map]
      exact (List.map_congr_left fun p _ => rfl).trans (List.map_id ps)
    simp [e15, e0, e, em]
theorem cut_2 (xs : List D) (a b : D) : DL.cutD (xs ++ [a, b]) (some (-2)) none = [a, b] := by
  unfold DL.cutD
  have e1 : HT.sIx (xs ++ [a, b]).length 0 (some (-2)) = xs.length := by
    unfold HT.sIx
    simp
    omega
  rw [e1, HT.sIx_none]
  simp
section
variable {m : Nat} (h1 : 1 ≤ m) (h3 : m ≤ 3) (S : Sto)
include h1 h3
theorem lines_len {lo : Int} {hi : Option Int} : fnAt B0 TAB 53 [.p (.int m), .p (Fct.len lo hi).d] S = .ok (.fr (.lst (tupsD ((Fct.len lo hi).rows m)))) S := by
  rw [f__law_lines]
  unfold i__law_lines
  cases hi with
  | none =>
    simp [run_def, Fct.d, optI, setL, objL, fr]
    rw [lines_end h3 [[(0, 1), (1, -lo)]] (by simp only [List.forall_mem_cons, List.not_mem_nil, false_imp_iff, implies_true, and_true]; omega) (by simp) (c := S.length) (by simp) (by simp) (by simp) (by simp [shL, fr])]
    simp [Fct.rows, optL, ← parts_row]
  | some h =>
    simp [run_def, Fct.d, optI, setL, objL, fr]
    rw [lines_end h3 [[(0, 1), (1, -lo)], [(0, -1), (1, h)]] (by simp only [List.forall_mem_cons, List.not_mem_nil, false_imp_iff, implies_true, and_true]; omega) (by simp) (c := S.length) (by simp) (by simp) (by simp) (by simp [shL, fr])]
    simp [Fct.rows, optL, ← parts_row]
theorem lines_steps {w : Int} {up : Bool} {lo hi : Int} (h : (Fct.steps w up lo hi).ok m) : fnAt B0 TAB 53 [.p (.int m), .p (Fct.steps w up lo hi).d] S = .ok (.fr (.lst (tupsD ((Fct.steps w up lo hi).rows m)))) S := by
  obtain ⟨⟨w0, w1⟩, g2, g3, g4, g5⟩ := h
  rw [f__law_lines]
  unfold i__law_lines
  have b1 : Bd lo 100 := Bd_GR g2 g3
  have b2 : Bd hi 100 := Bd_GR (by omega) g5
  have mm := fun (i : Int) (hi : Bd i 2) (j : Int) (hj : Bd j 100) S => mulB (i := i) (j := j) hi hj (by decide) S
  have o1 : Bd 1 2 := by unfold Bd; decide
  have o2 : Bd (-1) 2 := by unfold Bd; decide
  have hcut : DL.cutD [.str "steps", .int w, wayD up, .int lo, .int hi] (some 3) none = [.int lo, .int hi] := cut_lo (k := 3)
  have e1 := parts_row m 1 (-lo) [(w, -sgn up * lo)]
  have e2 := parts_row m (-1) hi [(w, sgn up * hi)]
  cases up with
  | true =>
    simp only [sgn, if_true] at e1 e2
    simp only [wayD, if_true] at hcut
    simp [run_def, Fct.d, wayD, setL, objL, fr, hcut, bindT, mm 1 o1 lo b1, mm (-1) o2 lo b1, mm 1 o1 hi b2, mm (-1) o2 hi b2]
    rw [lines_end h3 [[(0, 1), (1, -lo), (2 + w, -1 * lo)], [(0, -1), (1, hi), (2 + w, 1 * hi)]] (by simp only [List.forall_mem_cons, List.not_mem_nil, false_imp_iff, implies_true, and_true]; omega) (by simp) (c := S.length + 1) (by simp) (by simp) (by simp) (by simp [shL, fr])]
    simp [shf] at e1 e2
    simp [Fct.rows, sgn, e1, e2]
  | false =>
    simp only [sgn, if_false, Bool.false_eq_true] at e1 e2
    simp only [wayD, if_false, Bool.false_eq_true] at hcut
    simp [run_def, Fct.d, wayD, setL, objL, fr, hcut, bindT, mm 1 o1 lo b1, mm (-1) o2 lo b1, mm 1 o1 hi b2, mm (-1) o2 hi b2]
    rw [lines_end h3 [[(0, 1), (1, -lo), (2 + w, 1 * lo)], [(0, -1), (1, hi), (2 + w, -1 * hi)]] (by simp only [List.forall_mem_cons, List.not_mem_nil, false_imp_iff, implies_true, and_true]; omega) (by simp) (c := S.length + 1) (by simp) (by simp) (by simp) (by simp [shL, fr])]
    simp [shf] at e1 e2
    simp [Fct.rows, sgn, e1, e2]
theorem lines_pace {w : Int} {lo : Int × Int} {hi : Option (Int × Int)} (h : (Fct.pace w lo hi).ok m) : fnAt B0 TAB 53 [.p (.int m), .p (Fct.pace w lo hi).d] S = .ok (.fr (.lst (tupsD ((Fct.pace w lo hi).rows m)))) S := by
  obtain ⟨⟨w0, w1⟩, g2, g3⟩ := h
  rw [f__law_lines]
  unfold i__law_lines
  have e1 := row_0 m lo.2 [(w, -lo.1)]
  cases hi with
  | none =>
    have hcut : DL.cutD [.str "pace", .int w, fr lo, .non] (some (-2)) none = [fr lo, .non] := cut_2 [_, _] _ _
    simp only [fr] at hcut
    simp [run_def, Fct.d, optF, setL, objL, fr, hcut, bindT]
    rw [lines_end h3 [[(1, lo.2), (2 + w, -lo.1)]] (by simp only [List.forall_mem_cons, List.not_mem_nil, false_imp_iff, implies_true, and_true]; omega) (by simp) (c := S.length) (by simp) (by simp) (by simp) (by simp [shL, fr])]
    simp [shf] at e1
    simp [Fct.rows, optL, e1]
  | some h =>
    have e2 := row_0 m (-h.2) [(w, h.1)]
    have hcut : DL.cutD [.str "pace", .int w, fr lo, fr h] (some (-2)) none = [fr lo, fr h] := cut_2 [_, _] _ _
    simp only [fr] at hcut
    simp [run_def, Fct.d, optF, setL, objL, fr, hcut, bindT]
    rw [lines_end h3 [[(1, lo.2), (2 + w, -lo.1)], [(1, -h.2), (2 + w, h.1)]] (by simp only [List.forall_mem_cons, List.not_mem_nil, false_imp_iff, implies_true, and_true]; omega) (by simp) (c := S.length) (by simp) (by simp) (by simp) (by simp [shL, fr])]
    simp [shf] at e1 e2
    simp [Fct.rows, optL, e1, e2]
theorem lines_quick {w o : Int} {lo : Int × Int} {hi : Option (Int × Int)} (h : (Fct.quick w o lo hi).ok m) : fnAt B0 TAB 53 [.p (.int m), .p (Fct.quick w o lo hi).d] S = .ok (.fr (.lst (tupsD ((Fct.quick w o lo hi).rows m)))) S := by
  obtain ⟨⟨w0, w1⟩, ⟨o0, o1⟩, g1, g2, g3⟩ := h
  rw [f__law_lines]
  unfold i__law_lines
  have e1 := row_00 m [(o, lo.2), (w, -lo.1)]
  cases hi with
  | none =>
    have hcut : DL.cutD [.str "quick", .int w, .int o, fr lo, .non] (some (-2)) none = [fr lo, .non] := cut_2 [_, _, _] _ _
    simp only [fr] at hcut
    simp [run_def, Fct.d, optF, setL, objL, fr, hcut, bindT]
    rw [lines_end h3 [[(2 + o, lo.2), (2 + w, -lo.1)]] (by simp only [List.forall_mem_cons, List.not_mem_nil, false_imp_iff, implies_true, and_true]; omega) (by simp) (c := S.length) (by simp) (by simp) (by simp) (by simp [shL, fr])]
    simp [shf] at e1
    simp [Fct.rows, optL, e1]
  | some h =>
    have e2 := row_00 m [(o, -h.2), (w, h.1)]
    have hcut : DL.cutD [.str "quick", .int w, .int o, fr lo, fr h] (some (-2)) none = [fr lo, fr h] := cut_2 [_, _, _] _ _
    simp only [fr] at hcut
    simp [run_def, Fct.d, optF, setL, objL, fr, hcut, bindT]
    rw [lines_end h3 [[(2 + o, lo.2), (2 + w, -lo.1)], [(2 + o, -h.2), (2 + w, h.1)]] (by simp only [List.forall_mem_cons, List.not_mem_nil, false_imp_iff, implies_true, and_true]; omega) (by simp) (c := S.length) (by simp) (by simp) (by simp) (by simp [shL, fr])]
    simp [shf] at e1 e2
    simp [Fct.rows, optL, e1, e2]
theorem lines_meet {w o a b : Int} (h : (Fct.meet w o a b).ok m) : fnAt B0 TAB 53 [.p (.int m), .p (Fct.meet w o a b).d] S = .ok (.fr (.lst (tupsD ((Fct.meet w o a b).rows m)))) S := by
  obtain ⟨⟨w0, w1⟩, ⟨o0, o1⟩, g1, g2, g3⟩ := h
  rw [f__law_lines]
  unfold i__law_lines
  have e1 := parts_row m (-1) (a + b) []
  have e2 := parts_row m 1 (-a - b) []
  have e3 := row_00 m [(o, b), (w, -a)]
  have e4 := row_00 m [(o, -b), (w, a)]
  have e5 := row_0 m 1 [(o, -1)]
  have n1 := negR_row m (-1) (a + b) []
  have n2 := negR_row m 0 0 [(o, b), (w, -a)]
  have hab : -(a + b) = -a - b := by omega
  have hcut : DL.cutD [.str "meet", .int w, .int o, .int a, .int b] (some 3) none = [.int a, .int b] := cut_lo (k := 3)
  have hcat := fun (xs ys : List D) (S : Sto) => bin_catO (c := S.length) (xs := xs) (ys := ys) (S := S ++ [some (.lst xs)]) (by simp)
  simp [run_def, Fct.d, setL, objL, fr, hcut, bindT, hcat]
  rw [lines_end h3 [[(0, -1), (1, a + b)], [(0, 1), (1, -a - b)], [(2 + o, b), (2 + w, -a)], [(2 + o, -b), (2 + w, a)], [(1, 1), (2 + o, -1)]] (by simp only [List.forall_mem_cons, List.not_mem_nil, false_imp_iff, implies_true, and_true]; omega) (by simp) (c := S.length + 1) (by simp) (by simp) (by simp) (by simp [shL, fr])]
  simp [shf] at e1 e2 e3 e4 e5 n1 n2
  rw [hab] at n1
  simp [Fct.rows, e1, e2, e3, e4, e5, n1, n2]
theorem lines_back {w a b : Int} (h : (Fct.back w a b).ok m) : fnAt B0 TAB 53 [.p (.int m), .p (Fct.back w a b).d] S = .ok (.fr (.lst (tupsD ((Fct.back w a b).rows m)))) S := by
  obtain ⟨⟨w0, w1⟩, g2, g3⟩ := h
  rw [f__law_lines]
  unfold i__law_lines
  have e1 := row_0 m (b - a) [(w, -b - a)]
  have e2 := row_0 m (a - b) [(w, b + a)]
  have e3 := parts_row m 1 (-a) [(w, -a)]
  have n1 := negR_row m 0 (b - a) [(w, -b - a)]
  have h1 : -(b - a) = a - b := by omega
  have h2 : -(-b - a) = b + a := by omega
  simp [run_def, Fct.d, setL, objL, fr, bindT]
  rw [lines_end h3 [[(1, b - a), (2 + w, -b - a)], [(1, a - b), (2 + w, b + a)], [(0, 1), (1, -a), (2 + w, -a)]] (by simp only [List.forall_mem_cons, List.not_mem_nil, false_imp_iff, implies_true, and_true]; omega) (by simp) (c := S.length + 1) (by simp) (by simp) (by simp) (by simp [shL, fr])]
  simp only [List.map_cons, List.map_nil, shf, Int.neg_zero, h1, h2] at e1 e2 e3 n1
  simp only [Fct.rows, List.map_cons, List.map_nil, e1, e2, e3, n1]
  simp
theorem sp_lines {f : Fct} (h : f.ok m) : fnAt B0 TAB 53 [.p (.int m), .p f.d] S = .ok (.fr (.lst (tupsD (f.rows m)))) S := by
  cases f with
  | len lo hi => exact lines_len h1 h3 S
  | steps w up lo hi => exact lines_steps h1 h3 S h
  | pace w lo hi => exact lines_pace h1 h3 S h
  | quick w o lo hi => exact lines_quick h1 h3 S h
  | meet w o a b => exact lines_meet h1 h3 S h
  | back w a b => exact lines_back h1 h3 S h
end
end LW

set_option Elab.async false
set_option linter.all false
set_option maxRecDepth 100000
set_option maxHeartbeats 8000000
/-! SP18: errors, written facts, parts of terms. -/
namespace LW
open PySem PySem.Spec PyProof.Rows L2 DL
/-! ### parts of a term -/
@[simp] def hdS : CS → CS
  | .seq a _ => a
  | x => x
@[simp] def tlS : CS → CS
  | .seq _ b => b
  | x => x
@[simp] def bodyS : CS → CS
  | .for_ _ _ _ b => b
  | .ifs _ a _ => a
  | .whl _ b => b
  | x => x
/-! ### errors -/
theorem kin_0 : kinOf excA 0 = some (("number +" : Str), none) := by decide +kernel
theorem kin_1 : kinOf excA 1 = some (("fact +" : Str), none) := by decide +kernel
theorem kin_2 : kinOf excA 2 = some (("facts +" : Str), none) := by decide +kernel
@[simp] theorem try_0 (S : Sto) : tryR (kinOf excA) (.exc ⟨0, []⟩ S) = .ok (.sh (.p (.str "number +"))) S := by
  unfold tryR tryD
  dsimp only
  rw [kin_0]; rfl
@[simp] theorem try_1 (S : Sto) : tryR (kinOf excA) (.exc ⟨1, []⟩ S) = .ok (.sh (.p (.str "fact +"))) S := by
  unfold tryR tryD
  dsimp only
  rw [kin_1]; rfl
@[simp] theorem try_2 (S : Sto) : tryR (kinOf excA) (.exc ⟨2, []⟩ S) = .ok (.sh (.p (.str "facts +"))) S := by
  unfold tryR tryD
  dsimp only
  rw [kin_2]; rfl
theorem sp_fact_rows_0 {d v : D} (hd : d.pl = true) (h : withinB d 1 3 = false) (S : Sto) : fnAt B0 TAB 27 [.p d, .p v] S = .exc ⟨0, []⟩ S := by
  rw [f_fact_rows]
  unfold i_fact_rows
  simp [run_def, sp_need_many hd, h]
theorem sp_fact_rows_1 {m : Int} {v : D} (h1 : 1 ≤ m) (h3 : m ≤ 3) (hv : v.pl = true) (h : isFactB m v = false) (S : Sto) : fnAt B0 TAB 27 [.p (.int m), .p v] S = .exc ⟨1, []⟩ S := by
  rw [f_fact_rows]
  unfold i_fact_rows
  simp [run_def, sp_need_many (d := .int m) (by simp [D.pl]), h1, h3, sp_need_fact hv, h]
/-! ### the document's facts -/
def K1a : Fct := .steps 0 true 12 12
def K1b : Fct := .steps 0 false 36 36
def K2a : Fct := .steps 0 true 10 10
def K3b : Fct := .steps 1 true 20 20
def K3c : Fct := .quick 1 0 (3, 1) (some (3, 1))
def K4 : Fct := .meet 0 1 12 18
def K5 : Fct := .back 0 4 12
def knownD : List D := [.tup [K1a.d, K1b.d], .tup [K2a.d], .tup [K2a.d, K3b.d, K3c.d], .tup [K4.d], .tup [K5.d]]
theorem sp_known (S : Sto) : fnAt B0 TAB 0 [] S = .ok (.sh (.p (.tup knownD))) S := by
  rw [f__law_known]
  unfold i__law_known
  simp [run_def, knownD, K1a, K1b, K2a, K3b, K3c, K4, K5, Fct.d, wayD, fr, optF]
theorem tupsD_pl (rs : List (List Int)) : D.plA (tupsD rs) = true := by
  induction rs with
  | nil => simp [tupsD, D.plA]
  | cons r t ih =>
    have : D.plA (zL r) = true := plA_ints r
    simp only [tupsD, List.map_cons, D.plA, D.pl, this, Bool.true_and]
    exact ih
theorem tupsD_dp (rs : List (List Int)) : D.dpA (tupsD rs) ≤ 1 := by
  induction rs with
  | nil => simp [tupsD, D.dpA]
  | cons r t ih =>
    have : D.dpA (zL r) = 0 := dpA_ints r
    simp only [tupsD, List.map_cons, D.dpA, D.dp, this]
    have ih' : D.dpA (List.map (fun r => D.tup (zL r)) t) ≤ 1 := ih
    omega
theorem ok_rows (rs : List (List Int)) : (D.lst (tupsD rs)).pl = true ∧ (D.lst (tupsD rs)).dp ≤ 2 := ⟨by simp only [D.pl]; exact tupsD_pl rs, by simp only [D.dp]; have := tupsD_dp rs; omega⟩
theorem eqD_rows (rs : List (List Int)) : eqD (.lst (tupsD rs)) (.lst (tupsD rs)) = some true := by
  have h := ok_rows rs
  have hf : (D.lst (tupsD rs)).fit := ⟨h.1, by have := h.2; omega⟩
  rw [eqD_fit hf hf, eqv_refl h.1]
end LW

set_option Elab.async false
set_option linter.all false
set_option maxRecDepth 100000
set_option maxHeartbeats 8000000
/-! SP19: the law's own look at facts. -/
namespace LW
open PySem PySem.Spec PyProof.Rows L2 DL
@[simp] theorem B0C_3 : B0C 3 = .int 6 := rfl
theorem sp_is_fact {n : D} {d : D} (hn : n.pl = true) (hd : d.pl = true) (S : Sto) : fnAt B0 TAB 55 [.p n, .p d] S = if withinB n 1 3 = true then .ok (.sh (.p (.bl (isFactB (intD n) d)))) S else .exc ⟨0, []⟩ S := by
  rw [f_is_fact]
  unfold i_is_fact
  cases h : withinB n 1 3 with
  | false => simp [run_def, sp_need_many hn, h]
  | true =>
    obtain ⟨i, rfl, h1, h2⟩ := within_of h
    simp [run_def, sp_need_many hn, h1, h2, sp_fact hd, intD]
def areFactsB (m : Int) (d : D) : Bool := match d with
  | .tup xs => decide (xs.length ≤ 6) && xs.all (isFactB m)
  | _ => false
theorem all_facts (g : Sg) (hg : g.F 16 = fnAt B0 TAB 16) {xs : List D} (hx : D.plA xs = true) (hl : xs.length ≤ 1000) (m : Int) {n0 : Nat} (S : Sto) :
    evE g n0 (.comp (.call 16 (.cons (.var 0) (.cons (.var 2) .nil))) [2] true (.seq (.var 1))) [some (.p (.int m)), some (.p (.tup xs)), none] S = .ok (.fr (.lst ((xs.map (isFactB m)).map D.bl))) S := by
  have := comp_pure (g := g) (n0 := n0) (e := .call 16 (.cons (.var 0) (.cons (.var 2) .nil))) (tg := [2]) (one := true) (it := .seq (.var 1)) (ρ := [some (.p (.int m)), some (.p (.tup xs)), none]) (S := S) (ds := xs) (t := []) (fun d => .bl (isFactB m d)) (by simp) (keeps_nil S) (size1 hl) fun d hd acc => ?_
  · rw [this, List.map_map]; rfl
  · have hp := plA_mem hx hd
    refine ⟨_, rfl, ?_⟩
    simp [wipeR, hg, sp_fact hp]
theorem sp_facts {d : D} (hd : d.pl = true) (m : Int) (S : Sto) : fnAt B0 TAB 56 [.p (.int m), .p d] S = .ok (.sh (.p (.bl (areFactsB m d)))) S := by
  rw [f_are_facts_value]
  unfold i_are_facts_value
  cases hi : itemsB d 0 6 with
  | false =>
    have : areFactsB m d = false := by
      cases d <;> first | rfl | skip
      rename_i xs
      simp [itemsB] at hi
      simp [areFactsB]; omega
    simp [run_def, sp_items hd, hi, this]
  | true =>
    cases d <;> first | (cases hi; done) | skip
    rename_i xs
    have hl : xs.length ≤ 6 := by simp [itemsB] at hi; omega
    have hx : D.plA xs = true := by simpa [D.pl] using hd
    have h1 := all_facts (gAt B0 TAB 56) (G_F (by decide) (by decide)) hx (by omega) m (n0 := S.length) S
    have h2 := blt_all (bs := xs.map (isFactB m)) (S := S)
    have h3 : (xs.map (isFactB m)).all id = xs.all (isFactB m) := by rw [List.all_map]; rfl
    rw [h3] at h2
    simp only [List.map_map] at h1 h2
    simp [run_def, sp_items hd, hi, h1, h2, areFactsB, hl]
theorem sp_are_facts {n : D} {d : D} (hn : n.pl = true) (hd : d.pl = true) (S : Sto) : fnAt B0 TAB 57 [.p n, .p d] S = if withinB n 1 3 = true then .ok (.sh (.p (.bl (areFactsB (intD n) d)))) S else .exc ⟨0, []⟩ S := by
  rw [f_are_facts]
  unfold i_are_facts
  cases h : withinB n 1 3 with
  | false => simp [run_def, sp_need_many hn, h]
  | true =>
    obtain ⟨i, rfl, h1, h2⟩ := within_of h
    simp [run_def, sp_need_many hn, h1, h2, sp_facts hd, intD]
/-! ### the law's words -/
def wholeB : D → Bool
  | .int _ => true
  | _ => false
theorem sp_whole {d : D} (hd : d.pl = true) (S : Sto) : fnAt B0 TAB 60 [.p d] S = .ok (.sh (.p (.bl (wholeB d)))) S := by
  rw [f__law_whole]
  unfold i__law_whole
  cases d <;> first | (simp [D.pl] at hd; done) | simp [run_def, isTy, wholeB]
theorem sp_number {d : D} (hd : d.pl = true) (lo hi : Int) (S : Sto) : fnAt B0 TAB 69 [.p d, .p (.int lo), .p (.int hi)] S = .ok (.sh (.p (.bl (withinB d lo hi)))) S := by
  rw [f__law_number_so]
  unfold i__law_number_so
  cases d <;> first | (simp [D.pl] at hd; done) | simp [run_def, sp_whole, D.pl, wholeB, withinB] at *
  · simp [sp_whole (d := .non) (by simp [D.pl]), wholeB]
  · rename_i b; simp [sp_whole (d := .bl b) (by simp [D.pl]), wholeB]
  · rename_i i
    by_cases h : lo ≤ i <;> simp [sp_whole (d := .int i) (by simp [D.pl]), wholeB, h]
  · rename_i z; simp [sp_whole (d := .str z) (by simpa [D.pl] using hd), wholeB]
  · rename_i z; simp [sp_whole (d := .lst z) (by simpa [D.pl] using hd), wholeB]
  · rename_i z; simp [sp_whole (d := .tup z) (by simpa [D.pl] using hd), wholeB]
theorem lowI_self {a b : Int} (ha : 1 ≤ a) (hb : 1 ≤ b) : lowI a b = (a, b) ↔ Int.gcd a b = 1 := by
  constructor
  · intro h
    have := lowI_gcd (t := a) (b := b) (by omega)
    rw [h] at this
    exact this
  · intro h
    unfold lowI
    rw [if_pos (by omega), h]
    simp
theorem sp_is_part {d : D} (hd : d.pl = true) (S : Sto) : fnAt B0 TAB 70 [.p d] S = .ok (.sh (.p (.bl (quotB d)))) S := by
  rw [f__law_is_part]
  unfold i__law_is_part
  have hp : ∀ S : Sto, binW .pow (.p (.int 10)) (.p (.int 12)) S = .ok (.sh (.p (.int LG))) S := fun S => bin_pow (by decide) (by decide) (by decide)
  cases d <;> first | (simp [D.pl] at hd; done) | skip
  case tup xs =>
    match xs, hd with
    | [], hd => simp [run_def, isTy, quotB]
    | [x], hd => simp [run_def, isTy, quotB]
    | x :: y :: z :: r, hd =>
      have : ¬ ((r.length : Int) + 1 + 1 + 1 = 2) := by omega
      simp [run_def, isTy, quotB, this]
    | [a, b], hd =>
      have ha := pl_tup hd a (by simp)
      have hb := pl_tup hd b (by simp)
      cases h1 : withinB a 1 LG with
      | false => simp [run_def, isTy, quotB, sp_number ha, h1, hp]
      | true =>
        cases h2 : withinB b 1 LG with
        | false => simp [run_def, isTy, quotB, sp_number ha, sp_number hb, h1, h2, hp]
        | true =>
          obtain ⟨i, rfl, i1, i2⟩ := within_of h1
          obtain ⟨j, rfl, j1, j2⟩ := within_of h2
          have hl := fun S => sp_low (t := i) (b := j) (k := 40) (by omega) (Bd_LG i1 i2) (Bd_LG j1 j2) (by decide) S
          have he : eqD (fr (lowI i j)) (.tup [.int i, .int j]) = some (decide (Int.gcd i j = 1)) := by
            rw [eqD_fit ⟨pl_fr _, by simp [fr, D.dp, D.dpA]⟩ ⟨by simp [D.pl, D.plA], by simp [D.dp, D.dpA]⟩]
            congr 1
            have e := lowI_self i1 j1
            by_cases h : Int.gcd i j = 1
            · rw [decide_eq_true h, e.mpr h]; simp [fr, eqv, eqvA]
            · rw [decide_eq_false h]
              have h' : ¬ lowI i j = (i, j) := fun z => h (e.mp z)
              generalize lowI i j = p at h'
              simp only [fr, eqv, eqvA, Bool.and_true]
              rw [Bool.eq_false_iff]
              intro z
              simp only [Bool.and_eq_true, beq_iff_eq] at z
              exact h' (Prod.ext z.1 z.2)
          simp only [within_int] at h1 h2
          simp [run_def, isTy, quotB, sp_number ha, sp_number hb, h1, h2, hp, hl, he, intD]
          exact decide_eq_decide.mpr Iff.rfl
  all_goals simp [run_def, isTy, quotB]
theorem sp_are_parts {a b : D} (ha : a.pl = true) (hb : b.pl = true) (S : Sto) : fnAt B0 TAB 71 [.p a, .p b] S = .ok (.sh (.p (.bl (quotsB a b)))) S := by
  rw [f__law_are_parts]
  unfold i__law_are_parts
  cases h : quotB a with
  | false => simp [run_def, sp_is_part ha, h, quotsB]
  | true =>
    cases h2 : quotB b with
    | false => cases b <;> first | (simp [D.pl] at hb; done) | simp [run_def, sp_is_part ha, sp_is_part hb, h, h2, quotsB, isNon]
    | true =>
      obtain ⟨p, q, rfl, p1, p2, q1, q2, _⟩ := quot_of h
      obtain ⟨r, s, rfl, r1, r2, s1, s2, _⟩ := quot_of h2
      have m1 := fun S => mulB (Bd_LG p1 p2) (Bd_LG s1 s2) (by decide) S
      have m2 := fun S => mulB (Bd_LG r1 r2) (Bd_LG q1 q2) (by decide) S
      simp [run_def, sp_is_part ha, sp_is_part hb, h, h2, quotsB, isNon, m1, m2]
      have e : (p * s ≤ r * q) ↔ ¬ (r * q < p * s) := by omega
      first
        | exact decide_eq_decide.mpr Iff.rfl
        | (by_cases hh : r * q < p * s <;> simp [hh, e])
end LW

set_option Elab.async false
set_option linter.all false
set_option maxRecDepth 100000
set_option maxHeartbeats 8000000
/-! SP20: the law's own look at a fact. -/
namespace LW
open PySem PySem.Spec PyProof.Rows L2 DL
/-- how many items a word wants behind it -/
def wantN (w : Str) : Option Nat := if w = ("length" : Str) then some 2 else if w = ("steps" : Str) then some 4 else if w = ("pace" : Str) then some 3 else if w = ("quick" : Str) then some 4 else if w = ("meet" : Str) then some 4 else if w = ("back" : Str) then some 3 else none
theorem want_of {m : Int} {w : Str} {rest : List D} (h : isFactB m (.tup (.str w :: rest)) = true) : wantN w = some rest.length := by
  match rest, h with
  | [], h => cases h
  | [a], h => cases h
  | [a, b], h =>
    simp only [isFactB, Bool.and_eq_true, decide_eq_true_eq] at h
    obtain ⟨rfl, _⟩ := h
    simp [wantN]
  | [a, b, c], h =>
    simp only [isFactB, Bool.or_eq_true, Bool.and_eq_true, decide_eq_true_eq] at h
    rcases h with ⟨rfl, _⟩ | ⟨rfl, _⟩ <;> simp [wantN]
  | [a, b, c, d], h =>
    simp only [isFactB, Bool.or_eq_true, Bool.and_eq_true, decide_eq_true_eq] at h
    rcases h with ⟨rfl, _⟩ | ⟨rfl, _⟩ | ⟨rfl, _⟩ <;> simp [wantN]
  | a :: b :: c :: d :: e :: r, h => cases h
theorem want_no {m : Int} {w : Str} {rest : List D} (h : wantN w ≠ some rest.length) : isFactB m (.tup (.str w :: rest)) = false := by
  cases e : isFactB m (.tup (.str w :: rest)) with
  | false => rfl
  | true => exact absurd (want_of e) h
theorem eq_unit {x : D} {r : List D} (h : (D.tup (x :: r)).fit) : eqD (.tup (x :: r)) (.tup []) = some false := by
  rw [eqD_fit h ⟨by simp [D.pl, D.plA], by simp [D.dp, D.dpA]⟩]
  simp [eqv, eqvA]
theorem eq_unit0 : eqD (.tup []) (.tup []) = some true := by
  rw [eqD_fit ⟨by simp [D.pl, D.plA], by simp [D.dp, D.dpA]⟩ ⟨by simp [D.pl, D.plA], by simp [D.dp, D.dpA]⟩]
  simp [eqv, eqvA]
theorem p30 (S : Sto) : binW .pow (.p (.int 10)) (.p (.int 30)) S = .ok (.sh (.p (.int GR))) S := bin_pow (by decide) (by decide) (by decide)
theorem p12 (S : Sto) : binW .pow (.p (.int 10)) (.p (.int 12)) S = .ok (.sh (.p (.int LG))) S := bin_pow (by decide) (by decide) (by decide)
theorem cut_1 (x : D) (r : List D) : DL.cutD (x :: r) (some 1) none = r := cut_lo (k := 1)
theorem nd6 : (["length", "steps", "pace", "quick", "meet", "back"] : List Str).Nodup := by decide +kernel
theorem in_way {x : Str} (h : PyData.strOk x = true) : inD (.str x) [.str "with", .str "against"] = some (wayB (.str x)) := by
  have := inD_str (x := x) h ["with", "against"] (by decide +kernel)
  simp only [List.map_cons, List.map_nil] at this
  rw [this]
  simp [wayB]
  rw [Bool.or_comm]
theorem law_fact_str {m : Int} {w : Str} {rest : List D} (hd : (D.tup (.str w :: rest)).fit) (S : Sto) : fnAt B0 TAB 72 [.p (.int m), .p (.tup (.str w :: rest))] S = .ok (.sh (.p (.bl (isFactB m (.tup (.str w :: rest)))))) S := by
  rw [f__law_is_fact]
  have hw : PyData.strOk w = true := by simpa [D.pl] using pl_tup hd.1 _ (List.mem_cons_self)
  have hr : ∀ x ∈ rest, x.pl = true := fun x hx => pl_tup hd.1 x (List.mem_cons_of_mem _ hx)
  have eu := eq_unit hd
  unfold i__law_is_fact
  by_cases c1 : w = ("length" : Str)
  · subst c1
    by_cases hl : rest.length = 2
    · match rest, hl, hr, eu with
      | [a, b], _, hr, eu =>
        have ha := hr a (by simp)
        have hb := hr b (by simp)
        cases h1 : withinB a 1 GR with
        | false => simp [run_def, isTy, eu, setL, cut_1, dispV, conV, nd6, dGet, p30, sp_number ha, h1, isFactB, lenB]
        | true =>
          obtain ⟨i, rfl, i1, i2⟩ := within_of h1
          cases b <;> first | (simp [D.pl] at hb; done) | simp [run_def, isTy, eu, setL, cut_1, dispV, conV, nd6, dGet, p30, sp_number ha, sp_number hb, i1, i2, isFactB, lenB, isNon, intD]
    · have : ¬ (rest.length : Int) = 2 := by omega
      have no := want_no (m := m) (w := ("length" : Str)) (rest := rest) (by simp [wantN]; omega)
      simp [run_def, isTy, eu, setL, cut_1, dispV, conV, nd6, dGet, this, no]
  · by_cases c2 : w = ("steps" : Str)
    · subst c2
      by_cases hl : rest.length = 4
      · match rest, hl, hr, eu with
        | [a, b, c, d], _, hr, eu =>
          have ha := hr a (by simp)
          have hb := hr b (by simp)
          have hc := hr c (by simp)
          have he := hr d (by simp)
          cases h1 : withinB a 0 (m - 1) with
          | false => simp [run_def, isTy, eu, setL, cut_1, dispV, conV, nd6, dGet, p30, sp_number ha, h1, isFactB, stepsB]
          | true =>
            have way : ∃ v : Bool, v = wayB b := ⟨_, rfl⟩
            cases b <;> first
              | (simp [D.pl] at hb; done)
              | (simp [run_def, isTy, eu, setL, cut_1, dispV, conV, nd6, dGet, p30, sp_number ha, h1, isFactB, stepsB, wayB]; done)
              | skip
            rename_i z _
            have hz : PyData.strOk z = true := by simpa [D.pl] using hb
            cases hv : wayB (.str z) with
            | false => simp [run_def, isTy, eu, setL, cut_1, dispV, conV, nd6, dGet, p30, sp_number ha, h1, isFactB, stepsB, in_way hz, hv]
            | true =>
              cases h2 : withinB c 1 GR with
              | false => simp [run_def, isTy, eu, setL, cut_1, dispV, conV, nd6, dGet, p30, sp_number ha, sp_number hc, h1, h2, isFactB, stepsB, in_way hz, hv]
              | true =>
                obtain ⟨i, rfl, i1, i2⟩ := within_of h2
                simp [run_def, isTy, eu, setL, cut_1, dispV, conV, nd6, dGet, p30, sp_number ha, sp_number hc, sp_number he, h1, i1, i2, isFactB, stepsB, in_way hz, hv, intD]
      · have : ¬ (rest.length : Int) = 4 := by omega
        have no := want_no (m := m) (w := ("steps" : Str)) (rest := rest) (by simp [wantN]; omega)
        simp [run_def, isTy, eu, setL, cut_1, dispV, conV, nd6, dGet, this, no]
    · by_cases c3 : w = ("pace" : Str)
      · subst c3
        by_cases hl : rest.length = 3
        · match rest, hl, hr, eu with
          | [a, b, c], _, hr, eu =>
            have ha := hr a (by simp)
            have hb := hr b (by simp)
            have hc := hr c (by simp)
            cases h1 : withinB a 0 (m - 1) <;> simp [run_def, isTy, eu, setL, cut_1, dispV, conV, nd6, dGet, p30, sp_number ha, h1, isFactB, sp_are_parts hb hc]
        · have : ¬ (rest.length : Int) = 3 := by omega
          have no := want_no (m := m) (w := ("pace" : Str)) (rest := rest) (by simp [wantN]; omega)
          simp [run_def, isTy, eu, setL, cut_1, dispV, conV, nd6, dGet, this, no]
      · by_cases c4 : w = ("quick" : Str)
        · subst c4
          by_cases hl : rest.length = 4
          · match rest, hl, hr, eu with
            | [a, b, c, d], _, hr, eu =>
              have ha := hr a (by simp)
              have hb := hr b (by simp)
              have hc := hr c (by simp)
              have he := hr d (by simp)
              cases h1 : withinB a 0 (m - 1) with
              | false => simp [run_def, isTy, eu, setL, cut_1, dispV, conV, nd6, dGet, p30, sp_number ha, h1, isFactB, twoB]
              | true =>
                cases h2 : withinB b 0 (m - 1) with
                | false => simp [run_def, isTy, eu, setL, cut_1, dispV, conV, nd6, dGet, p30, sp_number ha, sp_number hb, h1, h2, isFactB, twoB]
                | true =>
                  obtain ⟨i, rfl, _, _⟩ := within_of h1
                  obtain ⟨j, rfl, _, _⟩ := within_of h2
                  simp only [within_int] at h1 h2
                  by_cases hij : j = i
                  · subst hij
                    simp [run_def, isTy, eu, setL, cut_1, dispV, conV, nd6, dGet, p30, sp_number ha, sp_number hb, h1, h2, isFactB, twoB, intD]
                  · have hji : ¬ i = j := fun z => hij z.symm
                    simp [run_def, isTy, eu, setL, cut_1, dispV, conV, nd6, dGet, p30, sp_number ha, sp_number hb, h1, h2, isFactB, twoB, intD, hij, hji, sp_are_parts hc he]
          · have : ¬ (rest.length : Int) = 4 := by omega
            have no := want_no (m := m) (w := ("quick" : Str)) (rest := rest) (by simp [wantN]; omega)
            simp [run_def, isTy, eu, setL, cut_1, dispV, conV, nd6, dGet, this, no]
        · by_cases c5 : w = ("meet" : Str)
          · subst c5
            by_cases hl : rest.length = 4
            · match rest, hl, hr, eu with
              | [a, b, c, d], _, hr, eu =>
                have ha := hr a (by simp)
                have hb := hr b (by simp)
                have hc := hr c (by simp)
                have he := hr d (by simp)
                cases h1 : withinB a 0 (m - 1) with
                | false => simp [run_def, isTy, eu, setL, cut_1, dispV, conV, nd6, dGet, p12, sp_number ha, h1, isFactB, twoB]
                | true =>
                  cases h2 : withinB b 0 (m - 1) with
                  | false => simp [run_def, isTy, eu, setL, cut_1, dispV, conV, nd6, dGet, p12, sp_number ha, sp_number hb, h1, h2, isFactB, twoB]
                  | true =>
                    obtain ⟨i, rfl, _, _⟩ := within_of h1
                    obtain ⟨j, rfl, _, _⟩ := within_of h2
                    simp only [within_int] at h1 h2
                    by_cases hij : j = i
                    · subst hij
                      simp [run_def, isTy, eu, setL, cut_1, dispV, conV, nd6, dGet, p12, sp_number ha, sp_number hb, h1, h2, isFactB, twoB, intD]
                    · have hji : ¬ i = j := fun z => hij z.symm
                      cases h3 : withinB c 1 LG <;> simp [run_def, isTy, eu, setL, cut_1, dispV, conV, nd6, dGet, p12, sp_number ha, sp_number hb, h1, h2, h3, isFactB, twoB, intD, hij, hji, sp_number hc, sp_number he]
            · have : ¬ (rest.length : Int) = 4 := by omega
              have no := want_no (m := m) (w := ("meet" : Str)) (rest := rest) (by simp [wantN]; omega)
              simp [run_def, isTy, eu, setL, cut_1, dispV, conV, nd6, dGet, this, no]
          · by_cases c6 : w = ("back" : Str)
            · subst c6
              by_cases hl : rest.length = 3
              · match rest, hl, hr, eu with
                | [a, b, c], _, hr, eu =>
                  have ha := hr a (by simp)
                  have hb := hr b (by simp)
                  have hc := hr c (by simp)
                  cases h1 : withinB a 0 (m - 1) with
                  | false => simp [run_def, isTy, eu, setL, cut_1, dispV, conV, nd6, dGet, p12, sp_number ha, h1, isFactB]
                  | true =>
                    cases h2 : withinB b 1 LG with
                    | false => simp [run_def, isTy, eu, setL, cut_1, dispV, conV, nd6, dGet, p12, sp_number ha, sp_number hb, h1, h2, isFactB]
                    | true =>
                      obtain ⟨i, rfl, i1, i2⟩ := within_of h2
                      simp [run_def, isTy, eu, setL, cut_1, dispV, conV, nd6, dGet, p12, sp_number ha, sp_number hb, sp_number hc, h1, i1, i2, isFactB, intD]
              · have : ¬ (rest.length : Int) = 3 := by omega
                have no := want_no (m := m) (w := ("back" : Str)) (rest := rest) (by simp [wantN]; omega)
                simp [run_def, isTy, eu, setL, cut_1, dispV, conV, nd6, dGet, this, no]
            · have no := want_no (m := m) (w := w) (rest := rest) (by simp [wantN, c1, c2, c3, c4, c5, c6])
              have n1 : ¬ Str.ofString "length" = w := fun z => c1 z.symm
              have n2 : ¬ Str.ofString "steps" = w := fun z => c2 z.symm
              have n3 : ¬ Str.ofString "pace" = w := fun z => c3 z.symm
              have n4 : ¬ Str.ofString "quick" = w := fun z => c4 z.symm
              have n5 : ¬ Str.ofString "meet" = w := fun z => c5 z.symm
              have n6 : ¬ Str.ofString "back" = w := fun z => c6 z.symm
              simp [run_def, isTy, eu, setL, cut_1, dispV, conV, nd6, dGet, n1, n2, n3, n4, n5, n6, no]
theorem sp_law_fact {m : Int} {d : D} (hd : d.fit) (S : Sto) : fnAt B0 TAB 72 [.p (.int m), .p d] S = .ok (.sh (.p (.bl (isFactB m d)))) S := by
  have hp := hd.1
  cases d with
  | tup xs =>
    match xs, hd with
    | [], hd =>
      rw [f__law_is_fact]
      unfold i__law_is_fact
      simp [run_def, isTy, eq_unit0, isFactB]
    | x :: r, hd =>
      by_cases hx : ∃ w, x = .str w
      · obtain ⟨w, rfl⟩ := hx
        exact law_fact_str hd S
      · have hxp := pl_tup hd.1 x (List.mem_cons_self)
        have eu := eq_unit hd
        have no : isFactB m (.tup (x :: r)) = false := by
          cases x <;> first | exact absurd ⟨_, rfl⟩ hx | (match r with | [] => rfl | [_] => rfl | [_, _] => rfl | [_, _, _] => rfl | [_, _, _, _] => rfl | _ :: _ :: _ :: _ :: _ :: _ => rfl)
        rw [f__law_is_fact]
        unfold i__law_is_fact
        cases x <;> first | (simp [D.pl] at hxp; done) | exact absurd ⟨_, rfl⟩ hx | simp [run_def, isTy, eu, no]
  | fn _ => simp [D.pl] at hp
  | dic _ _ => simp [D.pl] at hp
  | non => rw [f__law_is_fact]; unfold i__law_is_fact; simp [run_def, isTy, isFactB]
  | bl _ => rw [f__law_is_fact]; unfold i__law_is_fact; simp [run_def, isTy, isFactB]
  | int _ => rw [f__law_is_fact]; unfold i__law_is_fact; simp [run_def, isTy, isFactB]
  | str _ => rw [f__law_is_fact]; unfold i__law_is_fact; simp [run_def, isTy, isFactB]
  | lst _ => rw [f__law_is_fact]; unfold i__law_is_fact; simp [run_def, isTy, isFactB]
end LW

set_option Elab.async false
set_option linter.all false
set_option maxRecDepth 100000
set_option maxHeartbeats 8000000
/-! SP21: drawn facts, some; things spoilt. -/
namespace LW
open PySem PySem.Spec PyProof.Rows L2 DL
theorem sp_some_facts {n T m k : Nat} {S : Sto} (h : Dk n T S) (hT : T + 41 * k + 60 ≤ TM) (h1 : 1 ≤ m) (h3 : m ≤ 3) (hk : k ≤ 10) :
    ∃ (fs : List Fct) (S' : Sto), fnAt B0 TAB 59 [.o n, .p (.int m), .p (.int k)] S = .ok (.sh (.p (.tup (fs.map Fct.d)))) S' ∧ Fr n S S' ∧ Dk n (T + 41 * k + 18) S' ∧ fs.length ≤ k ∧ ∀ f ∈ fs, f.ok m ∧ f.sm := by
  have hl := h.lt
  rw [f__law_some_facts]
  unfold i__law_some_facts
  obtain ⟨L, ps, S1, e1, f1, d1, C⟩ := sp_a_case h h3 (by omega)
  have hl1 : S1.length = S.length := f1.len
  obtain ⟨r, S2, e2, f2, d2, r0, r1⟩ := sp_pick (d1.app (some (.lst []))) (by unfold TM at hT; omega) (k := (k : Int) + 1) (by omega) (by omega)
  obtain ⟨S2, rfl, f2'⟩ := f2.of_app (by rw [hl1]; exact hl)
  have d2' := d2.of_app (by rw [f2'.len, hl1]; exact hl)
  let ρ1 : Rho := [some (.o n), some (.p (.int m)), some (.p (.int k)), some (.p (caseD L ps)), some (.o S.length), none]
  obtain ⟨q, hq⟩ : ∃ q : Nat, r = q := ⟨r.toNat, by omega⟩
  subst hq
  have step := fLoop_inv (t := []) (f := forB (gAt B0 TAB 59) S.length true [5] (.seq (.app 4 (.ife (.v (.cmp .gt (.call 28 (.cons (.var 0) (.cons (.int 8) .nil))) (.int 0))) (.call 39 (.cons (.var 0) (.cons (.var 3) .nil))) (.call 42 (.cons (.var 0) (.cons (.var 1) .nil))))) .nil))
    (fun i ρ S' => ∃ (S3 : Sto) (fs : List Fct), S' = S3 ++ [some (.lst (fs.map Fct.d))] ∧ Fr n S2 S3 ∧ Dk n (T + 18 + 41 * i) S3 ∧ fs.length = i ∧ (∀ f ∈ fs, f.ok m ∧ f.sm) ∧ ρ[0]? = some (some (.o n)) ∧ ρ[1]? = some (some (.p (.int m))) ∧ ρ[3]? = some (some (.p (caseD L ps))) ∧ ρ[4]? = some (some (.o S.length)) ∧ ρ.length = 6)
    ((List.range q).map fun i => D.int (i : Nat)) 0 ρ1 (S2 ++ [some (.lst [])])
    ⟨S2, [], rfl, Fr.refl _ _, d2', rfl, (fun f hf => nomatch hf), rfl, rfl, rfl, rfl, rfl⟩ ?_
  · obtain ⟨ρ', S', e3, S3, fs, rfl, f3, d3, hfs, hF, q0, q1, q3, q4, q5⟩ := step
    simp only [List.length_map, List.length_range, Nat.zero_add] at d3 hfs
    have f13 := (f1.trans f2').trans f3
    refine ⟨fs, S3, ?_, f13, d3.mono (by omega), by omega, hF⟩
    have hn : (S3 ++ [some (Cell.lst (fs.map Fct.d))])[S.length]? = some (some (.lst (fs.map Fct.d))) := by rw [← f13.len]; simp
    have tt : (S3 ++ [some (Cell.lst (fs.map Fct.d))]).take S.length = S3 := by rw [← f13.len]; simp
    have hq1 : -(2 ^ 62) ≤ (q : Int) := by omega
    have hq2 : (q : Int) < 2 ^ 62 := by omega
    rw [run_def (by rfl), s_seq]
    have a1 : evS (gAt B0 TAB 59) S.length (.asg 3 (.call 41 (.cons (.var 0) (.cons (.var 1) .nil)))) [some (.o n), some (.p (.int m)), some (.p (.int k)), none, none, none] S = .nx [some (.o n), some (.p (.int m)), some (.p (.int k)), some (.p (caseD L ps)), none, none] S1 := by simp [e1]
    show fin S.length ((evS _ _ _ [some (.o n), some (.p (.int m)), some (.p (.int k)), none, none, none] S).bind _) = _
    rw [a1, SR.bind_nx, s_seq]
    have a2 : evS (gAt B0 TAB 59) S.length (.asgO 4 (.lst .nil)) [some (.o n), some (.p (.int m)), some (.p (.int k)), some (.p (caseD L ps)), none, none] S1 = .nx ρ1 (S1 ++ [some (.lst [])]) := by simp [ρ1, hl1]
    rw [a2, SR.bind_nx, s_seq, s_for]
    have a3 : evI (gAt B0 TAB 59) S.length (.rng (.call 28 (.cons (.var 0) (.cons (.bin .add (.var 2) (.int 1)) .nil)))) ρ1 (S1 ++ [some (.lst [])]) = .ok ((List.range q).map fun i => D.int (i : Nat), []) (S2 ++ [some (.lst [])]) := by
      simp [ρ1, e2]
      omega
    rw [a3, R.st_ok]
    dsimp only
    rw [e3, SR.bind_nx]
    simp [q4, blt_tupO hn, tt]
  · intro i d ρ S' hd hI
    obtain ⟨S3, fs, rfl, f3, d3, hfs, hF, q0, q1, q3, q4, q5⟩ := hI
    have hiq : i < q := by
      have := (List.getElem?_eq_some_iff.mp hd).1
      simpa using this
    simp only [Nat.zero_add] at d3 hfs ⊢
    have hl3 : n < S3.length := by rw [f3.len, f2'.len, hl1]; exact hl
    have hlen3 : S3.length = S.length := by rw [f3.len, f2'.len, hl1]
    let c : Option Cell := some (.lst (fs.map Fct.d))
    obtain ⟨x, S4, e4, f4, d4, x0, x1⟩ := sp_pick (d3.app c) (by unfold TM at hT; omega) (k := 8) (by decide) (by decide)
    have both : ∃ f S5, (if 0 < x then fnAt B0 TAB 39 [.o n, .p (caseD L ps)] S4 else fnAt B0 TAB 42 [.o n, .p (.int m)] S4) = .ok (.sh (.p (Fct.d f))) S5 ∧ Fr n S4 S5 ∧ Dk n (T + 18 + 41 * (i + 1)) S5 ∧ f.ok m ∧ f.sm := by
      by_cases hx : 0 < x
      · obtain ⟨f, S5, e5, f5, d5, o1, o2⟩ := sp_true_fact d4 (by omega) C h1 h3
        exact ⟨f, S5, by rw [if_pos hx]; exact e5, f5, d5.mono (by omega), o1, o2⟩
      · obtain ⟨f, S5, e5, f5, d5, o1, o2⟩ := sp_any_fact d4 (by omega) h1 h3
        exact ⟨f, S5, by rw [if_neg hx]; exact e5, f5, d5.mono (by omega), o1, o2⟩
    obtain ⟨f, S5, e5, f5, d5, o1, o2⟩ := both
    obtain ⟨S6, rfl, f6⟩ := (f4.trans f5).of_app hl3
    have hlen6 : S6.length = S.length := by rw [f6.len, hlen3]
    refine ⟨ρ.set 5 (some (.p d)), S6 ++ [some (.lst ((fs ++ [f]).map Fct.d))], ?_, keeps_nil _, S6, fs ++ [f], rfl, f3.trans f6, d5.of_app (by rw [hlen6]; exact hl), by simp [hfs], fun g hg => ?_, by simp [q0], by simp [q1], by simp [q3], by simp [q4], by simp [q5]⟩
    · rw [forB_some (ρ' := ρ.set 5 (some (.p d))) _ _ rfl]
      have g0 : (ρ.set 5 (some (.p d)))[0]? = some (some (.o n)) := by simp [q0]
      have g1 : (ρ.set 5 (some (.p d)))[1]? = some (some (.p (.int m))) := by simp [q1]
      have g3 : (ρ.set 5 (some (.p d)))[3]? = some (some (.p (caseD L ps))) := by simp [q3]
      have g4 : (ρ.set 5 (some (.p d)))[4]? = some (some (.o S.length)) := by simp [q4]
      have b1 : objL (ρ.set 5 (some (.p d))) (S3 ++ [c]) 4 = some (S.length, fs.map Fct.d) := objL_of g4 (by rw [← hlen3]; simp [c])
      have b2 : objL (ρ.set 5 (some (.p d))) (S6 ++ [c]) 4 = some (S.length, fs.map Fct.d) := objL_of g4 (by rw [← hlen6]; simp [c])
      have hsz : fs.length < sizeLine := size2 (by omega)
      have st : (S6 ++ [c]).set S.length (some (.lst (fs.map Fct.d ++ [f.d]))) = S6 ++ [some (.lst (fs.map Fct.d ++ [f.d]))] := by rw [← hlen6]; exact set_new _ _ _
      simp only [c] at *
      by_cases hx : 0 < x
      · rw [if_pos hx] at e5
        simp [b1, b2, g0, g1, g3, e4, e5, hx, hsz, st]
      · rw [if_neg hx] at e5
        simp [b1, b2, g0, g1, g3, e4, e5, hx, hsz, st]
    · rcases List.mem_append.mp hg with h1 | h1
      · exact hF g h1
      · rw [List.mem_singleton.mp h1]; exact ⟨o1, o2⟩
end LW

set_option Elab.async false
set_option linter.all false
set_option maxRecDepth 100000
set_option maxHeartbeats 8000000
/-! SP22: things spoilt. -/
namespace DL
mutual
/-- the longest list within -/
def D.wd : D → Nat
  | .lst xs | .tup xs => max xs.length (D.wdA xs)
  | _ => 0
def D.wdA : List D → Nat
  | [] => 0
  | x :: xs => max (D.wd x) (D.wdA xs)
end
theorem wdA_mem {x : D} : ∀ {xs : List D}, x ∈ xs → x.wd ≤ D.wdA xs
  | y :: ys, h => by
    unfold D.wdA
    rcases List.mem_cons.mp h with rfl | h
    · omega
    · have := wdA_mem h; omega
theorem wdA_le {k : Nat} : ∀ {xs : List D}, (∀ x ∈ xs, x.wd ≤ k) → D.wdA xs ≤ k
  | [], _ => by simp [D.wdA]
  | y :: ys, h => by
    unfold D.wdA
    have h1 := h y List.mem_cons_self
    have h2 := wdA_le (xs := ys) fun x hx => h x (List.mem_cons_of_mem _ hx)
    omega
theorem dpA_le {k : Nat} : ∀ {xs : List D}, (∀ x ∈ xs, x.dp ≤ k) → D.dpA xs ≤ k
  | [], _ => by simp [D.dpA]
  | y :: ys, h => by
    unfold D.dpA
    have h1 := h y List.mem_cons_self
    have h2 := dpA_le (xs := ys) fun x hx => h x (List.mem_cons_of_mem _ hx)
    omega
theorem plA_all : ∀ {xs : List D}, (∀ x ∈ xs, x.pl = true) → D.plA xs = true
  | [], _ => by simp [D.plA]
  | y :: ys, h => by
    unfold D.plA
    rw [h y List.mem_cons_self, plA_all (xs := ys) fun x hx => h x (List.mem_cons_of_mem _ hx)]; rfl
/-- a plain thing, so deep, so long -/
structure D.th (d : D) (k w : Nat) : Prop where
  pl : d.pl = true
  dp : d.dp ≤ k
  wd : d.wd ≤ w
theorem D.th.mono {d : D} {k w k' w' : Nat} (h : d.th k w) (hk : k ≤ k') (hw : w ≤ w') : d.th k' w' := ⟨h.pl, by have := h.dp; omega, by have := h.wd; omega⟩
/-- of a list's or a tuple's items -/
theorem D.th.items {xs : List D} {k w : Nat} {d : D} (hd : d = .lst xs ∨ d = .tup xs) (h : d.th k w) : 1 ≤ k ∧ xs.length ≤ w ∧ ∀ x ∈ xs, x.th (k - 1) w := by
  obtain ⟨h1, h2, h3⟩ := h
  have a1 : D.plA xs = true := by rcases hd with rfl | rfl <;> simpa [D.pl] using h1
  have a2 : D.dpA xs + 1 ≤ k := by rcases hd with rfl | rfl <;> simpa [D.dp] using h2
  have a3 : max xs.length (D.wdA xs) ≤ w := by rcases hd with rfl | rfl <;> simpa [D.wd] using h3
  exact ⟨by omega, by omega, fun x hx => ⟨LW.plA_mem a1 hx, by have := LW.dpA_mem hx; omega, by have := wdA_mem hx; omega⟩⟩
theorem D.th.many {xs : List D} {k w : Nat} {d : D} (hd : d = .lst xs ∨ d = .tup xs) (hl : xs.length ≤ w) (h : ∀ x ∈ xs, x.th k w) : d.th (k + 1) w := by
  have a1 := plA_all fun x hx => (h x hx).pl
  have a2 := dpA_le fun x hx => (h x hx).dp
  have a3 := wdA_le fun x hx => (h x hx).wd
  rcases hd with rfl | rfl
  · exact ⟨by simpa [D.pl] using a1, by simpa [D.dp] using a2, by simp only [D.wd]; omega⟩
  · exact ⟨by simpa [D.pl] using a1, by simpa [D.dp] using a2, by simp only [D.wd]; omega⟩
end DL
namespace LW
open PySem PySem.Spec PyProof.Rows L2 DL
def spoBody (rec : CE) : CS :=
    (.seq (.ifs (.and_ (.v (.isT (.var 1) [.tup, .lst])) (.and_ (.v (.cmp .gt (.blt .len (.cons (.var 1) .nil)) (.int 0))) (.v (.cmp .gt (.call 28 (.cons (.var 0) (.cons (.int 7) .nil))) (.int 0))))) (.seq (.asgO 2 (.blt .list (.cons (.var 1) .nil)))
    (.seq (.asg 3 (.call 28 (.cons (.var 0) (.cons (.blt .len (.cons (.var 2) .nil)) .nil))))
    (.seq (.sub 2 (.var 3) rec)
    (.seq (.ret (.ife (.v (.ist (.var 1) .tup)) (.blt .tuple (.cons (.var 2) .nil)) (.var 2)))
    .nil)))) .nil)
    (.seq (.ifs (.v (.isT (.var 1) [.tup, .lst])) (.seq (.asg 4 (.ife (.v (.ist (.var 1) .tup)) (.blt .list (.cons (.var 1) .nil)) (.blt .tuple (.cons (.var 1) .nil))))
    (.seq (.asg 5 (.lst (.cons (.var 4) (.cons (.bin .add (.var 1) (.slH (.var 1) (.int 1))) (.cons (.slL (.var 1) (.int 1)) .nil)))))
    (.seq (.ret (.call 30 (.cons (.var 0) (.cons (.bin .add (.var 5) (.lst (.cons (.rev (.var 1)) (.cons (.tup (.cons (.int 2) (.cons (.int 4) .nil))) (.cons .non .nil))))) .nil))))
    .nil))) .nil)
    (.seq (.ifs (.v (.ist (.var 1) .str)) (.seq (.asg 5 (.lst (.cons (.str "with") (.cons (.str "against") (.cons (.str "length") (.cons (.str "steps") (.cons (.str "pace") .nil)))))))
    (.seq (.ret (.call 30 (.cons (.var 0) (.cons (.bin .add (.var 5) (.lst (.cons (.str "quick") (.cons (.str "meet") (.cons (.str "back") (.cons (.str "") (.cons (.int 0) .nil))))))) .nil))))
    .nil)) .nil)
    (.seq (.ifs (.v (.call 60 (.cons (.var 1) .nil))) (.seq (.asg 5 (.lst (.cons (.neg (.var 1)) (.cons (.bin .add (.var 1) (.int 1)) (.cons (.bin .sub (.var 1) (.int 1)) (.cons (.int 0) (.cons (.bl true) .nil)))))))
    (.seq (.ret (.call 30 (.cons (.var 0) (.cons (.bin .add (.var 5) (.lst (.cons .non (.cons (.str "1") (.cons (.bin .add (.bin .pow (.int 10) (.int 12)) (.int 1)) (.cons (.bin .add (.bin .pow (.int 10) (.int 30)) (.int 1)) .nil)))))) .nil))))
    .nil)) .nil)
    (.seq (.ret (.call 30 (.cons (.var 0) (.cons (.lst (.cons .non (.cons (.int 0) (.cons (.str "x") (.cons (.tup .nil) (.cons (.lst .nil) (.cons (.bl true) (.cons (.tup (.cons (.int 1) (.cons (.int 1) .nil))) (.cons (.int 7) .nil))))))))) .nil))))
    .nil)))))
theorem spo_1 : i__law_spoilt_1 = spoBody (.call 61 (.cons (.var 0) (.cons (.ix (.var 2) (.var 3)) .nil))) := rfl
theorem spo_2 : i__law_spoilt_2 = spoBody (.call 62 (.cons (.var 0) (.cons (.ix (.var 2) (.var 3)) .nil))) := rfl
theorem spo_0 : i__law_spoilt_0 = spoBody .bad := rfl
/-- what spoiling gives -/
def SpoOk (F : List W → Sto → R EV) (j : Nat) : Prop := ∀ (n T : Nat) (S : Sto) (d : D) (k w : Nat), Dk n T S → T + 4 * j + 10 ≤ TM → d.th k w → k ≤ j → w ≤ 500 → ∃ d' S', (F [.o n, .p d] S).w = .ok (.p d') S' ∧ Fr n S S' ∧ Dk n (T + 2 * j + 3) S' ∧ d'.th (k + 1) (max w 2 + 1)
/-- the signs of a leaf -/
theorem spo_leaf {g : Sg} {rec : CE} (g28 : g.F 28 = fnAt B0 TAB 28) (g30 : g.F 30 = fnAt B0 TAB 30) (g60 : g.F 60 = fnAt B0 TAB 60) {n T : Nat} {S : Sto} {d : D} (h : Dk n T S) (hT : T + 10 ≤ TM) (hp : d.pl = true) (h0 : d.dp = 0) :
    ∃ d' S', evDef g 2 6 (spoBody rec) [.o n, .p d] S = .ok (.sh (.p d')) S' ∧ Fr n S S' ∧ Dk n (T + 1) S' ∧ d'.th 1 3 := by
  have hT' : T ≤ 68719476736 := by unfold TM at hT; omega
  unfold spoBody
  have small : ∀ x ∈ ([.str "with", .str "against", .str "length", .str "steps", .str "pace", .str "quick", .str "meet", .str "back", .str "", .int 0, .bl true, .non, .str "1", .str "x", .tup [], .lst [], .tup [.int 1, .int 1], .int 7] : List D), x.th 1 3 := by
    intro x hx
    simp only [List.mem_cons, List.not_mem_nil, or_false] at hx
    rcases hx with rfl | rfl | rfl | rfl | rfl | rfl | rfl | rfl | rfl | rfl | rfl | rfl | rfl | rfl | rfl | rfl | rfl | rfl <;> exact ⟨by simp [D.pl, D.plA], by simp [D.dp, D.dpA], by simp [D.wd, D.wdA]⟩
  have smallI : ∀ i : Int, (D.int i).th 1 3 := fun i => ⟨by simp [D.pl], by simp [D.dp], by simp [D.wd]⟩
  cases d with
  | str z =>
    obtain ⟨x, S', e, f, dk, m⟩ := sp_one h hT' (xs := [.str "with", .str "against", .str "length", .str "steps", .str "pace", .str "quick", .str "meet", .str "back", .str "", .int 0]) (by simp) (by simp)
    refine ⟨x, S', ?_, f, dk, small x (by simp only [List.mem_cons, List.not_mem_nil, or_false] at m ⊢; rcases m with m | m | m | m | m | m | m | m | m | m <;> simp [m])⟩
    simp [run_def, g30, isTy, mapO, e, tk f]
  | int i =>
    obtain ⟨x, S', e, f, dk, m⟩ := sp_one h hT' (xs := [.int (-i), .int (i + 1), .int (i - 1), .int 0, .bl true, .non, .str "1", .int (LG + 1), .int (GR + 1)]) (by simp) (by simp)
    refine ⟨x, S', ?_, f, dk, ?_⟩
    · have w := sp_whole (d := .int i) (by simp [D.pl])
      simp [run_def, g30, g60, w, wholeB, isTy, mapO, p12, p30, e, tk f]
    · simp only [List.mem_cons, List.not_mem_nil, or_false] at m
      rcases m with rfl | rfl | rfl | rfl | rfl | rfl | rfl | rfl | rfl <;> first | exact smallI _ | exact small _ (by simp)
  | non =>
    obtain ⟨x, S', e, f, dk, m⟩ := sp_one h hT' (xs := [.non, .int 0, .str "x", .tup [], .lst [], .bl true, .tup [.int 1, .int 1], .int 7]) (by simp) (by simp)
    refine ⟨x, S', ?_, f, dk, small x (by simp only [List.mem_cons, List.not_mem_nil, or_false] at m ⊢; rcases m with m | m | m | m | m | m | m | m <;> simp [m])⟩
    have w := sp_whole (d := .non) (by simp [D.pl])
    simp [run_def, g30, g60, w, wholeB, isTy, mapO, e, tk f]
  | bl b =>
    obtain ⟨x, S', e, f, dk, m⟩ := sp_one h hT' (xs := [.non, .int 0, .str "x", .tup [], .lst [], .bl true, .tup [.int 1, .int 1], .int 7]) (by simp) (by simp)
    refine ⟨x, S', ?_, f, dk, small x (by simp only [List.mem_cons, List.not_mem_nil, or_false] at m ⊢; rcases m with m | m | m | m | m | m | m | m <;> simp [m])⟩
    have w := sp_whole (d := .bl b) (by simp [D.pl])
    simp [run_def, g30, g60, w, wholeB, isTy, mapO, e, tk f]
  | lst xs => simp [D.dp] at h0
  | tup xs => simp [D.dp] at h0
  | fn _ => simp [D.pl] at hp
  | dic _ _ => simp [D.pl] at hp
end LW

set_option Elab.async false
set_option linter.all false
set_option maxRecDepth 100000
set_option maxHeartbeats 8000000
/-! SP23: lists and tuples spoilt. -/
namespace LW
open PySem PySem.Spec PyProof.Rows L2 DL
theorem take1_th {xs : List D} {k w : Nat} (h : ∀ x ∈ xs, x.th k w) : ∀ x ∈ xs ++ xs.take 1, x.th k w := fun x hx => by
  rcases List.mem_append.mp hx with hx | hx
  · exact h x hx
  · exact h x (List.mem_of_mem_take hx)
/-- the turned, longer, shorter things -/
theorem spo_B {xs : List D} {j w : Nat} {d x : D} (hd : d = .lst xs ∨ d = .tup xs) (h : d.th j w)
    (m : x ∈ ([.lst xs, .tup xs, .lst (xs ++ xs.take 1), .tup (xs ++ xs.take 1), .lst (xs.tail), .tup (xs.tail), .lst xs.reverse, .tup xs.reverse, .tup [.int 2, .int 4], .non] : List D)) : x.th (j + 1) (max w 2 + 1) := by
  obtain ⟨j1, hl, hi⟩ := h.items hd
  have e : j - 1 + 1 ≤ j + 1 := by omega
  have hi' : ∀ x ∈ xs, x.th (j - 1) (max w 2 + 1) := fun x hx => (hi x hx).mono (Nat.le_refl _) (by omega)
  have tk1 : (xs ++ xs.take 1).length ≤ max w 2 + 1 := by simp only [List.length_append, List.length_take]; omega
  simp only [List.mem_cons, List.not_mem_nil, or_false] at m
  rcases m with rfl | rfl | rfl | rfl | rfl | rfl | rfl | rfl | rfl | rfl
  · exact (D.th.many (.inl rfl) (by omega) hi').mono e (Nat.le_refl _)
  · exact (D.th.many (.inr rfl) (by omega) hi').mono e (Nat.le_refl _)
  · exact (D.th.many (.inl rfl) tk1 (take1_th hi')).mono e (Nat.le_refl _)
  · exact (D.th.many (.inr rfl) tk1 (take1_th hi')).mono e (Nat.le_refl _)
  · exact (D.th.many (.inl rfl) (by simp; omega) fun x hx => hi' x (List.mem_of_mem_tail hx)).mono e (Nat.le_refl _)
  · exact (D.th.many (.inr rfl) (by simp; omega) fun x hx => hi' x (List.mem_of_mem_tail hx)).mono e (Nat.le_refl _)
  · exact (D.th.many (.inl rfl) (by simp; omega) fun x hx => hi' x (List.mem_reverse.mp hx)).mono e (Nat.le_refl _)
  · exact (D.th.many (.inr rfl) (by simp; omega) fun x hx => hi' x (List.mem_reverse.mp hx)).mono e (Nat.le_refl _)
  · exact ⟨by simp [D.pl, D.plA], by simp [D.dp, D.dpA], by simp [D.wd, D.wdA]; omega⟩
  · exact ⟨by simp [D.pl], by simp [D.dp], by simp [D.wd]⟩
/-- what follows the first question -/
theorem spo_rest {g : Sg} {rec : CE} (g30 : g.F 30 = fnAt B0 TAB 30) {n T n0 : Nat} {S : Sto} {xs : List D} {d : D} (hd : d = .lst xs ∨ d = .tup xs) (hl : xs.length ≤ 1000) (h : Dk n T S) (hT : T ≤ 68719476736) :
    ∃ x S', evS g n0 (tlS (spoBody rec)) [some (.o n), some (.p d), none, none, none, none] S = .rt (.sh (.p x)) S' ∧ Fr n S S' ∧ Dk n (T + 1) S' ∧
      x ∈ ([.lst xs, .tup xs, .lst (xs ++ xs.take 1), .tup (xs ++ xs.take 1), .lst (xs.tail), .tup (xs.tail), .lst xs.reverse, .tup xs.reverse, .tup [.int 2, .int 4], .non] : List D) := by
  have c1 : DL.cutD xs none (some 1) = xs.take 1 := cut_hi (k := 1)
  have c2 : DL.cutD xs (some 1) none = xs.tail := by rw [← List.drop_one]; exact cut_lo (k := 1)
  have hs : xs.length + (xs.take 1).length ≤ sizeLine := by
    rw [sizeLine_eq]; simp only [List.length_take]; omega
  have hs' : xs.length + min 1 xs.length ≤ sizeLine := by simpa using hs
  rcases hd with rfl | rfl
  · obtain ⟨x, S', e, f, dk, m⟩ := sp_one h hT (xs := [.tup xs, .lst (xs ++ xs.take 1), .lst (xs.tail), .lst xs.reverse, .tup [.int 2, .int 4], .non]) (by simp) (by simp)
    refine ⟨x, S', ?_, f, dk, by
      simp only [List.mem_cons, List.not_mem_nil, or_false] at m ⊢
      rcases m with m | m | m | m | m | m <;> simp [m]⟩
    simp only [spoBody, tlS]
    simp [isTy, mapO, c1, c2, hs', g30, e]
  · obtain ⟨x, S', e, f, dk, m⟩ := sp_one h hT (xs := [.lst xs, .tup (xs ++ xs.take 1), .tup (xs.tail), .tup xs.reverse, .tup [.int 2, .int 4], .non]) (by simp) (by simp)
    refine ⟨x, S', ?_, f, dk, by
      simp only [List.mem_cons, List.not_mem_nil, or_false] at m ⊢
      rcases m with m | m | m | m | m | m <;> simp [m]⟩
    simp only [spoBody, tlS]
    simp [isTy, mapO, c1, c2, hs', g30, e]
end LW

set_option Elab.async false
set_option linter.all false
set_option maxRecDepth 100000
set_option maxHeartbeats 8000000
/-! SP24: things spoilt at any depth. -/
namespace LW
open PySem PySem.Spec PyProof.Rows L2 DL
def isTupB : D → Bool
  | .tup _ => true
  | _ => false
def isLstB : D → Bool
  | .lst _ => true
  | _ => false
theorem spo_cont {g : Sg} {rec : CE} {jj j : Nat} (g28 : g.F 28 = fnAt B0 TAB 28) (g30 : g.F 30 = fnAt B0 TAB 30) (hr : rec = .call jj (.cons (.var 0) (.cons (.ix (.var 2) (.var 3)) .nil))) (hrec : SpoOk (g.F jj) j)
    {n T w k : Nat} {S : Sto} {xs : List D} {d : D} (hd : d = .lst xs ∨ d = .tup xs) (h : Dk n T S) (hT : T + 4 * (j + 1) + 10 ≤ TM) (hth : d.th (k + 1) w) (hkj : k ≤ j) (hw : w ≤ 500) :
    ∃ d' S', (evDef g 2 6 (spoBody rec) [.o n, .p d] S).w = .ok (.p d') S' ∧ Fr n S S' ∧ Dk n (T + 2 * (j + 1) + 3) S' ∧ d'.th (k + 1 + 1) (max w 2 + 1) := by
  obtain ⟨_, hl, hi⟩ := hth.items hd
  have hl0 := h.lt
  have hT' : T ≤ 68719476736 := by unfold TM at hT; omega
  have hb : spoBody rec = .seq (hdS (spoBody rec)) (tlS (spoBody rec)) := rfl
  have hisT : mapO (isTy d) [.tup, .lst] = some [isTupB d, isLstB d] := by
    rcases hd with rfl | rfl <;> simp [isTy, mapO, isTupB, isLstB]
  have hany : isTupB d = true ∨ isLstB d = true := by
    rcases hd with rfl | rfl <;> simp [isTupB, isLstB]
  have hlen : ∀ S : Sto, bltW .len [.p d] S = .ok (.sh (.p (.int (xs.length : Int)))) S := fun S => by
    rcases hd with rfl | rfl <;> simp
  -- the second way
  have other : ∀ (T1 : Nat) (S1 : Sto), evS g S.length (hdS (spoBody rec)) [some (.o n), some (.p d), none, none, none, none] S = .nx [some (.o n), some (.p d), none, none, none, none] S1 → Fr n S S1 → Dk n T1 S1 → T1 ≤ T + 1 →
      ∃ d' S', (evDef g 2 6 (spoBody rec) [.o n, .p d] S).w = .ok (.p d') S' ∧ Fr n S S' ∧ Dk n (T + 2 * (j + 1) + 3) S' ∧ d'.th (k + 1 + 1) (max w 2 + 1) := fun T1 S1 e1 f1 d1 ht => by
    obtain ⟨x, S2, e2, f2, d2, m⟩ := spo_rest (rec := rec) (n0 := S.length) g30 hd (by omega) d1 (by unfold TM at hT; omega)
    refine ⟨x, S2, ?_, f1.trans f2, d2.mono (by omega), spo_B hd hth m⟩
    rw [run_def (by rfl)]
    show (fin S.length (evS g S.length (spoBody rec) [some (.o n), some (.p d), none, none, none, none] S)).w = _
    rw [hb, s_seq, e1, SR.bind_nx, e2, fin_p, R.w_sh, tk (f1.trans f2)]
  by_cases hx : xs = []
  · refine other T S ?_ (Fr.refl _ _) h (by omega)
    subst hx
    simp only [spoBody, hdS]
    simp [hisT, hany, hlen]
  · have hpos : 0 < xs.length := List.length_pos_iff.mpr hx
    obtain ⟨r, S1, e1, f1, d1, r0, r1⟩ := sp_pick h hT' (k := 7) (by decide) (by decide)
    have hS1 : S1.length = S.length := f1.len
    by_cases hr0 : 0 < r
    · let c : Option Cell := some (.lst xs)
      obtain ⟨q, S2, e2, f2, d2, q0, q1⟩ := sp_pick (d1.app c) (by unfold TM at hT; omega) (k := xs.length) (by omega) (by omega)
      obtain ⟨S2, rfl, f2'⟩ := f2.of_app (by rw [hS1]; exact hl0)
      have hS2 : S2.length = S.length := by rw [f2'.len, hS1]
      have hq : q.toNat < xs.length := by omega
      have hat : atI xs q = some xs[q.toNat] := by
        unfold atI ixN
        rw [if_pos q0, if_pos q1]
        simp [hq]
      have hix : ixN xs.length q = some q.toNat := by
        unfold ixN
        rw [if_pos q0, if_pos q1]
      obtain ⟨d', S3, e3, f3, d3, t3⟩ := hrec n (T + 1 + 1) (S2 ++ [c]) xs[q.toNat] k w d2 (by omega) (by simpa using hi _ (List.getElem_mem hq)) hkj hw
      obtain ⟨S3, rfl, f3'⟩ := f3.of_app (by rw [hS2]; exact hl0)
      have hS3 : S3.length = S.length := by rw [f3'.len, hS2]
      have f13 := (f1.trans f2').trans f3'
      have d3' := d3.of_app (by rw [hS3]; exact hl0)
      have th' : ∀ y ∈ xs.set q.toNat d', y.th (k + 1) (max w 2 + 1) := fun y hy => by
        rcases List.mem_or_eq_of_mem_set hy with hy | rfl
        · exact (hi y hy).mono (by omega) (by omega)
        · exact t3
      have dS1 : den (S1 ++ [c]) (.o S.length) = some (.lst xs) := den_o (by rw [← hS1]; simp [c])
      have bS1 : bltW .len [.o S.length] (S1 ++ [c]) = .ok (.sh (.p (.int (xs.length : Int)))) (S1 ++ [c]) := blt_lenO (by rw [← hS1]; simp [c])
      have dS2 : den (S2 ++ [c]) (.o S.length) = some (.lst xs) := den_o (by rw [← hS2]; simp [c])
      have lst1 : bltW .list [.p d] S1 = .ok (.fr (.lst xs)) S1 := by rcases hd with rfl | rfl <;> simp
      have a1 : evS g S.length (.asgO 2 (.blt .list (.cons (.var 1) .nil))) [some (.o n), some (.p d), none, none, none, none] S1 = .nx [some (.o n), some (.p d), some (.o S.length), none, none, none] (S1 ++ [c]) := by
        simp [lst1, hS1, c]
      have a2 : evS g S.length (.asg 3 (.call 28 (.cons (.var 0) (.cons (.blt .len (.cons (.var 2) .nil)) .nil)))) [some (.o n), some (.p d), some (.o S.length), none, none, none] (S1 ++ [c]) = .nx [some (.o n), some (.p d), some (.o S.length), some (.p (.int q)), none, none] (S2 ++ [c]) := by
        simp [bS1, g28, e2]
      have o3 : objL [some (.o n), some (.p d), some (.o S.length), some (.p (.int q)), none, none] (S3 ++ [c]) 2 = some (S.length, xs) := objL_of rfl (by rw [← hS3]; simp [c])
      have st3 : (S3 ++ [c]).set S.length (some (.lst (xs.set q.toNat d'))) = S3 ++ [some (.lst (xs.set q.toNat d'))] := by rw [← hS3]; exact set_new _ _ _
      have a3 : evS g S.length (.sub 2 (.var 3) rec) [some (.o n), some (.p d), some (.o S.length), some (.p (.int q)), none, none] (S2 ++ [c]) = .nx [some (.o n), some (.p d), some (.o S.length), some (.p (.int q)), none, none] (S3 ++ [some (.lst (xs.set q.toNat d'))]) := by
        have e3' := e3
        rw [hr]
        simp [dS2, hat, e3', o3, hix, st3]
      have get3 : (S3 ++ [some (Cell.lst (xs.set q.toNat d'))])[S.length]? = some (some (.lst (xs.set q.toNat d'))) := by rw [← hS3]; simp
      have tt : (S3 ++ [some (Cell.lst (xs.set q.toNat d'))]).take S.length = S3 := by rw [← hS3]; simp
      have first : evS g S.length (hdS (spoBody rec)) [some (.o n), some (.p d), none, none, none, none] S = evS g S.length (.seq (.asgO 2 (.blt .list (.cons (.var 1) .nil))) (.seq (.asg 3 (.call 28 (.cons (.var 0) (.cons (.blt .len (.cons (.var 2) .nil)) .nil)))) (.seq (.sub 2 (.var 3) rec) (.seq (.ret (.ife (.v (.ist (.var 1) .tup)) (.blt .tuple (.cons (.var 2) .nil)) (.var 2))) .nil)))) [some (.o n), some (.p d), none, none, none, none] S1 := by
        have hp0 : ¬ xs.length = 0 := by omega
        simp only [spoBody, hdS, s_ifs]
        have hc : evT g S.length (.and_ (.v (.isT (.var 1) [.tup, .lst])) (.and_ (.v (.cmp .gt (.blt .len (.cons (.var 1) .nil)) (.int 0))) (.v (.cmp .gt (.call 28 (.cons (.var 0) (.cons (.int 7) .nil))) (.int 0))))) [some (.o n), some (.p d), none, none, none, none] S = .ok true S1 := by
          simp [hisT, hany, hlen, g28, e1, hr0, hpos]
        rw [hc, R.st_ok, if_pos rfl]
      rcases hd with rfl | rfl
      · refine ⟨.lst (xs.set q.toNat d'), S3, ?_, f13, d3'.mono (by omega), D.th.many (.inl rfl) (by simp; omega) th'⟩
        rw [run_def (by rfl)]
        show (fin S.length (evS g S.length (spoBody rec) [some (.o n), some (.p (.lst xs)), none, none, none, none] S)).w = _
        rw [hb, s_seq, first, s_seq, a1, SR.bind_nx, s_seq, a2, SR.bind_nx, s_seq, a3, SR.bind_nx]
        have := fin_o (n := S.length) (Nat.le_refl _) get3
        simp [isTy, this, tt]
      · refine ⟨.tup (xs.set q.toNat d'), S3, ?_, f13, d3'.mono (by omega), D.th.many (.inr rfl) (by simp; omega) th'⟩
        rw [run_def (by rfl)]
        show (fin S.length (evS g S.length (spoBody rec) [some (.o n), some (.p (.tup xs)), none, none, none, none] S)).w = _
        rw [hb, s_seq, first, s_seq, a1, SR.bind_nx, s_seq, a2, SR.bind_nx, s_seq, a3, SR.bind_nx]
        have := blt_tupO get3
        simp [isTy, this, tt]
    · refine other (T + 1) S1 ?_ f1 d1 (by omega)
      simp only [spoBody, hdS]
      simp [hisT, hany, hlen, g28, e1, hr0]
      exact fun z => absurd z hx
theorem spo_step {g : Sg} {rec : CE} {j : Nat} (g28 : g.F 28 = fnAt B0 TAB 28) (g30 : g.F 30 = fnAt B0 TAB 30) (g60 : g.F 60 = fnAt B0 TAB 60)
    (hrec : ∀ j', j = j' + 1 → ∃ jj, rec = .call jj (.cons (.var 0) (.cons (.ix (.var 2) (.var 3)) .nil)) ∧ SpoOk (g.F jj) j') : SpoOk (evDef g 2 6 (spoBody rec)) j := by
  intro n T S d k w h hT hth hkj hw
  by_cases hc : ∃ xs, d = .lst xs ∨ d = .tup xs
  · obtain ⟨xs, hd⟩ := hc
    obtain ⟨j1, _, _⟩ := hth.items hd
    obtain ⟨j', rfl⟩ : ∃ j', j = j' + 1 := ⟨j - 1, by omega⟩
    obtain ⟨k', rfl⟩ : ∃ k', k = k' + 1 := ⟨k - 1, by omega⟩
    obtain ⟨jj, e, hF⟩ := hrec j' rfl
    exact spo_cont g28 g30 e hF hd h hT hth (by omega) hw
  · have h0 : d.dp = 0 := by
      cases d <;> first | (simp [D.dp]; done) | skip
      · exact absurd ⟨_, .inl rfl⟩ hc
      · exact absurd ⟨_, .inr rfl⟩ hc
    obtain ⟨d', S', e, f, dk, t⟩ := spo_leaf (rec := rec) g28 g30 g60 h (by omega) hth.pl h0
    exact ⟨d', S', by rw [e]; rfl, f, dk.mono (by omega), t.mono (by omega) (by omega)⟩
theorem spoilt0 : SpoOk (fnAt B0 TAB 61) 0 := by
  rw [f__law_spoilt_0, spo_0]
  exact spo_step (G_F (by decide) (by decide)) (G_F (by decide) (by decide)) (G_F (by decide) (by decide)) fun j' e => by omega
theorem spoilt1 : SpoOk (fnAt B0 TAB 62) 1 := by
  rw [f__law_spoilt_1, spo_1]
  exact spo_step (G_F (by decide) (by decide)) (G_F (by decide) (by decide)) (G_F (by decide) (by decide)) fun j' e => ⟨61, rfl, by cases e; rw [G_F (by decide) (by decide)]; exact spoilt0⟩
theorem spoilt2 : SpoOk (fnAt B0 TAB 63) 2 := by
  rw [f__law_spoilt_2, spo_2]
  exact spo_step (G_F (by decide) (by decide)) (G_F (by decide) (by decide)) (G_F (by decide) (by decide)) fun j' e => ⟨62, rfl, by cases e; rw [G_F (by decide) (by decide)]; exact spoilt1⟩
theorem spoilt3 : SpoOk (fnAt B0 TAB 64) 3 := by
  rw [f__law_spoilt_3, show i__law_spoilt_3 = spoBody (.call 63 (.cons (.var 0) (.cons (.ix (.var 2) (.var 3)) .nil))) from rfl]
  exact spo_step (G_F (by decide) (by decide)) (G_F (by decide) (by decide)) (G_F (by decide) (by decide)) fun j' e => ⟨63, rfl, by cases e; rw [G_F (by decide) (by decide)]; exact spoilt2⟩
theorem spoilt4 : SpoOk (fnAt B0 TAB 65) 4 := by
  rw [f__law_spoilt_4, show i__law_spoilt_4 = spoBody (.call 64 (.cons (.var 0) (.cons (.ix (.var 2) (.var 3)) .nil))) from rfl]
  exact spo_step (G_F (by decide) (by decide)) (G_F (by decide) (by decide)) (G_F (by decide) (by decide)) fun j' e => ⟨64, rfl, by cases e; rw [G_F (by decide) (by decide)]; exact spoilt3⟩
theorem spoilt5 : SpoOk (fnAt B0 TAB 66) 5 := by
  rw [f__law_spoilt_5, show i__law_spoilt_5 = spoBody (.call 65 (.cons (.var 0) (.cons (.ix (.var 2) (.var 3)) .nil))) from rfl]
  exact spo_step (G_F (by decide) (by decide)) (G_F (by decide) (by decide)) (G_F (by decide) (by decide)) fun j' e => ⟨65, rfl, by cases e; rw [G_F (by decide) (by decide)]; exact spoilt4⟩
theorem spoilt6 : SpoOk (fnAt B0 TAB 67) 6 := by
  rw [f__law_spoilt_6, show i__law_spoilt_6 = spoBody (.call 66 (.cons (.var 0) (.cons (.ix (.var 2) (.var 3)) .nil))) from rfl]
  exact spo_step (G_F (by decide) (by decide)) (G_F (by decide) (by decide)) (G_F (by decide) (by decide)) fun j' e => ⟨66, rfl, by cases e; rw [G_F (by decide) (by decide)]; exact spoilt5⟩
theorem sp_spoilt : SpoOk (fnAt B0 TAB 68) 7 := by
  rw [f__law_spoilt_7, show i__law_spoilt_7 = spoBody (.call 67 (.cons (.var 0) (.cons (.ix (.var 2) (.var 3)) .nil))) from rfl]
  exact spo_step (G_F (by decide) (by decide)) (G_F (by decide) (by decide)) (G_F (by decide) (by decide)) fun j' e => ⟨67, rfl, by cases e; rw [G_F (by decide) (by decide)]; exact spoilt6⟩
end LW

set_option Elab.async false
set_option linter.all false
set_option maxRecDepth 100000
set_option maxHeartbeats 8000000
/-! SP25: facts as texts: the need, one item. -/
namespace LW
open PySem PySem.Spec PyProof.Rows L2 DL
theorem sp_need_facts {m : Int} {d : D} (hd : d.pl = true) (S : Sto) : fnAt B0 TAB 74 [.p (.int m), .p d] S = if areFactsB m d = true then .ok (.sh (.p .non)) S else .exc ⟨2, []⟩ S := by
  rw [f_need_facts]
  unfold i_need_facts
  cases h : areFactsB m d <;> simp [run_def, sp_facts hd, h]
/-- an item's text -/
def itemS : D → Str
  | .str x => x
  | .int i => toString i
  | .tup [.int a, .int b] => (toString a : String) ++ ("/" : Str) ++ (toString b : String)
  | _ => "-"
/-- what stands in a fact -/
def itemB : D → Bool
  | .non => true
  | .str x => decide (x.length ≤ 100)
  | .int i => decide (i.natAbs.log2 < 1920)
  | .tup [.int a, .int b] => decide (a.natAbs.log2 < 1920) && decide (b.natAbs.log2 < 1920)
  | _ => false
end LW

set_option Elab.async false
set_option linter.all false
set_option maxRecDepth 100000
set_option maxHeartbeats 4000000
/-! TX1: texts of facts, plainly: parts, numbers. -/
namespace LW
open PySem PySem.Spec PyProof.Rows L2 DL
abbrev sg (x : Str) : List Nat := x.cps.toList
theorem ok_iff {x : Str} : PyData.strOk x = true ↔ ∀ c ∈ sg x, c < 0x110000 := by
  unfold PyData.strOk
  rw [← Array.all_toList, List.all_eq_true]
  exact ⟨fun h c hc => by simpa using h c hc, fun h c hc => by simpa using h c hc⟩
theorem sg_ext {x y : Str} (h : sg x = sg y) : x = y := TL.ext_tl h
theorem sg_app (x y : Str) : sg (x ++ y) = sg x ++ sg y := TL.tl_append x y
theorem sg_len (x : Str) : x.length = (sg x).length := TL.len_tl x
theorem sg_lit (s : String) : sg (Str.ofString s) = s.toList.map Char.toNat := TL.tl_ofString s
theorem join_eq (y : Str) (ps : List Str) : Txt.join y ps = Str.join y ps := TL.join_eq y ps
theorem sg_join (y : Str) (ps : List Str) : sg (Txt.join y ps) = TL.joinL (sg y) (ps.map sg) := by rw [join_eq]; exact TL.tl_join y ps
theorem mem_joinL {S : List Nat} {p : List Nat} : ∀ {ps : List (List Nat)}, p ∈ ps → ∀ c ∈ p, c ∈ TL.joinL S ps
  | [q], h, c, hc => by rw [List.mem_singleton.mp h] at hc; exact hc
  | q :: r :: t, h, c, hc => by
    show c ∈ q ++ (S ++ TL.joinL S (r :: t))
    rcases List.mem_cons.mp h with rfl | h
    · exact List.mem_append_left _ hc
    · exact List.mem_append_right _ (List.mem_append_right _ (mem_joinL h c hc))
theorem len_joinL {S : List Nat} {p : List Nat} : ∀ {ps : List (List Nat)}, p ∈ ps → p.length ≤ (TL.joinL S ps).length
  | [q], h => by rw [List.mem_singleton.mp h]; exact Nat.le_refl _
  | q :: r :: t, h => by
    show p.length ≤ (q ++ (S ++ TL.joinL S (r :: t))).length
    rw [List.length_append, List.length_append]
    rcases List.mem_cons.mp h with rfl | h
    · omega
    · have := len_joinL (S := S) h; omega
theorem cnt_joinL {S : List Nat} (hS : 1 ≤ S.length) : ∀ {ps : List (List Nat)}, ps.length ≤ (TL.joinL S ps).length + 1
  | [] => Nat.zero_le _
  | [q] => by show 1 ≤ q.length + 1; omega
  | q :: r :: t => by
    have := cnt_joinL hS (ps := r :: t)
    show (r :: t).length + 1 ≤ (q ++ (S ++ TL.joinL S (r :: t))).length + 1
    rw [List.length_append, List.length_append]; omega
theorem split_join' (x y : Str) : Txt.join y (Txt.split x y) = x := by rw [join_eq]; exact StrLaws.join_split x y
theorem split_ok {x y : Str} (hx : PyData.strOk x = true) {p : Str} (h : p ∈ Txt.split x y) : PyData.strOk p = true ∧ p.length ≤ x.length := by
  have e : sg x = TL.joinL (sg y) ((Txt.split x y).map sg) := by rw [← sg_join, split_join']
  refine ⟨ok_iff.mpr fun c hc => ok_iff.mp hx c ?_, ?_⟩
  · rw [e]; exact mem_joinL (List.mem_map_of_mem h) c hc
  · rw [sg_len p, sg_len x, e]; exact len_joinL (List.mem_map_of_mem h)
theorem split_cnt {x y : Str} (hy : 1 ≤ y.length) : (Txt.split x y).length ≤ x.length + 1 := by
  have e : sg x = TL.joinL (sg y) ((Txt.split x y).map sg) := by rw [← sg_join, split_join']
  have := cnt_joinL (S := sg y) (by rw [← sg_len]; exact hy) (ps := (Txt.split x y).map sg)
  rw [List.length_map, ← e, ← sg_len] at this
  exact this
theorem split_ne {x y : Str} : Txt.split x y ≠ [] ∨ x.length = 0 := by
  by_cases h : Txt.split x y = []
  · right
    have e : sg x = TL.joinL (sg y) ((Txt.split x y).map sg) := by rw [← sg_join, split_join']
    rw [h] at e
    rw [sg_len, e]; rfl
  · exact .inl h
/-! ### the signs -/
def dig (c : Nat) : Bool := decide (48 ≤ c) && decide (c ≤ 57)
theorem digs_eq : ("0123456789" : Str) = ⟨[48, 49, 50, 51, 52, 53, 54, 55, 56, 57].toArray⟩ := by decide +kernel
theorem in_digits (c : Nat) : (!(Builtin.Str.occurrences ("0123456789" : Str) ⟨#[c]⟩ 0 ("0123456789" : Str).length 1).isEmpty) = dig c := by
  have h := StrLaws.found_one ("0123456789" : Str) c
  rw [show (⟨#[c]⟩ : Str) = ⟨[c].toArray⟩ from rfl] at *
  rw [h]
  have e : c ∈ (("0123456789" : Str)).cps.toList ↔ (48 ≤ c ∧ c ≤ 57) := by
    rw [digs_eq]
    simp
    omega
  unfold dig
  rw [← Bool.decide_and]
  exact decide_eq_decide.mpr e
/-- the number that a word writes -/
def numIn (w : Str) : Option Int := if w.length = 0 ∨ 31 < w.length ∨ (sg w).all dig = false then none else if w = ("0" : Str) ∨ (sg w).head? ≠ some 48 then some (NumText.digitsVal (sg w) : Nat) else none
def numD (w : Str) : D := match numIn w with
  | some n => .int n
  | none => .non
/-- the item that a word writes -/
def itemIn (w : Str) : D := if w = ("-" : Str) then .non else match numIn w with
  | some n => .int n
  | none => if (Txt.split w "/").length = 2 ∧ ∀ h ∈ Txt.split w "/", numIn h ≠ none then .tup ((Txt.split w "/").map numD) else .str w
theorem one_eq {c d : Nat} : (⟨#[c]⟩ : Str) = ⟨#[d]⟩ ↔ c = d := by
  constructor
  · intro h
    have := congrArg sg h
    simpa using this
  · intro h; rw [h]
theorem zero_eq : ("0" : Str) = ⟨#[48]⟩ := by decide +kernel
theorem all_dig {w : Str} (h : (sg w).all dig = true) : NumText.AllDigits (sg w) := by
  intro c hc
  have := List.all_eq_true.mp h c hc
  simp only [dig, Bool.and_eq_true, decide_eq_true_eq] at this
  exact this
theorem num_some {w : Str} (h : (sg w).all dig = true) (h0 : w.length ≠ 0) (hl : w.length ≤ 4300) : PySem.intText? w = some (NumText.digitsVal (sg w) : Nat) := by
  refine PySem.intText_digits (all_dig h) (fun e => h0 ?_) hl
  exact (sg_len w).trans (congrArg List.length e)
theorem sp_number_in {w : Str} (hw : PyData.strOk w = true) (hl : w.length ≤ 1000000) (S : Sto) : fnAt B0 TAB 81 [.p (.str w)] S = .ok (.sh (.p (numD w))) S := by
  rw [f_number_in]
  unfold i_number_in
  have hsz : w.length ≤ sizeLine := by rw [sizeLine_eq]; omega
  have hlen : bltW .len [.p (.str w)] S = .ok (.sh (.p (.int (w.length : Int)))) S := by
    show rOpt ((lenD (.str w)).map fun (n : Nat) => EV.sh (.p (.int (n : Int)))) S = _
    unfold lenD
    dsimp only
    rw [if_pos hsz]; rfl
  have hem : w = ("" : Str) ↔ w.length = 0 := by
    constructor
    · intro h; rw [h]; rfl
    · intro h; exact sg_ext (by rw [sg_len] at h; rw [List.eq_nil_of_length_eq_zero h]; rfl)
  have hc : ∀ ρ : Rho, ρ[0]? = some (some (.p (.str w))) → ρ.length = 2 → evE (gAt B0 TAB 81) S.length (.comp (.cmp .inn (.var 1) (.cst 6)) [1] true (.seq (.var 0))) ρ S = .ok (.fr (.lst (((sg w).map dig).map D.bl))) S := fun ρ h0 h2 => by
    have := comp_pure (g := gAt B0 TAB 81) (n0 := S.length) (e := .cmp .inn (.var 1) (.cst 6)) (tg := [1]) (one := true) (it := .seq (.var 0)) (ρ := ρ) (S := S) (ds := signsD w) (t := []) (fun d => match d with | .str x => .bl (!(Builtin.Str.occurrences ("0123456789" : Str) x 0 ("0123456789" : Str).length 1).isEmpty) | _ => .non) (by simp [h0]) (keeps_nil S) (by simp only [signsD, List.length_map, ← sg_len]; exact hsz) fun d hd acc => by
      obtain ⟨c, hc, rfl⟩ := List.mem_map.mp hd
      have g1 : ((wipeR ρ [1]).set 1 (some (.p (.str ⟨#[c]⟩))))[1]? = some (some (.p (.str ⟨#[c]⟩))) := by simp [wipeR, h2]
      have hcm : ∀ S : Sto, cmpW .inn (.p (.str ⟨#[c]⟩)) (.p (B0C 6)) S = some (!(Builtin.Str.occurrences ("0123456789" : Str) ⟨#[c]⟩ 0 ("0123456789" : Str).length 1).isEmpty) := fun S => rfl
      exact ⟨_, rfl, by simp [g1, hcm]⟩
    rw [this]
    congr 3
    unfold signsD
    rw [List.map_map, List.map_map]
    refine List.map_congr_left fun c _ => ?_
    show D.bl (!(Builtin.Str.occurrences ("0123456789" : Str) ⟨#[c]⟩ 0 ("0123456789" : Str).length 1).isEmpty) = D.bl (dig c)
    rw [in_digits]
  have hall : bltW .all [.p (.lst (((sg w).map dig).map D.bl))] S = .ok (.sh (.p (.bl ((sg w).all dig)))) S := by
    rw [blt_all, List.all_map]; rfl
  simp only [List.map_map] at hc hall
  have hE : eqD (.str w) (.str "") = some (decide (w = ("" : Str))) := eqD_str hw (by decide +kernel)
  by_cases h1 : w.length = 0
  · have : w = ("" : Str) := hem.mpr h1
    simp [run_def, hE, this, numD, numIn]
    rfl
  · have h1' : ¬ w = ("" : Str) := fun e => h1 (hem.mp e)
    by_cases h2 : 31 < w.length
    · have : (31 : Int) < w.length := by omega
      simp [run_def, hE, h1', hlen, this, numD, numIn, h2]
    · have h2' : ¬ (31 : Int) < w.length := by omega
      cases h3 : (sg w).all dig with
      | false =>
        rw [h3] at hall
        simp [run_def, hE, h1', hlen, h2', hc, hall, numD, numIn, h3]
      | true =>
        rw [h3] at hall
        have hE0 : eqD (.str w) (.str "0") = some (decide (w = ("0" : Str))) := eqD_str hw (by decide +kernel)
        obtain ⟨c, r, hcr⟩ : ∃ c r, sg w = c :: r := by
          cases h : sg w with
          | nil => rw [sg_len, h] at h1; exact absurd rfl h1
          | cons c r => exact ⟨c, r, rfl⟩
        have hix : ixD (.str w) (.int 0) = some (.str ⟨#[c]⟩) := by
          show (if w.length ≤ sizeLine then (atI (sg w) 0).map fun c => D.str ⟨#[c]⟩ else none) = _
          rw [if_pos hsz, hcr, atI_0]; rfl
        have hcok : PyData.strOk (⟨#[c]⟩ : Str) = true := ok_iff.mpr fun d hd => ok_iff.mp hw d (by rw [hcr]; have : d ∈ [c] := hd; rw [List.mem_singleton.mp this]; exact List.mem_cons_self)
        have hEc : eqD (.str ⟨#[c]⟩) (.str "0") = some (decide (c = 48)) := by
          rw [eqD_str hcok (by decide +kernel)]
          congr 1
          rw [zero_eq]
          exact decide_eq_decide.mpr one_eq
        have hint : bltW .int [.p (.str w)] S = .ok (.sh (.p (.int (NumText.digitsVal (sg w) : Nat)))) S := by
          show (if w.length ≤ 640 then rOpt ((PySem.intText? w).map fun n => EV.sh (.p (.int n))) S else .bad) = _
          rw [if_pos (by omega), num_some h3 h1 (by omega)]; rfl
        have hh : (sg w).head? = some c := by rw [hcr]; rfl
        have hv : (w = ("0" : Str) ∨ c ≠ 48) → numD w = .int (NumText.digitsVal (sg w) : Nat) := fun h => by
          unfold numD numIn
          rw [if_neg (by simp [h1, h3]; omega), hh]
          rw [if_pos (h.imp id fun h e => h (Option.some.inj e))]
        have hv2 : ¬ w = ("0" : Str) → c = 48 → numD w = .non := fun h e => by
          unfold numD numIn
          rw [if_neg (by simp [h1, h3]; omega), hh, e]
          rw [if_neg (by simp [h])]
        by_cases h4 : w = ("0" : Str)
        · rw [hv (.inl h4)]
          rw [decide_eq_true h4] at hE0
          simp [run_def, hE, h1', hlen, h2', hc, hall, hE0, hint]
        · rw [decide_eq_false h4] at hE0
          by_cases h5 : c = 48
          · rw [hv2 h4 h5]
            rw [decide_eq_true h5] at hEc
            simp [run_def, hE, h1', hlen, h2', hc, hall, hE0, hix, hEc]
          · rw [hv (.inr h5)]
            rw [decide_eq_false h5] at hEc
            simp [run_def, hE, h1', hlen, h2', hc, hall, hE0, hix, hEc, hint]
end LW

set_option Elab.async false
set_option linter.all false
set_option maxRecDepth 100000
set_option maxHeartbeats 4000000
/-! TX2: items of facts and their words. -/
namespace LW
open PySem PySem.Spec PyProof.Rows L2 DL
/-! ### numbers as words -/
def nS (n : Nat) : Str := Str.ofString (toString ((n : Nat) : Int))
theorem sg_nS (n : Nat) : sg (nS n) = TL.numL n := TL.tl_num n
theorem numL_len31 {n : Nat} (h : n < 10 ^ 31) : (TL.numL n).length ≤ 31 := TL.numL_len (by decide) h
theorem numL_dig (n : Nat) : (TL.numL n).all dig = true := by
  rw [List.all_eq_true]
  intro c hc
  have := TL.numL_digits n c hc
  unfold dig
  simp
  omega
theorem numL_head : ∀ {n : Nat}, n ≠ 0 → (TL.numL n).head? ≠ some 48 := by
  intro n
  induction n using Nat.strongRecOn with
  | _ n ih =>
    intro h0
    by_cases h : n < 10
    · rw [TL.numL_lt h]
      simp; omega
    · rw [TL.numL_step (by omega)]
      have hn := TL.numL_ne (n / 10)
      have := ih (n / 10) (by omega) (by omega)
      cases hl : TL.numL (n / 10) with
      | nil => exact absurd hl hn
      | cons c r =>
        rw [hl] at this
        simpa using this
theorem numIn_nS {n : Nat} (h : n < 10 ^ 31) : numIn (nS n) = some (n : Int) := by
  unfold numIn
  have hl : (nS n).length = (TL.numL n).length := by rw [sg_len, sg_nS]
  have h1 : (nS n).length ≠ 0 := by
    rw [hl]
    intro z
    exact TL.numL_ne n (List.eq_nil_of_length_eq_zero z)
  have h2 := numL_len31 h
  rw [sg_nS, numL_dig, TL.numL_val]
  rw [if_neg (by simp; exact ⟨h1, by omega⟩)]
  rw [if_pos]
  by_cases h0 : n = 0
  · left
    subst h0
    decide +kernel
  · exact .inr (numL_head h0)
/-- no blank in it, few signs -/
def clean (x : Str) : Prop := x.length ≤ 63 ∧ ∀ c ∈ sg x, 33 ≤ c ∧ c ≤ 122
theorem clean_ok {x : Str} (h : clean x) : PyData.strOk x = true := ok_iff.mpr fun c hc => by have := h.2 c hc; omega
theorem clean_nS {n : Nat} (h : n < 10 ^ 31) : clean (nS n) := by
  refine ⟨by rw [sg_len, sg_nS]; have := numL_len31 h; omega, fun c hc => ?_⟩
  rw [sg_nS] at hc
  have := TL.numL_digits n c hc
  omega
theorem log_nat {n : Nat} (h : n < 10 ^ 31) : (n : Int).natAbs.log2 < 1920 := by
  have : n < 2 ^ 200 := Nat.lt_of_lt_of_le h (by decide)
  exact Nat.lt_of_le_of_lt (Bd.log (i := (n : Int)) (k := 200) (by unfold Bd; simpa using this)) (by decide)
/-! ### words -/
def WORDS : List Str := ["length", "steps", "pace", "quick", "meet", "back", "with", "against"]
/-- what stands in a fact -/
inductive It : D → Prop where
  | word {w : Str} : w ∈ WORDS → It (.str w)
  | num {n : Nat} : n < 10 ^ 31 → It (.int n)
  | non : It .non
  | quo {a b : Nat} : a < 10 ^ 31 → b < 10 ^ 31 → It (.tup [.int a, .int b])
theorem itemS_num (n : Nat) : itemS (.int n) = nS n := rfl
theorem itemS_quo (a b : Nat) : itemS (.tup [.int a, .int b]) = nS a ++ ("/" : Str) ++ nS b := rfl
theorem sg_slash : sg ("/" : Str) = [47] := by decide +kernel
theorem sg_dash : sg ("-" : Str) = [45] := by decide +kernel
theorem letters_clean {w : Str} (h : w.length ≤ 63 ∧ ((sg w).all fun c => decide (97 ≤ c) && decide (c ≤ 122)) = true ∧ w.length ≠ 0) : clean w ∧ w ≠ ("-" : Str) ∧ (sg w).all dig = false ∧ Txt.split w "/" = [w] := by
  obtain ⟨h1, h2, h0⟩ := h
  have h3 : ∀ c ∈ sg w, 97 ≤ c ∧ c ≤ 122 := fun c hc => by
    have := List.all_eq_true.mp h2 c hc
    simpa using this
  refine ⟨⟨h1, fun c hc => by have := h3 c hc; omega⟩, fun e => ?_, ?_, ?_⟩
  · have := h3 45 (by rw [e, sg_dash]; exact List.mem_cons_self)
    omega
  · cases hs : sg w with
    | nil => rw [sg_len, hs] at h0; exact absurd rfl h0
    | cons c r =>
      have := h3 c (by rw [hs]; exact List.mem_cons_self)
      rw [List.all_cons]
      have : dig c = false := by unfold dig; simp; omega
      rw [this]; rfl
  · have := TL.split_join (y := "/") (s := 47) (S := []) sg_slash (by decide +kernel) (parts := [w]) (by simp) fun p hp hm => by
      rw [List.mem_singleton.mp hp] at hm
      have := h3 47 hm
      omega
    exact this
theorem word_clean {w : Str} (h : w ∈ WORDS) : clean w ∧ w ≠ ("-" : Str) ∧ (sg w).all dig = false ∧ Txt.split w "/" = [w] := by
  have key : ∀ w ∈ WORDS, w.length ≤ 63 ∧ ((sg w).all fun c => decide (97 ≤ c) && decide (c ≤ 122)) = true ∧ w.length ≠ 0 := by decide +kernel
  exact letters_clean (key w h)
theorem letters_item {w : Str} (h : clean w ∧ w ≠ ("-" : Str) ∧ (sg w).all dig = false ∧ Txt.split w "/" = [w]) : itemIn w = .str w := by
  obtain ⟨h1, h2, h3, h4⟩ := h
  unfold itemIn
  have hn : numIn w = none := by
    unfold numIn
    rw [if_pos (.inr (.inr h3))]
  rw [if_neg h2, hn, h4]
  dsimp only
  rw [if_neg]
  simp
theorem split_quo {a b : Nat} : Txt.split (nS a ++ ("/" : Str) ++ nS b) "/" = [nS a, nS b] := by
  have := TL.split_join (y := "/") (s := 47) (S := []) sg_slash (by decide +kernel) (parts := [nS a, nS b]) (by simp) fun p hp hm => by
    simp only [List.mem_cons, List.not_mem_nil, or_false] at hp
    have hm' : 47 ∈ sg p := hm
    rcases hp with rfl | rfl
    · rw [sg_nS] at hm'
      exact TL.numL_free (by decide) hm'
    · rw [sg_nS] at hm'
      exact TL.numL_free (by decide) hm'
  rw [join_eq] at this
  exact this
theorem itemIn_it {d : D} (h : It d) : itemIn (itemS d) = d ∧ clean (itemS d) := by
  cases h with
  | @word w hw =>
    exact ⟨letters_item (word_clean hw), (word_clean hw).1⟩
  | @num n hn =>
    refine ⟨?_, clean_nS hn⟩
    rw [itemS_num]
    unfold itemIn
    rw [if_neg, numIn_nS hn]
    intro e
    have := congrArg sg e
    rw [sg_nS, sg_dash] at this
    have h2 := numL_dig n
    rw [this] at h2
    cases h2
  | non => exact ⟨by show itemIn ("-" : Str) = _; unfold itemIn; rw [if_pos rfl], by unfold clean; decide +kernel⟩
  | @quo a b ha hb =>
    have ca := clean_nS ha
    have cb := clean_nS hb
    have hs : sg (nS a ++ ("/" : Str) ++ nS b) = TL.numL a ++ [47] ++ TL.numL b := by rw [sg_app, sg_app, sg_nS, sg_nS, sg_slash]
    refine ⟨?_, ?_, ?_⟩
    · rw [itemS_quo]
      unfold itemIn
      have hn : numIn (nS a ++ ("/" : Str) ++ nS b) = none := by
        unfold numIn
        rw [if_pos]
        right; right
        rw [hs]
        simp [dig]
      rw [if_neg, hn, split_quo]
      · dsimp only
        rw [if_pos]
        · simp [numD, numIn_nS ha, numIn_nS hb]
        · refine ⟨rfl, fun h hh => ?_⟩
          simp only [List.mem_cons, List.not_mem_nil, or_false] at hh
          rcases hh with rfl | rfl
          · rw [numIn_nS ha]; simp
          · rw [numIn_nS hb]; simp
      · intro e
        have := congrArg sg e
        rw [hs, sg_dash] at this
        have hl := congrArg List.length this
        simp only [List.length_append, List.length_singleton] at hl
        have := List.length_pos_iff.mpr (TL.numL_ne a)
        omega
    · rw [itemS_quo, sg_len, hs]
      have := numL_len31 ha
      have := numL_len31 hb
      simp only [List.length_append, List.length_singleton]
      omega
    · rw [itemS_quo, hs]
      intro c hc
      rcases List.mem_append.mp hc with hc | hc
      · rcases List.mem_append.mp hc with hc | hc
        · have := TL.numL_digits a c hc; omega
        · rw [List.mem_singleton.mp hc]; omega
      · have := TL.numL_digits b c hc; omega
/-- the items of a fact -/
def Fct.items : Fct → List D
  | .len lo hi => [.str "length", .int lo, optI hi]
  | .steps w up lo hi => [.str "steps", .int w, wayD up, .int lo, .int hi]
  | .pace w lo hi => [.str "pace", .int w, fr lo, optF hi]
  | .quick w o lo hi => [.str "quick", .int w, .int o, fr lo, optF hi]
  | .meet w o a b => [.str "meet", .int w, .int o, .int a, .int b]
  | .back w a b => [.str "back", .int w, .int a, .int b]
theorem d_items (f : Fct) : f.d = .tup f.items := by cases f <;> rfl
theorem items_len (f : Fct) : 3 ≤ f.items.length ∧ f.items.length ≤ 5 := by cases f <;> simp [Fct.items]
theorem it_int {i : Int} (h0 : 0 ≤ i) (h : i ≤ GR) : It (.int i) := by
  obtain ⟨n, rfl⟩ := Int.eq_ofNat_of_zero_le h0
  refine .num ?_
  have : (n : Int) ≤ 1000000000000000000000000000000 := h
  have : n ≤ 1000000000000000000000000000000 := by omega
  exact Nat.lt_of_le_of_lt this (by decide)
theorem it_fr {p : Int × Int} (h : Fok p) : It (fr p) := by
  obtain ⟨a, b⟩ := p
  obtain ⟨h1, h2, h3, h4, _⟩ := h
  dsimp only at h1 h2 h3 h4
  unfold LG at h2 h4
  obtain ⟨n, rfl⟩ := Int.eq_ofNat_of_zero_le (show 0 ≤ a by omega)
  obtain ⟨k, rfl⟩ := Int.eq_ofNat_of_zero_le (show 0 ≤ b by omega)
  exact .quo (Nat.lt_of_le_of_lt (show n ≤ 1000000000000 by omega) (by decide)) (Nat.lt_of_le_of_lt (show k ≤ 1000000000000 by omega) (by decide))
theorem it_optF {lo : Int × Int} {hi : Option (Int × Int)} (h : Hok lo hi) : It (optF hi) := by
  cases hi with
  | none => exact .non
  | some x => exact it_fr h.1
theorem it_way (b : Bool) : It (wayD b) := by
  cases b
  · exact .word (w := "against") (by decide +kernel)
  · exact .word (w := "with") (by decide +kernel)
theorem items_it {f : Fct} {m : Int} (h : f.ok m) (hm : m ≤ 3) : ∀ d ∈ f.items, It d := by
  have lg : LG ≤ GR := by unfold LG GR; decide
  have gr : (3 : Int) ≤ GR := by unfold GR; decide
  cases f with
  | len lo hi =>
    obtain ⟨h1, h2, h3⟩ := h
    have : It (optI hi) := by
      cases hi with
      | none => exact .non
      | some x => have := h3 x rfl; exact it_int (by omega) (by omega)
    simp only [Fct.items, List.forall_mem_cons, List.not_mem_nil, false_imp_iff, implies_true, and_true]
    exact ⟨.word (w := "length") (by decide +kernel), it_int (by omega) h2, this⟩
  | steps w up lo hi =>
    obtain ⟨h1, h2, h3, h4, h5⟩ := h
    simp only [Fct.items, List.forall_mem_cons, List.not_mem_nil, false_imp_iff, implies_true, and_true]
    exact ⟨.word (w := "steps") (by decide +kernel), it_int h1.1 (by omega), it_way up, it_int (by omega) (by omega), it_int (by omega) (by omega)⟩
  | pace w lo hi =>
    obtain ⟨h1, h2, h3⟩ := h
    simp only [Fct.items, List.forall_mem_cons, List.not_mem_nil, false_imp_iff, implies_true, and_true]
    exact ⟨.word (w := "pace") (by decide +kernel), it_int h1.1 (by omega), it_fr h2, it_optF h3⟩
  | quick w o lo hi =>
    obtain ⟨h1, h2, h3, h4, h5⟩ := h
    simp only [Fct.items, List.forall_mem_cons, List.not_mem_nil, false_imp_iff, implies_true, and_true]
    exact ⟨.word (w := "quick") (by decide +kernel), it_int h1.1 (by omega), it_int h2.1 (by omega), it_fr h4, it_optF h5⟩
  | meet w o a b =>
    obtain ⟨h1, h2, h3, h4, h5⟩ := h
    simp only [Fct.items, List.forall_mem_cons, List.not_mem_nil, false_imp_iff, implies_true, and_true]
    exact ⟨.word (w := "meet") (by decide +kernel), it_int h1.1 (by omega), it_int h2.1 (by omega), it_int (by omega) (by omega), it_int (by omega) (by omega)⟩
  | back w a b =>
    obtain ⟨h1, h2, h3⟩ := h
    simp only [Fct.items, List.forall_mem_cons, List.not_mem_nil, false_imp_iff, implies_true, and_true]
    exact ⟨.word (w := "back") (by decide +kernel), it_int h1.1 (by omega), it_int (by omega) (by omega), it_int (by omega) (by omega)⟩
/-! ### lines and texts -/
def lineS (f : Fct) : Str := Txt.join " " (f.items.map itemS)
def headS (m : Nat) : Str := ("walkers " : Str) ++ nS m
def textS (m : Nat) (fs : List Fct) : Str := Txt.join "\n" (headS m :: fs.map lineS)
theorem mem_joinL' {S : List Nat} {c : Nat} : ∀ {ps : List (List Nat)}, c ∈ TL.joinL S ps → c ∈ S ∨ ∃ p ∈ ps, c ∈ p
  | [], h => by cases h
  | [q], h => .inr ⟨q, by simp, h⟩
  | q :: r :: t, h => by
    have h : c ∈ q ++ (S ++ TL.joinL S (r :: t)) := h
    rcases List.mem_append.mp h with h | h
    · exact .inr ⟨q, by simp, h⟩
    · rcases List.mem_append.mp h with h | h
      · exact .inl h
      · rcases mem_joinL' h with h | ⟨p, hp, hc⟩
        · exact .inl h
        · exact .inr ⟨p, List.mem_cons_of_mem _ hp, hc⟩
theorem len_joinL' {S : List Nat} {k : Nat} : ∀ {ps : List (List Nat)}, (∀ p ∈ ps, p.length ≤ k) → (TL.joinL S ps).length ≤ ps.length * (k + S.length)
  | [], _ => Nat.zero_le _
  | [q], h => by
    have := h q (by simp)
    show q.length ≤ 1 * _
    omega
  | q :: r :: t, h => by
    have h1 := h q (by simp)
    have := len_joinL' (S := S) (ps := r :: t) fun p hp => h p (List.mem_cons_of_mem _ hp)
    show (q ++ (S ++ TL.joinL S (r :: t))).length ≤ ((r :: t).length + 1) * _
    rw [List.length_append, List.length_append, Nat.succ_mul]; omega
theorem sg_blank : sg (" " : Str) = [32] := by decide +kernel
theorem sg_feed : sg ("\n" : Str) = [10] := by decide +kernel
/-- a line: one of clean words -/
theorem line_signs {ws : List Str} (h : ∀ w ∈ ws, clean w) : (Txt.join " " ws).length ≤ ws.length * 64 ∧ ∀ c ∈ sg (Txt.join " " ws), 32 ≤ c ∧ c ≤ 122 := by
  rw [sg_len, sg_join, sg_blank]
  refine ⟨?_, fun c hc => ?_⟩
  · have := len_joinL' (S := [32]) (k := 63) (ps := ws.map sg) fun p hp => by
      obtain ⟨w, hw, rfl⟩ := List.mem_map.mp hp
      rw [← sg_len]; exact (h w hw).1
    rw [List.length_map] at this
    exact this
  · rcases mem_joinL' hc with hc | ⟨p, hp, hc⟩
    · rw [List.mem_singleton.mp hc]; omega
    · obtain ⟨w, hw, rfl⟩ := List.mem_map.mp hp
      have := (h w hw).2 c hc
      omega
theorem line_split {ws : List Str} (hne : ws ≠ []) (h : ∀ w ∈ ws, clean w) : Txt.split (Txt.join " " ws) " " = ws :=
  TL.split_join (y := " ") (s := 32) (S := []) sg_blank (by decide +kernel) hne fun p hp hm => by
    have := (h p hp).2 32 hm
    omega
theorem text_split {ls : List Str} (hne : ls ≠ []) (h : ∀ l ∈ ls, ∀ c ∈ sg l, 32 ≤ c ∧ c ≤ 122) : Txt.split (Txt.join "\n" ls) "\n" = ls :=
  TL.split_join (y := "\n") (s := 10) (S := []) sg_feed (by decide +kernel) hne fun p hp hm => by
    have := h p hp 10 hm
    omega
theorem head_eq (m : Nat) : headS m = Txt.join " " [("walkers" : Str), nS m] := by
  rw [join_eq]
  show headS m = ("walkers" : Str) ++ (" " : Str) ++ nS m
  unfold headS
  rfl
theorem walkers_clean : clean ("walkers" : Str) := by unfold clean; decide +kernel
theorem walkers_item : itemIn ("walkers" : Str) = .str "walkers" := letters_item (letters_clean (by decide +kernel))
end LW

set_option Elab.async false
set_option linter.all false
set_option maxRecDepth 100000
set_option maxHeartbeats 8000000
/-! SP26: facts as texts, the defs. -/
namespace LW
open PySem PySem.Spec PyProof.Rows L2 DL
theorem sz63 {x : Str} (h : clean x) : x.length ≤ sizeLine := size1 (by have := h.1; omega)
theorem str_int {n : Nat} (h : n < 10 ^ 31) (S : Sto) : bltW .str [.p (.int (n : Int))] S = .ok (.sh (.p (.str (nS n)))) S := by
  show rOpt ((strD (.int n)).map fun x => EV.sh (.p (.str x))) S = _
  unfold strD
  dsimp only
  rw [if_pos (log_nat h)]; rfl
theorem str_str {x : Str} (h : x.length ≤ sizeLine) (S : Sto) : bltW .str [.p (.str x)] S = .ok (.sh (.p (.str x))) S := by
  show rOpt ((strD (.str x)).map fun x => EV.sh (.p (.str x))) S = _
  unfold strD
  dsimp only
  rw [if_pos h]; rfl
theorem strD_nat {n : Nat} (h : n < 10 ^ 31) : strD (.int n) = some (nS n) := by
  unfold strD
  dsimp only
  rw [if_pos (log_nat h)]; rfl
theorem strD_str {x : Str} (h : x.length ≤ sizeLine) : strD (.str x) = some x := by
  unfold strD
  dsimp only
  rw [if_pos h]
theorem empty_app (x : Str) : Str.empty ++ x = x := sg_ext (by rw [sg_app]; rfl)
theorem len_app (x y : Str) : (x ++ y).length = x.length + y.length := by rw [sg_len, sg_app, List.length_append, ← sg_len, ← sg_len]
theorem sp_shown {d : D} (h : It d) (S : Sto) : fnAt B0 TAB 75 [.p d] S = .ok (.sh (.p (.str (itemS d)))) S := by
  rw [f_shown]; unfold i_shown
  cases h with
  | @word w hw =>
    simp [run_def, isTy, str_str (sz63 (word_clean hw).1), itemS]
  | @num n hn => simp [run_def, isTy, str_int hn, itemS_num]
  | non => simp [run_def, itemS]
  | @quo a b ha hb =>
    have l1 := (clean_nS ha).1
    have l2 := (clean_nS hb).1
    have hs : (("/" : Str)).length = 1 := by decide +kernel
    have z1 : (nS a).length ≤ sizeLine := size1 (by omega)
    have z2 : (nS a ++ ("/" : Str)).length ≤ sizeLine := size1 (by rw [len_app, hs]; omega)
    have z3 : (nS a ++ ("/" : Str) ++ nS b).length ≤ sizeLine := size1 (by rw [len_app, len_app, hs]; omega)
    have z4 : (("/" : Str)).length ≤ sizeLine := size1 (by rw [hs]; omega)
    simp [run_def, isTy, strD_nat ha, strD_nat hb, strD_str z4, empty_app, z1, z2, z3, itemS_quo]
theorem sp_law_item {d : D} (h : It d) (S : Sto) : fnAt B0 TAB 79 [.p d] S = .ok (.sh (.p (.str (itemS d)))) S := by
  rw [f__law_item]; unfold i__law_item
  cases h with
  | @word w hw =>
    simp [run_def, isTy, str_str (sz63 (word_clean hw).1), itemS]
  | @num n hn => simp [run_def, isTy, str_int hn, itemS_num]
  | non => simp [run_def, itemS]
  | @quo a b ha hb =>
    have l1 := (clean_nS ha).1
    have l2 := (clean_nS hb).1
    have hs : (("/" : Str)).length = 1 := by decide +kernel
    have z2 : (nS a).length + (("/" : Str)).length ≤ sizeLine := size1 (by rw [hs]; omega)
    have z3 : (nS a ++ ("/" : Str)).length + (nS b).length ≤ sizeLine := size1 (by rw [len_app, hs]; omega)
    simp [run_def, isTy, str_int ha, str_int hb, z2, z3, itemS_quo]
theorem strsD_map (ws : List Str) : strsD (ws.map D.str) = some ws := by
  induction ws with
  | nil => rfl
  | cons w r ih => simp only [List.map_cons, strsD, ih]; rfl
theorem join_run {x : Str} {d : D} {ws : List Str} {S : Sto} (hd : seqD d = some (ws.map D.str)) (h : (ws.map (·.length)).sum + ws.length * x.length ≤ 16777216) : mthD .join x d S = .ok (.sh (.p (.str (Txt.join x ws)))) S := by
  unfold mthD
  dsimp only
  rw [hd]
  show (match strsD (ws.map D.str) with | some ys => _ | none => _) = _
  rw [strsD_map]
  dsimp only
  rw [if_pos h]; rfl
theorem sum_len {k : Nat} : ∀ {ws : List Str}, (∀ w ∈ ws, w.length ≤ k) → (ws.map (·.length)).sum ≤ ws.length * k
  | [], _ => Nat.zero_le _
  | w :: r, h => by
    have h1 := h w List.mem_cons_self
    have := sum_len (ws := r) fun v hv => h v (List.mem_cons_of_mem _ hv)
    rw [List.map_cons, List.sum_cons, List.length_cons, Nat.succ_mul]; omega
/-- the items' words, by a def of one item -/
theorem items_comp {g : Sg} {n0 j v tgt : Nat} {xs : List D} (hF : ∀ d, It d → ∀ S, g.F j [.p d] S = .ok (.sh (.p (.str (itemS d)))) S) (hx : ∀ d ∈ xs, It d) (hl : xs.length ≤ 1000) {ρ : Rho} {S : Sto} (hv : ρ[v]? = some (some (.p (.tup xs)))) (ht : tgt < ρ.length) :
    evE g n0 (.comp (.call j (.cons (.var tgt) .nil)) [tgt] true (.seq (.var v))) ρ S = .ok (.fr (.lst ((xs.map itemS).map D.str))) S := by
  have := comp_pure (g := g) (n0 := n0) (e := .call j (.cons (.var tgt) .nil)) (tg := [tgt]) (one := true) (it := .seq (.var v)) (ρ := ρ) (S := S) (ds := xs) (t := []) (fun d => .str (itemS d)) (by simp [hv]) (keeps_nil S) (size1 hl) fun d hd acc => by
    have g1 : ((wipeR ρ [tgt]).set tgt (some (.p d)))[tgt]? = some (some (.p d)) := by
      rw [List.getElem?_set_self]
      simpa [wipeR] using ht
    exact ⟨_, rfl, by simp [g1, hF d (hx d hd)]⟩
  rw [this, List.map_map]
  rfl
theorem items_sum {xs : List D} (hx : ∀ d ∈ xs, It d) (hl : xs.length ≤ 5) {x : Str} (h1 : x.length = 1) : ((xs.map itemS).map (·.length)).sum + (xs.map itemS).length * x.length ≤ 16777216 := by
  have := sum_len (k := 63) (ws := xs.map itemS) fun w hw => by
    obtain ⟨d, hd, rfl⟩ := List.mem_map.mp hw
    exact (itemIn_it (hx d hd)).2.1
  rw [List.length_map] at *
  rw [h1]
  have : xs.length * 63 ≤ 5 * 63 := Nat.mul_le_mul_right _ hl
  omega
theorem blank1 : ((" " : Str)).length = 1 := by decide +kernel
theorem feed1 : (("\n" : Str)).length = 1 := by decide +kernel
theorem sp_line {f : Fct} {m : Int} (h : f.ok m) (hm : m ≤ 3) (S : Sto) : fnAt B0 TAB 76 [.p f.d] S = .ok (.sh (.p (.str (lineS f)))) S := by
  rw [f_fact_line, d_items]; unfold i_fact_line
  have hi := items_it h hm
  have hl := items_len f
  have hc := items_comp (g := gAt B0 TAB 76) (n0 := S.length) (j := 75) (v := 0) (tgt := 1) (xs := f.items) (fun d hd S => by rw [G_F (by decide) (by decide)]; exact sp_shown hd S) hi (by omega) (ρ := [some (.p (.tup f.items)), none]) (S := S) rfl (by simp)
  have hj := join_run (x := " ") (d := .lst ((f.items.map itemS).map D.str)) (S := S) rfl (items_sum hi hl.2 blank1)
  simp only [List.map_map] at hc hj
  simp [run_def, hc, hj, lineS]
theorem line_len {f : Fct} {m : Int} (h : f.ok m) (hm : m ≤ 3) : (lineS f).length ≤ 320 ∧ ∀ c ∈ sg (lineS f), 32 ≤ c ∧ c ≤ 122 := by
  have := line_signs (ws := f.items.map itemS) fun w hw => by
    obtain ⟨d, hd, rfl⟩ := List.mem_map.mp hw
    exact (itemIn_it (items_it h hm d hd)).2
  rw [List.length_map] at this
  have hl := items_len f
  refine ⟨?_, this.2⟩
  have : f.items.length * 64 ≤ 5 * 64 := Nat.mul_le_mul_right _ hl.2
  unfold lineS
  omega
theorem head_len {m : Nat} (hm : m ≤ 3) : (headS m).length ≤ 128 ∧ ∀ c ∈ sg (headS m), 32 ≤ c ∧ c ≤ 122 := by
  have := line_signs (ws := [("walkers" : Str), nS m]) fun w hw => by
    simp only [List.mem_cons, List.not_mem_nil, or_false] at hw
    rcases hw with rfl | rfl
    · exact walkers_clean
    · exact clean_nS (Nat.lt_of_le_of_lt hm (by decide))
  rw [head_eq]
  exact this
theorem sp_lines_of {m : Nat} (hm : m ≤ 3) {fs : List Fct} (h : ∀ f ∈ fs, f.ok m) (hl : fs.length ≤ 10) (S : Sto) : fnAt B0 TAB 77 [.p (.int m), .p (.tup (fs.map Fct.d))] S = .ok (.fr (.lst ((headS m :: fs.map lineS).map D.str))) S := by
  rw [f_lines_of]; unfold i_lines_of
  have hm3 : (m : Int) ≤ 3 := by omega
  have hc := comp_pure (g := gAt B0 TAB 77) (n0 := S.length) (e := .call 76 (.cons (.var 2) .nil)) (tg := [2]) (one := true) (it := .seq (.var 1)) (ρ := [some (.p (.int m)), some (.p (.tup (fs.map Fct.d))), none]) (S := S) (ds := fs.map Fct.d) (t := []) (fun d => match d with | .tup xs => .str (Txt.join " " (xs.map itemS)) | _ => .non) (by simp) (keeps_nil S) (size1 (by simp; omega)) fun d hd acc => by
    obtain ⟨f, hf, rfl⟩ := List.mem_map.mp hd
    refine ⟨_, rfl, ?_⟩
    simp only [wipeR, List.set_cons_succ, List.set_cons_zero]
    have := sp_line (h f hf) hm3 (S ++ [some (Cell.lst acc)])
    rw [d_items] at this ⊢
    simp [this, lineS]
  have e : (fs.map Fct.d).map (fun d => match d with | .tup xs => D.str (Txt.join " " (xs.map itemS)) | _ => .non) = (fs.map lineS).map D.str := by
    rw [List.map_map, List.map_map]
    refine List.map_congr_left fun f _ => ?_
    show (match f.d with | .tup xs => D.str (Txt.join " " (xs.map itemS)) | _ => .non) = _
    rw [d_items]; rfl
  rw [e] at hc
  have hn : m < 10 ^ 31 := Nat.lt_of_le_of_lt hm (by decide)
  have z0 : (("walkers " : Str)).length = 8 := by decide +kernel
  have z1 : (("walkers " : Str)).length ≤ sizeLine := size1 (by rw [z0]; omega)
  have hh := head_len hm
  have z2 : (("walkers " : Str) ++ nS m).length ≤ sizeLine := size1 (by have := hh.1; unfold headS at this; omega)
  have z3 : 1 + ((fs.map lineS).map D.str).length ≤ sizeLine := size1 (by simp; omega)
  simp only [List.map_map, List.length_map] at hc z3
  simp [run_def, strD_str z1, strD_nat hn, empty_app, z1, z2, hc, z3, headS]
theorem text_sum {m : Nat} (hm : m ≤ 3) {fs : List Fct} (h : ∀ f ∈ fs, f.ok m) (hl : fs.length ≤ 10) : ((headS m :: fs.map lineS).map (·.length)).sum + (headS m :: fs.map lineS).length * (("\n" : Str)).length ≤ 16777216 := by
  have := sum_len (k := 320) (ws := headS m :: fs.map lineS) fun w hw => by
    rcases List.mem_cons.mp hw with rfl | hw
    · have := (head_len hm).1; omega
    · obtain ⟨f, hf, rfl⟩ := List.mem_map.mp hw
      exact (line_len (h f hf) (by omega)).1
  rw [feed1]
  have e : (headS m :: fs.map lineS).length ≤ 11 := by simp; omega
  have : (headS m :: fs.map lineS).length * 320 ≤ 11 * 320 := Nat.mul_le_mul_right _ e
  omega
theorem facts_okB {m : Nat} {fs : List Fct} (h : ∀ f ∈ fs, f.ok m) (hl : fs.length ≤ 6) : areFactsB m (.tup (fs.map Fct.d)) = true := by
  unfold areFactsB
  simp only [List.length_map, Bool.and_eq_true, decide_eq_true_eq, List.all_eq_true]
  refine ⟨hl, fun d hd => ?_⟩
  obtain ⟨f, hf, rfl⟩ := List.mem_map.mp hd
  exact fact_ok (h f hf)
theorem facts_pl (fs : List Fct) : (D.tup (fs.map Fct.d)).pl = true := by
  have : D.plA (fs.map Fct.d) = true := by
    induction fs with
    | nil => simp [D.plA]
    | cons f r ih => simp only [List.map_cons, D.plA, pl_fct, Bool.true_and]; exact ih
  simpa [D.pl] using this
theorem sp_facts_text {m : Nat} (h1 : 1 ≤ m) (hm : m ≤ 3) {fs : List Fct} (h : ∀ f ∈ fs, f.ok m) (hl : fs.length ≤ 6) (S : Sto) : fnAt B0 TAB 78 [.p (.int m), .p (.tup (fs.map Fct.d))] S = .ok (.sh (.p (.str (textS m fs)))) S := by
  rw [f_facts_text]; unfold i_facts_text
  have w : withinB (.int m) 1 3 = true := by simp; omega
  have e1 := sp_need_many (d := .int m) (by simp [D.pl]) S
  rw [if_pos w] at e1
  have e2 := sp_need_facts (m := m) (facts_pl fs) S
  rw [if_pos (facts_okB h hl)] at e2
  have e3 := sp_lines_of hm h (by omega) S
  have hj := join_run (x := "\n") (d := .lst ((headS m :: fs.map lineS).map D.str)) (S := S) rfl (text_sum hm h (by omega))
  simp only [List.map_cons, List.map_map] at e3 hj
  simp [run_def, e1, e2, e3, hj, textS]
end LW

set_option Elab.async false
set_option linter.all false
set_option maxRecDepth 100000
set_option maxHeartbeats 8000000
/-! SP27: texts read: items, pieces. -/
namespace LW
open PySem PySem.Spec PyProof.Rows L2 DL
theorem numD_pl (w : Str) : (numD w).pl = true ∧ (numD w).dp = 0 := by
  unfold numD
  cases numIn w <;> simp [D.pl, D.dp]
theorem numD_plA (ws : List Str) : D.plA (ws.map numD) = true ∧ D.dpA (ws.map numD) = 0 := by
  induction ws with
  | nil => simp [D.plA, D.dpA]
  | cons w r ih =>
    have := numD_pl w
    simp only [List.map_cons, D.plA, D.dpA, ih.1, ih.2, this.1, this.2]
    exact ⟨rfl, rfl⟩
theorem eqv_non (w : Str) : eqv (numD w) .non = decide (numIn w = none) := by
  unfold numD
  cases numIn w <;> simp [eqv]
theorem non_in (ws : List Str) : inD .non (ws.map numD) = some (ws.any fun w => decide (numIn w = none)) := by
  have h := numD_plA ws
  rw [inD_fit ⟨by simp [D.pl], by simp [D.dp]⟩ ⟨h.1, by omega⟩, List.any_map]
  congr 2
  funext w
  exact eqv_non w
theorem split_run {x y : Str} (hy : (y.length == 0) = false) (hx : x.length ≤ 1000000) (S : Sto) : mthD .split x (.str y) S = .ok (.fr (.lst ((Txt.split x y).map D.str))) S := by
  unfold mthD
  dsimp only
  rw [if_pos ⟨hy, by rw [sizeLine_eq]; omega⟩]; rfl
theorem split_small {x y : Str} (hy : 1 ≤ y.length) (hx : x.length ≤ 1000000) : (Txt.split x y).length ≤ sizeLine := by
  have := split_cnt (x := x) hy
  rw [sizeLine_eq]; omega
theorem slash1 : ((("/" : Str)).length == 0) = false := by decide +kernel
theorem blank0 : (((" " : Str)).length == 0) = false := by decide +kernel
theorem feed0 : ((("\n" : Str)).length == 0) = false := by decide +kernel
/-- the parts of a text, one after the other -/
theorem parts_comp {g : Sg} {n0 j v tgt : Nat} {w y : Str} {h : Str → D} (hy : (y.length == 0) = false) (hy1 : 1 ≤ y.length) (hw : PyData.strOk w = true) (hl : w.length ≤ 1000000) (hF : ∀ u S, PyData.strOk u = true → u.length ≤ 1000000 → g.F j [.p (.str u)] S = .ok (.sh (.p (h u))) S) {ρ : Rho} {S : Sto} (hv : ρ[v]? = some (some (.p (.str w)))) (ht : tgt < ρ.length) :
    evE g n0 (.comp (.call j (.cons (.var tgt) .nil)) [tgt] true (.seq (.mth .split (.var v) (.str y)))) ρ S = .ok (.fr (.lst ((Txt.split w y).map h))) S := by
  have hs := split_run hy hl
  have := comp_pure (g := g) (n0 := n0) (e := .call j (.cons (.var tgt) .nil)) (tg := [tgt]) (one := true) (it := .seq (.mth .split (.var v) (.str y))) (ρ := ρ) (S := S) (ds := (Txt.split w y).map D.str) (t := []) (fun d => match d with | .str u => h u | _ => .non) (by simp [hv, hs]) (keeps_nil S) (by rw [List.length_map]; exact split_small hy1 hl) fun d hd acc => by
    obtain ⟨u, hu, rfl⟩ := List.mem_map.mp hd
    have g1 : ((wipeR ρ [tgt]).set tgt (some (.p (.str u))))[tgt]? = some (some (.p (.str u))) := by
      rw [List.getElem?_set_self]
      simpa [wipeR] using ht
    have ho := split_ok hw hu
    exact ⟨_, rfl, by simp [g1, hF u _ ho.1 (by omega)]⟩
  rw [this, List.map_map]
  rfl
theorem sp_item_in {w : Str} (hw : PyData.strOk w = true) (hl : w.length ≤ 1000000) (S : Sto) : fnAt B0 TAB 82 [.p (.str w)] S = .ok (.sh (.p (itemIn w))) S := by
  rw [f_item_in]; unfold i_item_in
  have hE : eqD (.str w) (.str "-") = some (decide (w = ("-" : Str))) := eqD_str hw (by decide +kernel)
  have hN := sp_number_in hw hl S
  by_cases h1 : w = ("-" : Str)
  · have : itemIn w = .non := by unfold itemIn; rw [if_pos h1]
    rw [this]
    rw [decide_eq_true h1] at hE
    simp [run_def, hE]
  · rw [decide_eq_false h1] at hE
    cases hn : numIn w with
    | some n =>
      have : itemIn w = .int n := by unfold itemIn; rw [if_neg h1, hn]
      rw [this]
      have hd : numD w = .int n := by unfold numD; rw [hn]
      rw [hd] at hN
      simp [run_def, hE, hN]
    | none =>
      have hd : numD w = .non := by unfold numD; rw [hn]
      rw [hd] at hN
      have hc := parts_comp (g := gAt B0 TAB 82) (n0 := S.length) (j := 81) (v := 0) (tgt := 3) (w := w) (y := "/") (h := numD) slash1 (by decide +kernel) hw hl (fun u S h1 h2 => by rw [G_F (by decide) (by decide)]; exact sp_number_in h1 h2 S) (ρ := [some (.p (.str w)), some (.p .non), none, none]) (S := S) rfl (by simp)
      have hi : itemIn w = if (Txt.split w "/").length = 2 ∧ (Txt.split w "/").any (fun w => decide (numIn w = none)) = false then .tup ((Txt.split w "/").map numD) else .str w := by
        unfold itemIn
        rw [if_neg h1, hn]
        dsimp only
        congr 1
        rw [List.any_eq_false]
        simp
      rw [hi]
      have hin := non_in (Txt.split w "/")
      by_cases h2 : (Txt.split w "/").length = 2
      · have h2' : ((Txt.split w "/").length : Int) = 2 := by omega
        cases h3 : (Txt.split w "/").any (fun w => decide (numIn w = none)) with
        | true =>
          rw [h3] at hin
          simp [run_def, hE, hN, hc, h2, hin]
        | false =>
          rw [h3] at hin
          simp [run_def, hE, hN, hc, h2, hin]
      · have h2' : ¬ ((Txt.split w "/").length : Int) = 2 := by omega
        simp [run_def, hE, hN, hc, h2, h2']
theorem itemIn_pl {w : Str} (hw : PyData.strOk w = true) : (itemIn w).pl = true ∧ (itemIn w).dp ≤ 1 := by
  unfold itemIn
  split
  · simp [D.pl, D.dp]
  · split
    · simp [D.pl, D.dp]
    · split
      · have := numD_plA (Txt.split w "/")
        simp [D.pl, D.dp, this.1, this.2]
      · simp [D.pl, D.dp, hw]
/-- what a line writes -/
def itemsOf (t : Str) : List D := (Txt.split t " ").map itemIn
def isW : D → Bool
  | .str x => decide (x = ("walkers" : Str))
  | _ => false
def in123 : D → Bool
  | .int i => decide (1 ≤ i) && decide (i ≤ 3)
  | _ => false
def pieceD (t : Str) : D :=
  if (itemsOf t).head?.any isW = true then (match itemsOf t with
    | [_, x] => if in123 x = true then .tup [.str "walkers", x] else .non
    | _ => .non)
  else if isFactB 3 (.tup (itemsOf t)) = true then .tup [.str "fact", .tup (itemsOf t)] else .non
theorem itemsOf_pl {t : Str} (ht : PyData.strOk t = true) : D.plA (itemsOf t) = true ∧ D.dpA (itemsOf t) ≤ 1 := by
  have : ∀ ws : List Str, (∀ w ∈ ws, PyData.strOk w = true) → D.plA (ws.map itemIn) = true ∧ D.dpA (ws.map itemIn) ≤ 1 := fun ws => by
    induction ws with
    | nil => intro _; simp [D.plA, D.dpA]
    | cons w r ih =>
      intro h
      have h1 := itemIn_pl (h w List.mem_cons_self)
      have h2 := ih fun v hv => h v (List.mem_cons_of_mem _ hv)
      simp only [List.map_cons, D.plA, D.dpA, h1.1, h2.1, Bool.true_and, true_and]
      omega
  exact this _ fun w hw => (split_ok ht hw).1
theorem str_beq (x y : Str) : (x == y) = decide (x = y) := by
  by_cases h : x = y
  · subst h; simp
  · rw [decide_eq_false h]; exact beq_eq_false_iff_ne.mpr h
theorem eq_walkers {d : D} (h : d.pl = true) (hd : d.dp ≤ 50) : eqD d (.str "walkers") = some (isW d) := by
  rw [eqD_fit ⟨h, by omega⟩ ⟨by simp [D.pl], by simp [D.dp]⟩]
  cases d <;> simp [eqv, isW, str_beq]
theorem itemIn_kind (w : Str) : itemIn w = .non ∨ (∃ i, itemIn w = .int i) ∨ (∃ x, itemIn w = .str x) ∨ ∃ xs, itemIn w = .tup xs := by
  unfold itemIn
  split
  · exact .inl rfl
  · split
    · exact .inr (.inl ⟨_, rfl⟩)
    · split
      · exact .inr (.inr (.inr ⟨_, rfl⟩))
      · exact .inr (.inr (.inl ⟨_, rfl⟩))
theorem in_123 {d : D} (h : d.pl = true) (hd : d.dp ≤ 50) (hk : d = .non ∨ (∃ i, d = .int i) ∨ (∃ x, d = .str x) ∨ ∃ xs, d = .tup xs) : inD d [.int 1, .int 2, .int 3] = some (in123 d) := by
  rw [inD_fit ⟨h, by omega⟩ ⟨by simp [D.plA, D.pl], by simp [D.dpA, D.dp]⟩]
  rcases hk with rfl | ⟨i, rfl⟩ | ⟨x, rfl⟩ | ⟨xs, rfl⟩
  · simp [eqv, in123]
  · simp only [List.any_cons, eqv, List.any_nil, in123, Bool.or_false]
    congr 1
    by_cases h1 : i = 1
    · subst h1; rfl
    · by_cases h2 : i = 2
      · subst h2; rfl
      · by_cases h3 : i = 3
        · subst h3; rfl
        · have e1 : (1 == i) = false := by simp; omega
          have e2 : (2 == i) = false := by simp; omega
          have e3 : (3 == i) = false := by simp; omega
          rw [e1, e2, e3]
          by_cases a : 1 ≤ i
          · have : ¬ i ≤ 3 := by omega
            simp [this]
          · simp [a]
  · simp [eqv, in123]
  · simp [eqv, in123]
theorem sp_piece {t : Str} (ht : PyData.strOk t = true) (hl : t.length ≤ 1000000) (hne : Txt.split t " " ≠ []) (S : Sto) : fnAt B0 TAB 83 [.p (.str t)] S = .ok (.sh (.p (pieceD t))) S := by
  rw [f_piece_of]; unfold i_piece_of
  have hc := parts_comp (g := gAt B0 TAB 83) (n0 := S.length) (j := 82) (v := 0) (tgt := 2) (w := t) (y := " ") (h := itemIn) blank0 (by decide +kernel) ht hl (fun u S h1 h2 => by rw [G_F (by decide) (by decide)]; exact sp_item_in h1 h2 S) (ρ := [some (.p (.str t)), none, none]) (S := S) rfl (by simp)
  have hp := itemsOf_pl ht
  have hne' : itemsOf t ≠ [] := by unfold itemsOf; simpa using hne
  have hkind : ∀ d ∈ itemsOf t, d = .non ∨ (∃ i, d = .int i) ∨ (∃ x, d = .str x) ∨ ∃ xs, d = .tup xs := fun d hd => by
    obtain ⟨w, _, rfl⟩ := List.mem_map.mp hd
    exact itemIn_kind w
  change evE _ _ _ _ _ = R.ok (EV.fr (Cell.lst (itemsOf t))) S at hc
  unfold pieceD
  generalize itemsOf t = items at *
  cases items with
  | nil => exact absurd rfl hne'
  | cons x r =>
    have hx : x.pl = true ∧ x.dp ≤ 1 := ⟨plA_mem hp.1 List.mem_cons_self, Nat.le_trans (dpA_mem List.mem_cons_self) hp.2⟩
    have hw := eq_walkers hx.1 (by omega)
    have hf := sp_fact (d := .tup (x :: r)) (by simpa [D.pl] using hp.1) 3 S
    have h2 : (2 : Nat) ≤ sizeLine := size1 (by decide)
    have h3 : (3 : Nat) ≤ sizeLine := size1 (by decide)
    have hhd : (x :: r).head?.any isW = isW x := rfl
    rw [hhd]
    rcases Bool.eq_false_or_eq_true (isW x) with hW | hW
    · rw [if_pos hW]
      rw [hW] at hw
      match r, hp, hkind, hc with
      | [], _, _, hc => simp [run_def, hc, hw]
      | [y], hp, hkind, hc =>
        have hy : y.pl = true ∧ y.dp ≤ 1 := ⟨plA_mem hp.1 (by simp), Nat.le_trans (dpA_mem (xs := [x, y]) (by simp)) hp.2⟩
        have h123 := in_123 hy.1 (by omega) (hkind y (by simp))
        rcases Bool.eq_false_or_eq_true (in123 y) with hI | hI
        · rw [hI] at h123
          simp [run_def, hc, hw, h123, hI, h2, h3]
        · rw [hI] at h123
          simp [run_def, hc, hw, h123, hI, h2, h3]
      | y :: z :: s, _, _, hc =>
        have : ¬ ((s.length : Int) + 1 + 1 + 1 = 2) := by omega
        simp [run_def, hc, hw, this]
    · rw [if_neg (by rw [hW]; exact Bool.false_ne_true)]
      rw [hW] at hw
      rcases Bool.eq_false_or_eq_true (isFactB 3 (.tup (x :: r))) with hF | hF
      · rw [if_pos hF]
        rw [hF] at hf
        simp [run_def, hc, hw, hf, h2]
      · rw [if_neg (by rw [hF]; exact Bool.false_ne_true)]
        rw [hF] at hf
        simp [run_def, hc, hw, hf]
end LW

set_option Elab.async false
set_option linter.all false
set_option maxRecDepth 100000
set_option maxHeartbeats 8000000
/-! SP28: texts of facts read back. -/
namespace LW
open PySem PySem.Spec PyProof.Rows L2 DL
theorem Fct.ok.to3 {f : Fct} {m : Int} (h : f.ok m) (hm : m ≤ 3) : f.ok 3 := by
  cases f with
  | len lo hi => exact h
  | steps w up lo hi => obtain ⟨h1, r⟩ := h; exact ⟨⟨h1.1, by omega⟩, r⟩
  | pace w lo hi => obtain ⟨h1, r⟩ := h; exact ⟨⟨h1.1, by omega⟩, r⟩
  | quick w o lo hi => obtain ⟨h1, h2, r⟩ := h; exact ⟨⟨h1.1, by omega⟩, ⟨h2.1, by omega⟩, r⟩
  | meet w o a b => obtain ⟨h1, h2, r⟩ := h; exact ⟨⟨h1.1, by omega⟩, ⟨h2.1, by omega⟩, r⟩
  | back w a b => obtain ⟨h1, r⟩ := h; exact ⟨⟨h1.1, by omega⟩, r⟩
theorem piece_line {f : Fct} {m : Int} (h : f.ok m) (hm : m ≤ 3) : pieceD (lineS f) = .tup [.str "fact", f.d] := by
  have hi := items_it h hm
  have hne : f.items.map itemS ≠ [] := by
    have := (items_len f).1
    intro e
    have h0 := congrArg List.length e
    rw [List.length_map, List.length_nil] at h0
    omega
  have e : itemsOf (lineS f) = f.items := by
    unfold itemsOf lineS
    rw [line_split hne fun w hw => by
      obtain ⟨d, hd, rfl⟩ := List.mem_map.mp hw
      exact (itemIn_it (hi d hd)).2]
    rw [List.map_map]
    exact (List.map_congr_left fun d hd => (itemIn_it (hi d hd)).1).trans (List.map_id _)
  unfold pieceD
  rw [e, ← d_items]
  have hw : (f.items.head?.any isW) = false := by cases f <;> simp [Fct.items, isW]
  rw [hw, if_neg Bool.false_ne_true, fact_ok (h.to3 hm), if_pos rfl]
theorem piece_head {m : Nat} (h1 : 1 ≤ m) (hm : m ≤ 3) : pieceD (headS m) = .tup [.str "walkers", .int m] := by
  have hn : m < 10 ^ 31 := Nat.lt_of_le_of_lt hm (by decide)
  have e : itemsOf (headS m) = [.str "walkers", .int m] := by
    unfold itemsOf
    rw [head_eq, line_split (by simp) fun w hw => by
      simp only [List.mem_cons, List.not_mem_nil, or_false] at hw
      rcases hw with rfl | rfl
      · exact walkers_clean
      · exact clean_nS hn]
    have := (itemIn_it (.num hn)).1
    rw [itemS_num] at this
    simp only [List.map_cons, List.map_nil, walkers_item, this]
  unfold pieceD
  rw [e]
  have h3 : in123 (.int m) = true := by simp [in123]; omega
  simp [isW, h3]
/-- what a text writes, piece by piece -/
def piecesD (m : Nat) (fs : List Fct) : List D := .tup [.str "walkers", .int m] :: fs.map fun f => .tup [.str "fact", f.d]
theorem pieces_eq {m : Nat} (h1 : 1 ≤ m) (hm : m ≤ 3) {fs : List Fct} (h : ∀ f ∈ fs, f.ok m) : (headS m :: fs.map lineS).map pieceD = piecesD m fs := by
  unfold piecesD
  rw [List.map_cons, piece_head h1 hm, List.map_map]
  congr 1
  exact List.map_congr_left fun f hf => piece_line (h f hf) (by omega)
theorem text_parts {m : Nat} (hm : m ≤ 3) {fs : List Fct} (h : ∀ f ∈ fs, f.ok m) : Txt.split (textS m fs) "\n" = headS m :: fs.map lineS :=
  text_split (by simp) fun l hl => by
    rcases List.mem_cons.mp hl with rfl | hl
    · exact (head_len hm).2
    · obtain ⟨f, hf, rfl⟩ := List.mem_map.mp hl
      exact (line_len (h f hf) (by omega)).2
theorem text_small {m : Nat} (hm : m ≤ 3) {fs : List Fct} (h : ∀ f ∈ fs, f.ok m) (hl : fs.length ≤ 10) : (textS m fs).length ≤ 10000 ∧ PyData.strOk (textS m fs) = true := by
  have hsm : ∀ w ∈ headS m :: fs.map lineS, w.length ≤ 320 ∧ ∀ c ∈ sg w, 32 ≤ c ∧ c ≤ 122 := fun w hw => by
    rcases List.mem_cons.mp hw with rfl | hw
    · exact ⟨by have := (head_len hm).1; omega, (head_len hm).2⟩
    · obtain ⟨f, hf, rfl⟩ := List.mem_map.mp hw
      exact line_len (h f hf) (by omega)
  constructor
  · unfold textS
    rw [sg_len, sg_join, sg_feed]
    have := len_joinL' (S := [10]) (k := 320) (ps := (headS m :: fs.map lineS).map sg) fun p hp => by
      obtain ⟨w, hw, rfl⟩ := List.mem_map.mp hp
      rw [← sg_len]; exact (hsm w hw).1
    rw [List.length_map, List.length_cons, List.length_map, List.length_singleton] at this
    have : (fs.length + 1) * (320 + 1) ≤ 11 * 321 := Nat.mul_le_mul_right _ (by omega)
    omega
  · refine ok_iff.mpr fun c hc => ?_
    unfold textS at hc
    rw [sg_join, sg_feed] at hc
    rcases mem_joinL' hc with hc | ⟨p, hp, hc⟩
    · rw [List.mem_singleton.mp hc]; decide
    · obtain ⟨w, hw, rfl⟩ := List.mem_map.mp hp
      have := (hsm w hw).2 c hc
      omega
/-! ### the loop over the lines -/
def fiB : CS := bodyS (hdS (tlS (tlS i_facts_in)))
theorem piece_kind (t : Str) : pieceD t = .non ∨ ∃ a b, pieceD t = .tup [a, b] := by
  unfold pieceD
  split
  · split
    · split
      · exact .inr ⟨_, _, rfl⟩
      · exact .inl rfl
    · exact .inl rfl
  · split
    · exact .inr ⟨_, _, rfl⟩
    · exact .inl rfl
theorem fi_step {ρ : Rho} {S S' : Sto} {ps : List D} {t : Str} {i : Nat} (hl : ρ.length = 9) (h1 : ρ[1]? = some (some (.o S.length))) (hS : S' = S ++ [some (.lst ps)]) (hps : ps.length ≤ 1000) (ht : PyData.strOk t = true) (htl : t.length ≤ 1000000) (hne : Txt.split t " " ≠ []) (hp : pieceD t ≠ .non) :
    ∃ ρ', forB (gAt B0 TAB 84) S.length false [2, 3] fiB (.tup [.int i, .str t]) ρ S' = .nx ρ' (S ++ [some (.lst (ps ++ [pieceD t]))]) ∧ ρ'.length = 9 ∧ ρ'[1]? = some (some (.o S.length)) ∧ ρ'[0]? = ρ[0]? := by
  subst hS
  let ρ1 : Rho := (ρ.set 2 (some (.p (.int i)))).set 3 (some (.p (.str t)))
  have b : bindT false [2, 3] (.tup [.int i, .str t]) ρ = some ρ1 := by simp [bindT, ρ1]
  refine ⟨ρ1.set 4 (some (.p (pieceD t))), ?_, by simp [ρ1, hl], by simp [ρ1, h1], by simp [ρ1]⟩
  rw [forB_some _ _ b]
  have g3 : ρ1[3]? = some (some (.p (.str t))) := by simp [ρ1, hl]
  have g4 : (ρ1.set 4 (some (.p (pieceD t))))[4]? = some (some (.p (pieceD t))) := by simp [ρ1, hl]
  have g1 : (ρ1.set 4 (some (.p (pieceD t))))[1]? = some (some (.o S.length)) := by simp [ρ1, h1]
  have e := sp_piece ht htl hne (S ++ [some (.lst ps)])
  have o1 : objL (ρ1.set 4 (some (.p (pieceD t)))) (S ++ [some (.lst ps)]) 1 = some (S.length, ps) := objL_of g1 (by simp)
  have hz : ps.length < sizeLine := size2 (by omega)
  have hk := piece_kind t
  generalize pieceD t = q at *
  rcases hk with rfl | ⟨a, b, rfl⟩
  · exact absurd rfl hp
  · simp [fiB, i_facts_in, g3, g4, e, o1, hz]
theorem fi_loop {S : Sto} {ls : List Str} (hls : ∀ t ∈ ls, PyData.strOk t = true ∧ t.length ≤ 1000000 ∧ Txt.split t " " ≠ [] ∧ pieceD t ≠ .non) (hl : ls.length ≤ 900) {ρ : Rho} (h9 : ρ.length = 9) (h1 : ρ[1]? = some (some (.o S.length))) :
    ∃ ρ', fLoop [] (forB (gAt B0 TAB 84) S.length false [2, 3] fiB) ((ls.map D.str).zipIdx.map fun p => .tup [.int (p.2 : Nat), p.1]) ρ (S ++ [some (.lst [])]) = .nx ρ' (S ++ [some (.lst (ls.map pieceD))]) ∧ ρ'.length = 9 ∧ ρ'[1]? = some (some (.o S.length)) ∧ ρ'[0]? = ρ[0]? := by
  obtain ⟨ρ', S', e, a, b, c, d⟩ := fLoop_inv (t := []) (f := forB (gAt B0 TAB 84) S.length false [2, 3] fiB) (fun i ρ' S' => S' = S ++ [some (.lst ((ls.take i).map pieceD))] ∧ ρ'.length = 9 ∧ ρ'[1]? = some (some (.o S.length)) ∧ ρ'[0]? = ρ[0]?)
    ((ls.map D.str).zipIdx.map fun p => .tup [.int (p.2 : Nat), p.1]) 0 ρ (S ++ [some (.lst [])]) ⟨by simp, h9, h1, rfl⟩ fun i d ρ1 S1 hd hI => by
      obtain ⟨i1, i2, i3, i4⟩ := hI
      simp only [Nat.zero_add] at i1 ⊢
      have hil : i < ls.length := by
        have := (List.getElem?_eq_some_iff.mp hd).1
        simpa using this
      have hd' : d = .tup [.int (i : Nat), .str ls[i]] := by
        rw [List.getElem?_map, List.getElem?_zipIdx] at hd
        simp [hil] at hd
        rw [← hd]
      subst hd'
      obtain ⟨q1, q2, q3, q4⟩ := hls ls[i] (List.getElem_mem hil)
      obtain ⟨ρ2, e2, l2, m2, k2⟩ := fi_step (i := i) i2 i3 i1 (by simp; omega) q1 q2 q3 q4
      refine ⟨ρ2, _, e2, keeps_nil _, ?_, l2, m2, by rw [k2, i4]⟩
      congr 4
      rw [List.take_succ_eq_append_getElem hil, List.map_append]
      rfl
  refine ⟨ρ', ?_, b, c, d⟩
  rw [e, a]
  simp
/-! ### behind the loop -/
theorem comp_pairs {g : Sg} {n0 : Nat} {it : CI} {ρ : Rho} {S : Sto} {t : Wt} {xs : List (D × D)} {v : Nat} (hv : v = 6 ∨ v = 7) (h9 : ρ.length = 9) (hi : evI g n0 it ρ S = .ok (xs.map (fun p => .tup [p.1, p.2]), t) S) (hk : Keeps t S) (hl : xs.length ≤ 1000) :
    evE g n0 (.comp (.var v) [6, 7] false it) ρ S = .ok (.fr (.lst (xs.map fun p => if v = 6 then p.1 else p.2))) S := by
  have := comp_pure (g := g) (n0 := n0) (e := .var v) (tg := [6, 7]) (one := false) (it := it) (ρ := ρ) (S := S) (ds := xs.map (fun p => .tup [p.1, p.2])) (t := t) (fun d => match d with | .tup [a, b] => if v = 6 then a else b | _ => .non) hi hk (size1 (by simpa using hl)) fun d hd acc => by
    obtain ⟨p, hp, rfl⟩ := List.mem_map.mp hd
    refine ⟨((wipeR ρ [6, 7]).set 6 (some (.p p.1))).set 7 (some (.p p.2)), by simp [bindT], ?_⟩
    rcases hv with rfl | rfl <;> simp [wipeR, h9]
  rw [this, List.map_map]
  rfl
def pieceP (m : Nat) (fs : List Fct) : List (D × D) := (.str "walkers", .int m) :: fs.map fun f => (.str "fact", f.d)
theorem pieceP_eq (m : Nat) (fs : List Fct) : piecesD m fs = (pieceP m fs).map fun p => .tup [p.1, p.2] := by
  unfold piecesD pieceP
  rw [List.map_cons, List.map_map]; rfl
theorem sp_facts_in {m : Nat} (h1 : 1 ≤ m) (hm : m ≤ 3) {fs : List Fct} (h : ∀ f ∈ fs, f.ok m) (hl : fs.length ≤ 6) (S : Sto) : fnAt B0 TAB 84 [.p (.str (textS m fs))] S = .ok (.sh (.p (.tup [.int m, .tup (fs.map Fct.d)]))) S := by
  rw [f_facts_in]
  have ht := text_small hm h (by omega)
  have hls : ∀ t ∈ headS m :: fs.map lineS, PyData.strOk t = true ∧ t.length ≤ 1000000 ∧ Txt.split t " " ≠ [] ∧ pieceD t ≠ .non := fun t htm => by
    have ho := split_ok ht.2 (y := "\n") (p := t) (by rw [text_parts hm h]; exact htm)
    refine ⟨ho.1, by have := ho.2; omega, ?_, ?_⟩
    · rcases split_ne (x := t) (y := " ") with z | z
      · exact z
      · exfalso
        rcases List.mem_cons.mp htm with rfl | htm
        · have : 8 ≤ (headS m).length := by
            unfold headS
            rw [len_app, show (("walkers " : Str)).length = 8 by decide +kernel]; omega
          omega
        · obtain ⟨f, hf, rfl⟩ := List.mem_map.mp htm
          have : sg (lineS f) = [] := by rw [sg_len] at z; exact List.eq_nil_of_length_eq_zero z
          have hh : (f.items.map itemS).head? = some (itemS (f.items.headD .non)) ∧ 1 ≤ (itemS (f.items.headD .non)).length := by
            cases f <;> simp [Fct.items, itemS] <;> decide +kernel
          have hm2 : itemS (f.items.headD .non) ∈ f.items.map itemS := List.mem_of_mem_head? hh.1
          have := len_joinL (S := sg (" " : Str)) (p := sg (itemS (f.items.headD .non))) (ps := (f.items.map itemS).map sg) (List.mem_map_of_mem hm2)
          rw [← sg_join, ← sg_len, ← sg_len] at this
          have h2 := hh.2
          unfold lineS at z
          omega
    · rcases List.mem_cons.mp htm with rfl | htm
      · rw [piece_head h1 hm]; simp
      · obtain ⟨f, hf, rfl⟩ := List.mem_map.mp htm
        rw [piece_line (h f hf) (by omega)]; simp
  let ρ0 : Rho := [some (.p (.str (textS m fs))), some (.o S.length), none, none, none, none, none, none, none]
  obtain ⟨ρ1, e1, l1, r1, k1⟩ := fi_loop (S := S) hls (by simp; omega) (ρ := ρ0) rfl rfl
  rw [pieces_eq h1 hm h, pieceP_eq] at e1
  generalize hP : pieceP m fs = P at e1
  have hPl : P.length = fs.length + 1 := by rw [← hP]; simp [pieceP]
  let T : Sto := S ++ [some (.lst (P.map fun p => .tup [p.1, p.2]))]
  have hT : T[S.length]? = some (some (.lst (P.map fun p => .tup [p.1, p.2]))) := by simp [T]
  have hq := keeps_den (a := .o S.length) (S := T) (.inl (den_o hT))
  have c1 := comp_pairs (g := gAt B0 TAB 84) (n0 := S.length) (it := .seq (.var 1)) (ρ := ρ1) (S := T) (t := wtOf (.o S.length) (P.map fun p => .tup [p.1, p.2])) (xs := P) (v := 6) (.inl rfl) l1 (by simp [r1, hq.1]) hq.2 (by omega)
  let K : D := .lst (.str "walkers" :: List.replicate fs.length (.str "fact"))
  have eK : P.map (fun p => if 6 = 6 then p.1 else p.2) = .str "walkers" :: List.replicate fs.length (.str "fact") := by
    rw [← hP]
    unfold pieceP
    simp only [if_pos, List.map_cons, List.map_map]
    congr 1
    apply List.ext_getElem
    · simp
    · intro i h1 h2; simp
  rw [eK] at c1
  let ρ2 : Rho := ρ1.set 5 (some (.p K))
  have hcut : DL.cutD (P.map fun p => D.tup [p.1, p.2]) (some 1) none = P.tail.map fun p => D.tup [p.1, p.2] := by
    rw [show (some (1 : Int)) = some ((1 : Nat) : Int) from rfl, cut_lo]
    simp
  have hsl : slW (.o S.length) (some (.p (.int 1))) none T = .ok (.fr (.lst (P.tail.map fun p => .tup [p.1, p.2]))) T := by
    unfold slW
    rw [den_o hT]
    show frL (DL.cutD _ _ _) T = _
    rw [hcut]; rfl
  have r2 : ρ2[1]? = some (some (.o S.length)) := by simp [ρ2, r1]
  have c2 := comp_pairs (g := gAt B0 TAB 84) (n0 := S.length) (it := .seq (.slL (.var 1) (.int 1))) (ρ := ρ2) (S := T) (t := []) (xs := P.tail) (v := 7) (.inr rfl) (by simp [ρ2, l1]) (by simp [r2, hsl]) (keeps_nil _) (by simp; omega)
  have eF : P.tail.map (fun p => if 7 = 6 then p.1 else p.2) = fs.map Fct.d := by
    rw [← hP]
    unfold pieceP
    simp
  rw [eF] at c2
  let F : D := .tup (fs.map Fct.d)
  let ρ3 : Rho := ρ2.set 8 (some (.p F))
  have s1 : evS (gAt B0 TAB 84) S.length (hdS i_facts_in) [some (.p (.str (textS m fs))), none, none, none, none, none, none, none, none] S = .nx [some (.p (.str (textS m fs))), none, none, none, none, none, none, none, none] S := by
    simp [i_facts_in, isTy]
  have s2 : evS (gAt B0 TAB 84) S.length (hdS (tlS i_facts_in)) [some (.p (.str (textS m fs))), none, none, none, none, none, none, none, none] S = .nx ρ0 (S ++ [some (.lst [])]) := by
    simp [i_facts_in, ρ0]
  have hsplit := split_run (x := textS m fs) feed0 (by omega) (S ++ [some (.lst [])])
  rw [text_parts hm h] at hsplit
  have s3 : evS (gAt B0 TAB 84) S.length (hdS (tlS (tlS i_facts_in))) ρ0 (S ++ [some (.lst [])]) = .nx ρ1 T := by
    show evS _ _ (.for_ [2, 3] false (.enu (.mth .split (.var 0) (.str "\n"))) fiB) ρ0 _ = _
    rw [s_for]
    have : evI (gAt B0 TAB 84) S.length (.enu (.mth .split (.var 0) (.str "\n"))) ρ0 (S ++ [some (.lst [])]) = .ok (((headS m :: fs.map lineS).map D.str).zipIdx.map (fun p => .tup [.int (p.2 : Nat), p.1]), []) (S ++ [some (.lst [])]) := by
      simp only [i_enu, e_mth, e_var, e_str, ρ0, List.getElem?_cons_zero, R.w_sh, R.bind_ok, den_p, hsplit, R.w_frl, seqW_l, rOpt_some, wtOf_p]
    rw [this, R.st_ok]
    exact e1
  have s4 : evS (gAt B0 TAB 84) S.length (hdS (tlS (tlS (tlS i_facts_in)))) ρ1 T = .nx ρ2 T := by
    simp [i_facts_in, c1, ρ2, K]
  have s5 : evS (gAt B0 TAB 84) S.length (hdS (tlS (tlS (tlS (tlS i_facts_in))))) ρ2 T = .nx ρ3 T := by
    simp [i_facts_in, c2, ρ3, F]
  have t5 : ρ3[5]? = some (some (.p K)) := by simp [ρ3, ρ2, l1]
  have t1 : ρ3[1]? = some (some (.o S.length)) := by simp [ρ3, r2]
  have t8 : ρ3[8]? = some (some (.p F)) := by simp [ρ3, ρ2, l1]
  have hlen : bltW .len [.o S.length] T = .ok (.sh (.p (.int ((P.length : Nat) : Int)))) T := by
    rw [blt_lenO hT]; simp
  have hmul : binW .mul (.p (.lst [.str "fact"])) (.p (.int ((P.length : Nat) - 1))) T = .ok (.fr (.lst (List.replicate fs.length (.str "fact")))) T := by
    rw [show ((P.length : Nat) : Int) - 1 = (fs.length : Nat) by omega, bin_mulL (by omega) (by omega) (size1 (by simp; omega)), Int.toNat_natCast, rep_one]
  have hK : K.fit := by
    have : ∀ k, D.plA (List.replicate k (D.str "fact")) = true ∧ D.dpA (List.replicate k (D.str "fact")) = 0 := fun k => by
      induction k with
      | zero => simp [D.plA, D.dpA]
      | succ k ih => simp [List.replicate_succ, D.plA, D.dpA, D.pl, D.dp, ih.1, ih.2]
    have := this fs.length
    exact ⟨by simp [K, D.pl, D.plA, this.1], by simp [K, D.dp, D.dpA, this.2]⟩
  have hEq : eqD K (.lst (.str "walkers" :: List.replicate fs.length (.str "fact"))) = some true := by
    rw [show D.lst (.str "walkers" :: List.replicate fs.length (.str "fact")) = K from rfl, eqD_fit hK hK, eqv_refl hK.1]
  have hP0 : P.map (fun p => D.tup [p.1, p.2]) = .tup [.str "walkers", .int m] :: fs.map fun f => .tup [.str "fact", f.d] := by
    rw [← hP, ← pieceP_eq]; rfl
  have hden : den T (.o S.length) = some (.lst (.tup [.str "walkers", .int m] :: fs.map fun f => .tup [.str "fact", f.d])) := by rw [den_o hT, hP0]
  have hfa := sp_facts (d := F) (facts_pl fs) m T
  rw [facts_okB h hl] at hfa
  have hz : 1 + fs.length ≤ sizeLine := size1 (by omega)
  have s6 : evS (gAt B0 TAB 84) S.length (hdS (tlS (tlS (tlS (tlS (tlS i_facts_in)))))) ρ3 T = .nx ρ3 T := by
    simp [i_facts_in, t5, t1, t8, hlen, hmul, hz, hEq, hden, hfa]
  have h2 : (2 : Nat) ≤ sizeLine := size1 (by decide)
  have s7 : evS (gAt B0 TAB 84) S.length (hdS (tlS (tlS (tlS (tlS (tlS (tlS i_facts_in))))))) ρ3 T = .rt (.sh (.p (.tup [.int m, F]))) T := by
    simp [i_facts_in, t1, t8, hden, h2]
  have hb : i_facts_in = .seq (hdS i_facts_in) (.seq (hdS (tlS i_facts_in)) (.seq (hdS (tlS (tlS i_facts_in))) (.seq (hdS (tlS (tlS (tlS i_facts_in)))) (.seq (hdS (tlS (tlS (tlS (tlS i_facts_in))))) (.seq (hdS (tlS (tlS (tlS (tlS (tlS i_facts_in)))))) (.seq (hdS (tlS (tlS (tlS (tlS (tlS (tlS i_facts_in))))))) .nil)))))) := rfl
  rw [run_def (by rfl), hb]
  show fin S.length (evS _ _ _ [some (.p (.str (textS m fs))), none, none, none, none, none, none, none, none] S) = _
  rw [s_seq, s1, SR.bind_nx, s_seq, s2, SR.bind_nx, s_seq, s3, SR.bind_nx, s_seq, s4, SR.bind_nx, s_seq, s5, SR.bind_nx, s_seq, s6, SR.bind_nx, s_seq, s7, SR.bind_rt, fin_p]
  simp [T, F]
theorem sp_read {m : Nat} (h1 : 1 ≤ m) (hm : m ≤ 3) {fs : List Fct} (h : ∀ f ∈ fs, f.ok m) (hl : fs.length ≤ 6) (S : Sto) : fnAt B0 TAB 85 [.p (.str (textS m fs))] S = .ok (.sh (.p (.tup [.int m, .tup (fs.map Fct.d)]))) S := by
  rw [f_read_facts]; unfold i_read_facts
  simp [run_def, sp_facts_in h1 hm h hl]
end LW

set_option Elab.async false
set_option linter.all false
set_option maxRecDepth 100000
set_option maxHeartbeats 8000000
/-! SP29: the law's own writing; errors of the text's defs. -/
namespace LW
open PySem PySem.Spec PyProof.Rows L2 DL
def wrB : CS := bodyS (hdS (tlS i__law_writing))
theorem wr_step {f : Fct} {m : Int} (h : f.ok m) (hm : m ≤ 3) {ρ : Rho} {S : Sto} {ls : List D} (hl : ρ.length = 5) (h2 : ρ[2]? = some (some (.o S.length))) (hls : ls.length ≤ 1000) :
    ∃ ρ', forB (gAt B0 TAB 80) S.length true [3] wrB f.d ρ (S ++ [some (.lst ls)]) = .nx ρ' (S ++ [some (.lst (ls ++ [.str (lineS f)]))]) ∧ ρ'.length = 5 ∧ ρ'[2]? = some (some (.o S.length)) := by
  let ρ1 : Rho := ρ.set 3 (some (.p f.d))
  refine ⟨ρ1, ?_, by simp [ρ1, hl], by simp [ρ1, h2]⟩
  rw [forB_some (ρ' := ρ1) _ _ rfl]
  have hi := items_it h hm
  have hil := items_len f
  have g3 : ρ1[3]? = some (some (.p (.tup f.items))) := by simp [ρ1, hl, d_items]
  have g2 : ρ1[2]? = some (some (.o S.length)) := by simp [ρ1, h2]
  have hc := items_comp (g := gAt B0 TAB 80) (n0 := S.length) (j := 79) (v := 3) (tgt := 4) (xs := f.items) (fun d hd S => by rw [G_F (by decide) (by decide)]; exact sp_law_item hd S) hi (by omega) (ρ := ρ1) (S := S ++ [some (.lst ls)]) g3 (by simp [ρ1, hl])
  have hj := join_run (x := " ") (d := .lst ((f.items.map itemS).map D.str)) (S := S ++ [some (.lst ls)]) rfl (items_sum hi hil.2 blank1)
  have o1 : objL ρ1 (S ++ [some (.lst ls)]) 2 = some (S.length, ls) := objL_of g2 (by simp)
  have hz : ls.length < sizeLine := size2 (by omega)
  simp only [List.map_map] at hc hj
  simp [wrB, i__law_writing, o1, hc, hj, hz, lineS]
theorem sp_writing {m : Nat} (hm : m ≤ 3) {fs : List Fct} (h : ∀ f ∈ fs, f.ok m) (hl : fs.length ≤ 10) (S : Sto) : fnAt B0 TAB 80 [.p (.int m), .p (.tup (fs.map Fct.d))] S = .ok (.sh (.p (.str (textS m fs)))) S := by
  rw [f__law_writing]
  have hn : m < 10 ^ 31 := Nat.lt_of_le_of_lt hm (by decide)
  let ρ0 : Rho := [some (.p (.int m)), some (.p (.tup (fs.map Fct.d))), some (.o S.length), none, none]
  obtain ⟨ρ1, S1, e1, a1, b1, c1⟩ := fLoop_inv (t := []) (f := forB (gAt B0 TAB 80) S.length true [3] wrB) (fun i ρ S' => S' = S ++ [some (.lst ((headS m :: (fs.take i).map lineS).map D.str))] ∧ ρ.length = 5 ∧ ρ[2]? = some (some (.o S.length)))
    (fs.map Fct.d) 0 ρ0 (S ++ [some (.lst [.str (headS m)])]) ⟨by simp, rfl, rfl⟩ fun i d ρ S1 hd hI => by
      obtain ⟨i1, i2, i3⟩ := hI
      simp only [Nat.zero_add] at i1 ⊢
      subst i1
      have hil : i < fs.length := by
        have := (List.getElem?_eq_some_iff.mp hd).1
        simpa using this
      have hd' : d = (fs[i]).d := by
        rw [List.getElem?_map, List.getElem?_eq_getElem hil] at hd
        simpa using hd.symm
      subst hd'
      obtain ⟨ρ2, e2, l2, m2⟩ := wr_step (h fs[i] (List.getElem_mem hil)) (by omega) (S := S) (ls := (headS m :: (fs.take i).map lineS).map D.str) i2 i3 (by simp; omega)
      refine ⟨ρ2, _, e2, keeps_nil _, ?_, l2, m2⟩
      rw [List.take_succ_eq_append_getElem hil]
      simp only [List.map_append, List.map_cons, List.map_nil, List.cons_append]
  have z0 : (("walkers " : Str)).length = 8 := by decide +kernel
  have hh := head_len hm
  have z2 : (("walkers " : Str)).length + (nS m).length ≤ sizeLine := size1 (by have := hh.1; unfold headS at this; rw [len_app] at this; omega)
  have s1 : evS (gAt B0 TAB 80) S.length (hdS i__law_writing) [some (.p (.int m)), some (.p (.tup (fs.map Fct.d))), none, none, none] S = .nx ρ0 (S ++ [some (.lst [.str (headS m)])]) := by
    simp [i__law_writing, str_int hn, z2, ρ0, headS]
  have s2 : evS (gAt B0 TAB 80) S.length (hdS (tlS i__law_writing)) ρ0 (S ++ [some (.lst [.str (headS m)])]) = .nx ρ1 S1 := by
    show evS _ _ (.for_ [3] true (.seq (.var 1)) wrB) ρ0 _ = _
    rw [s_for]
    simp only [i_seq, e_var, ρ0, List.getElem?_cons_succ, List.getElem?_cons_zero, R.w_sh, R.bind_ok, iterW_t, rOpt_some, R.st_ok]
    exact e1
  simp only [Nat.zero_add, List.length_map, List.take_length] at a1
  have hden : den S1 (.o S.length) = some (.lst ((headS m :: fs.map lineS).map D.str)) := by rw [a1]; exact den_o (by simp)
  have hj := join_run (x := "\n") (d := .lst ((headS m :: fs.map lineS).map D.str)) (S := S1) rfl (text_sum hm h hl)
  have s3 : evS (gAt B0 TAB 80) S.length (hdS (tlS (tlS i__law_writing))) ρ1 S1 = .rt (.sh (.p (.str (textS m fs)))) S1 := by
    simp only [List.map_cons, List.map_map] at hden hj
    simp [i__law_writing, c1, hden, hj, textS]
  have hb : i__law_writing = .seq (hdS i__law_writing) (.seq (hdS (tlS i__law_writing)) (.seq (hdS (tlS (tlS i__law_writing))) .nil)) := rfl
  rw [run_def (by rfl), hb]
  show fin S.length (evS _ _ _ [some (.p (.int m)), some (.p (.tup (fs.map Fct.d))), none, none, none] S) = _
  rw [s_seq, s1, SR.bind_nx, s_seq, s2, SR.bind_nx, s_seq, s3, SR.bind_rt, fin_p, a1]
  simp
theorem sp_text_0 {d v : D} (hd : d.pl = true) (h : withinB d 1 3 = false) (S : Sto) : fnAt B0 TAB 78 [.p d, .p v] S = .exc ⟨0, []⟩ S := by
  rw [f_facts_text]; unfold i_facts_text
  simp [run_def, sp_need_many hd, h]
theorem sp_text_2 {m : Int} {v : D} (h1 : 1 ≤ m) (h3 : m ≤ 3) (hv : v.pl = true) (h : areFactsB m v = false) (S : Sto) : fnAt B0 TAB 78 [.p (.int m), .p v] S = .exc ⟨2, []⟩ S := by
  rw [f_facts_text]; unfold i_facts_text
  simp [run_def, sp_need_many (d := .int m) (by simp [D.pl]), h1, h3, sp_need_facts hv, h]
@[simp] theorem try_ok (d : D) (S : Sto) : tryR (kinOf excA) (.ok (.p d) S) = .ok (.sh (.p (.tup [.str "told", d]))) S := (id rfl)
end LW

set_option Elab.async false
set_option linter.all false
set_option maxRecDepth 100000
set_option maxHeartbeats 8000000
/-! PLk13: the law of texts of facts. -/
namespace LW
open PySem PySem.Spec PyProof.Rows L2 DL
def c13B : CS := bodyS (hdS i_law_k13)
def c13f : CS := bodyS (hdS (tlS (tlS (tlS c13B))))
def c13o : CS := bodyS (hdS (tlS (tlS (tlS (tlS c13B)))))
def c13p : CS := bodyS (hdS (tlS (tlS (tlS (tlS (tlS c13B))))))
theorem same_p {d : D} (h : d.pl = true) (hd : d.dp ≤ 7) (S : Sto) : fnAt B0 TAB 51 [.p d, .p d] S = .ok (.sh (.p (.bl true))) S := sp_same _ _ S d rfl rfl h hd
theorem fct_dp (f : Fct) : f.d.dp ≤ 2 := by
  cases f <;> first | (simp [Fct.d, D.dp, D.dpA, fr, wayD]; done) | skip
  · rename_i lo hi; cases hi <;> simp [Fct.d, D.dp, D.dpA, optI]
  · rename_i w lo hi; cases hi <;> simp [Fct.d, D.dp, D.dpA, optF, fr]
  · rename_i w o lo hi; cases hi <;> simp [Fct.d, D.dp, D.dpA, optF, fr]
theorem facts_dp (fs : List Fct) : D.dpA (fs.map Fct.d) ≤ 2 := by
  induction fs with
  | nil => simp [D.dpA]
  | cons f r ih =>
    have := fct_dp f
    simp only [List.map_cons, D.dpA]
    omega
theorem lot_step {m : Nat} (h1 : 1 ≤ m) (hm : m ≤ 3) {fs : List Fct} (h : ∀ f ∈ fs, f.ok m) (hl : fs.length ≤ 6) {ρ : Rho} {S : Sto} (hr : ρ.length = 14) (h3 : ρ[3]? = some (some (.p (.int m)))) :
    forB (gAt B0 TAB 86) 0 true [5] c13f (.tup (fs.map Fct.d)) ρ S = .nx ((ρ.set 5 (some (.p (.tup (fs.map Fct.d))))).set 6 (some (.p (.str (textS m fs))))) S := by
  let ρ1 : Rho := ρ.set 5 (some (.p (.tup (fs.map Fct.d))))
  let ρ2 : Rho := ρ1.set 6 (some (.p (.str (textS m fs))))
  rw [forB_some (ρ' := ρ1) _ _ rfl]
  have g3 : ρ1[3]? = some (some (.p (.int m))) := by simp [ρ1, h3]
  have g5 : ρ1[5]? = some (some (.p (.tup (fs.map Fct.d)))) := by simp [ρ1, hr]
  have k3 : ρ2[3]? = some (some (.p (.int m))) := by simp [ρ2, ρ1, h3]
  have k5 : ρ2[5]? = some (some (.p (.tup (fs.map Fct.d)))) := by simp [ρ2, ρ1, hr]
  have k6 : ρ2[6]? = some (some (.p (.str (textS m fs)))) := by simp [ρ2, ρ1, hr]
  have e1 := sp_writing hm h (by omega) S
  have e2 := sp_facts_text h1 hm h hl S
  have e3 := sp_read h1 hm h hl S
  have ht := (text_small hm h (by omega)).2
  have s1 := same_p (d := .str (textS m fs)) (by simpa [D.pl] using ht) (by simp [D.dp]) S
  have hp : D.plA (fs.map Fct.d) = true := by have := facts_pl fs; simpa [D.pl] using this
  have hd := facts_dp fs
  have s2 := same_p (d := .tup [.str "told", .tup [.int m, .tup (fs.map Fct.d)]]) (by simp [D.pl, D.plA, hp]) (by simp [D.dp, D.dpA]; omega) S
  have hs1 : evS (gAt B0 TAB 86) 0 (hdS c13f) ρ1 S = .nx ρ2 S := by
    simp [c13f, c13B, i_law_k13, g3, g5, e1, ρ2]
  have z2 : (2 : Nat) ≤ sizeLine := size1 (by decide)
  have hs2 : evS (gAt B0 TAB 86) 0 (tlS c13f) ρ2 S = .nx ρ2 S := by
    simp [c13f, c13B, i_law_k13, k3, k5, k6, e2, e3, s1, s2, z2]
  have hb : c13f = .seq (hdS c13f) (tlS c13f) := rfl
  rw [hb, s_seq, hs1, SR.bind_nx, hs2]
theorem odd1_step {ρ : Rho} {S : Sto} (hr : ρ.length = 14) {d : D} (hd : d.pl = true) (h : withinB d 1 3 = false) : forB (gAt B0 TAB 86) 0 true [7] c13o d ρ S = .nx (ρ.set 7 (some (.p d))) S := by
  rw [forB_some (ρ' := ρ.set 7 (some (.p d))) _ _ rfl]
  have g7 : (ρ.set 7 (some (.p d)))[7]? = some (some (.p d)) := by simp [hr]
  simp [c13o, c13B, i_law_k13, g7, sp_text_0 hd h]
theorem odd2_step {m : Nat} (h1 : 1 ≤ m) (hm : m ≤ 3) {ρ : Rho} {S : Sto} (hr : ρ.length = 14) (h3 : ρ[3]? = some (some (.p (.int m)))) {d : D} (hd : d.pl = true) (h : areFactsB m d = false) : forB (gAt B0 TAB 86) 0 true [7] c13p d ρ S = .nx (ρ.set 7 (some (.p d))) S := by
  rw [forB_some (ρ' := ρ.set 7 (some (.p d))) _ _ rfl]
  have g7 : (ρ.set 7 (some (.p d)))[7]? = some (some (.p d)) := by simp [hr]
  have g3 : (ρ.set 7 (some (.p d)))[3]? = some (some (.p (.int m))) := by simp [h3]
  simp [c13p, c13B, i_law_k13, g7, g3, sp_text_2 (m := m) (by omega) (by omega) hd h]
theorem c13_step {ρ : Rho} {S : Sto} (hl : ρ.length = 14) (c : Int) : ∃ ρ' S', forB (gAt B0 TAB 86) 0 true [1] c13B (.int c) ρ S = .nx ρ' S' ∧ ρ'.length = 14 := by
  rw [forB_some (ρ' := ρ.set 1 (some (.p (.int c)))) _ _ rfl]
  obtain ⟨a, b, e1, a0, b0, b1⟩ := sp_deck (c := c) (t := 13) S
  have hd0 : Dk S.length 14 (S ++ [some (.lst (deckD a b 13))]) := ⟨a, b, 13, by simp, a0, b0, b1, by decide, by decide⟩
  obtain ⟨r, S1, e2, f1, d1, r0, r1⟩ := sp_pick hd0 (by decide) (k := 3) (by decide) (by decide)
  obtain ⟨m, hm⟩ : ∃ m : Nat, 1 + r = m := ⟨(1 + r).toNat, by omega⟩
  have h1 : 1 ≤ m := by omega
  have h3 : m ≤ 3 := by omega
  obtain ⟨q, S2, e3, f2, d2, q0, q1⟩ := sp_pick d1 (by decide) (k := LG) (by decide) (by decide)
  let ρ1 : Rho := (ρ.set 1 (some (.p (.int c)))).set 2 (some (.o S.length))
  let ρ2 : Rho := ρ1.set 3 (some (.p (.int m)))
  let ρ3 : Rho := ρ2.set 4 (some (.p (.int (1 + q))))
  obtain ⟨fs, S3, e4, f3, d3, hfl, hfo⟩ := sp_some_facts (k := 5) d2 (by unfold TM; omega) h1 h3 (by decide)
  obtain ⟨g, S4, e5, f4, d4, go, gs⟩ := sp_any_fact d3 (by unfold TM; omega) h1 h3
  let gs2 : List Fct := [g, .len (1 + q) (some GR)]
  have hgs : ∀ f ∈ gs2, f.ok m := fun f hf => by
    simp only [gs2, List.mem_cons, List.not_mem_nil, or_false] at hf
    rcases hf with rfl | rfl
    · exact go
    · refine ⟨by omega, ?_, fun h e => ?_⟩
      · unfold LG at q1; unfold GR; omega
      · cases e
        unfold LG at q1
        exact ⟨by unfold GR; omega, Int.le_refl _⟩
  have hs1 : evS (gAt B0 TAB 86) 0 (hdS c13B) (ρ.set 1 (some (.p (.int c)))) S = .nx ρ1 (S ++ [some (.lst (deckD a b 13))]) := by
    have : (ρ.set 1 (some (.p (.int c))))[1]? = some (some (.p (.int c))) := by simp [hl]
    simp [c13B, i_law_k13, this, e1, ρ1]
  have y2 : ρ1[2]? = some (some (.o S.length)) := by simp [ρ1, hl]
  have hs2 : evS (gAt B0 TAB 86) 0 (hdS (tlS c13B)) ρ1 (S ++ [some (.lst (deckD a b 13))]) = .nx ρ2 S1 := by
    simp [c13B, i_law_k13, y2, e2, ρ2, hm]
  have x2 : ρ2[2]? = some (some (.o S.length)) := by simp [ρ2, ρ1, hl]
  have hs3 : evS (gAt B0 TAB 86) 0 (hdS (tlS (tlS c13B))) ρ2 S1 = .nx ρ3 S2 := by
    simp [c13B, i_law_k13, x2, p12, e3, ρ3]
  have z2 : ρ3[2]? = some (some (.o S.length)) := by simp [ρ3, ρ2, ρ1, hl]
  have z3 : ρ3[3]? = some (some (.p (.int m))) := by simp [ρ3, ρ2, ρ1, hl]
  have z4 : ρ3[4]? = some (some (.p (.int (1 + q)))) := by simp [ρ3, ρ2, ρ1, hl]
  have zl : ρ3.length = 14 := by simp [ρ3, ρ2, ρ1, hl]
  let ρ4 : Rho := ((((ρ3.set 5 (some (.p (.tup (fs.map Fct.d))))).set 6 (some (.p (.str (textS m fs))))).set 5 (some (.p (.tup (gs2.map Fct.d))))).set 6 (some (.p (.str (textS m gs2)))))
  have hs4 : evS (gAt B0 TAB 86) 0 (hdS (tlS (tlS (tlS c13B)))) ρ3 S2 = .nx ρ4 S4 := by
    show evS _ _ (.for_ [5] true (.seq (.lst (.cons (.call 59 (.cons (.var 2) (.cons (.var 3) (.cons (.int 5) .nil)))) (.cons (.tup (.cons (.call 42 (.cons (.var 2) (.cons (.var 3) .nil))) (.cons (.tup (.cons (.str "length") (.cons (.var 4) (.cons (.bin .pow (.int 10) (.int 30)) .nil)))) .nil))) .nil)))) c13f) ρ3 S2 = _
    rw [s_for]
    have e4' : fnAt B0 TAB 59 [.o S.length, .p (.int m), .p (.int 5)] S2 = _ := e4
    have n3 : (3 : Nat) ≤ sizeLine := size1 (by decide)
    have n2 : (2 : Nat) ≤ sizeLine := size1 (by decide)
    have hi : evI (gAt B0 TAB 86) 0 (.seq (.lst (.cons (.call 59 (.cons (.var 2) (.cons (.var 3) (.cons (.int 5) .nil)))) (.cons (.tup (.cons (.call 42 (.cons (.var 2) (.cons (.var 3) .nil))) (.cons (.tup (.cons (.str "length") (.cons (.var 4) (.cons (.bin .pow (.int 10) (.int 30)) .nil)))) .nil))) .nil)))) ρ3 S2 = .ok ([.tup (fs.map Fct.d), .tup (gs2.map Fct.d)], []) S4 := by
      simp [z2, z3, z4, e4', e5, p30, n3, n2, gs2, Fct.d, optI]
    rw [hi, R.st_ok]
    dsimp only
    rw [fLoop_cons _ _ _ _ _ _ (lot_step h1 h3 (fun f hf => (hfo f hf).1) (by omega) zl z3) (keeps_nil _)]
    rw [fLoop_cons _ _ _ _ _ _ (lot_step h1 h3 hgs (by simp [gs2]) (by simp [zl]) (by simp [z3])) (keeps_nil _), fLoop_nil]
  have wl : ρ4.length = 14 := by simp [ρ4, zl]
  have w3 : ρ4[3]? = some (some (.p (.int m))) := by simp [ρ4, z3]
  have w5 : ρ4[5]? = some (some (.p (.tup (gs2.map Fct.d)))) := by simp [ρ4, zl]
  have w6 : ρ4[6]? = some (some (.p (.str (textS m gs2)))) := by simp [ρ4, zl]
  let ρ5 : Rho := (((ρ4.set 7 (some (.p .non))).set 7 (some (.p (.int 0)))).set 7 (some (.p (.int 4)))).set 7 (some (.p (.bl true)))
  have hs5 : evS (gAt B0 TAB 86) 0 (hdS (tlS (tlS (tlS (tlS c13B))))) ρ4 S4 = .nx ρ5 S4 := by
    show evS _ _ (.for_ [7] true (.seq (.lst (.cons .non (.cons (.int 0) (.cons (.int 4) (.cons (.bl true) .nil)))))) c13o) ρ4 S4 = _
    rw [s_for]
    have n4 : (4 : Nat) ≤ sizeLine := size1 (by decide)
    have hi : evI (gAt B0 TAB 86) 0 (.seq (.lst (.cons .non (.cons (.int 0) (.cons (.int 4) (.cons (.bl true) .nil)))))) ρ4 S4 = .ok ([.non, .int 0, .int 4, .bl true], []) S4 := by simp [n4]
    rw [hi, R.st_ok]
    dsimp only
    rw [fLoop_cons _ _ _ _ _ _ (odd1_step wl (by simp [D.pl]) (by simp [withinB])) (keeps_nil _), fLoop_cons _ _ _ _ _ _ (odd1_step (by simp [wl]) (by simp [D.pl]) (by simp [withinB])) (keeps_nil _),
      fLoop_cons _ _ _ _ _ _ (odd1_step (by simp [wl]) (by simp [D.pl]) (by simp [withinB])) (keeps_nil _), fLoop_cons _ _ _ _ _ _ (odd1_step (by simp [wl]) (by simp [D.pl]) (by simp [withinB])) (keeps_nil _), fLoop_nil]
  have vl : ρ5.length = 14 := by simp [ρ5, wl]
  have v3 : ρ5[3]? = some (some (.p (.int m))) := by simp [ρ5, w3]
  have v5 : ρ5[5]? = some (some (.p (.tup (gs2.map Fct.d)))) := by simp [ρ5, w5]
  have v6 : ρ5[6]? = some (some (.p (.str (textS m gs2)))) := by simp [ρ5, w6]
  have ht := (text_small h3 hgs (by simp [gs2])).2
  let ρ6 : Rho := (((ρ5.set 7 (some (.p .non))).set 7 (some (.p (.lst (gs2.map Fct.d))))).set 7 (some (.p (.tup [.non])))).set 7 (some (.p (.str (textS m gs2))))
  have hs6 : evS (gAt B0 TAB 86) 0 (hdS (tlS (tlS (tlS (tlS (tlS c13B)))))) ρ5 S4 = .nx ρ6 S4 := by
    show evS _ _ (.for_ [7] true (.seq (.lst (.cons .non (.cons (.blt .list (.cons (.var 5) .nil)) (.cons (.tup (.cons .non .nil)) (.cons (.var 6) .nil)))))) c13p) ρ5 S4 = _
    rw [s_for]
    have n4 : (4 : Nat) ≤ sizeLine := size1 (by decide)
    have n1 : (1 : Nat) ≤ sizeLine := size1 (by decide)
    have hi : evI (gAt B0 TAB 86) 0 (.seq (.lst (.cons .non (.cons (.blt .list (.cons (.var 5) .nil)) (.cons (.tup (.cons .non .nil)) (.cons (.var 6) .nil)))))) ρ5 S4 = .ok ([.non, .lst (gs2.map Fct.d), .tup [.non], .str (textS m gs2)], []) S4 := by simp [v5, v6, n4, n1]
    rw [hi, R.st_ok]
    dsimp only
    have hpl : D.plA (gs2.map Fct.d) = true := by have := facts_pl gs2; simpa [D.pl] using this
    rw [fLoop_cons _ _ _ _ _ _ (odd2_step h1 h3 vl v3 (by simp [D.pl]) rfl) (keeps_nil _), fLoop_cons _ _ _ _ _ _ (odd2_step h1 h3 (by simp [vl]) (by simp [v3]) (by simpa [D.pl] using hpl) rfl) (keeps_nil _),
      fLoop_cons _ _ _ _ _ _ (odd2_step h1 h3 (by simp [vl]) (by simp [v3]) (by simp [D.pl, D.plA]) (by simp [areFactsB, isFactB])) (keeps_nil _), fLoop_cons _ _ _ _ _ _ (odd2_step h1 h3 (by simp [vl]) (by simp [v3]) (by simpa [D.pl] using ht) rfl) (keeps_nil _), fLoop_nil]
  refine ⟨ρ6, S4, ?_, by simp [ρ6, vl]⟩
  have hb : c13B = .seq (hdS c13B) (.seq (hdS (tlS c13B)) (.seq (hdS (tlS (tlS c13B))) (.seq (hdS (tlS (tlS (tlS c13B)))) (.seq (hdS (tlS (tlS (tlS (tlS c13B))))) (.seq (hdS (tlS (tlS (tlS (tlS (tlS c13B)))))) .nil))))) := rfl
  rw [hb, s_seq, hs1, SR.bind_nx, s_seq, hs2, SR.bind_nx, s_seq, hs3, SR.bind_nx, s_seq, hs4, SR.bind_nx, s_seq, hs5, SR.bind_nx, s_seq, hs6, SR.bind_nx, s_nil]
/-! ### the written texts -/
def F13 : List Fct := [.quick 0 1 (1, 2) none, .meet 1 0 3 4, .back 0 4 9, .len 5 none]
theorem lit1 : textS 1 [K1a, K1b] = ("walkers 1\nsteps 0 with 12 12\nsteps 0 against 36 36" : Str) := by decide +kernel
theorem lit2 : textS 2 F13 = ("walkers 2\nquick 0 1 1/2 -\nmeet 1 0 3 4\nback 0 4 9\nlength 5 -" : Str) := by decide +kernel
theorem lit3 : textS 3 [] = ("walkers 3" : Str) := by decide +kernel
theorem ok1 : ∀ f ∈ [K1a, K1b], f.ok (1 : Nat) := by
  intro f hf
  simp only [List.mem_cons, List.not_mem_nil, or_false] at hf
  rcases hf with rfl | rfl
  · unfold K1a Fct.ok GR; decide
  · unfold K1b Fct.ok GR; decide
theorem ok2 : ∀ f ∈ F13, f.ok (2 : Nat) := by
  intro f hf
  simp only [F13, List.mem_cons, List.not_mem_nil, or_false] at hf
  rcases hf with rfl | rfl | rfl | rfl
  · unfold Fct.ok Fok Hok LG; decide
  · unfold Fct.ok LG; decide
  · unfold Fct.ok LG; decide
  · exact ⟨by decide, by decide, fun h e => by cases e⟩
theorem eq_refl {d : D} (h : d.pl = true) (hd : d.dp ≤ 60) : eqD d d = some true := by rw [eqD_fit ⟨h, hd⟩ ⟨h, hd⟩, eqv_refl h]
theorem law_right (ns : List Int) (_ : ns.length ≤ 63) (_ : ∀ z ∈ ns, Builtin.Int.intBits z ≤ 1048576) : ∃ S', fnAt B0 TAB 86 [.p (.lst (ns.map D.int))] [] = .ok (.sh (.p (.bl true))) S' := by
  rename_i hn hb
  rw [f_law_k13, run_def (by rfl)]
  obtain ⟨ρ1, S1, e1, l1⟩ := fLoop_inv (t := []) (f := forB (gAt B0 TAB 86) 0 true [1] c13B) (fun _ ρ _ => ρ.length = 14)
    ((D.int 0 :: ns.map D.int).take 12) 0 (some (.p (.lst (ns.map D.int))) :: List.replicate 13 none) [] rfl fun i d ρ S h hI => by
      have hd := List.mem_of_mem_take (List.mem_of_getElem? h)
      have : ∃ c, d = .int c := by
        rcases List.mem_cons.mp hd with rfl | hd
        · exact ⟨0, rfl⟩
        · obtain ⟨c, _, rfl⟩ := List.mem_map.mp hd
          exact ⟨c, rfl⟩
      obtain ⟨c, rfl⟩ := this
      obtain ⟨ρ', S', e, l⟩ := c13_step (S := S) hI c
      exact ⟨ρ', S', e, keeps_nil _, l⟩
  have hsz : 1 + (ns.map D.int).length ≤ sizeLine := size1 (by simp; omega)
  have hs1 : evS (gAt B0 TAB 86) 0 (.for_ [1] true (.seq (.slH (.bin .add (.lst (.cons (.int 0) .nil)) (.var 0)) (.int 12))) c13B) (some (.p (.lst (ns.map D.int))) :: List.replicate 13 none) [] = .nx ρ1 S1 := by
    rw [s_for]
    have hc : DL.cutD (D.int 0 :: ns.map D.int) none (some 12) = (D.int 0 :: ns.map D.int).take 12 := cut_hi (k := 12)
    have hsz' : 1 + ns.length ≤ sizeLine := by simpa using hsz
    simp only [i_seq, e_slH, e_bin, e_lst, l_cons, l_nil, e_int, e_var, R.w_sh, R.bind_ok, give_p, give_nil, Option.map_some, List.getElem?_cons_zero]
    simp [hsz', hc] at e1 ⊢
    exact e1
  let ρ2 : Rho := ((((ρ1.set 8 (some (.p (.tup [K1a.d, K1b.d])))).set 9 (some (.p (.tup [K2a.d])))).set 10 (some (.p (.tup [K2a.d, K3b.d, K3c.d])))).set 11 (some (.p (.tup [K4.d])))).set 12 (some (.p (.tup [K5.d])))
  have hs2 : evS (gAt B0 TAB 86) 0 (hdS (tlS i_law_k13)) ρ1 S1 = .nx ρ2 S1 := by
    simp [i_law_k13, sp_known, knownD, bindT, ρ2]
  have t1 := sp_facts_text (m := 1) (by decide) (by decide) ok1 (by decide) S1
  rw [lit1] at t1
  have a8 : ρ2[8]? = some (some (.p (.tup [K1a.d, K1b.d]))) := by simp [ρ2, l1]
  have hs3 : evS (gAt B0 TAB 86) 0 (hdS (tlS (tlS i_law_k13))) ρ2 S1 = .nx ρ2 S1 := by
    have t1' : fnAt B0 TAB 78 [.p (.int 1), .p (.tup [K1a.d, K1b.d])] S1 = _ := t1
    have he := eq_refl (d := .str ("walkers 1\nsteps 0 with 12 12\nsteps 0 against 36 36" : Str)) (by simp [D.pl]) (by simp [D.dp])
    simp [i_law_k13, a8, t1', he]
  let ρ3 : Rho := (ρ2.set 13 (some (.p (.tup (F13.map Fct.d))))).set 6 (some (.p (.str ("walkers 2\nquick 0 1 1/2 -\nmeet 1 0 3 4\nback 0 4 9\nlength 5 -" : Str))))
  have hs4 : evS (gAt B0 TAB 86) 0 (.seq (hdS (tlS (tlS (tlS i_law_k13)))) (hdS (tlS (tlS (tlS (tlS i_law_k13)))))) ρ2 S1 = .nx ρ3 S1 := by
    have n5 : (5 : Nat) ≤ sizeLine := size1 (by decide)
    have n4 : (4 : Nat) ≤ sizeLine := size1 (by decide)
    have n3 : (3 : Nat) ≤ sizeLine := size1 (by decide)
    have n2 : (2 : Nat) ≤ sizeLine := size1 (by decide)
    simp [i_law_k13, n5, n4, n3, n2, ρ3, F13, Fct.d, fr, optF, optI]
  have b13 : ρ3[13]? = some (some (.p (.tup (F13.map Fct.d)))) := by simp [ρ3, ρ2, l1]
  have b6 : ρ3[6]? = some (some (.p (.str ("walkers 2\nquick 0 1 1/2 -\nmeet 1 0 3 4\nback 0 4 9\nlength 5 -" : Str)))) := by simp [ρ3, ρ2, l1]
  have hs5 : evS (gAt B0 TAB 86) 0 (hdS (tlS (tlS (tlS (tlS (tlS i_law_k13)))))) ρ3 S1 = .rt (.sh (.p (.bl true))) S1 := by
    have t2 := sp_facts_text (m := 2) (by decide) (by decide) ok2 (by decide) S1
    have t3 := sp_read (m := 2) (by decide) (by decide) ok2 (by decide) S1
    have t4 := sp_read (m := 3) (fs := []) (by decide) (by decide) (fun f hf => by cases hf) (by decide) S1
    rw [lit2] at t2 t3
    rw [lit3] at t4
    have u2 : fnAt B0 TAB 78 [.p (.int 2), .p (.tup (F13.map Fct.d))] S1 = _ := t2
    have n2 : (2 : Nat) ≤ sizeLine := size1 (by decide)
    have n0 : (0 : Nat) ≤ sizeLine := size1 (by decide)
    have hp : D.plA (F13.map Fct.d) = true := by have := facts_pl F13; simpa [D.pl] using this
    have hd := facts_dp F13
    have q1 := eq_refl (d := .str ("walkers 2\nquick 0 1 1/2 -\nmeet 1 0 3 4\nback 0 4 9\nlength 5 -" : Str)) (by simp [D.pl]) (by simp [D.dp])
    have q2 := eq_refl (d := .tup [.int 2, .tup (F13.map Fct.d)]) (by simp [D.pl, D.plA, hp]) (by simp [D.dp, D.dpA]; omega)
    have q3 := eq_refl (d := .tup [.int 3, .tup []]) (by simp [D.pl, D.plA]) (by simp [D.dp, D.dpA])
    simp only [List.map_nil] at t4
    have t3' : fnAt B0 TAB 85 [.p (.str ("walkers 2\nquick 0 1 1/2 -\nmeet 1 0 3 4\nback 0 4 9\nlength 5 -" : Str))] S1 = .ok (.sh (.p (.tup [.int 2, .tup (F13.map Fct.d)]))) S1 := t3
    have t4' : fnAt B0 TAB 85 [.p (.str ("walkers 3" : Str))] S1 = .ok (.sh (.p (.tup [.int 3, .tup []]))) S1 := t4
    simp [i_law_k13, b13, b6, u2, t3', t4', q1, q2, q3, n2]
  have hb : i_law_k13 = .seq (.for_ [1] true (.seq (.slH (.bin .add (.lst (.cons (.int 0) .nil)) (.var 0)) (.int 12))) c13B) (.seq (hdS (tlS i_law_k13)) (.seq (hdS (tlS (tlS i_law_k13))) (.seq (hdS (tlS (tlS (tlS i_law_k13)))) (.seq (hdS (tlS (tlS (tlS (tlS i_law_k13))))) (.seq (hdS (tlS (tlS (tlS (tlS (tlS i_law_k13)))))) .nil))))) := rfl
  refine ⟨S1.take 0, ?_⟩
  · show fin 0 (evS (gAt B0 TAB 86) 0 i_law_k13 (some (.p (.lst (ns.map D.int))) :: List.replicate 13 none) []) = _
    rw [s_seq] at hs4
    rw [hb, s_seq, hs1, SR.bind_nx, s_seq, hs2, SR.bind_nx, s_seq, hs3, SR.bind_nx, s_seq]
    cases h4 : evS (gAt B0 TAB 86) 0 (hdS (tlS (tlS (tlS i_law_k13)))) ρ2 S1 with
    | nx ρ S =>
      rw [h4, SR.bind_nx] at hs4
      rw [SR.bind_nx, s_seq, hs4, SR.bind_nx, s_seq, hs5, SR.bind_rt, fin_p]
    | rt e S => rw [h4, SR.bind_rt] at hs4; cases hs4
    | exc x S => rw [h4, SR.bind_exc] at hs4; cases hs4
    | bad => rw [h4, SR.bind_bad] at hs4; cases hs4
end LW

set_option Elab.async false
set_option linter.all false
set_option maxRecDepth 100000
set_option maxHeartbeats 0
open PySem PySem.W PySem.Calls PyProof.Rows
theorem PySem.Challenge.cw_anystairs_k13_texts_of_facts_holds : PySem.Challenge.rw_anystairs_k13_texts_of_facts.Holds := by
  w_on; o_law
  refine HandSHeadRun.head_any (r := OpenLaw.row PySem.Challenge.rw_anystairs_k13_texts_of_facts) (q := view (OpenLaw.row PySem.Challenge.rw_anystairs_k13_texts_of_facts).prog [74]) (H := LW.hk) (ob := LW.ob) (M := 6000) (loose := LW.loose) (d := HandSHeadRun.topDef (OpenLaw.row PySem.Challenge.rw_anystairs_k13_texts_of_facts).prog 74) (kwd := []) LW.ob_eq
    (by kernel_rfl) (fun s => by kernel_rfl) LW.run (by kernel_rfl) (by kernel_rfl) (by kernel_rfl) (by rfl) (by first | assumption | decide +kernel) (by decide +kernel) ⟨rfl, rfl, rfl, rfl, rfl, by decide +kernel⟩ ?hw ?hc
  case hw => w_witness2
  case hc =>
    refine LamX.walk_ofTsE (l := PySem.Challenge.rw_anystairs_k13_texts_of_facts) (n := 63) (k := 200) (x := "script") (CX := fun w => L2N.CX PySem.Challenge.rw_anystairs_k13_texts_of_facts.prog w) rfl (by decide) (by kernel_rfl) ⟨rfl, by decide, by decide⟩ ?F (fun _ _ _ _ _ z => DL.cx_no z)
    intro w mg fa h Y G hmg0
    obtain ⟨K, X, c⟩ := Y
    have hmg : mg ("law" : PySem.Str) = some (.ref fa) := by
      have e : (HandSHeadRun.topDef (OpenLaw.row PySem.Challenge.rw_anystairs_k13_texts_of_facts).prog 74).name = ("law" : PySem.Str) := by kernel_rfl
      rw [← e]
      exact hmg0
    exact ⟨K, X, DL.law_at (B := DL.B0) (ds := LW.TAB) (pds := LW.pds) (iL := 86) (tf := LW.tf) (q := LW.qN) (top := LW.top) (us := LW.us) rfl rfl (by decide +kernel) LW.pds_ok LW.cov_ok LW.bind_ok (by decide +kernel) (by decide +kernel) (by decide +kernel) (
      fun htf P base d _ _ => DL.tryK_of (uT := 56) (uK := 55) (by decide +kernel) (by decide +kernel) (by decide +kernel) (by decide +kernel) (by decide +kernel) LW.b__law_try LW.b__law_kin LW.kin_b LW.try_b X G c) LW.law_right (by decide +kernel) X G hmg c⟩

