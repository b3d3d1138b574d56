import PyProof.Rows.All
import Wide.All
import OpenK.AllK
import Wide.FinOn
import HandS.ForMost
import HandS.Wide
import HandS.Style
import HandS.Conv
import HandS.Strs
import HandS.Flow
import HandS.Evl
import HandS.Lambda
import HandS.TupAny
import HandS.RaiseMore
import HandS.SetFor
import KE.OsSort
import HandS.EndBits
import HandS.EndTab
import HandS.IsInst
import HandS.More
import HandS.Zip
import HandS.Text
import HandS.Deep
import HandS.Dict
import HandS.Small
import KE.SortKeyHeap
import PyProof.TupleOfSeq
import KE.GoesMore
import KE.DatumOrd
import HandS.TupMul
import PySem.Challenge.RW_nightstairs_k27_rows_put_together
set_option Elab.async false
set_option linter.all false
set_option maxRecDepth 100000
set_option maxHeartbeats 4000000
/-! NsA: values as trees over the abstract heap, what a frame owns, and the readings by evaluators. -/
namespace NS
open PySem L2

abbrev D := PyData
def keyD : Key → D
  | .inl i => .int i
  | .inr x => .str x
def tkD (ks : List Key) : D := .tuple (ks.map keyD)
/-- B is a part of H -/
def Sub (B H : Hp) : Prop := ∀ a o, B a = some o → H a = some o
theorem Sub.rfl' {H : Hp} : Sub H H := fun _ _ h => h
theorem Sub.tr {A B C : Hp} (h : Sub A B) (g : Sub B C) : Sub A C := fun a o e => g a o (h a o e)
theorem Sub.off {B H : Hp} {a : Addr} (h : Sub B H) (n : H a = none) : B a = none := by
  cases e : B a with
  | none => rfl
  | some o => rw [h a o e] at n; cases n
theorem Sub.new {H : Hp} {p : Addr} {o : HO} (h : H p = none) : Sub H (upd H p o) := fun a u e => by
  rw [upd_ne (ne_of_none e h)]; exact e
theorem Sub.upd2 {B H : Hp} {p : Addr} {o : HO} (s : Sub B H) : Sub (upd B p o) (upd H p o) := fun a u e => by
  by_cases h : a = p
  · subst h; rw [upd_same] at e ⊢; exact e
  · rw [upd_ne h] at e ⊢; exact s a u e

mutual
/-- the value v is the tree d in the heap H -/
inductive Rep (H : Hp) : V → D → Prop
  | non : Rep H .non .none
  | bl (b : Bool) : Rep H (.bl b) (.bool b)
  | int (i : Int) : Rep H (.int i) (.int i)
  | str (x : Str) : Rep H (.str x) (.str x)
  | lst {a : Addr} {vs : List V} {ds : List D} : H a = some (.lst vs) → Reps H vs ds → Rep H (.ref a) (.list ds)
  | tup {a : Addr} {vs : List V} {ds : List D} : H a = some (.tup vs) → Reps H vs ds → Rep H (.ref a) (.tuple ds)
  | dK {a : Addr} {kvs : List (Key × V)} {ds : List D} : H a = some (.dK kvs) → Reps H (kvs.map (·.2)) ds → Rep H (.ref a) (.dict ((kvs.map fun p => keyD p.1).zip ds))
  | dT {a : Addr} {kvs : List (List Key × V)} {ds : List D} : H a = some (.dT kvs) → Reps H (kvs.map (·.2)) ds → Rep H (.ref a) (.dict ((kvs.map fun p => tkD p.1).zip ds))
inductive Reps (H : Hp) : List V → List D → Prop
  | nil : Reps H [] []
  | cons {v : V} {d : D} {vs : List V} {ds : List D} : Rep H v d → Reps H vs ds → Reps H (v :: vs) (d :: ds)
end
mutual
theorem Rep.mono {H H' : Hp} (s : Sub H H') : ∀ {v : V} {d : D}, Rep H v d → Rep H' v d
  | _, _, .non => .non
  | _, _, .bl b => .bl b
  | _, _, .int i => .int i
  | _, _, .str x => .str x
  | _, _, .lst h r => .lst (s _ _ h) (Reps.mono s r)
  | _, _, .tup h r => .tup (s _ _ h) (Reps.mono s r)
  | _, _, .dK h r => .dK (s _ _ h) (Reps.mono s r)
  | _, _, .dT h r => .dT (s _ _ h) (Reps.mono s r)
theorem Reps.mono {H H' : Hp} (s : Sub H H') : ∀ {vs : List V} {ds : List D}, Reps H vs ds → Reps H' vs ds
  | _, _, .nil => .nil
  | _, _, .cons a b => .cons (Rep.mono s a) (Reps.mono s b)
end
section
variable {H : Hp}
theorem Reps.len : ∀ {vs : List V} {ds : List D}, Reps H vs ds → vs.length = ds.length
  | _, _, .nil => rfl
  | _, _, .cons _ b => by simp [Reps.len b]
theorem Reps.get : ∀ {vs : List V} {ds : List D} {i : Nat} {d : D}, Reps H vs ds → ds[i]? = some d → ∃ v, vs[i]? = some v ∧ Rep H v d
  | _, _, _, _, .nil, e => by simp at e
  | _, _, 0, _, .cons a b, e => by simp at e; subst e; exact ⟨_, rfl, a⟩
  | _, _, i + 1, d, .cons a b, e => by
    obtain ⟨v, h, r⟩ := Reps.get (i := i) (d := d) b (by simpa using e)
    exact ⟨v, by simpa using h, r⟩
theorem Reps.getV : ∀ {vs : List V} {ds : List D} {i : Nat} {v : V}, Reps H vs ds → vs[i]? = some v → ∃ d, ds[i]? = some d ∧ Rep H v d
  | _, _, _, _, .nil, e => by simp at e
  | _, _, 0, _, .cons a b, e => by simp at e; subst e; exact ⟨_, rfl, a⟩
  | _, _, i + 1, d, .cons a b, e => by
    obtain ⟨v, h, r⟩ := Reps.getV (i := i) (v := d) b (by simpa using e)
    exact ⟨v, by simpa using h, r⟩
theorem Reps.app : ∀ {vs us : List V} {ds es : List D}, Reps H vs ds → Reps H us es → Reps H (vs ++ us) (ds ++ es)
  | _, _, _, _, .nil, r => r
  | _, _, _, _, .cons a b, r => .cons a (Reps.app b r)
theorem Reps.one {v : V} {d : D} (r : Rep H v d) : Reps H [v] [d] := .cons r .nil
theorem Reps.take : ∀ {vs : List V} {ds : List D} (n : Nat), Reps H vs ds → Reps H (vs.take n) (ds.take n)
  | _, _, 0, _ => by simp; exact .nil
  | _, _, n + 1, .nil => .nil
  | _, _, n + 1, .cons a b => .cons a (Reps.take n b)
theorem Reps.drop : ∀ {vs : List V} {ds : List D} (n : Nat), Reps H vs ds → Reps H (vs.drop n) (ds.drop n)
  | _, _, 0, r => r
  | _, _, n + 1, .nil => .nil
  | _, _, n + 1, .cons a b => Reps.drop n b
theorem Reps.rev : ∀ {vs : List V} {ds : List D}, Reps H vs ds → Reps H vs.reverse ds.reverse
  | _, _, .nil => .nil
  | _, _, .cons a b => by simp; exact Reps.app (Reps.rev b) (.one a)
theorem Reps.set : ∀ {vs : List V} {ds : List D} (i : Nat) {v : V} {d : D}, Rep H v d → Reps H vs ds → Reps H (vs.set i v) (ds.set i d)
  | _, _, _, _, _, _, .nil => .nil
  | _, _, 0, _, _, r, .cons a b => .cons r b
  | _, _, i + 1, _, _, r, .cons a b => .cons a (Reps.set i r b)
theorem Reps.rep {vs : List V} {ds : List D} (h : Reps H vs ds) : ∀ k : Nat, Reps H (List.replicate k vs).flatten (List.replicate k ds).flatten
  | 0 => .nil
  | k + 1 => by simp [List.replicate_succ]; exact Reps.app h (Reps.rep h k)
theorem Reps.ints : ∀ {vs : List V} {ns : List Int}, Reps H vs (ns.map PyData.int) → vs = ns.map V.int
  | _, [], r => by cases r; rfl
  | _, n :: ns, r => by
    cases r with
    | cons a b => cases a; simp [Reps.ints b]
theorem Reps.ofInts : ∀ ns : List Int, Reps H (ns.map V.int) (ns.map PyData.int)
  | [] => .nil
  | n :: ns => .cons (.int n) (Reps.ofInts ns)
theorem Reps.strs : ∀ {vs : List V} {ns : List Str}, Reps H vs (ns.map PyData.str) → vs = ns.map V.str
  | _, [], r => by cases r; rfl
  | _, n :: ns, r => by
    cases r with
    | cons a b => cases a; simp [Reps.strs b]
theorem Reps.ofStrs : ∀ ns : List Str, Reps H (ns.map V.str) (ns.map PyData.str)
  | [] => .nil
  | n :: ns => .cons (.str n) (Reps.ofStrs ns)
end

/-- a function made of a lambda: its address, its code's address and name, the maker's slots and what they held -/
structure FnI where
  f : Addr
  c : Addr
  q : Str
  σ : L2.St
  ds : List (Option D)
/-- what a slot of a frame holds -/
inductive OV where
  | fn (F : FnI)
  | fz (d : D)
  | ol (io : Bool) (ds : List D)
  | od (io : Bool) (kvs : List (Key × D))
  | ot (io : Bool) (kvs : List (List Key × D))
  | scr (ns : List Int)
abbrev Env := List (Option OV)
def OV.owned : OV → Bool
  | .fn _ => false
  | .fz _ => false
  | .scr _ => false
  | _ => true
def OV.io : OV → Bool
  | .ol b _ => b
  | .od b _ => b
  | .ot b _ => b
  | _ => false
/-- the tree of an owned thing -/
def OV.toD : OV → D
  | .fn _ => .none
  | .fz d => d
  | .ol _ ds => .list ds
  | .od _ kvs => .dict (kvs.map fun p => (keyD p.1, p.2))
  | .ot _ kvs => .dict (kvs.map fun p => (tkD p.1, p.2))
  | .scr ns => .list (ns.map .int)
/-- what stands at an owned address -/
def OwnO (B : Hp) : OV → HO → Prop
  | .ol _ ds, o => ∃ vs, o = .lst vs ∧ Reps B vs ds
  | .od _ kvs, o => ∃ kv : List (Key × V), o = .dK kv ∧ kv.map (·.1) = kvs.map (·.1) ∧ Reps B (kv.map (·.2)) (kvs.map (·.2))
  | .ot _ kvs, o => ∃ kv : List (List Key × V), o = .dT kv ∧ kv.map (·.1) = kvs.map (·.1) ∧ Reps B (kv.map (·.2)) (kvs.map (·.2))
  | _, _ => False
theorem OwnO.mono {B B' : Hp} (s : Sub B B') : ∀ {ov : OV} {o : HO}, OwnO B ov o → OwnO B' ov o
  | .ol _ _, _, ⟨vs, e, r⟩ => ⟨vs, e, r.mono s⟩
  | .od _ _, _, ⟨kv, e, k, r⟩ => ⟨kv, e, k, r.mono s⟩
  | .ot _ _, _, ⟨kv, e, k, r⟩ => ⟨kv, e, k, r.mono s⟩
theorem OwnO.owned {B : Hp} : ∀ {ov : OV} {o : HO}, OwnO B ov o → ov.owned = true
  | .ol _ _, _, _ => rfl
  | .od _ _, _, _ => rfl
  | .ot _ _, _, _ => rfl
theorem zip_of_maps {α β : Type} (l : List (α × β)) : (l.map (·.1)).zip (l.map (·.2)) = l := by
  induction l with
  | nil => rfl
  | cons a l ih => obtain ⟨x, y⟩ := a; simp [ih]
/-- an owned thing, laid into the part that nobody changes -/
theorem OwnO.rep {B : Hp} {a : Addr} : ∀ {ov : OV} {o : HO}, OwnO B ov o → B a = some o → Rep B (.ref a) ov.toD
  | .ol _ ds, _, ⟨vs, e, r⟩, h => .lst (by rw [h, e]) r
  | .od _ kvs, _, ⟨kv, e, k, r⟩, h => by
    have q := Rep.dK (H := B) (a := a) (by rw [h, e]) r
    have e2 : (kv.map fun p => keyD p.1) = kvs.map fun p => keyD p.1 := by
      have := congrArg (List.map keyD) k
      simpa [List.map_map, Function.comp_def] using this
    rw [e2] at q
    have e3 : ((kvs.map fun p => keyD p.1).zip (kvs.map (·.2))) = kvs.map fun p => (keyD p.1, p.2) := by
      clear q e2 r k h e
      induction kvs with
      | nil => rfl
      | cons x l ih => simp [ih]
    rw [e3] at q
    exact q
  | .ot _ kvs, _, ⟨kv, e, k, r⟩, h => by
    have q := Rep.dT (H := B) (a := a) (by rw [h, e]) r
    have e2 : (kv.map fun p => tkD p.1) = kvs.map fun p => tkD p.1 := by
      have := congrArg (List.map tkD) k
      simpa [List.map_map, Function.comp_def] using this
    rw [e2] at q
    have e3 : ((kvs.map fun p => tkD p.1).zip (kvs.map (·.2))) = kvs.map fun p => (tkD p.1, p.2) := by
      clear q e2 r k h e
      induction kvs with
      | nil => rfl
      | cons x l ih => simp [ih]
    rw [e3] at q
    exact q

/-- the entry of a piece of code: the heap, the part that stays, what may be changed, what may be laid still, the slots -/
structure Ent where
  H0 : Hp
  B0 : Hp
  I : Addr → Prop
  Z : Addr → Prop
  s0 : L2.St
  J : Nat → Prop

/-- the defs that make lambdas -/
def lamNames : List Str := ["_law_could_of", "_law_taken", "_law_added", "_law_capped", "_law_run_up", "_law_stairs_by", "_law_could"]
def lamQ (x : Str) : Str := (x ++ ".<locals>.") ++ "<lambda>"
def tabIs (K : PySem.W.Frag) (x : Str) (P : Addr) : Prop := x ∈ lamNames ∧ ∃ c, PySem.W.tabIn K x = some (c, P)
def isTab (K : PySem.W.Frag) (P : Addr) : Prop := ∃ x, tabIs K x P
/-- the makers' tables of code objects -/
structure TabsK (K : PySem.W.Frag) (B H : Hp) : Prop where
  tab : ∀ x P, tabIs K x P → LamX.TabS H P (lamQ x)
  off : ∀ P, isTab K P → B P = none
theorem TabsK.at {K : PySem.W.Frag} {B H : Hp} (t : TabsK K B H) {P : Addr} (h : isTab K P) : ∃ ps, H P = some (.tbl ps) := by
  obtain ⟨x, hx⟩ := h
  obtain ⟨ps, e, _⟩ := t.tab x P hx
  exact ⟨ps, e⟩
theorem TabsK.not {K : PySem.W.Frag} {B H : Hp} (t : TabsK K B H) {a : Addr} {o : HO} (h : H a = some o) (n : ∀ ps, o ≠ .tbl ps) : ¬ isTab K a := fun z => by
  obtain ⟨ps, e⟩ := t.at z
  rw [h] at e
  exact n ps (Option.some.inj e)
theorem OwnO.ntb {B : Hp} {o : HO} : ∀ {ov : OV}, OwnO B ov o → ∀ ps, o ≠ .tbl ps
  | .ol _ _, ⟨_, e, _⟩, _, z => by rw [e] at z; cases z
  | .od _ _, ⟨_, e, _⟩, _, z => by rw [e] at z; cases z
  | .ot _ _, ⟨_, e, _⟩, _, z => by rw [e] at z; cases z
theorem OwnO.next {B : Hp} {c : Addr} {q : Str} : ∀ {ov : OV}, OwnO B ov (LamX.CodeO c q) → False
  | .ol _ _, ⟨_, e, _⟩ => by unfold LamX.CodeO at e; cases e
  | .od _ _, ⟨_, e, _⟩ => by unfold LamX.CodeO at e; cases e
  | .ot _ _, ⟨_, e, _⟩ => by unfold LamX.CodeO at e; cases e
theorem TabsK.own {K : PySem.W.Frag} {B H B0 : Hp} (t : TabsK K B H) {a : Addr} {o : HO} {ov : OV} (h : H a = some o) (w : OwnO B0 ov o) : ¬ isTab K a := t.not h w.ntb
/-- what a lambda leans on stays -/
def FnHold (B H : Hp) (F : FnI) : Prop := H F.c = some (LamX.CodeO F.c F.q) ∧ ∀ (i : Nat) (d : D), F.ds[i]? = some (some d) → ∃ u, F.σ[i]? = some (some u) ∧ Rep B u d
theorem codeO_nt {c : Addr} {q : Str} : ∀ ps, LamX.CodeO c q ≠ .tbl ps := fun ps z => by unfold LamX.CodeO at z; cases z
theorem FnHold.mono {B B' H H' : Hp} {F : FnI} (s : Sub B B') (k : ∀ o, H F.c = some o → (∀ ps, o ≠ .tbl ps) → H' F.c = some o) (h : FnHold B H F) : FnHold B' H' F := ⟨k _ h.1 codeO_nt, fun i d e => let ⟨u, a, b⟩ := h.2 i d e; ⟨u, a, b.mono s⟩⟩
def OvOk (K : PySem.W.Frag) (B H : Hp) (v : V) : OV → Prop
  | .fn F => v = .ref F.f ∧ FnHold B H F
  | .fz d => Rep B v d
  | .scr ns => ∃ a, v = .ref a ∧ SqL K B a (ns.map V.int)
  | ov => ∃ a o, v = .ref a ∧ H a = some o ∧ OwnO B ov o ∧ B a = none
/-- slot i owns the address a -/
def Own (σ : L2.St) (env : Env) (i : Nat) (a : Addr) : Prop := ∃ ov, env[i]? = some (some ov) ∧ ov.owned = true ∧ σ[i]? = some (some (.ref a))

structure RR (K : PySem.W.Frag) (E : Ent) (B H : Hp) (σ : L2.St) (env : Env) : Prop where
  bh : Sub B H
  b0 : Sub E.B0 B
  zi : ∀ a, E.Z a → E.I a
  keep : ∀ a o, E.H0 a = some o → ¬ E.I a → (∀ ps, o ≠ .tbl ps) → H a = some o
  tb : TabsK K B H
  there : ∀ a, E.H0 a ≠ none → H a ≠ none
  new : ∀ a o, B a = some o → E.B0 a = some o ∨ E.H0 a = none ∨ E.Z a
  len : σ.length = env.length
  slot : ∀ (i : Nat) (ov : OV), env[i]? = some (some ov) → ∃ v, σ[i]? = some (some v) ∧ OvOk K B H v ov
  own : ∀ (i : Nat) (a : Addr), Own σ env i a → E.I a ∨ E.H0 a = none
  ownz : ∀ (i : Nat) (a : Addr) (ov : OV), env[i]? = some (some ov) → ov.owned = true → ov.io = false → σ[i]? = some (some (.ref a)) → E.H0 a = none ∨ E.Z a
  inj : ∀ (i j : Nat) (a : Addr), Own σ env i a → Own σ env j a → i = j
  ios : ∀ (i : Nat) (ov : OV), env[i]? = some (some ov) → ov.io = true → E.J i ∧ σ[i]? = E.s0[i]?

theorem OvOk.own {K : PySem.W.Frag} {B H : Hp} {v : V} {ov : OV} (h : OvOk K B H v ov) (w : ov.owned = true) : ∃ a o, v = .ref a ∧ H a = some o ∧ OwnO B ov o ∧ B a = none := by
  cases ov with
  | fn F => cases w
  | fz d => cases w
  | scr ns => cases w
  | ol b ds => exact h
  | od b kvs => exact h
  | ot b kvs => exact h
theorem OvOk.of_own {K : PySem.W.Frag} {B H : Hp} {a : Addr} {o : HO} {ov : OV} (h : H a = some o) (r : OwnO B ov o) (n : B a = none) : OvOk K B H (.ref a) ov := by
  cases ov with
  | fn F => cases r
  | fz d => cases r
  | scr ns => cases r
  | ol b ds => exact ⟨a, o, rfl, h, r, n⟩
  | od b kvs => exact ⟨a, o, rfl, h, r, n⟩
  | ot b kvs => exact ⟨a, o, rfl, h, r, n⟩
theorem sqlSub {K : PySem.W.Frag} {B H : Hp} {a : Addr} {xs : List V} (s : Sub B H) (h : SqL K B a xs) : SqL K H a xs := Evl.ex_l s h

/-- only new objects come: to both, or to the heap alone -/
structure Grow (B H B' H' : Hp) : Prop where
  bb : Sub B B'
  hh : Sub H H'
  bh : Sub B' H'
  new : ∀ a o, B' a = some o → B a = some o ∨ H a = none
theorem Grow.id {B H : Hp} (s : Sub B H) : Grow B H B H := ⟨Sub.rfl', Sub.rfl', s, fun _ _ h => .inl h⟩
theorem Grow.tr {B H B1 H1 B2 H2 : Hp} (g : Grow B H B1 H1) (k : Grow B1 H1 B2 H2) : Grow B H B2 H2 :=
  ⟨g.bb.tr k.bb, g.hh.tr k.hh, k.bh, fun a o e => by
    rcases k.new a o e with h | h
    · exact g.new a o h
    · exact .inr (g.hh.off h)⟩
/-- a new object that nobody will change -/
theorem Grow.both {B H : Hp} {p : Addr} {o : HO} (s : Sub B H) (h : H p = none) : Grow B H (upd B p o) (upd H p o) :=
  ⟨Sub.new (s.off h), Sub.new h, s.upd2, fun a u e => by
    by_cases hp : a = p
    · subst hp; exact .inr h
    · rw [upd_ne hp] at e; exact .inl e⟩
/-- a new object that is owned by whoever has it -/
theorem Grow.heap {B H : Hp} {p : Addr} {o : HO} (s : Sub B H) (h : H p = none) : Grow B H B (upd H p o) :=
  ⟨Sub.rfl', Sub.new h, s.tr (Sub.new h), fun _ _ e => .inl e⟩

/-- the same behind a call: the tables may have grown -/
structure GrowC (K : PySem.W.Frag) (B H B' H' : Hp) : Prop where
  bb : Sub B B'
  hh : ∀ a o, H a = some o → (∀ ps, o ≠ .tbl ps) → H' a = some o
  dom : ∀ a, H a ≠ none → H' a ≠ none
  bh : Sub B' H'
  new : ∀ a o, B' a = some o → B a = some o ∨ H a = none
  tb : TabsK K B' H'
theorem TabsK.strong {K : PySem.W.Frag} {B H B' H' : Hp} (t : TabsK K B H) (h : Sub H H') (n : ∀ a o, B' a = some o → B a = some o ∨ H a = none) : TabsK K B' H' :=
  ⟨fun x P e => (t.tab x P e).ext h, fun P e => by
    obtain ⟨ps, q⟩ := t.at e
    cases z : B' P with
    | none => rfl
    | some o =>
      rcases n P o z with y | y
      · rw [t.off P e] at y; cases y
      · rw [q] at y; cases y⟩
theorem Grow.toC {K : PySem.W.Frag} {B H B' H' : Hp} (g : Grow B H B' H') (t : TabsK K B H) : GrowC K B H B' H' :=
  ⟨g.bb, fun a o e _ => g.hh a o e, fun a e z => e (g.hh.off z), g.bh, g.new, t.strong g.hh g.new⟩
theorem GrowC.tr {K : PySem.W.Frag} {B H B1 H1 B2 H2 : Hp} (g : GrowC K B H B1 H1) (k : GrowC K B1 H1 B2 H2) : GrowC K B H B2 H2 :=
  ⟨g.bb.tr k.bb, fun a o e n => k.hh a o (g.hh a o e n) n, fun a e => k.dom a (g.dom a e), k.bh, fun a o e => by
    rcases k.new a o e with h | h
    · exact g.new a o h
    · refine .inr ?_
      cases z : H a with
      | none => rfl
      | some u => exact absurd h (g.dom a (by rw [z]; simp)), k.tb⟩
theorem OvOk.grow {K : PySem.W.Frag} {B H B' H' : Hp} {v : V} (t : TabsK K B H) (g : GrowC K B H B' H') : ∀ {ov : OV}, OvOk K B H v ov → OvOk K B' H' v ov := fun {ov} h => by
  have own : ov.owned = true → OvOk K B' H' v ov := fun w => by
    obtain ⟨a, o, rfl, e, r, n⟩ := h.own w
    refine OvOk.of_own (g.hh a o e r.ntb) (r.mono g.bb) ?_
    cases q : B' a with
    | none => rfl
    | some u =>
      rcases g.new a u q with z | z
      · rw [n] at z; cases z
      · rw [e] at z; cases z
  cases ov with
  | fn F => exact ⟨h.1, h.2.mono g.bb fun o e n => g.hh _ o e n⟩
  | fz d => exact Rep.mono g.bb h
  | scr ns => obtain ⟨a, e, s⟩ := h; exact ⟨a, e, sqlSub g.bb s⟩
  | ol b ds => exact own rfl
  | od b kvs => exact own rfl
  | ot b kvs => exact own rfl

theorem TabsK.lay {K : PySem.W.Frag} {B H : Hp} {p : Addr} {o : HO} (t : TabsK K B H) (h : H p = some o) (n : ∀ ps, o ≠ .tbl ps) : TabsK K (upd B p o) H :=
  ⟨t.tab, fun P e => by
    rw [upd_ne (fun z => t.not h n (by rw [← z]; exact e))]
    exact t.off P e⟩
theorem TabsK.write {K : PySem.W.Frag} {B H : Hp} {a : Addr} {o o' : HO} {ov ov' : OV} (t : TabsK K B H) (h : H a = some o) (w : OwnO B ov o) (_ : OwnO B ov' o') : TabsK K B (upd H a o') :=
  ⟨fun x P e => by
    obtain ⟨ps, e1, e2, e3⟩ := t.tab x P e
    refine ⟨ps, ?_, e2, fun pos cv hc => ?_⟩
    · rw [upd_ne (fun z => t.own h w (by rw [← z]; exact ⟨x, e⟩))]
      exact e1
    · obtain ⟨c, q1, q2⟩ := e3 pos cv hc
      refine ⟨c, q1, ?_⟩
      rw [upd_ne (fun z => ?_)]
      · exact q2
      · rw [z, h] at q2
        have q3 := Option.some.inj q2
        subst q3
        exact w.next, t.off⟩
section
variable {K : PySem.W.Frag} {E : Ent} {B H B' H' : Hp} {σ : L2.St} {env : Env}
theorem RR.growC (r : RR K E B H σ env) (g : GrowC K B H B' H') : RR K E B' H' σ env where
  bh := g.bh
  b0 := r.b0.tr g.bb
  zi := r.zi
  keep := fun a o e n nt => g.hh a o (r.keep a o e n nt) nt
  tb := g.tb
  there := fun a e => g.dom a (r.there a e)
  new := fun a o e => by
    rcases g.new a o e with h | h
    · exact r.new a o h
    · refine .inr (.inl ?_)
      cases q : E.H0 a with
      | none => rfl
      | some u => exact absurd h (r.there a (by rw [q]; simp))
  len := r.len
  slot := fun i ov e => let ⟨v, h, o⟩ := r.slot i ov e; ⟨v, h, o.grow r.tb g⟩
  own := r.own
  ownz := r.ownz
  inj := r.inj
  ios := r.ios
theorem RR.grow (r : RR K E B H σ env) (g : Grow B H B' H') : RR K E B' H' σ env := r.growC (g.toC r.tb)
/-- what an owned slot has -/
theorem RR.owns {i : Nat} {ov : OV} (r : RR K E B H σ env) (h : env[i]? = some (some ov)) (w : ov.owned = true) :
    ∃ a o, σ[i]? = some (some (.ref a)) ∧ H a = some o ∧ OwnO B ov o ∧ B a = none := by
  obtain ⟨v, e, k⟩ := r.slot i ov h
  obtain ⟨a, o, rfl, h1, h2, h3⟩ := k.own w
  exact ⟨a, o, e, h1, h2, h3⟩
/-- a slot gets something else -/
theorem RR.put {i : Nat} {v : V} {ov : OV} (r : RR K E B H σ env) (h : OvOk K B H v ov) (hio : ov.io = false)
    (hn : ov.owned = true → ∀ a, v = .ref a → (∀ j, ¬ Own σ env j a) ∧ (E.H0 a = none ∨ E.Z a)) : RR K E B H (σ.set i (some v)) (env.set i (some ov)) := by
  have look : ∀ j u, (env.set i (some ov))[j]? = some (some u) → (j = i ∧ u = ov ∧ i < env.length) ∨ (j ≠ i ∧ env[j]? = some (some u)) := fun j u e => by
    by_cases hj : j = i
    · subst hj
      by_cases hl : j < env.length
      · rw [List.getElem?_set_self hl] at e
        exact .inl ⟨rfl, (Option.some.inj (Option.some.inj e)).symm, hl⟩
      · rw [List.getElem?_eq_none (by simpa using hl)] at e; cases e
    · rw [List.getElem?_set_ne (Ne.symm hj)] at e
      exact .inr ⟨hj, e⟩
  have sv : ∀ j, j ≠ i → (σ.set i (some v))[j]? = σ[j]? := fun j hj => List.getElem?_set_ne (Ne.symm hj)
  have si : i < env.length → (σ.set i (some v))[i]? = some (some v) := fun hl => List.getElem?_set_self (by rw [r.len]; exact hl)
  have ownOld : ∀ j a, j ≠ i → Own (σ.set i (some v)) (env.set i (some ov)) j a → Own σ env j a := fun j a hj ⟨u, e, w, q⟩ => by
    rcases look j u e with ⟨z, _⟩ | ⟨_, e'⟩
    · exact absurd z hj
    · rw [sv j hj] at q; exact ⟨u, e', w, q⟩
  have ownNew : ∀ a, Own (σ.set i (some v)) (env.set i (some ov)) i a → ov.owned = true ∧ v = .ref a := fun a ⟨u, e, w, q⟩ => by
    rcases look i u e with ⟨_, e', hl⟩ | ⟨z, _⟩
    · subst e'
      rw [si hl] at q
      exact ⟨w, Option.some.inj (Option.some.inj q)⟩
    · exact absurd rfl z
  refine ⟨r.bh, r.b0, r.zi, r.keep, r.tb, r.there, r.new, by simpa using r.len, fun j u e => ?_, fun j a w => ?_, fun j a u e w wi q => ?_, fun j k a w w' => ?_, fun j u e w => ?_⟩
  · rcases look j u e with ⟨rfl, rfl, hl⟩ | ⟨hj, e'⟩
    · exact ⟨v, si hl, h⟩
    · rw [sv j hj]; exact r.slot j u e'
  · by_cases hj : j = i
    · subst hj
      obtain ⟨w1, e⟩ := ownNew a w
      rcases (hn w1 a e).2 with z | z
      · exact .inr z
      · exact .inl (r.zi a z)
    · exact r.own j a (ownOld j a hj w)
  · rcases look j u e with ⟨rfl, rfl, hl⟩ | ⟨hj, e'⟩
    · rw [si hl] at q
      exact (hn w a (Option.some.inj (Option.some.inj q))).2
    · rw [sv j hj] at q; exact r.ownz j a u e' w wi q
  · by_cases hj : j = i
    · by_cases hk : k = i
      · rw [hj, hk]
      · rw [hj] at w
        obtain ⟨w1, e⟩ := ownNew a w
        exact absurd (ownOld k a hk w') ((hn w1 a e).1 k)
    · by_cases hk : k = i
      · rw [hk] at w'
        obtain ⟨w1, e⟩ := ownNew a w'
        exact absurd (ownOld j a hj w) ((hn w1 a e).1 j)
      · exact r.inj j k a (ownOld j a hj w) (ownOld k a hk w')
  · rcases look j u e with ⟨rfl, rfl, _⟩ | ⟨hj, e'⟩
    · rw [hio] at w; cases w
    · rw [sv j hj]; exact r.ios j u e' w
/-- a slot's owned thing is laid: nobody changes it any more -/
theorem RR.freeze {i : Nat} {ov : OV} (r : RR K E B H σ env) (h : env[i]? = some (some ov)) (w : ov.owned = true) (hio : ov.io = false) :
    ∃ v B', σ[i]? = some (some v) ∧ Sub B B' ∧ RR K E B' H σ (env.set i (some (.fz ov.toD))) ∧ Rep B' v ov.toD := by
  obtain ⟨a, o, e, h1, h2, h3⟩ := r.owns h w
  have s1 : Sub B (upd B a o) := Sub.new h3
  have hl : i < env.length := (List.getElem?_eq_some_iff.mp h).1
  have rep : Rep (upd B a o) (.ref a) ov.toD := (h2.mono s1).rep upd_same
  have look : ∀ j u, (env.set i (some (.fz ov.toD)))[j]? = some (some u) → (j = i ∧ u = .fz ov.toD) ∨ (j ≠ i ∧ env[j]? = some (some u)) := fun j u e => by
    by_cases hj : j = i
    · subst hj
      rw [List.getElem?_set_self hl] at e
      exact .inl ⟨rfl, (Option.some.inj (Option.some.inj e)).symm⟩
    · rw [List.getElem?_set_ne (Ne.symm hj)] at e
      exact .inr ⟨hj, e⟩
  have ownOld : ∀ j b, Own σ (env.set i (some (.fz ov.toD))) j b → j ≠ i ∧ Own σ env j b := fun j b ⟨u, e, w, q⟩ => by
    rcases look j u e with ⟨_, z⟩ | ⟨hj, e'⟩
    · subst z; cases w
    · exact ⟨hj, u, e', w, q⟩
  refine ⟨.ref a, upd B a o, e, s1, ⟨fun b u q => ?_, r.b0.tr s1, r.zi, r.keep, r.tb.lay h1 h2.ntb, r.there, fun b u q => ?_, by simpa using r.len, fun j u q => ?_, fun j b q => r.own j b (ownOld j b q).2, fun j b u q w2 wi z => ?_, fun j k b q q' => r.inj j k b (ownOld j b q).2 (ownOld k b q').2, fun j u q w2 => ?_⟩, rep⟩
  · by_cases hb : b = a
    · subst hb; rw [upd_same] at q; rw [← q]; exact h1
    · rw [upd_ne hb] at q; exact r.bh b u q
  · by_cases hb : b = a
    · subst hb
      exact .inr (r.ownz i b ov h w hio e)
    · rw [upd_ne hb] at q; exact r.new b u q
  · rcases look j u q with ⟨rfl, rfl⟩ | ⟨hj, q'⟩
    · exact ⟨_, e, rep⟩
    · obtain ⟨v, z, k⟩ := r.slot j u q'
      refine ⟨v, z, ?_⟩
      have own : u.owned = true → OvOk K (upd B a o) H v u := fun wu => by
        obtain ⟨c, oc, rfl, k1, k2, k3⟩ := k.own wu
        refine OvOk.of_own k1 (k2.mono s1) ?_
        have nc : c ≠ a := fun z2 => by
          subst z2
          exact hj (r.inj j i c ⟨u, q', wu, z⟩ ⟨ov, h, w, e⟩)
        rw [upd_ne nc]; exact k3
      cases u with
      | fn F => exact ⟨k.1, k.2.mono s1 fun _ e _ => e⟩
      | fz d => exact Rep.mono s1 k
      | scr ns => obtain ⟨c, q1, q2⟩ := k; exact ⟨c, q1, sqlSub s1 q2⟩
      | ol _ _ => exact own rfl
      | od _ _ => exact own rfl
      | ot _ _ => exact own rfl
  · rcases look j u q with ⟨_, z2⟩ | ⟨hj, q'⟩
    · subst z2; cases w2
    · exact r.ownz j b u q' w2 wi z
  · rcases look j u q with ⟨_, z2⟩ | ⟨hj, q'⟩
    · subst z2; cases w2
    · exact r.ios j u q' w2
/-- an owned thing is changed -/
theorem RR.write {i : Nat} {ov ov' : OV} {a : Addr} {o' : HO} (r : RR K E B H σ env) (h : env[i]? = some (some ov)) (w : ov.owned = true) (e : σ[i]? = some (some (.ref a))) (hn : OwnO B ov' o') (hio : ov'.io = ov.io) :
    RR K E B (upd H a o') σ (env.set i (some ov')) := by
  obtain ⟨a', o, e', h1, h2, h3⟩ := r.owns h w
  rw [e] at e'; cases e'
  have hl : i < env.length := (List.getElem?_eq_some_iff.mp h).1
  have w' : ov'.owned = true := hn.owned
  have look : ∀ j u, (env.set i (some ov'))[j]? = some (some u) → (j = i ∧ u = ov') ∨ (j ≠ i ∧ env[j]? = some (some u)) := fun j u e => by
    by_cases hj : j = i
    · subst hj
      rw [List.getElem?_set_self hl] at e
      exact .inl ⟨rfl, (Option.some.inj (Option.some.inj e)).symm⟩
    · rw [List.getElem?_set_ne (Ne.symm hj)] at e
      exact .inr ⟨hj, e⟩
  have ownOld : ∀ j b, Own σ (env.set i (some ov')) j b → Own σ env j b := fun j b ⟨u, q, wu, z⟩ => by
    rcases look j u q with ⟨hj, _⟩ | ⟨_, q'⟩
    · subst hj; exact ⟨ov, h, w, z⟩
    · exact ⟨u, q', wu, z⟩
  have iO : Own σ env i a := ⟨ov, h, w, e⟩
  refine ⟨fun b u q => ?_, r.b0, r.zi, fun b u q n nt => ?_, r.tb.write h1 h2 hn, fun b q => ?_, r.new, by simpa using r.len, fun j u q => ?_, fun j b q => r.own j b (ownOld j b q), fun j b u q wu wi z => ?_, fun j k b q q' => r.inj j k b (ownOld j b q) (ownOld k b q'), fun j u q wu => ?_⟩
  · have nb : b ≠ a := fun z => by subst z; rw [h3] at q; cases q
    rw [upd_ne nb]; exact r.bh b u q
  · have nb : b ≠ a := fun z => by
      subst z
      rcases r.own i b iO with k | k
      · exact n k
      · rw [k] at q; cases q
    rw [upd_ne nb]; exact r.keep b u q n nt
  · by_cases hb : b = a
    · subst hb; rw [upd_same]; simp
    · rw [upd_ne hb]; exact r.there b q
  · rcases look j u q with ⟨rfl, rfl⟩ | ⟨hj, q'⟩
    · exact ⟨_, e, OvOk.of_own upd_same hn h3⟩
    · obtain ⟨v, z, k⟩ := r.slot j u q'
      refine ⟨v, z, ?_⟩
      have own : u.owned = true → OvOk K B (upd H a o') v u := fun wu => by
        obtain ⟨c, oc, rfl, k1, k2, k3⟩ := k.own wu
        refine OvOk.of_own (o := oc) ?_ k2 k3
        have nc : c ≠ a := fun z2 => by
          subst z2
          exact hj (r.inj j i c ⟨u, q', wu, z⟩ iO)
        rw [upd_ne nc]; exact k1
      cases u with
      | fn F => exact ⟨k.1, k.2.mono Sub.rfl' fun o q _ => by
          rw [upd_ne (fun z => ?_)]
          · exact q
          · have q2 := k.2.1
            rw [z, h1] at q2
            have q3 := Option.some.inj q2
            subst q3
            exact h2.next⟩
      | fz d => exact k
      | scr ns => exact k
      | ol _ _ => exact own rfl
      | od _ _ => exact own rfl
      | ot _ _ => exact own rfl
  · rcases look j u q with ⟨rfl, rfl⟩ | ⟨hj, q'⟩
    · exact r.ownz j b ov h w (by rw [← hio]; exact wi) z
    · exact r.ownz j b u q' wu wi z
  · rcases look j u q with ⟨rfl, rfl⟩ | ⟨hj, q'⟩
    · exact r.ios j ov h (by rw [← hio]; exact wu)
    · exact r.ios j u q' wu
/-- an object beside the frame's own is laid -/
theorem RR.lay {p : Addr} {o : HO} (r : RR K E B H σ env) (h : H p = some o) (hb : B p = none) (h0 : E.H0 p = none ∨ E.Z p) (hn : ∀ j, ¬ Own σ env j p) (hnt : ∀ ps, o ≠ .tbl ps) : RR K E (upd B p o) H σ env := by
  have s1 : Sub B (upd B p o) := Sub.new hb
  refine ⟨fun b u q => ?_, r.b0.tr s1, r.zi, r.keep, r.tb.lay h hnt, r.there, fun b u q => ?_, r.len, fun j u q => ?_, r.own, r.ownz, r.inj, r.ios⟩
  · by_cases hb : b = p
    · subst hb; rw [upd_same] at q; rw [← q]; exact h
    · rw [upd_ne hb] at q; exact r.bh b u q
  · by_cases hb : b = p
    · subst hb; exact .inr h0
    · rw [upd_ne hb] at q; exact r.new b u q
  · obtain ⟨v, z, k⟩ := r.slot j u q
    refine ⟨v, z, ?_⟩
    have own : u.owned = true → OvOk K (upd B p o) H v u := fun wu => by
      obtain ⟨c, oc, rfl, k1, k2, k3⟩ := k.own wu
      refine OvOk.of_own k1 (k2.mono s1) ?_
      have nc : c ≠ p := fun z2 => by subst z2; exact hn j ⟨u, q, wu, z⟩
      rw [upd_ne nc]; exact k3
    cases u with
    | fn F => exact ⟨k.1, k.2.mono s1 fun _ e _ => e⟩
    | fz d => exact Rep.mono s1 k
    | scr ns => obtain ⟨c, q1, q2⟩ := k; exact ⟨c, q1, sqlSub s1 q2⟩
    | ol _ _ => exact own rfl
    | od _ _ => exact own rfl
    | ot _ _ => exact own rfl
end
end NS

set_option Elab.async false
set_option linter.all false
set_option maxRecDepth 100000
set_option maxHeartbeats 4000000
/-! NsB: readings by evaluators: expressions. -/
namespace NS
open PySem L2

/-- an operand: a tree; what slot i owns, by reference; the script -/
inductive Opd where
  | v (d : D) | r (i : Nat) | s (ns : List Int)
/-- a result: a tree; a new list, a new dict, owned by whoever takes it -/
inductive Res where
  | d (d : D) | l (ds : List D) | k (kvs : List (Key × D)) | t (kvs : List (List Key × D))
def Res.ov : Res → OV
  | .d x => .fz x
  | .l xs => .ol false xs
  | .k xs => .od false xs
  | .t xs => .ot false xs
def Res.toD (r : Res) : D := r.ov.toD
abbrev Ev (α : Type) := Env → Option (α × Env)
theorem bindS {α β : Type} {x : Option α} {f : α → Option β} {b : β} (h : x.bind f = some b) : ∃ a, x = some a ∧ f a = some b := by
  cases x with
  | none => cases h
  | some a => exact ⟨a, rfl, h⟩
def guardO {α : Type} (c : Bool) (x : Option α) : Option α := if c = true then x else none
theorem guardS {α : Type} {c : Bool} {x : Option α} {b : α} (h : guardO c x = some b) : c = true ∧ x = some b := by
  unfold guardO at h
  split at h
  · exact ⟨by assumption, h⟩
  · cases h

def OpV (K : PySem.W.Frag) (B : Hp) (σ : L2.St) : Opd → V → Prop
  | .v d, u => Rep B u d
  | .r i, u => σ[i]? = some (some u)
  | .s ns, u => ∃ a, u = .ref a ∧ SqL K B a (ns.map V.int)
def OpVs (K : PySem.W.Frag) (B : Hp) (σ : L2.St) : List Opd → List V → Prop
  | [], us => us = []
  | x :: xs, us => ∃ u r, us = u :: r ∧ OpV K B σ x u ∧ OpVs K B σ xs r
theorem OpV.mono {K : PySem.W.Frag} {B B' : Hp} {σ : L2.St} (s : Sub B B') : ∀ {x : Opd} {u : V}, OpV K B σ x u → OpV K B' σ x u
  | .v _, _, h => Rep.mono s h
  | .r _, _, h => h
  | .s _, _, ⟨a, e, h⟩ => ⟨a, e, sqlSub s h⟩
theorem OpVs.mono {K : PySem.W.Frag} {B B' : Hp} {σ : L2.St} (s : Sub B B') : ∀ {xs : List Opd} {us : List V}, OpVs K B σ xs us → OpVs K B' σ xs us
  | [], _, h => h
  | _ :: _, _, ⟨u, r, e, h, k⟩ => ⟨u, r, e, h.mono s, OpVs.mono s k⟩
def ResV (E : Ent) (B H : Hp) (σ : L2.St) (env : Env) : Res → V → Prop
  | .d d, u => Rep B u d
  | r, u => ∃ p o, u = .ref p ∧ H p = some o ∧ OwnO B r.ov o ∧ B p = none ∧ (∀ j, ¬ Own σ env j p) ∧ (E.H0 p = none ∨ E.Z p)

/-! ### the readings -/
section
variable (K : PySem.W.Frag)
def tE (f : Ev D) : TE := fun σ H Q => ∃ E B env d env', RR K E B H σ env ∧ f env = some (d, env') ∧ ∀ v B' H', RR K E B' H' σ env' → Sub B B' → Rep B' v d → Q v H'
def tP (f : Ev Opd) : TE := fun σ H Q => ∃ E B env x env', RR K E B H σ env ∧ f env = some (x, env') ∧ ∀ v B' H', RR K E B' H' σ env' → Sub B B' → OpV K B' σ x v → Q v H'
def tR (f : Ev Res) : TE := fun σ H Q => ∃ E B env x env', RR K E B H σ env ∧ f env = some (x, env') ∧ ∀ v B' H', RR K E B' H' σ env' → Sub B B' → ResV E B' H' σ env' x v → Q v H'
def tT (f : Ev Bool) : TT := fun σ H Q => ∃ E B env x env', RR K E B H σ env ∧ f env = some (x, env') ∧ ∀ B' H', RR K E B' H' σ env' → Sub B B' → Q x H'
def tA (f : Ev (List Opd)) : TA := fun σ H Q => ∃ E B env x env', RR K E B H σ env ∧ f env = some (x, env') ∧ ∀ vs B' H', RR K E B' H' σ env' → Sub B B' → OpVs K B' σ x vs → Q vs H'
end
theorem peImp {X : Cx} {e : Expr} {t t' : TE} (h : PE X e t) (i : ∀ σ H Q, t' σ H Q → t σ H Q) : PE X e t' := ⟨fun pins s σ H Q I q => h.run pins s σ H Q I (i σ H Q q)⟩
theorem ptImp {X : Cx} {e : Expr} {t t' : TT} (h : PT X e t) (i : ∀ σ H Q, t' σ H Q → t σ H Q) : PT X e t' := ⟨fun pins s σ H Q I q => h.run pins s σ H Q I (i σ H Q q)⟩
theorem pwImp {X : Cx} {e : Expr} {t t' : TT} (h : PW X e t) (i : ∀ σ H Q, t' σ H Q → t σ H Q) : PW X e t' := ⟨fun wh pins s σ H Q I q => h.run wh pins s σ H Q I (i σ H Q q)⟩
theorem paImp {X : Cx} {e : List Expr} {t t' : TA} (h : PA X e t) (i : ∀ σ H Q, t' σ H Q → t σ H Q) : PA X e t' := ⟨fun pos pins s σ H Q I q => h.run pos pins s σ H Q I (i σ H Q q)⟩

/-! ### from one kind of reading to another -/
def opOf (f : Ev D) : Ev Opd := fun env => (f env).bind fun p => some (.v p.1, p.2)
def resOf (f : Ev D) : Ev Res := fun env => (f env).bind fun p => some (.d p.1, p.2)
def layOf (f : Ev Res) : Ev D := fun env => (f env).bind fun p => some (p.1.toD, p.2)
section
variable {X : Cx} {e : Expr}
theorem pE_P {f : Ev D} (h : PE X e (tE X.K f)) : PE X e (tP X.K (opOf f)) := peImp h fun σ H Q ⟨E, B, env, x, env', r, ef, k⟩ => by
  obtain ⟨p, e1, e2⟩ := bindS ef
  cases e2
  exact ⟨E, B, env, p.1, p.2, r, e1, fun v B' H' r' s q => k v B' H' r' s q⟩
theorem pE_R {f : Ev D} (h : PE X e (tE X.K f)) : PE X e (tR X.K (resOf f)) := peImp h fun σ H Q ⟨E, B, env, x, env', r, ef, k⟩ => by
  obtain ⟨p, e1, e2⟩ := bindS ef
  cases e2
  exact ⟨E, B, env, p.1, p.2, r, e1, fun v B' H' r' s q => k v B' H' r' s q⟩
/-- a result is laid -/
theorem ResV.lay {K : PySem.W.Frag} {E : Ent} {B H : Hp} {σ : L2.St} {env : Env} {x : Res} {u : V} (h : ResV E B H σ env x u) (r : RR K E B H σ env) : ∃ B', RR K E B' H σ env ∧ Sub B B' ∧ Rep B' u x.toD := by
  have own : (∃ p o, u = .ref p ∧ H p = some o ∧ OwnO B x.ov o ∧ B p = none ∧ (∀ j, ¬ Own σ env j p) ∧ (E.H0 p = none ∨ E.Z p)) → ∃ B', RR K E B' H σ env ∧ Sub B B' ∧ Rep B' u x.toD := by
    rintro ⟨p, o, rfl, h1, h2, h3, h4, h5⟩
    exact ⟨upd B p o, r.lay h1 h3 h5 h4 h2.ntb, Sub.new h3, (h2.mono (Sub.new h3)).rep upd_same⟩
  cases x with
  | d d => exact ⟨B, r, Sub.rfl', h⟩
  | l ds => exact own h
  | k ds => exact own h
  | t ds => exact own h
theorem pR_E {f : Ev Res} (h : PE X e (tR X.K f)) : PE X e (tE X.K (layOf f)) := peImp h fun σ H Q ⟨E, B, env, x, env', r, ef, k⟩ => by
  obtain ⟨p, e1, e2⟩ := bindS ef
  cases e2
  refine ⟨E, B, env, p.1, p.2, r, e1, fun v B' H' r' s q => ?_⟩
  obtain ⟨B2, r2, s2, q2⟩ := q.lay r'
  exact k v B2 H' r2 (s.tr s2) q2

/-! ### names and constants -/
def slotE (i : Nat) : Ev D := fun env => match env[i]? with
  | some (some (.fz d)) => some (d, env)
  | some (some ov) => if (ov.owned && !ov.io) = true then some (ov.toD, env.set i (some (.fz ov.toD))) else none
  | _ => none
def slotP (i : Nat) : Ev Opd := fun env => match env[i]? with
  | some (some (.fz d)) => some (.v d, env)
  | some (some (.scr ns)) => some (.s ns, env)
  | some (some _) => some (.r i, env)
  | _ => none
theorem e_slotE {i : Nat} (h : PE X e (tVar i)) : PE X e (tE X.K (slotE i)) := peImp h fun σ H Q ⟨E, B, env, x, env', r, ef, k⟩ => by
  unfold slotE at ef
  split at ef
  · rename_i d hd
    cases ef
    obtain ⟨v, hv, ok⟩ := r.slot i _ hd
    exact ⟨v, hv, k v B H r Sub.rfl' ok⟩
  · rename_i ov hn hd
    split at ef
    · rename_i w
      cases ef
      simp only [Bool.and_eq_true, Bool.not_eq_true'] at w
      obtain ⟨v, B', hv, s, r', rep⟩ := r.freeze hd w.1 w.2
      exact ⟨v, hv, k v B' H r' s rep⟩
    · cases ef
  · cases ef
theorem e_slotP {i : Nat} (h : PE X e (tVar i)) : PE X e (tP X.K (slotP i)) := peImp h fun σ H Q ⟨E, B, env, x, env', r, ef, k⟩ => by
  unfold slotP at ef
  split at ef
  · rename_i d hd
    cases ef
    obtain ⟨v, hv, ok⟩ := r.slot i _ hd
    exact ⟨v, hv, k v B H r Sub.rfl' ok⟩
  · rename_i ns hd
    cases ef
    obtain ⟨v, hv, ok⟩ := r.slot i _ hd
    exact ⟨v, hv, k v B H r Sub.rfl' ok⟩
  · rename_i ov h1 h2 hd
    cases ef
    obtain ⟨v, hv, ok⟩ := r.slot i _ hd
    exact ⟨v, hv, k v B H r Sub.rfl' hv⟩
  · cases ef
def cstE (d : D) : Ev D := fun env => some (d, env)
theorem e_cst {v : V} {d : D} (h : PE X e (tC v)) (hd : ∀ B : Hp, Rep B v d) : PE X e (tE X.K (cstE d)) := peImp h fun σ H Q ⟨E, B, env, x, env', r, ef, k⟩ => by
  unfold cstE at ef
  cases ef
  exact k v B H r Sub.rfl' (hd B)

/-! ### an operand when the operation comes -/
def ownD : Option (Option OV) → Option D
  | some (some ov) => if ov.owned = true then some ov.toD else none
  | _ => none
def opD (env : Env) : Opd → Option D
  | .v d => some d
  | .r i => ownD env[i]?
  | .s _ => none
/-- v can be read as d: a tree that stays, or an owned thing whose parts are such -/
def Rd (B H : Hp) (u : V) (d : D) : Prop := Rep B u d ∨ ∃ a o ov, u = .ref a ∧ H a = some o ∧ OwnO B ov o ∧ d = ov.toD ∧ B a = none
def Rds (B H : Hp) : List V → List D → Prop
  | [], ds => ds = []
  | u :: us, ds => ∃ d r, ds = d :: r ∧ Rd B H u d ∧ Rds B H us r
theorem opRd {K : PySem.W.Frag} {E : Ent} {B H : Hp} {σ : L2.St} {env : Env} {x : Opd} {u : V} {d : D} (r : RR K E B H σ env) (h : OpV K B σ x u) (e : opD env x = some d) : Rd B H u d := by
  cases x with
  | v d' => cases e; exact .inl h
  | s ns => cases e
  | r i =>
    have e' : ownD env[i]? = some d := e
    unfold ownD at e'
    split at e'
    · rename_i ov he
      split at e'
      · rename_i w
        cases e'
        obtain ⟨a, o, h1, h2, h3, h4⟩ := r.owns he w
        have h' : σ[i]? = some (some u) := h
        rw [h1] at h'
        cases h'
        exact .inr ⟨a, o, ov, rfl, h2, h3, rfl, h4⟩
      · cases e'
    · cases e'
def opDs (env : Env) : List Opd → Option (List D)
  | [] => some []
  | x :: xs => (opD env x).bind fun d => (opDs env xs).bind fun ds => some (d :: ds)
theorem opRds {K : PySem.W.Frag} {E : Ent} {B H : Hp} {σ : L2.St} {env : Env} (r : RR K E B H σ env) : ∀ {xs : List Opd} {us : List V} {ds : List D}, OpVs K B σ xs us → opDs env xs = some ds → Rds B H us ds
  | [], us, ds, h, e => by
    cases h
    cases e
    exact rfl
  | x :: xs, us, ds, ⟨u, rr, e0, h, k⟩, e => by
    subst e0
    obtain ⟨d, e1, e2⟩ := bindS e
    obtain ⟨ds', e3, e4⟩ := bindS e2
    cases e4
    exact ⟨d, ds', rfl, opRd r h e1, opRds r k e3⟩
section
variable {B H : Hp} {u : V}
theorem Rd.rep {d : D} (s : Sub B H) (h : Rd B H u d) : Rep H u d := by
  rcases h with h | ⟨a, o, ov, rfl, h1, h2, rfl, _⟩
  · exact h.mono s
  · exact (h2.mono s).rep h1
theorem Rd.int {i : Int} (h : Rd B H u (.int i)) : u = .int i := by
  rcases h with h | ⟨a, o, ov, rfl, h1, h2, h3, _⟩
  · cases h; rfl
  · cases ov <;> first | exact False.elim h2 | cases h3
theorem Rd.bl {b : Bool} (h : Rd B H u (.bool b)) : u = .bl b := by
  rcases h with h | ⟨a, o, ov, rfl, h1, h2, h3, _⟩
  · cases h; rfl
  · cases ov <;> first | exact False.elim h2 | cases h3
theorem Rd.str {x : Str} (h : Rd B H u (.str x)) : u = .str x := by
  rcases h with h | ⟨a, o, ov, rfl, h1, h2, h3, _⟩
  · cases h; rfl
  · cases ov <;> first | exact False.elim h2 | cases h3
theorem Rd.non (h : Rd B H u .none) : u = .non := by
  rcases h with h | ⟨a, o, ov, rfl, h1, h2, h3, _⟩
  · cases h; rfl
  · cases ov <;> first | exact False.elim h2 | cases h3
theorem Rd.lst {ds : List D} (s : Sub B H) (h : Rd B H u (.list ds)) : ∃ a vs, u = .ref a ∧ H a = some (.lst vs) ∧ Reps B vs ds := by
  rcases h with h | ⟨a, o, ov, rfl, h1, h2, h3, _⟩
  · cases h with
    | lst h r => exact ⟨_, _, rfl, s _ _ h, r⟩
  · cases ov with
    | fn _ => exact False.elim h2
    | fz _ => exact False.elim h2
    | scr _ => exact False.elim h2
    | od _ _ => cases h3
    | ot _ _ => cases h3
    | ol b es =>
      cases h3
      obtain ⟨vs, rfl, r⟩ := h2
      exact ⟨a, vs, rfl, h1, r⟩
theorem Rd.tup {ds : List D} (s : Sub B H) (h : Rd B H u (.tuple ds)) : ∃ a vs, u = .ref a ∧ H a = some (.tup vs) ∧ Reps B vs ds := by
  rcases h with h | ⟨a, o, ov, rfl, h1, h2, h3, _⟩
  · cases h with
    | tup h r => exact ⟨_, _, rfl, s _ _ h, r⟩
  · cases ov <;> first | exact False.elim h2 | cases h3
end

/-! ### operations -/
/-- the result of an operation, at once behind it -/
def NewV (B H H' : Hp) (B' : Hp) : Res → V → Prop
  | .d d, u => Rep B' u d
  | r, u => ∃ p o, u = .ref p ∧ H p = none ∧ H' p = some o ∧ OwnO B' r.ov o ∧ B' p = none
def Prim2 (r : R2) (g : D → D → Option Res) : Prop := ∀ (B H : Hp) (u v : V) (dx dy : D) (res : Res) (Q : VK), Sub B H → Rd B H u dx → Rd B H v dy → g dx dy = some res → (∀ w B' H', Grow B H B' H' → NewV B H H' B' res w → Q w H') → r u v H Q
def PrimN (r : List V → Hp → VK → Prop) (g : List D → Option Res) : Prop := ∀ (B H : Hp) (us : List V) (ds : List D) (res : Res) (Q : VK), Sub B H → Rds B H us ds → g ds = some res → (∀ w B' H', Grow B H B' H' → NewV B H H' B' res w → Q w H') → r us H Q
theorem NewV.res {K : PySem.W.Frag} {E : Ent} {B H B' H' : Hp} {σ : L2.St} {env : Env} {x : Res} {u : V} (h : NewV B H H' B' x u) (r : RR K E B H σ env) : ResV E B' H' σ env x u := by
  have own : (∃ p o, u = .ref p ∧ H p = none ∧ H' p = some o ∧ OwnO B' x.ov o ∧ B' p = none) → ∃ p o, u = .ref p ∧ H' p = some o ∧ OwnO B' x.ov o ∧ B' p = none ∧ (∀ j, ¬ Own σ env j p) ∧ (E.H0 p = none ∨ E.Z p) := by
    rintro ⟨p, o, rfl, h1, h2, h3, h4⟩
    refine ⟨p, o, rfl, h2, h3, h4, fun j ⟨ov, e, w, z⟩ => ?_, ?_⟩
    · obtain ⟨a, oa, k1, k2, k3, k4⟩ := r.owns e w
      rw [z] at k1; cases k1
      rw [h1] at k2; cases k2
    · refine .inl ?_
      cases q : E.H0 p with
      | none => rfl
      | some w => exact absurd h1 (r.there p (by rw [q]; simp))
  cases x with
  | d d => exact h
  | l ds => exact own h
  | k ds => exact own h
  | t ds => exact own h
def bin2 (g : D → D → Option Res) (fa fb : Ev Opd) : Ev Res := fun env => (fa env).bind fun p => (fb p.2).bind fun q => (opD q.2 p.1).bind fun dx => (opD q.2 q.1).bind fun dy => (g dx dy).bind fun r => some (r, q.2)
theorem tOp2 {K : PySem.W.Frag} {r : R2} {g : D → D → Option Res} (hr : Prim2 r g) {fa fb : Ev Opd} (σ : L2.St) (H : Hp) (Q : VK) (h : tR K (bin2 g fa fb) σ H Q) : tOp r (tP K fa) (tP K fb) σ H Q := by
  obtain ⟨E, B, env, x, env', rr, ef, k⟩ := h
  obtain ⟨p, e1, ef⟩ := bindS ef
  obtain ⟨q, e2, ef⟩ := bindS ef
  obtain ⟨dx, e3, ef⟩ := bindS ef
  obtain ⟨dy, e4, ef⟩ := bindS ef
  obtain ⟨rs, e5, ef⟩ := bindS ef
  cases ef
  refine ⟨E, B, env, p.1, p.2, rr, e1, fun u B1 H1 r1 s1 q1 => ⟨E, B1, p.2, q.1, q.2, r1, e2, fun v B2 H2 r2 s2 q2 => ?_⟩⟩
  refine hr B2 H2 u v dx dy _ Q r2.bh (opRd r2 (q1.mono s2) e3) (opRd r2 q2 e4) e5 fun w B3 H3 gr nw => ?_
  exact k w B3 H3 (r2.grow gr) (s1.tr (s2.tr gr.bb)) (nw.res r2)
theorem e_bin {op : Operator} {r : R2} {g : D → D → Option Res} {a b : Expr} {pos : Pos} {fa fb : Ev Opd} (ho : OpR X (binaryOp op) r) (hr : Prim2 r g) (ha : PE X a (tP X.K fa)) (hb : PE X b (tP X.K fb)) :
    PE X (.BinOp a op b pos) (tR X.K (bin2 g fa fb)) := peImp (pe_op ho ha hb) (tOp2 hr)
theorem e_cmp {op : CmpOp} {r : R2} {g : D → D → Option Res} {a b : Expr} {pos : Pos} {fa fb : Ev Opd} (ho : OpR X (compareOp op) r) (hr : Prim2 r g) (hm : behindInMarks op b = false) (ha : PE X a (tP X.K fa)) (hb : PE X b (tP X.K fb)) :
    PE X (.Compare a [op] [b] pos) (tR X.K (bin2 g fa fb)) := peImp (pe_cmpR ho ha hb hm) (tOp2 hr)
/-- a test by its value -/
def boolOf (f : Ev Res) : Ev Bool := fun env => (f env).bind fun p => match p.1 with
  | .d (.bool b) => some (b, p.2)
  | _ => none
theorem tTestR {K : PySem.W.Frag} {te : TE} {f : Ev Res} (h : ∀ σ H Q, tR K f σ H Q → te σ H Q) (σ : L2.St) (H : Hp) (Q : Bool → Hp → Prop) (q : tT K (boolOf f) σ H Q) : te σ H fun x H' => ∃ k, x = .bl k ∧ Q k H' := by
  obtain ⟨E, B, env, x, env', rr, ef, k⟩ := q
  obtain ⟨p, e1, ef⟩ := bindS ef
  split at ef
  · rename_i b hb
    cases ef
    refine h σ H _ ⟨E, B, env, p.1, p.2, rr, e1, fun v B' H' r' s z => ?_⟩
    rw [hb] at z
    have z' : Rep B' v (.bool x) := z
    cases z'
    exact ⟨x, rfl, k B' H' r' s⟩
  · cases ef
theorem t_cmp {op : CmpOp} {r : R2} {g : D → D → Option Res} {a b : Expr} {pos : Pos} {fa fb : Ev Opd} (ho : OpR X (compareOp op) r) (hr : Prim2 r g) (hm : behindInMarks op b = false) (ha : PE X a (tP X.K fa)) (hb : PE X b (tP X.K fb)) :
    PT X (.Compare a [op] [b] pos) (tT X.K (boolOf (bin2 g fa fb))) := ptImp (pt_cmpR ho ha hb hm) (tTestR (tOp2 hr))
/-- any other expression whose value is a bool -/
theorem t_val {f : Ev Res} (h : PE X e (tR X.K f)) (he : ∀ whole, isTrue e X.env whole = (do let v ← whole; standAt e.pos; holding [v] (truthy v))) : PT X e (tT X.K (boolOf f)) :=
  ptImp (pt_val h he) (tTestR fun _ _ _ q => q)
end
end NS

set_option Elab.async false
set_option linter.all false
set_option maxRecDepth 100000
set_option maxHeartbeats 4000000
/-! NsC: readings by evaluators: displays, calls, truths, slices. -/
namespace NS
open PySem L2
section
variable {X : Cx} {e : Expr} {es : List Expr} {pos : Pos}

/-! ### arguments -/
def nilA : Ev (List Opd) := fun env => some ([], env)
def consA (f : Ev Opd) (g : Ev (List Opd)) : Ev (List Opd) := fun env => (f env).bind fun p => (g p.2).bind fun q => some (p.1 :: q.1, q.2)
theorem a_nil : PA X [] (tA X.K nilA) := paImp pa_nil fun σ H Q ⟨E, B, env, x, env', r, ef, k⟩ => by
  cases ef
  exact k [] B H r Sub.rfl' rfl
theorem a_cons {f : Ev Opd} {g : Ev (List Opd)} (ha : PE X e (tP X.K f)) (hr : PA X es (tA X.K g)) (hs : starEach (e :: es) X.env = (false, eval e X.env) :: starEach es X.env := by rfl) : PA X (e :: es) (tA X.K (consA f g)) :=
  paImp (pa_cons ha hr hs) fun σ H Q ⟨E, B, env, x, env', r, ef, k⟩ => by
    obtain ⟨p, e1, ef⟩ := bindS ef
    obtain ⟨q, e2, ef⟩ := bindS ef
    cases ef
    exact ⟨E, B, env, p.1, p.2, r, e1, fun v B1 H1 r1 s1 q1 => ⟨E, B1, p.2, q.1, q.2, r1, e2, fun vs B2 H2 r2 s2 q2 => k (v :: vs) B2 H2 r2 (s1.tr s2) ⟨v, vs, rfl, q1.mono s2, q2⟩⟩⟩

/-! ### displays -/
def valsO : List Opd → Option (List D)
  | [] => some []
  | .v d :: xs => (valsO xs).bind fun ds => some (d :: ds)
  | _ :: _ => none
theorem valsRep {K : PySem.W.Frag} {B : Hp} {σ : L2.St} : ∀ {xs : List Opd} {us : List V} {ds : List D}, OpVs K B σ xs us → valsO xs = some ds → Reps B us ds
  | [], us, ds, h, e => by
    cases h
    cases e
    exact .nil
  | .v d :: xs, us, ds, ⟨u, rr, e0, h, k⟩, e => by
    subst e0
    obtain ⟨ds', e1, e2⟩ := bindS e
    cases e2
    exact .cons h (valsRep k e1)
  | .r _ :: xs, us, ds, _, e => nomatch e
  | .s _ :: xs, us, ds, _, e => nomatch e
def tupR (f : Ev (List Opd)) : Ev Res := fun env => (f env).bind fun p => (valsO p.1).bind fun ds => guardO (decide (ds.length ≤ 100000)) (some (.d (.tuple ds), p.2))
def lstR (f : Ev (List Opd)) : Ev Res := fun env => (f env).bind fun p => (valsO p.1).bind fun ds => guardO (decide (ds.length ≤ 100000)) (some (.l ds, p.2))
theorem line5 {n : Nat} (h : n ≤ 100000) : n ≤ sizeLine := by rw [sizeLine_eq]; omega
theorem e_tup {x1 : Nat} {f : Ev (List Opd)} (h : PA X es (tA X.K f)) : PE X (.Tuple es x1 pos) (tR X.K (tupR f)) := peImp (pe_tup h) fun σ H Q ⟨E, B, env, x, env', r, ef, k⟩ => by
  obtain ⟨p, e1, ef⟩ := bindS ef
  obtain ⟨ds, e2, ef⟩ := bindS ef
  obtain ⟨hl, ef⟩ := guardS ef
  cases ef
  refine ⟨E, B, env, p.1, p.2, r, e1, fun us B1 H1 r1 s1 q1 => ?_⟩
  have rep := valsRep q1 e2
  refine ⟨by rw [rep.len]; exact line5 (of_decide_eq_true hl), fun a ha => ?_⟩
  have g : Grow B1 H1 (upd B1 a (.tup us)) (upd H1 a (.tup us)) := Grow.both r1.bh ha
  exact k _ _ _ (r1.grow g) (s1.tr g.bb) (show Rep _ _ _ from .tup upd_same (rep.mono g.bb))
theorem e_lst {f : Ev (List Opd)} (h : PA X es (tA X.K f)) : PE X (.List es pos) (tR X.K (lstR f)) := peImp (pe_lst h) fun σ H Q ⟨E, B, env, x, env', r, ef, k⟩ => by
  obtain ⟨p, e1, ef⟩ := bindS ef
  obtain ⟨ds, e2, ef⟩ := bindS ef
  obtain ⟨hl, ef⟩ := guardS ef
  cases ef
  refine ⟨E, B, env, p.1, p.2, r, e1, fun us B1 H1 r1 s1 q1 => ?_⟩
  have rep := valsRep q1 e2
  refine ⟨by rw [rep.len]; exact line5 (of_decide_eq_true hl), fun a ha => ?_⟩
  have g : Grow B1 H1 B1 (upd H1 a (.lst us)) := Grow.heap r1.bh ha
  have nw : NewV B1 H1 (upd H1 a (.lst us)) B1 (.l ds) (.ref a) := ⟨a, _, rfl, ha, upd_same, ⟨us, rfl, rep⟩, r1.bh.off ha⟩
  exact k _ _ _ (r1.grow g) s1 (nw.res r1)

/-! ### calls of built-ins -/
def callN (g : List D → Option Res) (f : Ev (List Opd)) : Ev Res := fun env => (f env).bind fun p => (opDs p.2 p.1).bind fun ds => (g ds).bind fun r => some (r, p.2)
theorem tCallN {K : PySem.W.Frag} {r : List V → Hp → VK → Prop} {g : List D → Option Res} (hr : PrimN r g) {f : Ev (List Opd)} (σ : L2.St) (H : Hp) (Q : VK) (h : tR K (callN g f) σ H Q) : tCB r (tA K f) σ H Q := by
  obtain ⟨E, B, env, x, env', rr, ef, k⟩ := h
  obtain ⟨p, e1, ef⟩ := bindS ef
  obtain ⟨ds, e2, ef⟩ := bindS ef
  obtain ⟨rs, e3, ef⟩ := bindS ef
  cases ef
  refine ⟨E, B, env, p.1, p.2, rr, e1, fun us B1 H1 r1 s1 q1 => ?_⟩
  exact hr B1 H1 us ds _ Q r1.bh (opRds r1 q1 e2) e3 fun w B2 H2 gr nw => k w B2 H2 (r1.grow gr) (s1.tr gr.bb) (nw.res r1)
theorem e_callB {r : List V → Hp → VK → Prop} {g : List D → Option Res} {f : Ev (List Opd)} {x : Str} {id : String} {p : Pos} (hc : CallR X (.builtin id) r) (hp : PrimN r g) (hg : Gl X x) (hm : X.mg x = none) (hv : bootBuiltins x = some (.builtin id))
    (ha : PA X (e :: es) (tA X.K f)) (hn : x ≠ "__name__" := by decide) (hdb : (x == ("__debug__" : Str)) = false := by decide)
    (he : starEach (e :: es) X.env = (false, eval e X.env) :: starEach es X.env := by rfl) (hpl : (backTo pos (starEach es X.env)).any (·.1) = false := by rfl) : PE X (.Call (.Name x p) (e :: es) [] pos) (tR X.K (callN g f)) :=
  peImp (pe_callB hc hg hm hv ha hn hdb he hpl) (tCallN hp)
theorem e_callTy {r : List V → Hp → VK → Prop} {g : List D → Option Res} {f : Ev (List Opd)} {x : Str} {T : String} {p : Pos} (hc : CallR X (.type T) r) (hp : PrimN r g) (hg : Gl X x) (hm : X.mg x = none) (hv : bootBuiltins x = some (.type T))
    (ha : PA X (e :: es) (tA X.K f)) (hn : x ≠ "__name__" := by decide) (hdb : (x == ("__debug__" : Str)) = false := by decide)
    (he : starEach (e :: es) X.env = (false, eval e X.env) :: starEach es X.env := by rfl) (hpl : (backTo pos (starEach es X.env)).any (·.1) = false := by rfl) : PE X (.Call (.Name x p) (e :: es) [] pos) (tR X.K (callN g f)) :=
  peImp (pe_callTy hc hg hm hv ha hn hdb he hpl) (tCallN hp)

/-! ### subscripts -/
theorem e_ix {r : R2} {g : D → D → Option Res} {a b : Expr} {fa fb : Ev Opd} (ho : IxR X r) (hr : Prim2 r g) (ha : PE X a (tP X.K fa)) (hb : PE X b (tP X.K fb)) (hs : PlainIx b := by exact fun _ _ => rfl) :
    PE X (.Subscript a b pos) (tR X.K (bin2 g fa fb)) := peImp (pe_ix ho ha hb hs) (tOp2 hr)
/-- the bounds of a slice -/
def PrimS (r : V → Option Int → Option Int → Hp → VK → Prop) (g : D → Option Int → Option Int → Option Res) : Prop := ∀ (B H : Hp) (u : V) (d : D) (lo hi : Option Int) (res : Res) (Q : VK), Sub B H → Rd B H u d → g d lo hi = some res →
  (∀ w B' H', Grow B H B' H' → NewV B H H' B' res w → Q w H') → r u lo hi H Q
def boundO (f : Option (Ev D)) : Ev (Option Int) := fun env => match f with
  | none => some (none, env)
  | some f => (f env).bind fun p => match p.1 with
    | .int i => some (some i, p.2)
    | _ => none
def tOb (K : PySem.W.Frag) (f : Ev (Option Int)) : TO := fun σ H Q => ∃ E B env x env', RR K E B H σ env ∧ f env = some (x, env') ∧ ∀ B' H', RR K E B' H' σ env' → Sub B B' → Q x H'
theorem poImp {o : Option Expr} {t t' : TO} (h : PO X o t) (i : ∀ σ H Q, t' σ H Q → t σ H Q) : PO X o t' := ⟨fun pins s σ H Q I q => h.run pins s σ H Q I (i σ H Q q)⟩
theorem o_none : PO X none (tOb X.K (boundO none)) := poImp po_none fun σ H Q ⟨E, B, env, x, env', r, ef, k⟩ => by
  cases ef
  exact k B H r Sub.rfl'
theorem o_some {f : Ev D} (h : PE X e (tE X.K f)) : PO X (some e) (tOb X.K (boundO (some f))) := poImp (po_some h) fun σ H Q ⟨E, B, env, x, env', r, ef, k⟩ => by
  obtain ⟨p, e1, ef⟩ := bindS (show (f env).bind _ = _ from ef)
  split at ef
  · rename_i i hi
    cases ef
    refine ⟨E, B, env, p.1, p.2, r, e1, fun v B' H' r' s q => ?_⟩
    rw [hi] at q
    cases q
    exact ⟨i, rfl, k B' H' r' s⟩
  · cases ef
def sl3 (g : D → Option Int → Option Int → Option Res) (fa : Ev Opd) (fl fh : Ev (Option Int)) : Ev Res := fun env => (fa env).bind fun p => (fl p.2).bind fun q => (fh q.2).bind fun t => (opD t.2 p.1).bind fun d => (g d q.1 t.1).bind fun r => some (r, t.2)
theorem e_slice {r : V → Option Int → Option Int → Hp → VK → Prop} {g : D → Option Int → Option Int → Option Res} {lo hi : Option Expr} {p2 : Pos} {fa : Ev Opd} {fl fh : Ev (Option Int)} (hr : SlR X r) (hp : PrimS r g)
    (he : PE X e (tP X.K fa)) (hl : PO X lo (tOb X.K fl)) (hu : PO X hi (tOb X.K fh)) : PE X (.Subscript e (.Slice lo hi none p2) pos) (tR X.K (sl3 g fa fl fh)) := peImp (pe_slice hr he hl hu) fun σ H Q ⟨E, B, env, x, env', rr, ef, k⟩ => by
  obtain ⟨p, e1, ef⟩ := bindS ef
  obtain ⟨q, e2, ef⟩ := bindS ef
  obtain ⟨t, e3, ef⟩ := bindS ef
  obtain ⟨d, e4, ef⟩ := bindS ef
  obtain ⟨rs, e5, ef⟩ := bindS ef
  cases ef
  refine ⟨E, B, env, p.1, p.2, rr, e1, fun u B1 H1 r1 s1 q1 => ⟨E, B1, p.2, q.1, q.2, r1, e2, fun B2 H2 r2 s2 => ⟨E, B2, q.2, t.1, t.2, r2, e3, fun B3 H3 r3 s3 => ?_⟩⟩⟩
  exact hp B3 H3 u d q.1 t.1 _ Q r3.bh (opRd r3 (q1.mono (s2.tr s3)) e4) e5 fun w B4 H4 gr nw => k w B4 H4 (r3.grow gr) (s1.tr (s2.tr (s3.tr gr.bb))) (nw.res r3)
/-- the script's slice -/
def cutS (ns : List Int) (lo hi : Option Int) : List Int := (ns.drop (HT.sIx ns.length 0 lo)).take (HT.sIx ns.length ns.length hi - HT.sIx ns.length 0 lo)
theorem cutV_ints (ns : List Int) (lo hi : Option Int) : cutV (ns.map V.int) lo hi = (cutS ns lo hi).map V.int := by
  unfold cutV cutS
  rw [List.length_map, List.map_take, List.map_drop]
def slS (fa : Ev Opd) (fl fh : Ev (Option Int)) : Ev Res := fun env => (fa env).bind fun p => match p.1 with
  | .s ns => (fl p.2).bind fun q => (fh q.2).bind fun t => some (.l ((cutS ns q.1 t.1).map .int), t.2)
  | _ => none
theorem e_sliceS {lo hi : Option Expr} {p2 : Pos} {fa : Ev Opd} {fl fh : Ev (Option Int)} (he : PE X e (tP X.K fa)) (hl : PO X lo (tOb X.K fl)) (hu : PO X hi (tOb X.K fh)) : PE X (.Subscript e (.Slice lo hi none p2) pos) (tR X.K (slS fa fl fh)) :=
  peImp (pe_slice sl_list he hl hu) fun σ H Q ⟨E, B, env, x, env', rr, ef, k⟩ => by
  obtain ⟨p, e1, ef⟩ := bindS ef
  split at ef
  · rename_i ns hns
    obtain ⟨q, e2, ef⟩ := bindS ef
    obtain ⟨t, e3, ef⟩ := bindS ef
    cases ef
    refine ⟨E, B, env, p.1, p.2, rr, e1, fun u B1 H1 r1 s1 q1 => ⟨E, B1, p.2, q.1, q.2, r1, e2, fun B2 H2 r2 s2 => ⟨E, B2, q.2, t.1, t.2, r2, e3, fun B3 H3 r3 s3 => ?_⟩⟩⟩
    rw [hns] at q1
    obtain ⟨a, rfl, hs⟩ := q1
    refine ⟨a, ns.map V.int, rfl, sqlSub (s2.tr (s3.tr r3.bh)) hs, fun c hc => ?_⟩
    rw [cutV_ints]
    have g : Grow B3 H3 B3 (upd H3 c (.lst ((cutS ns q.1 t.1).map V.int))) := Grow.heap r3.bh hc
    have nw : NewV B3 H3 (upd H3 c (.lst ((cutS ns q.1 t.1).map V.int))) B3 (.l ((cutS ns q.1 t.1).map .int)) (.ref c) := ⟨c, _, rfl, hc, upd_same, ⟨_, rfl, Reps.ofInts _⟩, r3.bh.off hc⟩
    exact k _ _ _ (r3.grow g) (s1.tr (s2.tr s3)) (nw.res r3)
  · cases ef

/-! ### truths -/
def andT (f g : Ev Bool) : Ev Bool := fun env => (f env).bind fun p => if p.1 = true then g p.2 else some (false, p.2)
def orT (f g : Ev Bool) : Ev Bool := fun env => (f env).bind fun p => if p.1 = true then some (true, p.2) else g p.2
def notT (f : Ev Bool) : Ev Bool := fun env => (f env).bind fun p => some (!p.1, p.2)
variable {a b : Expr} {rest : List Expr} {fa fb : Ev Bool}
theorem tAndI {K : PySem.W.Frag} (σ : L2.St) (H : Hp) (Q : Bool → Hp → Prop) (h : tT K (andT fa fb) σ H Q) : tAnd (tT K fa) (tT K fb) σ H Q := by
  obtain ⟨E, B, env, x, env', rr, ef, k⟩ := h
  obtain ⟨p, e1, ef⟩ := bindS ef
  refine ⟨E, B, env, p.1, p.2, rr, e1, fun B1 H1 r1 s1 => ?_⟩
  split at ef
  · rename_i hp
    rw [if_pos hp]
    exact ⟨E, B1, p.2, x, env', r1, ef, fun B2 H2 r2 s2 => k B2 H2 r2 (s1.tr s2)⟩
  · rename_i hp
    rw [if_neg hp]
    cases ef
    exact k B1 H1 r1 s1
theorem tOrI {K : PySem.W.Frag} (σ : L2.St) (H : Hp) (Q : Bool → Hp → Prop) (h : tT K (orT fa fb) σ H Q) : tOr (tT K fa) (tT K fb) σ H Q := by
  obtain ⟨E, B, env, x, env', rr, ef, k⟩ := h
  obtain ⟨p, e1, ef⟩ := bindS ef
  refine ⟨E, B, env, p.1, p.2, rr, e1, fun B1 H1 r1 s1 => ?_⟩
  split at ef
  · rename_i hp
    rw [if_pos hp]
    cases ef
    exact k B1 H1 r1 s1
  · rename_i hp
    rw [if_neg hp]
    exact ⟨E, B1, p.2, x, env', r1, ef, fun B2 H2 r2 s2 => k B2 H2 r2 (s1.tr s2)⟩
theorem w_and1 (ha : PT X a (tT X.K fa)) : PW X (.BoolOp .And [a] pos) (tT X.K fa) := pw_and1 ha
theorem w_or1 (ha : PT X a (tT X.K fa)) : PW X (.BoolOp .Or [a] pos) (tT X.K fa) := pw_or1 ha
theorem w_and (ha : PT X a (tT X.K fa)) (hb : PW X (.BoolOp .And (b :: rest) pos) (tT X.K fb)) : PW X (.BoolOp .And (a :: b :: rest) pos) (tT X.K (andT fa fb)) := pwImp (pw_and ha hb) tAndI
theorem w_or (ha : PT X a (tT X.K fa)) (hb : PW X (.BoolOp .Or (b :: rest) pos) (tT X.K fb)) : PW X (.BoolOp .Or (a :: b :: rest) pos) (tT X.K (orT fa fb)) := pwImp (pw_or ha hb) tOrI
theorem t_not (ha : PT X a (tT X.K fa)) : PT X (.UnaryOp .Not a pos) (tT X.K (notT fa)) := ptImp (pt_not ha) fun σ H Q ⟨E, B, env, x, env', rr, ef, k⟩ => by
  obtain ⟨p, e1, ef⟩ := bindS ef
  cases ef
  exact ⟨E, B, env, p.1, p.2, rr, e1, fun B1 H1 r1 s1 => k B1 H1 r1 s1⟩
/-- .. as values -/
def ofT (f : Ev Bool) : Ev Res := fun env => (f env).bind fun p => some (.d (.bool p.1), p.2)
def andV (f g : Ev Res) : Ev Res := fun env => (f env).bind fun p => match p.1 with
  | .d (.bool true) => g p.2
  | .d (.bool false) => some (.d (.bool false), p.2)
  | _ => none
def orV (f g : Ev Res) : Ev Res := fun env => (f env).bind fun p => match p.1 with
  | .d (.bool false) => g p.2
  | .d (.bool true) => some (.d (.bool true), p.2)
  | _ => none
def notV (f : Ev Res) : Ev Res := fun env => (f env).bind fun p => match p.1 with
  | .d (.bool b) => some (.d (.bool (!b)), p.2)
  | _ => none
variable {ga gb : Ev Res}
theorem e_one {op : BoolOp} (h : PE X a (tR X.K ga)) : PE X (.BoolOp op [a] pos) (tR X.K ga) := pe_one h
theorem e_and (ha : PE X a (tR X.K ga)) (hb : PE X (.BoolOp .And (b :: rest) pos) (tR X.K gb)) : PE X (.BoolOp .And (a :: b :: rest) pos) (tR X.K (andV ga gb)) := peImp (pe_and ha hb) fun σ H Q ⟨E, B, env, x, env', rr, ef, k⟩ => by
  obtain ⟨p, e1, ef⟩ := bindS ef
  refine ⟨E, B, env, p.1, p.2, rr, e1, fun v B1 H1 r1 s1 q1 => ?_⟩
  split at ef
  · rename_i hp
    rw [hp] at q1
    cases (show Rep B1 v (.bool true) from q1)
    exact ⟨true, rfl, by rw [if_pos rfl]; exact ⟨E, B1, p.2, x, env', r1, ef, fun w B2 H2 r2 s2 q2 => k w B2 H2 r2 (s1.tr s2) q2⟩⟩
  · rename_i hp
    rw [hp] at q1
    cases (show Rep B1 v (.bool false) from q1)
    cases ef
    exact ⟨false, rfl, by rw [if_neg (by simp)]; exact k _ B1 H1 r1 s1 (show Rep _ _ _ from .bl false)⟩
  · cases ef
theorem e_or (ha : PE X a (tR X.K ga)) (hb : PE X (.BoolOp .Or (b :: rest) pos) (tR X.K gb)) : PE X (.BoolOp .Or (a :: b :: rest) pos) (tR X.K (orV ga gb)) := peImp (pe_or ha hb) fun σ H Q ⟨E, B, env, x, env', rr, ef, k⟩ => by
  obtain ⟨p, e1, ef⟩ := bindS ef
  refine ⟨E, B, env, p.1, p.2, rr, e1, fun v B1 H1 r1 s1 q1 => ?_⟩
  split at ef
  · rename_i hp
    rw [hp] at q1
    cases (show Rep B1 v (.bool false) from q1)
    exact ⟨false, rfl, by rw [if_neg (by simp)]; exact ⟨E, B1, p.2, x, env', r1, ef, fun w B2 H2 r2 s2 q2 => k w B2 H2 r2 (s1.tr s2) q2⟩⟩
  · rename_i hp
    rw [hp] at q1
    cases (show Rep B1 v (.bool true) from q1)
    cases ef
    exact ⟨true, rfl, by rw [if_pos rfl]; exact k _ B1 H1 r1 s1 (show Rep _ _ _ from .bl true)⟩
  · cases ef
theorem e_not (ha : PE X a (tR X.K ga)) : PE X (.UnaryOp .Not a pos) (tR X.K (notV ga)) := peImp (pe_not ha) fun σ H Q ⟨E, B, env, x, env', rr, ef, k⟩ => by
  obtain ⟨p, e1, ef⟩ := bindS ef
  refine ⟨E, B, env, p.1, p.2, rr, e1, fun v B1 H1 r1 s1 q1 => ?_⟩
  split at ef
  · rename_i bb hp
    rw [hp] at q1
    cases (show Rep B1 v (.bool bb) from q1)
    cases ef
    exact ⟨bb, rfl, k _ B1 H1 r1 s1 (show Rep _ _ _ from .bl _)⟩
  · cases ef
/-- a if t else b -/
def ifR (c : Ev Bool) (f g : Ev Res) : Ev Res := fun env => (c env).bind fun p => if p.1 = true then f p.2 else g p.2
theorem e_if {c : Expr} {fc : Ev Bool} (hc : PT X c (tT X.K fc)) (ha : PE X a (tR X.K ga)) (hb : PE X b (tR X.K gb)) : PE X (.IfExp c a b pos) (tR X.K (ifR fc ga gb)) := peImp (pe_ifExp hc ha hb) fun σ H Q ⟨E, B, env, x, env', rr, ef, k⟩ => by
  obtain ⟨p, e1, ef⟩ := bindS ef
  refine ⟨E, B, env, p.1, p.2, rr, e1, fun B1 H1 r1 s1 => ?_⟩
  split at ef
  · rename_i hp
    rw [if_pos hp]
    exact ⟨E, B1, p.2, x, env', r1, ef, fun v B2 H2 r2 s2 q => k v B2 H2 r2 (s1.tr s2) q⟩
  · rename_i hp
    rw [if_neg hp]
    exact ⟨E, B1, p.2, x, env', r1, ef, fun v B2 H2 r2 s2 q => k v B2 H2 r2 (s1.tr s2) q⟩
/-- a <= b <= c -/
def chain3 (g g' : D → D → Option Res) (fa fb fc : Ev Opd) : Ev Res := fun env => (fa env).bind fun p => (fb p.2).bind fun q => (opD q.2 p.1).bind fun dx => (opD q.2 q.1).bind fun dy => (g dx dy).bind fun r => match r with
  | .d (.bool true) => (fc q.2).bind fun t => (opD t.2 q.1).bind fun dy' => (opD t.2 t.1).bind fun dz => (g' dy' dz).bind fun r' => some (r', t.2)
  | .d (.bool false) => some (.d (.bool false), q.2)
  | _ => none
theorem tChainI {K : PySem.W.Frag} {r r' : R2} {g g' : D → D → Option Res} {oa ob oc : Ev Opd} (hp : Prim2 r g) (hp' : Prim2 r' g') (σ : L2.St) (H : Hp) (Q : VK) (h : tR K (chain3 g g' oa ob oc) σ H Q) : tChain r r' (tP K oa) (tP K ob) (tP K oc) σ H Q := by
  obtain ⟨E, B, env, x, env', rr, ef, k⟩ := h
  obtain ⟨p, e1, ef⟩ := bindS ef
  obtain ⟨q, e2, ef⟩ := bindS ef
  obtain ⟨dx, e3, ef⟩ := bindS ef
  obtain ⟨dy, e4, ef⟩ := bindS ef
  obtain ⟨rs, e5, ef⟩ := bindS ef
  refine ⟨E, B, env, p.1, p.2, rr, e1, fun u B1 H1 r1 s1 q1 => ⟨E, B1, p.2, q.1, q.2, r1, e2, fun v B2 H2 r2 s2 q2 => ?_⟩⟩
  refine hp B2 H2 u v dx dy rs _ r2.bh (opRd r2 (q1.mono s2) e3) (opRd r2 q2 e4) e5 fun w B3 H3 gr nw => ?_
  split at ef
  · obtain ⟨t, e6, ef⟩ := bindS ef
    obtain ⟨dy', e7, ef⟩ := bindS ef
    obtain ⟨dz, e8, ef⟩ := bindS ef
    obtain ⟨rs', e9, ef⟩ := bindS ef
    cases ef
    cases (show Rep B3 w (.bool true) from nw)
    refine ⟨true, rfl, ?_⟩
    rw [if_pos rfl]
    refine ⟨E, B3, q.2, t.1, t.2, r2.grow gr, e6, fun z B4 H4 r4 s4 q4 => ?_⟩
    exact hp' B4 H4 v z dy' dz _ Q r4.bh (opRd r4 (q2.mono (gr.bb.tr s4)) e7) (opRd r4 q4 e8) e9 fun w' B5 H5 gr' nw' => k w' B5 H5 (r4.grow gr') (s1.tr (s2.tr (gr.bb.tr (s4.tr gr'.bb)))) (nw'.res r4)
  · cases ef
    cases (show Rep B3 w (.bool false) from nw)
    refine ⟨false, rfl, ?_⟩
    rw [if_neg (by simp)]
    exact k _ B3 H3 (r2.grow gr) (s1.tr (s2.tr gr.bb)) (show Rep _ _ _ from .bl false)
  · cases ef
theorem e_chain {op op' : CmpOp} {r r' : R2} {g g' : D → D → Option Res} {c : Expr} {oa ob oc : Ev Opd} (ho : OpR X (compareOp op) r) (ho' : OpR X (compareOp op') r') (hp : Prim2 r g) (hp' : Prim2 r' g') (ha : PE X a (tP X.K oa)) (hb : PE X b (tP X.K ob)) (hc : PE X c (tP X.K oc))
    (hm : lastMarks [op, op'] [b, c] = false := by with_unfolding_all rfl) : PE X (.Compare a [op, op'] [b, c] pos) (tR X.K (chain3 g g' oa ob oc)) := peImp (pe_chain ho ho' ha hb hc hm) (tChainI hp hp')
theorem t_chain {op op' : CmpOp} {r r' : R2} {g g' : D → D → Option Res} {c : Expr} {oa ob oc : Ev Opd} (ho : OpR X (compareOp op) r) (ho' : OpR X (compareOp op') r') (hp : Prim2 r g) (hp' : Prim2 r' g') (ha : PE X a (tP X.K oa)) (hb : PE X b (tP X.K ob)) (hc : PE X c (tP X.K oc))
    (hm : lastMarks [op, op'] [b, c] = false := by with_unfolding_all rfl) : PT X (.Compare a [op, op'] [b, c] pos) (tT X.K (boolOf (chain3 g g' oa ob oc))) := ptImp (pt_chain ho ho' ha hb hc hm) (tTestR (tChainI hp hp'))
end
end NS

set_option Elab.async false
set_option linter.all false
set_option maxRecDepth 100000
set_option maxHeartbeats 4000000
/-! NsD: targets, what is walked, list comprehensions. -/
namespace NS
open PySem L2
section
variable {K : PySem.W.Frag} {E : Ent} {B H B' H' : Hp} {σ σ' : L2.St} {env env' : Env}

/-! ### one piece within another -/
/-- the entry of a piece that begins here -/
def loc (B H : Hp) (σ : L2.St) (env : Env) : Ent where
  H0 := H
  B0 := B
  I := fun a => ∃ i, Own σ env i a
  Z := fun a => ∃ (i : Nat) (ov : OV), env[i]? = some (some ov) ∧ ov.owned = true ∧ ov.io = false ∧ σ[i]? = some (some (.ref a))
  s0 := σ
  J := fun i => ∃ ov, env[i]? = some (some ov) ∧ ov.io = true
theorem RR.loc (r : RR K E B H σ env) : RR K (NS.loc B H σ env) B H σ env where
  bh := r.bh
  b0 := Sub.rfl'
  zi := fun a ⟨i, ov, h1, h2, _, h4⟩ => ⟨i, ov, h1, h2, h4⟩
  keep := fun _ _ e _ _ => e
  tb := r.tb
  there := fun _ e => e
  new := fun _ _ e => .inl e
  len := r.len
  slot := r.slot
  own := fun i a h => .inl ⟨i, h⟩
  ownz := fun i a ov h1 h2 h3 h4 => .inr ⟨i, ov, h1, h2, h3, h4⟩
  inj := r.inj
  ios := fun i ov h w => ⟨⟨ov, h, w⟩, rfl⟩
theorem RR.off (r : RR K E B H σ env) {a : Addr} (h : H a = none) : E.H0 a = none := by
  cases q : E.H0 a with
  | none => rfl
  | some u => exact absurd h (r.there a (by rw [q]; simp))
theorem RR.comp (r : RR K E B H σ env) (q : RR K (NS.loc B H σ env) B' H' σ' env') : RR K E B' H' σ' env' where
  bh := q.bh
  b0 := r.b0.tr q.b0
  zi := r.zi
  keep := fun a o e n nt => q.keep a o (r.keep a o e n nt) (fun ⟨i, w⟩ => by
    rcases r.own i a w with z | z
    · exact n z
    · rw [z] at e; cases e) nt
  tb := q.tb
  there := fun a e => q.there a (r.there a e)
  new := fun a o e => by
    rcases q.new a o e with h | h | ⟨i, ov, h1, h2, h3, h4⟩
    · exact r.new a o h
    · exact .inr (.inl (r.off h))
    · exact .inr (r.ownz i a ov h1 h2 h3 h4)
  len := q.len
  slot := q.slot
  own := fun i a w => by
    rcases q.own i a w with ⟨j, z⟩ | z
    · exact r.own j a z
    · exact .inr (r.off z)
  ownz := fun i a ov h1 h2 h3 h4 => by
    rcases q.ownz i a ov h1 h2 h3 h4 with z | ⟨j, ov', k1, k2, k3, k4⟩
    · exact .inl (r.off z)
    · exact r.ownz j a ov' k1 k2 k3 k4
  inj := q.inj
  ios := fun i ov h w => by
    obtain ⟨⟨ov', h', w'⟩, e⟩ := q.ios i ov h w
    obtain ⟨k1, k2⟩ := r.ios i ov' h' w'
    exact ⟨k1, e.trans k2⟩
/-- an object beside all that is owned is changed -/
theorem RR.aside {p : Addr} {o : HO} (r : RR K E B H σ env) (hb : B p = none) (h0 : E.H0 p = none) (hn : ∀ j, ¬ Own σ env j p) (hl : ∃ vs, H p = some (.lst vs)) : RR K E B (upd H p o) σ env where
  bh := fun a u e => by
    have n : a ≠ p := fun z => by subst z; rw [hb] at e; cases e
    rw [upd_ne n]; exact r.bh a u e
  b0 := r.b0
  zi := r.zi
  keep := fun a u e n nt => by
    have n : a ≠ p := fun z => by subst z; rw [h0] at e; cases e
    rw [upd_ne n]; exact r.keep a u e (by assumption) nt
  tb := by
    obtain ⟨vs, hl⟩ := hl
    refine ⟨fun x P e => ?_, r.tb.off⟩
    obtain ⟨ps, e1, e2, e3⟩ := r.tb.tab x P e
    refine ⟨ps, ?_, e2, fun pos cv hc => ?_⟩
    · rw [upd_ne (fun z => by rw [z, hl] at e1; cases e1)]; exact e1
    · obtain ⟨c, q1, q2⟩ := e3 pos cv hc
      refine ⟨c, q1, ?_⟩
      rw [upd_ne (fun z => by rw [z, hl] at q2; unfold LamX.CodeO at q2; cases q2)]; exact q2
  there := fun a e => by
    by_cases h : a = p
    · subst h; rw [upd_same]; simp
    · rw [upd_ne h]; exact r.there a e
  new := r.new
  len := r.len
  slot := fun i ov h => by
    obtain ⟨v, e, k⟩ := r.slot i ov h
    refine ⟨v, e, ?_⟩
    by_cases w : ov.owned = true
    · obtain ⟨a, u, rfl, h1, h2, h3⟩ := k.own w
      have n : a ≠ p := fun z => by subst z; exact hn i ⟨ov, h, w, e⟩
      exact OvOk.of_own (by rw [upd_ne n]; exact h1) h2 h3
    · cases ov with
      | fn F => exact ⟨k.1, k.2.mono Sub.rfl' fun o q _ => by
          obtain ⟨vs, hl⟩ := hl
          rw [upd_ne (fun z => by
            have q2 := k.2.1
            rw [z, hl] at q2
            unfold LamX.CodeO at q2
            cases q2)]
          exact q⟩
      | fz d => exact k
      | scr ns => exact k
      | ol _ _ => exact absurd rfl w
      | od _ _ => exact absurd rfl w
      | ot _ _ => exact absurd rfl w
  own := r.own
  ownz := r.ownz
  inj := r.inj
  ios := r.ios
/-- some slots are forgotten -/
theorem RR.less {σ' : L2.St} {env' : Env} (r : RR K E B H σ env) (hl : σ'.length = env'.length) (h : ∀ (i : Nat) (ov : OV), env'[i]? = some (some ov) → env[i]? = some (some ov) ∧ σ'[i]? = σ[i]?) : RR K E B H σ' env' where
  bh := r.bh
  b0 := r.b0
  zi := r.zi
  keep := r.keep
  tb := r.tb
  there := r.there
  new := r.new
  len := hl
  slot := fun i ov e => by
    obtain ⟨h1, h2⟩ := h i ov e
    obtain ⟨v, e2, k⟩ := r.slot i ov h1
    exact ⟨v, h2.trans e2, k⟩
  own := fun i a ⟨ov, e, w, q⟩ => by
    obtain ⟨h1, h2⟩ := h i ov e
    exact r.own i a ⟨ov, h1, w, h2 ▸ q⟩
  ownz := fun i a ov e w wi q => by
    obtain ⟨h1, h2⟩ := h i ov e
    exact r.ownz i a ov h1 w wi (h2 ▸ q)
  inj := fun i j a ⟨ov, e, w, q⟩ ⟨ov', e', w', q'⟩ => by
    obtain ⟨h1, h2⟩ := h i ov e
    obtain ⟨k1, k2⟩ := h j ov' e'
    exact r.inj i j a ⟨ov, h1, w, h2 ▸ q⟩ ⟨ov', k1, w', k2 ▸ q'⟩
  ios := fun i ov e w => by
    obtain ⟨h1, h2⟩ := h i ov e
    obtain ⟨a, b⟩ := r.ios i ov h1 w
    exact ⟨a, h2.trans b⟩

/-! ### targets -/
inductive Tg where
  | nm (i : Nat) | tp (ts : List Tg)
mutual
def tgT (K : PySem.W.Frag) : Tg → TG
  | .nm i => gName i
  | .tp ts => gTup K ts.length (tgsT K ts)
def tgsT (K : PySem.W.Frag) : List Tg → TGs
  | [] => gNil
  | t :: ts => gCons (tgT K t) (tgsT K ts)
end
mutual
def Tg.slots : Tg → List Nat
  | .nm i => [i]
  | .tp ts => tgsSlots ts
def tgsSlots : List Tg → List Nat
  | [] => []
  | t :: ts => t.slots ++ tgsSlots ts
end
mutual
def tgE : Tg → D → Env → Option Env
  | .nm i, d, env => some (env.set i (some (.fz d)))
  | .tp ts, .tuple ds, env => if ds.length = ts.length then tgsE ts ds env else none
  | .tp _, _, _ => none
def tgsE : List Tg → List D → Env → Option Env
  | [], [], env => some env
  | t :: ts, d :: ds, env => (tgE t d env).bind fun e1 => tgsE ts ds e1
  | _, _, _ => none
end
/-- only some slots have changed -/
def Keeps (σ σ' : L2.St) (vs : List Nat) : Prop := σ'.length = σ.length ∧ ∀ j, j ∉ vs → σ'[j]? = σ[j]?
theorem Keeps.tr {σ σ1 σ2 : L2.St} {vs us : List Nat} (h : Keeps σ σ1 vs) (k : Keeps σ1 σ2 us) : Keeps σ σ2 (vs ++ us) :=
  ⟨k.1.trans h.1, fun j hj => by
    simp only [List.mem_append, not_or] at hj
    exact (k.2 j hj.2).trans (h.2 j hj.1)⟩
mutual
theorem tgI (K : PySem.W.Frag) {E : Ent} {B H : Hp} : ∀ (t : Tg) (d : D) (v : V) (σ : L2.St) (env env' : Env) (Q : L2.St → Hp → Prop), RR K E B H σ env → Rep B v d → tgE t d env = some env' →
    (∀ σ', RR K E B H σ' env' → Keeps σ σ' t.slots → Q σ' H) → tgT K t v σ H Q
  | .nm i, d, v, σ, env, env', Q, r, rep, e, k => by
    have e' : some (env.set i (some (.fz d))) = some env' := e
    cases e'
    refine k _ (r.put (show OvOk K B H v (.fz d) from rep) rfl (fun w => nomatch w)) ⟨by simp, fun j hj => ?_⟩
    have : j ≠ i := by
      intro z
      subst z
      exact hj (by simp [Tg.slots])
    exact List.getElem?_set_ne (Ne.symm this)
  | .tp ts, .tuple ds, v, σ, env, env', Q, r, rep, e, k => by
    have e' : (if ds.length = ts.length then tgsE ts ds env else none) = some env' := e
    split at e'
    · rename_i hl
      cases rep with
      | tup h1 h2 =>
        rename_i a vs
        exact ⟨a, vs, rfl, SqT.of (r.bh _ _ h1), h2.len.trans hl, tgsI K ts ds vs σ env env' Q r h2 e' k⟩
    · cases e'
  | .tp ts, .none, _, _, _, _, _, _, _, e, _ => nomatch e
  | .tp ts, .bool _, _, _, _, _, _, _, _, e, _ => nomatch e
  | .tp ts, .int _, _, _, _, _, _, _, _, e, _ => nomatch e
  | .tp ts, .str _, _, _, _, _, _, _, _, e, _ => nomatch e
  | .tp ts, .list _, _, _, _, _, _, _, _, e, _ => nomatch e
  | .tp ts, .dict _, _, _, _, _, _, _, _, e, _ => nomatch e
theorem tgsI (K : PySem.W.Frag) {E : Ent} {B H : Hp} : ∀ (ts : List Tg) (ds : List D) (vs : List V) (σ : L2.St) (env env' : Env) (Q : L2.St → Hp → Prop), RR K E B H σ env → Reps B vs ds → tgsE ts ds env = some env' →
    (∀ σ', RR K E B H σ' env' → Keeps σ σ' (tgsSlots ts) → Q σ' H) → tgsT K ts vs σ H Q
  | [], [], vs, σ, env, env', Q, r, rep, e, k => by
    cases rep
    have e' : some env = some env' := e
    cases e'
    exact ⟨rfl, k σ r ⟨rfl, fun _ _ => rfl⟩⟩
  | t :: ts, d :: ds, vs, σ, env, env', Q, r, rep, e, k => by
    cases rep with
    | cons a b =>
      obtain ⟨e1, h1, h2⟩ := bindS (show (tgE t d env).bind _ = _ from e)
      exact ⟨_, _, rfl, tgI K t d _ σ env e1 _ r a h1 fun σ1 r1 k1 => tgsI K ts ds _ σ1 e1 env' Q r1 b h2 fun σ2 r2 k2 => k σ2 r2 (k1.tr k2)⟩
  | [], _ :: _, _, _, _, _, _, _, _, e, _ => nomatch e
  | _ :: _, [], _, _, _, _, _, _, _, e, _ => nomatch e
end
theorem g_nm {X : Cx} {i : Nat} {x : Str} {pos : Pos} (hN : X.N.Nodup) (hi : X.N[i]? = some x) (hx : Loc X.env.scope x) (hf : X.fn x = true ∨ X.env.scope.names.lookup x = some .local := by first | exact .inl rfl | exact .inr rfl | assumption) :
    PG X (.Name x pos) (tgT X.K (.nm i)) := pg_name hN hi hx hf

/-! ### what is walked -/
/-- the iterator's items are these trees -/
def ItD (J : It) (B : Hp) (ds : List D) : Prop := ∀ (i : Nat) (B1 H1 : Hp), Sub B B1 → Sub B1 H1 → (∀ d, ds[i]? = some d → J.go i H1 ∧ ∀ x H', J.yld i H1 x H' → ∃ B2, Grow B1 H1 B2 H' ∧ Rep B2 x d) ∧ (ds.length ≤ i → J.stop i H1)
def tIt (K : PySem.W.Frag) (f : Ev (List D)) : TI := fun σ H R => ∃ E B env ds env', RR K E B H σ env ∧ f env = some (ds, env') ∧ ∀ J B' H', RR K E B' H' σ env' → Sub B B' → ItD J B' ds → R J H'
theorem piImp {X : Cx} {tg iter : Expr} {w w' : TI} (h : PI X tg iter w) (i : ∀ σ H R, w' σ H R → w σ H R) : PI X tg iter w' := ⟨fun pins s σ H R I q => h.run pins s σ H R I (i σ H R q)⟩
def itSeq (f : Ev D) : Ev (List D) := fun env => (f env).bind fun p => match p.1 with
  | .list ds => some (ds, p.2)
  | .tuple ds => some (ds, p.2)
  | _ => none
theorem itl {K : PySem.W.Frag} {a : Addr} {B : Hp} {vs : List V} {ds : List D} (h : B a = some (.lst vs)) (r : Reps B vs ds) : ItD (Itl K a) B ds := fun i B1 H1 s1 s2 => by
  have hs : SqL K H1 a vs := SqL.of (s2 _ _ (s1 _ _ h))
  refine ⟨fun d hd => ?_, fun hl => ⟨vs, hs, by rw [r.len]; exact hl⟩⟩
  obtain ⟨v, hv, rv⟩ := r.get hd
  refine ⟨⟨vs, v, hs, hv⟩, fun x H' ⟨e, y⟩ => ?_⟩
  subst e
  have e2 := y vs hs
  rw [hv] at e2
  cases e2
  exact ⟨B1, Grow.id s2, rv.mono s1⟩
theorem itt {K : PySem.W.Frag} {a : Addr} {B : Hp} {vs : List V} {ds : List D} (h : B a = some (.tup vs)) (r : Reps B vs ds) : ItD (Itt K a) B ds := fun i B1 H1 s1 s2 => by
  have hs : SqT K H1 a vs := SqT.of (s2 _ _ (s1 _ _ h))
  refine ⟨fun d hd => ?_, fun hl => ⟨vs, hs, by rw [r.len]; exact hl⟩⟩
  obtain ⟨v, hv, rv⟩ := r.get hd
  refine ⟨⟨vs, v, hs, hv⟩, fun x H' ⟨e, y⟩ => ?_⟩
  subst e
  have e2 := y vs hs
  rw [hv] at e2
  cases e2
  exact ⟨B1, Grow.id s2, rv.mono s1⟩
theorem i_seq {X : Cx} {tg e : Expr} {f : Ev D} (h : PE X e (tE X.K f)) : PI X tg e (tIt X.K (itSeq f)) := by
  constructor
  intro pins s σ H R I q
  obtain ⟨E, B, env, ds, env', r, ef, k⟩ := q
  obtain ⟨p, e1, ef⟩ := bindS (show (f env).bind _ = _ from ef)
  split at ef
  · rename_i xs hp
    cases ef
    refine (pi_list h).run pins s σ H R I ⟨E, B, env, p.1, p.2, r, e1, fun v B' H' r' s' q => ?_⟩
    rw [hp] at q
    cases q with
    | lst h1 h2 =>
      rename_i a vs
      exact ⟨a, rfl, ⟨vs, SqL.of (r'.bh _ _ h1)⟩, k _ B' H' r' s' (itl h1 h2)⟩
  · rename_i xs hp
    cases ef
    refine (pi_tup h).run pins s σ H R I ⟨E, B, env, p.1, p.2, r, e1, fun v B' H' r' s' q => ?_⟩
    rw [hp] at q
    cases q with
    | tup h1 h2 =>
      rename_i a vs
      exact ⟨a, rfl, ⟨vs, SqT.of (r'.bh _ _ h1)⟩, k _ B' H' r' s' (itt h1 h2)⟩
  · cases ef
def rangeD (lo : Int) (n : Nat) : List D := (List.range n).map fun (i : Nat) => PyData.int (lo + i)
theorem itr {B : Hp} (lo : Int) (n : Nat) : ItD (Itr lo n) B (rangeD lo n) := fun i B1 H1 s1 s2 => by
  refine ⟨fun d hd => ?_, fun hl => by
    show n ≤ i
    simpa [rangeD] using hl⟩
  unfold rangeD at hd
  rw [List.getElem?_map] at hd
  obtain ⟨j, hj, rfl⟩ := Option.map_eq_some_iff.mp hd
  obtain ⟨hj1, hj2⟩ := List.getElem?_eq_some_iff.mp hj
  rw [List.getElem_range] at hj2
  subst hj2
  refine ⟨by
    show i < n
    simpa using hj1, fun x H' ⟨e1, e2⟩ => ?_⟩
  subst e1
  subst e2
  exact ⟨B1, Grow.id s2, .int _⟩
def itRange1 (f : Ev (List Opd)) : Ev (List D) := fun env => (f env).bind fun p => match p.1 with
  | [.v (.int j)] => guardO (decide (-(2 ^ 62) ≤ j) && decide (j < 2 ^ 62)) (some (rangeD 0 j.toNat, p.2))
  | _ => none
def itRange2 (f : Ev (List Opd)) : Ev (List D) := fun env => (f env).bind fun p => match p.1 with
  | [.v (.int i), .v (.int j)] => guardO (decide (-(2 ^ 62) ≤ i) && decide (i < 2 ^ 62) && decide (-(2 ^ 62) ≤ j) && decide (j < 2 ^ 62)) (some (rangeD i (j - i).toNat, p.2))
  | _ => none
theorem i_range1 {X : Cx} {tg a : Expr} {f : Ev (List Opd)} {p pos : Pos} (hg : Gl X "range") (hm : X.mg "range" = none) (ha : PA X [a] (tA X.K f)) (hs : starEach [a] X.env = [(false, eval a X.env)] := by rfl) :
    PI X tg (.Call (.Name "range" p) [a] [] pos) (tIt X.K (itRange1 f)) := piImp (pi_range1 hg hm ha hs) fun σ H R ⟨E, B, env, ds, env', r, ef, k⟩ => by
  obtain ⟨q, e1, ef⟩ := bindS (show (f env).bind _ = _ from ef)
  split at ef
  · rename_i j hj
    obtain ⟨c, ef⟩ := guardS ef
    cases ef
    simp only [Bool.and_eq_true, decide_eq_true_eq] at c
    refine ⟨E, B, env, q.1, q.2, r, e1, fun vs B' H' r' s' z => ?_⟩
    rw [hj] at z
    obtain ⟨u, rr, rfl, z1, z2⟩ := z
    cases z2
    cases (show Rep B' u (.int j) from z1)
    exact ⟨j, rfl, c.1, c.2, k _ B' H' r' s' (itr 0 _)⟩
  · cases ef
theorem i_range2 {X : Cx} {tg a b : Expr} {f : Ev (List Opd)} {p pos : Pos} (hg : Gl X "range") (hm : X.mg "range" = none) (ha : PA X [a, b] (tA X.K f)) (hs : starEach [a, b] X.env = [(false, eval a X.env), (false, eval b X.env)] := by rfl)
    (hs2 : starEach [b] X.env = [(false, eval b X.env)] := by rfl) : PI X tg (.Call (.Name "range" p) [a, b] [] pos) (tIt X.K (itRange2 f)) := piImp (pi_range2 hg hm ha hs hs2) fun σ H R ⟨E, B, env, ds, env', r, ef, k⟩ => by
  obtain ⟨q, e1, ef⟩ := bindS (show (f env).bind _ = _ from ef)
  split at ef
  · rename_i i j hj
    obtain ⟨c, ef⟩ := guardS ef
    cases ef
    simp only [Bool.and_eq_true, decide_eq_true_eq] at c
    refine ⟨E, B, env, q.1, q.2, r, e1, fun vs B' H' r' s' z => ?_⟩
    rw [hj] at z
    obtain ⟨u, rr, rfl, z1, u', rr', rfl, z1', z2⟩ := z
    cases z2
    cases (show Rep B' u (.int i) from z1)
    cases (show Rep B' u' (.int j) from z1')
    exact ⟨i, j, rfl, ⟨c.1.1.1, c.1.1.2, c.1.2, c.2⟩, k _ B' H' r' s' (itr i _)⟩
  · cases ef
end
end NS

set_option Elab.async false
set_option linter.all false
set_option maxRecDepth 100000
set_option maxHeartbeats 4000000
/-! NsE: list comprehensions, calls of defs of the text. -/
namespace NS
open PySem L2
/-! ### slots forgotten, slots as they were -/
def wipeE (env : Env) : List Nat → Env
  | [] => env
  | v :: vs => (wipeE env vs).set v none
theorem wipeE_len (env : Env) : ∀ vs : List Nat, (wipeE env vs).length = env.length
  | [] => rfl
  | v :: vs => by unfold wipeE; rw [List.length_set, wipeE_len env vs]
theorem wipe_in (σ : L2.St) : ∀ (vs : List Nat) (j : Nat), j ∈ vs → j < σ.length → (wipe σ vs)[j]? = some none
  | [], _, h, _ => by simp at h
  | v :: vs, j, h, hl => by
    unfold wipe
    by_cases e : v = j
    · subst e
      exact List.getElem?_set_self (by rw [wipe_length]; exact hl)
    · rw [List.getElem?_set_ne e]
      refine wipe_in σ vs j ?_ hl
      rcases List.mem_cons.mp h with z | z
      · exact absurd z.symm e
      · exact z
theorem wipe_not (σ : L2.St) : ∀ (vs : List Nat) (j : Nat), j ∉ vs → (wipe σ vs)[j]? = σ[j]?
  | [], _, _ => rfl
  | v :: vs, j, h => by
    simp only [List.mem_cons, not_or] at h
    unfold wipe
    rw [List.getElem?_set_ne (Ne.symm h.1)]
    exact wipe_not σ vs j h.2
theorem wipeE_in (env : Env) : ∀ (vs : List Nat) (j : Nat), j ∈ vs → ∀ ov, (wipeE env vs)[j]? ≠ some (some ov)
  | [], _, h, _ => by simp at h
  | v :: vs, j, h, ov => by
    unfold wipeE
    by_cases e : v = j
    · subst e
      by_cases hl : v < (wipeE env vs).length
      · rw [List.getElem?_set_self hl]; intro z; cases z
      · rw [List.getElem?_eq_none (by simpa using hl)]; intro z; cases z
    · rw [List.getElem?_set_ne e]
      refine wipeE_in env vs j ?_ ov
      rcases List.mem_cons.mp h with z | z
      · exact absurd z.symm e
      · exact z
theorem wipeE_not (env : Env) : ∀ (vs : List Nat) (j : Nat), j ∉ vs → (wipeE env vs)[j]? = env[j]?
  | [], _, _ => rfl
  | v :: vs, j, h => by
    simp only [List.mem_cons, not_or] at h
    unfold wipeE
    rw [List.getElem?_set_ne (Ne.symm h.1)]
    exact wipeE_not env vs j h.2
theorem wipe_same {σ σ' : L2.St} {vs us : List Nat} (h : Keeps σ σ' us) (hs : ∀ j ∈ us, j ∈ vs) : wipe σ' vs = wipe σ vs := by
  refine List.ext_getElem? fun j => ?_
  by_cases hj : j ∈ vs
  · by_cases hl : j < σ.length
    · rw [wipe_in σ vs j hj hl, wipe_in σ' vs j hj (by rw [h.1]; exact hl)]
    · have z1 : (wipe σ vs)[j]? = none := List.getElem?_eq_none (by rw [wipe_length σ vs]; omega)
      have z2 : (wipe σ' vs)[j]? = none := List.getElem?_eq_none (by rw [wipe_length σ' vs, h.1]; omega)
      rw [z1, z2]
  · rw [wipe_not σ vs j hj, wipe_not σ' vs j hj]
    exact h.2 j fun z => hj (hs j z)
theorem wipe_twice (σ : L2.St) (vs : List Nat) : wipe (wipe σ vs) vs = wipe σ vs :=
  wipe_same (us := vs) ⟨wipe_length σ vs, fun j hj => wipe_not σ vs j hj⟩ fun _ h => h
/-- behind a comprehension: its own slots as they were ahead -/
def backE (ahead behind : Env) : List Nat → Env
  | [] => behind
  | v :: vs => match ahead[v]? with
    | some o => (backE ahead behind vs).set v o
    | none => backE ahead behind vs
theorem backE_len (a b : Env) : ∀ vs : List Nat, (backE a b vs).length = b.length
  | [] => rfl
  | v :: vs => by
    unfold backE
    split
    · rw [List.length_set, backE_len a b vs]
    · exact backE_len a b vs
theorem backE_get (a b : Env) (hab : a.length = b.length) : ∀ (vs : List Nat) (j : Nat), (backE a b vs)[j]? = if j ∈ vs then a[j]? else b[j]?
  | [], j => by simp [backE]
  | v :: vs, j => by
    have ih := backE_get a b hab vs
    unfold backE
    split
    · rename_i o ho
      by_cases e : v = j
      · subst e
        have hl : v < (backE a b vs).length := by rw [backE_len, ← hab]; exact (List.getElem?_eq_some_iff.mp ho).1
        rw [List.getElem?_set_self hl, if_pos (by simp), ho]
      · rw [List.getElem?_set_ne e, ih j]
        by_cases hj : j ∈ vs
        · rw [if_pos hj, if_pos (by simp [hj])]
        · rw [if_neg hj, if_neg (by simp [hj, Ne.symm e])]
    · rename_i ho
      rw [ih j]
      by_cases e : v = j
      · subst e
        rw [if_pos (show v ∈ v :: vs by simp)]
        by_cases hj : v ∈ vs
        · rw [if_pos hj]
        · rw [if_neg hj, ho]
          refine List.getElem?_eq_none ?_
          rw [← hab]
          exact List.getElem?_eq_none_iff.mp ho
      · by_cases hj : j ∈ vs
        · rw [if_pos hj, if_pos (by simp [hj])]
        · rw [if_neg hj, if_neg (by simp [hj, Ne.symm e])]
def OV.plain : OV → Bool
  | .fz _ => true
  | .scr _ => true
  | _ => false
def plainAt (env : Env) (vs : List Nat) : Bool := vs.all fun v => match env[v]? with
  | some (some ov) => ov.plain
  | _ => true

/-! ### [elt for target in iter if ..] -/
def condsE : List (Ev Bool) → Ev Bool
  | [] => fun env => some (true, env)
  | f :: _ => f
def lcGo (tg : Tg) (cond : Ev Bool) (elt : Ev D) (own : List Nat) : List D → Env → List D → Option (List D × Env)
  | [], env, acc => some (acc, env)
  | d :: ds, env, acc => (tgE tg d env).bind fun e1 => (cond e1).bind fun p => if p.1 = true then (elt p.2).bind fun q => guardO (decide (acc.length < 1000000)) (lcGo tg cond elt own ds (wipeE q.2 own) (acc ++ [q.1])) else lcGo tg cond elt own ds (wipeE p.2 own) acc
def lcR (it : Ev (List D)) (tg : Tg) (cond : Ev Bool) (elt : Ev D) (own : List Nat) : Ev Res := fun env => (it env).bind fun p => guardO (plainAt p.2 own && tg.slots.all fun j => own.contains j) ((lcGo tg cond elt own p.1 (wipeE p.2 own) []).bind fun q => some (.l q.1, backE p.2 q.2 own))
theorem lcLine {n : Nat} (h : n < 1000000) : n < sizeLine := by rw [sizeLine_eq]; omega
theorem tLcI {K : PySem.W.Frag} {it : Ev (List D)} {tg : Tg} {cond : Ev Bool} {elt : Ev D} {own : List Nat} (σ : L2.St) (H : Hp) (Q : VK) (h : tR K (lcR it tg cond elt own) σ H Q) : tLc (tIt K it) (tgT K tg) (tT K cond) (tE K elt) own σ H Q := by
  obtain ⟨E, B, env, res, env', r, ef, k⟩ := h
  obtain ⟨p, e1, ef⟩ := bindS ef
  obtain ⟨hp, ef⟩ := guardS ef
  obtain ⟨q, e2, ef⟩ := bindS ef
  cases ef
  simp only [Bool.and_eq_true] at hp
  obtain ⟨hp, hsl⟩ := hp
  have hsl' : ∀ j ∈ tg.slots, j ∈ own := fun j hj => by simpa using List.all_eq_true.mp hsl j hj
  refine ⟨E, B, env, p.1, p.2, r, e1, fun J B1 H1 r1 s1 hJ L hL => ?_⟩
  -- the block's slots
  have r2 : RR K E B1 H1 (wipe σ own) (wipeE p.2 own) := r1.less (by rw [wipe_length, wipeE_len]; exact r1.len) fun i ov e => by
    have hi : i ∉ own := fun hi => wipeE_in p.2 own i hi ov e
    rw [wipeE_not p.2 own i hi] at e
    exact ⟨e, wipe_not σ own i hi⟩
  have nL : B1 L = none := r1.bh.off hL
  refine ⟨fun i m H2 => m = p.1.length - i ∧ i ≤ p.1.length ∧ ∃ B2 env2 acc vacc, RR K E B2 H2 (wipe σ own) env2 ∧ Sub B1 B2 ∧ lcGo tg cond elt own (p.1.drop i) env2 acc = some (q.1, q.2) ∧ H2 L = some (.lst vacc) ∧ Reps B2 vacc acc ∧ B2 L = none ∧ (∀ j, ¬ Own (wipe σ own) env2 j L),
    ⟨p.1.length, by simp, Nat.zero_le _, B1, wipeE p.2 own, [], [], ?_, Sub.rfl', e2, upd_same, .nil, nL, fun j ⟨ov, w1, w2, w3⟩ => ?_⟩, ?_⟩
  · exact r2.grow (Grow.heap r2.bh hL)
  · obtain ⟨a, o, k1, k2, _⟩ := r2.owns w1 w2
    rw [w3] at k1; cases k1
    rw [hL] at k2; cases k2
  rintro i m H2 ⟨rfl, hi, B2, env2, acc, vacc, r3, s3, eg, hH, rep, nB, nO⟩
  have hE : E.H0 L = none := r1.off hL
  have ext := hJ i B2 H2 s3 r3.bh
  by_cases hlt : i < p.1.length
  · obtain ⟨d, hd⟩ : ∃ d, p.1[i]? = some d := ⟨_, List.getElem?_eq_getElem hlt⟩
    have hdr : p.1.drop i = d :: p.1.drop (i + 1) := by
      rw [List.drop_eq_getElem_cons hlt]
      rw [List.getElem?_eq_getElem hlt] at hd
      cases hd
      rfl
    rw [hdr] at eg
    obtain ⟨go, yl⟩ := ext.1 d hd
    refine .inr ⟨go, fun H' => i + 1 ≤ p.1.length ∧ ∃ B2 env2 acc vacc, RR K E B2 H' (wipe σ own) env2 ∧ Sub B1 B2 ∧ lcGo tg cond elt own (p.1.drop (i + 1)) env2 acc = some (q.1, q.2) ∧ H' L = some (.lst vacc) ∧ Reps B2 vacc acc ∧ B2 L = none ∧ (∀ j, ¬ Own (wipe σ own) env2 j L),
      fun H' w => ⟨p.1.length - (i + 1), by omega, rfl, w⟩, fun x H' hy => ?_⟩
    obtain ⟨B4, g4, rx⟩ := yl x H' hy
    obtain ⟨ea, t1, eg⟩ := bindS (show (tgE tg d env2).bind _ = _ from eg)
    obtain ⟨pc, t2, eg⟩ := bindS eg
    -- all of the turn from its own begin
    have far : ∀ {B' H' : Hp} {σ' : L2.St} {env' : Env}, RR K (loc B2 H2 (wipe σ own) env2) B' H' σ' env' → H' L = some (.lst vacc) ∧ B' L = none ∧ ∀ j, ¬ Own σ' env' j L := fun {B' H' σ' env'} z => by
      refine ⟨z.keep L _ hH (fun ⟨j, w⟩ => nO j w) (by intro _ z; cases z), ?_, fun j w => ?_⟩
      · cases e : B' L with
        | none => rfl
        | some u =>
          rcases z.new L u e with y | y | ⟨j, ov, y1, y2, _, y4⟩
          · rw [show (loc B2 H2 (wipe σ own) env2).B0 L = B2 L from rfl, nB] at y; cases y
          · rw [show (loc B2 H2 (wipe σ own) env2).H0 L = H2 L from rfl, hH] at y; cases y
          · exact absurd ⟨ov, y1, y2, y4⟩ (nO j)
      · rcases z.own j L w with ⟨j', y⟩ | y
        · exact nO j' y
        · rw [show (loc B2 H2 (wipe σ own) env2).H0 L = H2 L from rfl, hH] at y; cases y
    refine tgI K tg d x (wipe σ own) env2 ea _ (r3.loc.grow g4) rx t1 fun σ5 r5 kp => ?_
    have hw : wipe σ5 own = wipe σ own := by
      rw [wipe_same kp hsl']
      exact wipe_twice σ own
    have back : ∀ {B' H' : Hp} {env' : Env}, RR K E B' H' σ5 env' → RR K E B' H' (wipe σ own) (wipeE env' own) := fun {B' H' env'} z => z.less (by rw [← hw, wipe_length, wipeE_len]; exact z.len) fun j ov e => by
      have hj : j ∉ own := fun hj => wipeE_in env' own j hj ov e
      rw [wipeE_not env' own j hj] at e
      refine ⟨e, ?_⟩
      rw [← hw]
      exact wipe_not σ5 own j hj
    have backO : ∀ {env' : Env}, (∀ j, ¬ Own σ5 env' j L) → ∀ j, ¬ Own (wipe σ own) (wipeE env' own) j L := fun {env'} z j ⟨ov, y1, y2, y3⟩ => by
      have hj : j ∉ own := fun hj => wipeE_in env' own j hj ov y1
      rw [wipeE_not env' own j hj] at y1
      rw [← hw, wipe_not σ5 own j hj] at y3
      exact z j ⟨ov, y1, y2, y3⟩
    refine ⟨hw, ?_⟩
    refine ⟨_, B4, ea, pc.1, pc.2, r5, t2, fun B5 H5 r6 s6 => ?_⟩
    split at eg
    · rename_i hc
      rw [if_pos hc]
      obtain ⟨qe, t3, eg⟩ := bindS eg
      obtain ⟨hsz, eg⟩ := guardS eg
      refine ⟨_, B5, pc.2, qe.1, qe.2, r6, t3, fun y B6 H6 r7 s7 ry => ?_⟩
      obtain ⟨f1, f2, f3⟩ := far r7
      have hlen : vacc.length < sizeLine := by rw [rep.len]; exact lcLine (of_decide_eq_true hsz)
      refine ⟨vacc, f1, hlen, hlt, B6, wipeE qe.2 own, acc ++ [qe.1], vacc ++ [y], back ((r3.comp r7).aside f2 hE f3 ⟨_, f1⟩), s3.tr (g4.bb.tr (s6.tr s7)), eg, upd_same, (rep.mono (g4.bb.tr (s6.tr s7))).app (.one ry), f2, backO f3⟩
    · rename_i hc
      rw [if_neg hc]
      obtain ⟨f1, f2, f3⟩ := far r6
      exact ⟨hlt, B5, wipeE pc.2 own, acc, vacc, back (r3.comp r6), s3.tr (g4.bb.tr s6), eg, f1, rep.mono (g4.bb.tr s6), f2, backO f3⟩
  · have hie : i = p.1.length := by omega
    subst hie
    rw [List.drop_length] at eg
    have eg' : some (acc, env2) = some (q.1, q.2) := eg
    cases eg'
    refine .inl ⟨ext.2 (Nat.le_refl _), ?_⟩
    have hlb : p.2.length = q.2.length := by
      have h1 := r1.len
      have h2 := r3.len
      rw [wipe_length] at h2
      omega
    have look : ∀ (j : Nat) (ov : OV), (backE p.2 q.2 own)[j]? = some (some ov) → (j ∈ own ∧ p.2[j]? = some (some ov) ∧ ov.plain = true) ∨ (j ∉ own ∧ q.2[j]? = some (some ov)) := fun j ov e => by
      rw [backE_get p.2 q.2 hlb] at e
      by_cases hj : j ∈ own
      · rw [if_pos hj] at e
        refine .inl ⟨hj, e, ?_⟩
        have z := List.all_eq_true.mp hp j hj
        rw [e] at z
        simpa using z
      · rw [if_neg hj] at e
        exact .inr ⟨hj, e⟩
    have lookO : ∀ j a, Own σ (backE p.2 q.2 own) j a → j ∉ own ∧ Own (wipe σ own) q.2 j a := fun j a ⟨ov, e, w, z⟩ => by
      rcases look j ov e with ⟨_, _, n⟩ | ⟨hj, e'⟩
      · cases ov <;> first | (cases w; done) | (cases n; done)
      · exact ⟨hj, ov, e', w, by rw [wipe_not σ own j hj]; exact z⟩
    have rr : RR K E B2 H2 σ (backE p.2 q.2 own) := by
      refine ⟨r3.bh, r3.b0, r3.zi, r3.keep, r3.tb, r3.there, r3.new, by rw [backE_len, ← hlb]; exact r1.len, fun j ov e => ?_, fun j a w => r3.own j a (lookO j a w).2, fun j a ov e w wi z => ?_, fun j j' a w w' => r3.inj j j' a (lookO j a w).2 (lookO j' a w').2, fun j ov e w => ?_⟩
      · rcases look j ov e with ⟨hj, e', n⟩ | ⟨hj, e'⟩
        · obtain ⟨v, z, ok⟩ := r1.slot j ov e'
          refine ⟨v, z, ?_⟩
          cases ov with
          | fn F => cases n
          | fz d => exact Rep.mono s3 ok
          | scr ns => obtain ⟨c, c1, c2⟩ := ok; exact ⟨c, c1, sqlSub s3 c2⟩
          | ol _ _ => cases n
          | od _ _ => cases n
          | ot _ _ => cases n
        · obtain ⟨v, z, ok⟩ := r3.slot j ov e'
          rw [wipe_not σ own j hj] at z
          exact ⟨v, z, ok⟩
      · rcases look j ov e with ⟨hj, e', n⟩ | ⟨hj, e'⟩
        · cases ov <;> first | (cases w; done) | (cases n; done)
        · exact r3.ownz j a ov e' w wi (by rw [wipe_not σ own j hj]; exact z)
      · rcases look j ov e with ⟨hj, e', n⟩ | ⟨hj, e'⟩
        · cases ov with
          | fn F => cases w
          | fz d => cases w
          | scr ns => cases w
          | ol _ _ => cases n
          | od _ _ => cases n
          | ot _ _ => cases n
        · have z := r3.ios j ov e' w
          rw [wipe_not σ own j hj] at z
          exact z
    exact k (.ref L) B2 H2 rr (s1.tr s3) ⟨L, _, rfl, hH, ⟨vacc, rfl, rep⟩, nB, fun j w => nO j (lookO j L w).2, .inl hE⟩
theorem e_lc {X : Cx} {elt tg iter : Expr} {ifs : List Expr} {scope : Scope} {own : List (Str × Nat)} {pos : Pos} {it : Ev (List D)} {tgt : Tg} {fc : Ev Bool} {fe : Ev D} (hc : X.calm = true) (hN : X.N.Nodup) (hi : PI X tg iter (tIt X.K it)) (ok : BlkOk X.N X.env.scope scope own)
    (hg : ∀ (s : Shared) (H : Hp) (C : Addr) (cl : List (Str × Addr)) (fp : List Addr), PG (X.blk s H scope (compEnvC scope cl C X.env) fp) tg (tgT X.K tgt))
    (ht : ∀ (s : Shared) (H : Hp) (C : Addr) (cl : List (Str × Addr)) (fp : List Addr), PTs (X.blk s H scope (compEnvC scope cl C X.env) fp) ifs (tT X.K fc))
    (he : ∀ (s : Shared) (H : Hp) (C : Addr) (cl : List (Str × Addr)) (fp : List Addr), PE (X.blk s H scope (compEnvC scope cl C X.env) fp) elt (tE X.K fe)) (hs : ∀ x, foldedSetIterable iter X.env x = pure x := by intro _; rfl) :
    PE X (.ListComp elt [⟨tg, iter, ifs, 0⟩] scope pos) (tR X.K (lcR it tgt fc fe (own.map (·.2)))) := peImp (pe_lc hc hN hi ok hg ht he hs) tLcI
def yesT : Ev Bool := fun env => some (true, env)
theorem ts_nil {X : Cx} : PTs X [] (tT X.K yesT) := ⟨fun pins s σ H Q I ⟨E, B, env, x, env', r, ef, k⟩ => pts_nil.run pins s σ H Q I (by
  cases ef
  exact k B H r Sub.rfl')⟩
theorem ts_one {X : Cx} {c : Expr} {f : Ev Bool} (h : PT X c (tT X.K f)) : PTs X [c] (tT X.K f) := pts_one h
end NS

set_option Elab.async false
set_option linter.all false
set_option maxRecDepth 100000
set_option maxHeartbeats 4000000
/-! NsF: defs of the text: what they promise, their calls. -/
namespace NS
open PySem L2 PyProof.Rows
/-- a def's promise where no text of an object is under way -/
structure FnG (P : Program) (w : World) (K : PySem.W.Frag) (mg : Str → Option Value) (base : Heap) (CX : CXT) (k : Nat) (f : Addr) (fd : FuncData) (ps : List Str) (sp : Sp) : Prop where
  len : ∀ vs H Q E, sp vs H Q E → vs.length = ps.length
  run : ∀ (A : Around) (outer : List PySem.Env) (s : Shared) (H : Hp) (args : Args) (us : List Value) (vs : List V) (Q : VK) (E : XK), A.guards = some [] → Room k A → Env0 P w K mg base A outer s H → BindsTo s fd args (ps.zip us) → Vals vs us → sp vs H Q E →
    codeAny (model P w) A (.call (.ref f) args) (CR CX outer P w H s Q E) s
theorem FnG.up {P : Program} {w : World} {K : PySem.W.Frag} {mg : Str → Option Value} {base : Heap} {CX : CXT} {j k : Nat} {f : Addr} {fd : FuncData} {ps : List Str} {sp : Sp} (F : FnG P w K mg base CX j f fd ps sp) (h : j ≤ k) : FnG P w K mg base CX k f fd ps sp :=
  ⟨F.len, fun A outer s H args us vs Q E hg hr => F.run A outer s H args us vs Q E hg (hr.mono h)⟩
section
variable {X : Cx} {CX : CXT} {k : Nat} {f C : Addr} {fd : FuncData} {ps : List Str} {sp : Sp} {E : XK} {x m : Str} {p pos apos : Pos} {e o : Expr} {es : List Expr} {ta : TE} {t : TA}
theorem runG {pins : List (Addr × Obj)} {σ : L2.St} {H : Hp} {s : Shared} {Q : VK} {us : List Value} {vs : List V} (F : FnG X.prog X.w X.K X.mg X.base CX k f fd ps sp) (hgd : X.A.guards = some []) (hr : Room k X.A) (hb : Binds X.K fd ps []) (hx : Passes CX X E)
    (I : Inv X pins σ H s) (r : Vals vs us) (h : sp vs H Q E) : wpAny (model X.prog X.w) X.A (call (.ref f) us) (EP X pins σ Q) X.xe s := by
  have hl : (us ++ []).length = ps.length := by rw [List.append_nil, ← r.length]; exact F.len _ _ _ _ h
  have hbb := hb s us I.kIn hl
  rw [List.append_nil] at hbb
  refine wpAny_call (codeAny_mono (F.run X.A X.stack s H ⟨us, []⟩ us vs Q E hgd hr I.env0 hbb r h) fun rs s' hq => ?_)
  cases rs with
  | error e => exact hx pins σ H s e s' I hq
  | ok fl =>
    cases fl with
    | ret u => exact I.after hq
    | next => exact False.elim hq
    | brk => exact False.elim hq
    | cont => exact False.elim hq
theorem callG (F : FnG X.prog X.w X.K X.mg X.base CX k f fd ps sp) (hgd : X.A.guards = some []) (hr : Room k X.A) (hg : Gl X x) (hm : X.mg x = some (.ref f)) (hk : PySem.W.keepIn X.K (.ref f) = true) (hb : Binds X.K fd ps []) (hx : Passes CX X E)
    (ha : PA X (e :: es) t) (hdb : (x == ("__debug__" : Str)) = false := by decide) (he : starEach (e :: es) X.env = (false, eval e X.env) :: starEach es X.env := by rfl) (hpl : (backTo pos (starEach es X.env)).any (·.1) = false := by rfl) :
    PE X (.Call (.Name x p) (e :: es) [] pos) (tCall sp [] E t) := by
  constructor
  intro pins s σ H Q I h
  refine wpAny_Call_Name_kw (ld_glob I hg hm ?_ hdb)
  refine PySem.W.callWith_K (h₀ := X.base) I.ok.mod.kin hk (thn (ha.run pos pins s σ H _ I h) fun us s1 ⟨vs, H1, I1, r, q⟩ => ⟨I1.kIn, ?_⟩) he hpl
  have q' : sp (vs ++ []) H1 Q E := q
  rw [List.append_nil] at q'
  exact runG F hgd hr hb hx I1 r q'
theorem callG0 (F : FnG X.prog X.w X.K X.mg X.base CX k f fd ps sp) (hgd : X.A.guards = some []) (hr : Room k X.A) (hg : Gl X x) (hm : X.mg x = some (.ref f)) (hk : PySem.W.keepIn X.K (.ref f) = true) (hb : Binds X.K fd ps []) (hx : Passes CX X E)
    (hdb : (x == ("__debug__" : Str)) = false := by decide) : PE X (.Call (.Name x p) [] [] pos) (tCall sp [] E tNil) := by
  constructor
  intro pins s σ H Q I h
  refine wpAny_Call_Name_kw (ld_glob I hg hm ?_ hdb)
  exact PySem.W.callWith_K0 I.kIn hk (runG (us := []) F hgd hr hb hx I .nil h)
end
/-- a def of the text by its body -/
theorem fnG_of {CX : CXT} {P : Program} {w : World} {K : PySem.W.Frag} {mg : Str → Option Value} {base : Heap} {k : Nat} {f : Addr} {name qual : Str} {params : Arguments} {body : List Stmt} {scope : Scope} {dV kV doc pm cdv ct oc : Value} {an od : Option Addr}
    {osl : Array (Option Value)} {N ps : List Str} {sp : Sp} (lk : K.lookup f = some ⟨oc, od, .func (PySem.W.fnOf name qual params body scope dV kV doc pm an cdv ct), osl⟩) (hcd : PySem.W.codeIn K cdv qual = true) (S : FnScope N ps scope)
    (len : ∀ vs H Q E, sp vs H Q E → vs.length = ps.length)
    (hbody : ∀ (A : Around) (outer : List PySem.Env) (s : Shared) (H : Hp) (vs : List V) (Q : VK) (E : XK), A.guards = some [] → Room k (A.deeper (envOfC qual scope s.heap.objs.size f cdv)) → sp vs H Q E →
      ∃ t, PSs (cxOf CX P w K mg base N qual scope f cdv A outer s H E) body t ∧ t { nx := fun _ H' => Q .non H', rt := Q } (start N vs) H) :
    FnG P w K mg base CX (k + 1) f (PySem.W.fnOf name qual params body scope dV kV doc pm an cdv ct) ps sp := by
  refine ⟨len, fun A outer s H args us vs Q E hgd hr e0 hb r hsp => ?_⟩
  have hl := len _ _ _ _ hsp
  have KX : K.In s.heap := e0.mod.kin.keeps fun b o e => (e0.bs b o e).1
  have lim : s.heap.NoLimit := e0.mod.nolimit.keeps fun b o e => (e0.bs b o e).1
  have hkind : ∀ y ∈ ps.zip us, scope.names.lookup y.1 = some .local ∨ (scope.names.lookup y.1 = some .cell ∧ ((cellsFrom (s.heap.objs.size + 1) scope.names []).lookup y.1).isSome = true) := fun ⟨n, v⟩ hy => by
    rcases S.par n (List.of_mem_zip hy).1 with q | q
    · exact .inl q
    · exact .inr ⟨q, PySem.W.cellsFrom_some _ _ _ (.inl q)⟩
  refine codeAny_call_function hr.depth (KX _ _ lk) rfl S.co S.gen rfl (PySem.W.codeRec_of KX hcd) (hb _ _ _ _ ?_)
  refine wpAny_newFunctionEnv_cells S.kind hkind fun env he s1 x => ?_
  subst he
  refine ⟨lim.keeps x.toInCall.keep, codeAny_func ?_⟩
  obtain ⟨t, ht, hq⟩ := hbody A outer s H vs Q E hgd (hr.deeper _) hsp
  have I : Inv (cxOf CX P w K mg base N qual scope f cdv A outer s H E) [] (start N vs) H s1 := inv_start S hr.hd e0 hl r x
  refine wpAny_mono (ht.run [] s1 (start N vs) H _ I hq) (fun fl s' hs => ?_) fun e s' hs => hs
  have fin : ∀ {σ' : L2.St} {H' : Hp} {v : V} {u : Value}, Inv (cxOf CX P w K mg base N qual scope f cdv A outer s H E) [] σ' H' s' → RelV v u → Q v H' → CE outer P w H s Q u s' :=
    fun {σ' H' v u} J rv q => ⟨v, H', J.os, J.bare, J.base, J.hok, rv, q⟩
  cases fl with
  | ret u =>
    obtain ⟨v, σ', H', J, rv, q⟩ := hs
    exact fin J rv q
  | next =>
    obtain ⟨σ', H', J, q⟩ := hs
    exact fin (v := V.non) (u := Value.none) J rfl q
  | brk =>
    obtain ⟨_, _, _, q⟩ := hs
    exact False.elim q
  | cont =>
    obtain ⟨_, _, _, q⟩ := hs
    exact False.elim q
theorem Fun.okG {P : Program} {w : World} {K : PySem.W.Frag} {mg : Str → Option Value} {base : Heap} {x qual : Str} {st : Stmt} {f : Addr} {fd : FuncData} {N ps : List Str} {k : Nat} {sp : Sp} (F : L2.Fun K x qual st f fd) (S : FnScope N ps (defScope st)) (len : ∀ vs H Q E, sp vs H Q E → vs.length = ps.length)
    (hbody : ∀ (cdv : Value) (A : Around) (outer : List PySem.Env) (s : Shared) (H : Hp) (vs : List V) (Q : VK) (E : XK), A.guards = some [] → Room k (A.deeper (envOfC qual (defScope st) s.heap.objs.size f cdv)) → sp vs H Q E →
      ∃ t, PSs (cxOf CX0 P w K mg base N qual (defScope st) f cdv A outer s H E).nox (defBody st) t ∧ t { nx := fun _ H' => Q .non H', rt := Q } (start N vs) H) : FnG P w K mg base CX0 (k + 1) f fd ps sp := by
  obtain ⟨oc, od, kV, doc, pm, an, cdv, ct, osl, rfl, lk, hcd⟩ := F.ex
  refine fnG_of lk hcd S len fun A outer s H vs Q E hg hr hsp => ?_
  obtain ⟨t, h, q⟩ := hbody cdv A outer s H vs Q E hg hr hsp
  exact ⟨t, h.nox, q⟩

/-! ### a def of trees -/
def noR : List Opd → Bool
  | [] => true
  | .r _ :: _ => false
  | _ :: xs => noR xs
theorem opvs_any {K : PySem.W.Frag} {B : Hp} {σ σ' : L2.St} : ∀ {xs : List Opd} {us : List V}, noR xs = true → OpVs K B σ xs us → OpVs K B σ' xs us
  | [], _, _, h => h
  | .v _ :: xs, _, n, ⟨u, r, e, h, k⟩ => ⟨u, r, e, h, opvs_any (xs := xs) n k⟩
  | .s _ :: xs, _, n, ⟨u, r, e, h, k⟩ => ⟨u, r, e, h, opvs_any (xs := xs) n k⟩
  | .r _ :: xs, _, n, _ => nomatch n
theorem opvs_len {K : PySem.W.Frag} {B : Hp} {σ : L2.St} : ∀ {xs : List Opd} {us : List V}, OpVs K B σ xs us → us.length = xs.length
  | [], _, h => by cases h; rfl
  | _ :: xs, _, ⟨u, r, e, h, k⟩ => by subst e; simp [opvs_len k]
/-- g of the arguments, which nobody changes -/
def spT (K : PySem.W.Frag) (n : Nat) (g : List Opd → Option Res) : Sp := fun vs H Q _ => ∃ B avs res, Sub B H ∧ TabsK K B H ∧ noR avs = true ∧ avs.length = n ∧ OpVs K B [] avs vs ∧ g avs = some res ∧ ∀ v B' H', GrowC K B H B' H' → NewV B H H' B' res v → Q v H'
theorem spT_len {K : PySem.W.Frag} {n : Nat} {g : List Opd → Option Res} : ∀ vs H Q E, spT K n g vs H Q E → vs.length = n := fun vs H Q E ⟨B, avs, res, _, _, _, h, o, _⟩ => by rw [opvs_len o, h]
def callT (n : Nat) (g : List Opd → Option Res) (f : Ev (List Opd)) : Ev Res := fun env => (f env).bind fun p => guardO (noR p.1 && p.1.length == n) ((g p.1).bind fun r => some (r, p.2))
theorem tCallT {K : PySem.W.Frag} {n : Nat} {g : List Opd → Option Res} {fa : Ev (List Opd)} (σ : L2.St) (H : Hp) (Q : VK) (h : tR K (callT n g fa) σ H Q) : tCall (spT K n g) [] E0 (tA K fa) σ H Q := by
  obtain ⟨E, B, env, res, env', r, ef, kk⟩ := h
  obtain ⟨q, e1, ef⟩ := bindS ef
  obtain ⟨hn, ef⟩ := guardS ef
  obtain ⟨rs, e2, ef⟩ := bindS ef
  cases ef
  simp only [Bool.and_eq_true, beq_iff_eq] at hn
  refine ⟨E, B, env, q.1, q.2, r, e1, fun vs B' H' r' s' z => ?_⟩
  show spT K n g (vs ++ []) H' Q E0
  rw [List.append_nil]
  exact ⟨B', q.1, _, r'.bh, r'.tb, hn.1, hn.2, opvs_any hn.1 z, e2, fun v B4 H4 gr nw => kk v B4 H4 (r'.growC gr) (s'.tr gr.bb) (nw.res r')⟩
section
variable {X : Cx} {k n : Nat} {f : Addr} {fd : FuncData} {ps : List Str} {x : Str} {p pos : Pos} {e : Expr} {es : List Expr} {g : List Opd → Option Res} {fa : Ev (List Opd)}
theorem e_callT (F : FnG X.prog X.w X.K X.mg X.base CX0 k f fd ps (spT X.K n g)) (hgd : X.A.guards = some []) (hr : Room k X.A) (hg : Gl X x) (hm : X.mg x = some (.ref f)) (hk : PySem.W.keepIn X.K (.ref f) = true) (hb : Binds X.K fd ps [])
    (ha : PA X (e :: es) (tA X.K fa)) (hdb : (x == ("__debug__" : Str)) = false := by decide) (he : starEach (e :: es) X.env = (false, eval e X.env) :: starEach es X.env := by rfl) (hpl : (backTo pos (starEach es X.env)).any (·.1) = false := by rfl) :
    PE X (.Call (.Name x p) (e :: es) [] pos) (tR X.K (callT n g fa)) := peImp (callG F hgd hr hg hm hk hb pass0 ha hdb he hpl) tCallT
end

/-! ### a def whose first argument it may change -/
def OV.setIo (b : Bool) : OV → OV
  | .ol _ ds => .ol b ds
  | .od _ kvs => .od b kvs
  | .ot _ kvs => .ot b kvs
  | ov => ov
theorem OwnO.setIo {B : Hp} {b : Bool} {ov : OV} {o : HO} (h : OwnO B ov o) : OwnO B (ov.setIo b) o := by
  cases ov <;> first | exact h | exact False.elim h
theorem OwnO.io_eq {B : Hp} {b : Bool} {ov : OV} {o : HO} (h : OwnO B ov o) : (ov.setIo b).io = b := by
  cases ov <;> first | rfl | exact False.elim h
/-- behind such a call -/
structure Aft (K : PySem.W.Frag) (a : Addr) (B H B' H' : Hp) : Prop where
  bb : Sub B B'
  bh : Sub B' H'
  keep : ∀ b o, H b = some o → b ≠ a → (∀ ps, o ≠ .tbl ps) → H' b = some o
  dom : ∀ b, H b ≠ none → H' b ≠ none
  tb : TabsK K B' H'
  new : ∀ b o, B' b = some o → B b = some o ∨ H b = none
/-- a result that is new -/
def NewA (H H' B' : Hp) : Res → V → Prop
  | .d d, u => Rep B' u d
  | r, u => ∃ p o, u = .ref p ∧ H p = none ∧ H' p = some o ∧ OwnO B' r.ov o ∧ B' p = none
def spU (K : PySem.W.Frag) (n : Nat) (g : OV → List Opd → Option (Res × OV)) : Sp := fun vs H Q _ => ∃ B a o ov avs rest res ov', Sub B H ∧ TabsK K B H ∧ vs = V.ref a :: rest ∧ H a = some o ∧ OwnO B ov o ∧ B a = none ∧ noR avs = true ∧ avs.length + 1 = n ∧ OpVs K B [] avs rest ∧ g ov avs = some (res, ov') ∧
  ∀ v B' H' o', Aft K a B H B' H' → H' a = some o' → OwnO B' ov' o' → B' a = none → NewA H H' B' res v → Q v H'
theorem spU_len {K : PySem.W.Frag} {n : Nat} {g : OV → List Opd → Option (Res × OV)} : ∀ vs H Q E, spU K n g vs H Q E → vs.length = n := fun vs H Q E ⟨B, a, o, ov, avs, rest, res, ov', _, _, e, _, _, _, _, h, oo, _⟩ => by
  rw [e, List.length_cons, opvs_len oo, h]
theorem RR.after {K : PySem.W.Frag} {E : Ent} {B H B' H' : Hp} {σ : L2.St} {env : Env} {i : Nat} {a : Addr} {ov ov' : OV} {o' : HO} (r : RR K E B H σ env) (h : env[i]? = some (some ov)) (w : ov.owned = true) (e : σ[i]? = some (some (.ref a)))
    (A : Aft K a B H B' H') (ha : H' a = some o') (hn : OwnO B' ov' o') (hb : B' a = none) (hio : ov'.io = ov.io) : RR K E B' H' σ (env.set i (some ov')) := by
  have hl : i < env.length := (List.getElem?_eq_some_iff.mp h).1
  have look : ∀ j u, (env.set i (some ov'))[j]? = some (some u) → (j = i ∧ u = ov') ∨ (j ≠ i ∧ env[j]? = some (some u)) := fun j u e => by
    by_cases hj : j = i
    · subst hj
      rw [List.getElem?_set_self hl] at e
      exact .inl ⟨rfl, (Option.some.inj (Option.some.inj e)).symm⟩
    · rw [List.getElem?_set_ne (Ne.symm hj)] at e
      exact .inr ⟨hj, e⟩
  have ownOld : ∀ j b, Own σ (env.set i (some ov')) j b → Own σ env j b := fun j b ⟨u, q, wu, z⟩ => by
    rcases look j u q with ⟨hj, _⟩ | ⟨_, q'⟩
    · subst hj; exact ⟨ov, h, w, z⟩
    · exact ⟨u, q', wu, z⟩
  have iO : Own σ env i a := ⟨ov, h, w, e⟩
  have dom : ∀ b, H b ≠ none → H' b ≠ none := A.dom
  refine ⟨A.bh, r.b0.tr A.bb, r.zi, fun b u q n nt => ?_, A.tb, fun b q => dom b (r.there b q), fun b u q => ?_, by simpa using r.len, fun j u q => ?_, fun j b q => r.own j b (ownOld j b q), fun j b u q wu wi z => ?_, fun j k b q q' => r.inj j k b (ownOld j b q) (ownOld k b q'), fun j u q wu => ?_⟩
  · have nb : b ≠ a := fun z => by
      subst z
      rcases r.own i b iO with k | k
      · exact n k
      · rw [k] at q; cases q
    exact A.keep b u (r.keep b u q n nt) nb nt
  · rcases A.new b u q with z | z
    · exact r.new b u z
    · exact .inr (.inl (r.off z))
  · rcases look j u q with ⟨rfl, rfl⟩ | ⟨hj, q'⟩
    · exact ⟨_, e, OvOk.of_own ha hn hb⟩
    · obtain ⟨v, z, k⟩ := r.slot j u q'
      refine ⟨v, z, ?_⟩
      by_cases wu : u.owned = true
      · obtain ⟨c, oc, rfl, k1, k2, k3⟩ := k.own wu
        have nc : c ≠ a := fun z2 => by
          subst z2
          exact hj (r.inj j i c ⟨u, q', wu, z⟩ iO)
        refine OvOk.of_own (A.keep c oc k1 nc k2.ntb) (k2.mono A.bb) ?_
        cases y : B' c with
        | none => rfl
        | some t =>
          rcases A.new c t y with y1 | y1
          · rw [k3] at y1; cases y1
          · rw [k1] at y1; cases y1
      · cases u with
        | fn F => exact ⟨k.1, k.2.mono A.bb fun o q n => A.keep _ o q (fun z => by
            obtain ⟨a0, o0, w1, w2, w3, _⟩ := r.owns h w
            rw [e] at w1
            cases w1
            have q2 := k.2.1
            rw [z, w2] at q2
            have q3 := Option.some.inj q2
            subst q3
            exact w3.next) n⟩
        | fz d => exact Rep.mono A.bb k
        | scr ns => obtain ⟨c, c1, c2⟩ := k; exact ⟨c, c1, sqlSub A.bb c2⟩
        | ol _ _ => exact absurd rfl wu
        | od _ _ => exact absurd rfl wu
        | ot _ _ => exact absurd rfl wu
  · rcases look j u q with ⟨rfl, rfl⟩ | ⟨hj, q'⟩
    · exact r.ownz j b ov h w (by rw [← hio]; exact wi) z
    · exact r.ownz j b u q' wu wi z
  · rcases look j u q with ⟨rfl, rfl⟩ | ⟨hj, q'⟩
    · exact r.ios j ov h (by rw [← hio]; exact wu)
    · exact r.ios j u q' wu
def callU (n : Nat) (g : OV → List Opd → Option (Res × OV)) (f : Ev (List Opd)) : Ev Res := fun env => (f env).bind fun p => match p.1 with
  | .r i :: rest => match p.2[i]? with
    | some (some ov) => guardO (ov.owned && noR rest && rest.length + 1 == n) ((g (ov.setIo false) rest).bind fun q => guardO (q.2.owned) (some (q.1, p.2.set i (some (q.2.setIo ov.io)))))
    | _ => none
  | _ => none
theorem tCallU {K : PySem.W.Frag} {n : Nat} {g : OV → List Opd → Option (Res × OV)} {fa : Ev (List Opd)} (σ : L2.St) (H : Hp) (Q : VK) (h : tR K (callU n g fa) σ H Q) : tCall (spU K n g) [] E0 (tA K fa) σ H Q := by
  obtain ⟨E, B, env, res, env', r, ef, kk⟩ := h
  obtain ⟨q, e1, ef⟩ := bindS ef
  split at ef
  · rename_i i rest hq
    split at ef
    · rename_i ov hov
      obtain ⟨hn, ef⟩ := guardS ef
      obtain ⟨rs, e2, ef⟩ := bindS ef
      obtain ⟨hw, ef⟩ := guardS ef
      cases ef
      simp only [Bool.and_eq_true, beq_iff_eq] at hn
      refine ⟨E, B, env, q.1, q.2, r, e1, fun vs B' H' r' s' z => ?_⟩
      rw [hq] at z
      obtain ⟨u, us, rfl, z1, z2⟩ := z
      obtain ⟨a, o, k1, k2, k3, k4⟩ := r'.owns hov hn.1.1
      have z1' : σ[i]? = some (some u) := z1
      rw [k1] at z1'
      cases z1'
      show spU K n g ((V.ref a :: us) ++ []) H' Q E0
      rw [List.append_nil]
      refine ⟨B', a, o, ov.setIo false, rest, us, _, rs.2, r'.bh, r'.tb, rfl, k2, k3.setIo, k4, hn.1.2, hn.2, opvs_any hn.1.2 z2, e2, fun v B4 H4 o' A h1 h2 h3 h4 => ?_⟩
      have r4 := r'.after hov hn.1.1 k1 A h1 h2.setIo h3 (h2.io_eq (b := ov.io))
      refine kk v B4 H4 r4 (s'.tr A.bb) ?_
      have own : (∃ p o, v = .ref p ∧ H' p = none ∧ H4 p = some o ∧ OwnO B4 rs.1.ov o ∧ B4 p = none) → ∃ p o, v = .ref p ∧ H4 p = some o ∧ OwnO B4 rs.1.ov o ∧ B4 p = none ∧ (∀ j, ¬ Own σ (q.2.set i (some (rs.2.setIo ov.io))) j p) ∧ (E.H0 p = none ∨ E.Z p) := by
        rintro ⟨p, op, rfl, y1, y2, y3, y4⟩
        refine ⟨p, op, rfl, y2, y3, y4, fun j ⟨ou, w1, w2, w3⟩ => ?_, .inl (r'.off y1)⟩
        by_cases hj : j = i
        · subst hj
          rw [k1] at w3
          cases w3
          rw [k2] at y1; cases y1
        · rw [List.getElem?_set_ne (Ne.symm hj)] at w1
          obtain ⟨c, oc, x1, x2, _⟩ := r'.owns w1 w2
          rw [w3] at x1; cases x1
          rw [y1] at x2; cases x2
      have h4' := h4
      revert h4' own
      cases rs.1 with
      | d d => intro _ y; exact y
      | l ds => intro y1 y2; exact y1 y2
      | k ds => intro y1 y2; exact y1 y2
      | t ds => intro y1 y2; exact y1 y2
    · cases ef
  · cases ef
section
variable {X : Cx} {k n : Nat} {f : Addr} {fd : FuncData} {ps : List Str} {x : Str} {p pos : Pos} {e : Expr} {es : List Expr} {g : OV → List Opd → Option (Res × OV)} {fa : Ev (List Opd)}
theorem e_callU (F : FnG X.prog X.w X.K X.mg X.base CX0 k f fd ps (spU X.K n g)) (hgd : X.A.guards = some []) (hr : Room k X.A) (hg : Gl X x) (hm : X.mg x = some (.ref f)) (hk : PySem.W.keepIn X.K (.ref f) = true) (hb : Binds X.K fd ps [])
    (ha : PA X (e :: es) (tA X.K fa)) (hdb : (x == ("__debug__" : Str)) = false := by decide) (he : starEach (e :: es) X.env = (false, eval e X.env) :: starEach es X.env := by rfl) (hpl : (backTo pos (starEach es X.env)).any (·.1) = false := by rfl) :
    PE X (.Call (.Name x p) (e :: es) [] pos) (tR X.K (callU n g fa)) := peImp (callG F hgd hr hg hm hk hb pass0 ha hdb he hpl) tCallU
end
end NS

set_option Elab.async false
set_option linter.all false
set_option maxRecDepth 100000
set_option maxHeartbeats 4000000
/-! NsG: statements. -/
namespace NS
open PySem L2 PyProof.Rows
inductive Fl where
  | nx | bk | ct | rt (r : Res)
abbrev Es := Env → Option (Fl × Env)
def tS (K : PySem.W.Frag) (g : Es) : TS := fun D σ H => ∃ E B env fl env', RR K E B H σ env ∧ g env = some (fl, env') ∧ match fl with
  | .nx => ∀ σ' B' H', RR K E B' H' σ' env' → Sub B B' → D.nx σ' H'
  | .bk => ∀ σ' B' H', RR K E B' H' σ' env' → Sub B B' → D.bk σ' H'
  | .ct => ∀ σ' B' H', RR K E B' H' σ' env' → Sub B B' → D.ct σ' H'
  | .rt r => ∀ v σ' B' H', RR K E B' H' σ' env' → Sub B B' → ResV E B' H' σ' env' r v → D.rt v H'
theorem psImp {X : Cx} {st : Stmt} {t t' : TS} (h : PS X st t) (i : ∀ D σ H, t' D σ H → t D σ H) : PS X st t' := ⟨fun pins s σ H D I q => h.run pins s σ H D I (i D σ H q)⟩
theorem pssImp {X : Cx} {st : List Stmt} {t t' : TS} (h : PSs X st t) (i : ∀ D σ H, t' D σ H → t D σ H) : PSs X st t' := ⟨fun pins s σ H D I q => h.run pins s σ H D I (i D σ H q)⟩
section
variable {X : Cx} {st : Stmt} {rest : List Stmt} {e : Expr} {pos : Pos} {K : PySem.W.Frag}
def nilS : Es := fun env => some (.nx, env)
def seqS (f g : Es) : Es := fun env => (f env).bind fun p => match p.1 with
  | .nx => g p.2
  | fl => some (fl, p.2)
theorem ss_nil : PSs X [] (tS X.K nilS) := pssImp pss_nil fun D σ H ⟨E, B, env, fl, env', r, ef, k⟩ => by
  cases ef
  exact k σ B H r Sub.rfl'
theorem ss_one {f : Es} (h : PS X st (tS X.K f)) : PSs X [st] (tS X.K f) := pss_one h
theorem ss_cons {f g : Es} (h1 : PS X st (tS X.K f)) (h2 : PSs X rest (tS X.K g)) : PSs X (st :: rest) (tS X.K (seqS f g)) := pssImp (pss_cons h1 h2) fun D σ H ⟨E, B, env, fl, env', r, ef, k⟩ => by
  obtain ⟨p, e1, ef⟩ := bindS ef
  refine ⟨E, B, env, p.1, p.2, r, e1, ?_⟩
  split at ef
  · rename_i hp
    rw [hp]
    intro σ1 B1 H1 r1 s1
    refine ⟨E, B1, p.2, fl, env', r1, ef, ?_⟩
    cases fl with
    | nx => exact fun σ' B' H' r' s' => k σ' B' H' r' (s1.tr s')
    | bk => exact fun σ' B' H' r' s' => k σ' B' H' r' (s1.tr s')
    | ct => exact fun σ' B' H' r' s' => k σ' B' H' r' (s1.tr s')
    | rt x => exact fun v σ' B' H' r' s' q => k v σ' B' H' r' (s1.tr s') q
  · rename_i hp
    cases ef
    cases hfl : p.1 with
    | nx => exact absurd hfl hp
    | bk => rw [hfl] at k; exact k
    | ct => rw [hfl] at k; exact k
    | rt x => rw [hfl] at k; exact k
theorem s_pass : PS X (.Pass pos) (tS X.K nilS) := psImp ps_pass fun D σ H ⟨E, B, env, fl, env', r, ef, k⟩ => by
  cases ef
  exact k σ B H r Sub.rfl'
/-! ### stores -/
theorem ResV.ok {E : Ent} {B H : Hp} {σ : L2.St} {env : Env} {x : Res} {u : V} (h : ResV E B H σ env x u) : OvOk K B H u x.ov ∧ x.ov.io = false ∧ (x.ov.owned = true → ∀ a, u = .ref a → (∀ j, ¬ Own σ env j a) ∧ (E.H0 a = none ∨ E.Z a)) := by
  have own : (∃ p o, u = .ref p ∧ H p = some o ∧ OwnO B x.ov o ∧ B p = none ∧ (∀ j, ¬ Own σ env j p) ∧ (E.H0 p = none ∨ E.Z p)) → OvOk K B H u x.ov ∧ (x.ov.owned = true → ∀ a, u = .ref a → (∀ j, ¬ Own σ env j a) ∧ (E.H0 a = none ∨ E.Z a)) := by
    rintro ⟨p, o, rfl, h1, h2, h3, h4, h5⟩
    refine ⟨OvOk.of_own h1 h2 h3, fun _ a e => ?_⟩
    cases e
    exact ⟨h4, h5⟩
  cases x with
  | d d => exact ⟨h, rfl, fun w => nomatch w⟩
  | l ds => exact ⟨(own h).1, rfl, (own h).2⟩
  | k ds => exact ⟨(own h).1, rfl, (own h).2⟩
  | t ds => exact ⟨(own h).1, rfl, (own h).2⟩
def asgS (i : Nat) (f : Ev Res) : Es := fun env => (f env).bind fun p => some (.nx, p.2.set i (some p.1.ov))
theorem tAsgI {te : TE} {i : Nat} {f : Ev Res} (h : ∀ σ H Q, tR K f σ H Q → te σ H Q) (D : Ends) (σ : L2.St) (H : Hp) (q : tS K (asgS i f) D σ H) : tAsg te (gName i) D σ H := by
  obtain ⟨E, B, env, fl, env', r, ef, k⟩ := q
  obtain ⟨p, e1, ef⟩ := bindS ef
  cases ef
  refine h σ H _ ⟨E, B, env, p.1, p.2, r, e1, fun v B' H' r' s' z => ?_⟩
  obtain ⟨z1, z2, z3⟩ := z.ok (K := K)
  exact k _ B' H' (r'.put z1 z2 z3) s'
theorem s_asg {i : Nat} {x : Str} {pos' : Pos} {f : Ev Res} (hN : X.N.Nodup) (hi : X.N[i]? = some x) (hx : Loc X.env.scope x) (he : PE X e (tR X.K f)) (hs : swapsWith e (some (.Name x pos')) pos.line X.env = pure false := by rfl)
    (hf : X.fn x = true ∨ X.env.scope.names.lookup x = some .local := by first | exact .inl rfl | exact .inr rfl | assumption) : PS X (.Assign [.Name x pos'] e pos) (tS X.K (asgS i f)) :=
  psImp (ps_set hN hi hx he hs hf) (tAsgI fun _ _ _ q => q)
theorem s_asgLc {i : Nat} {y : Str} {py : Pos} {elt tg iter : Expr} {ifs : List Expr} {scope : Scope} {own : List (Str × Nat)} {pos spos : Pos} {it : Ev (List D)} {tgt : Tg} {fc : Ev Bool} {fe : Ev D} (hc : X.calm = true) (hN : X.N.Nodup) (hy : X.N[i]? = some y) (hyl : X.env.scope.names.lookup y = some .local)
    (hsw : swapsWith (.ListComp elt [⟨tg, iter, ifs, 0⟩] scope pos) (some (.Name y py)) spos.line X.env = pure true) (hi : PI X tg iter (tIt X.K it)) (ok : BlkOk X.N X.env.scope scope own)
    (hg : ∀ (s : Shared) (H : Hp) (C : Addr) (cl : List (Str × Addr)) (fp : List Addr), PG (X.blk s H scope (compEnvC scope cl C X.env) fp) tg (tgT X.K tgt))
    (ht : ∀ (s : Shared) (H : Hp) (C : Addr) (cl : List (Str × Addr)) (fp : List Addr), PTs (X.blk s H scope (compEnvC scope cl C X.env) fp) ifs (tT X.K fc))
    (he : ∀ (s : Shared) (H : Hp) (C : Addr) (cl : List (Str × Addr)) (fp : List Addr), PE (X.blk s H scope (compEnvC scope cl C X.env) fp) elt (tE X.K fe)) (hs : ∀ x, foldedSetIterable iter X.env x = pure x := by intro _; rfl) :
    PS X (.Assign [.Name y py] (.ListComp elt [⟨tg, iter, ifs, 0⟩] scope pos) spos) (tS X.K (asgS i (lcR it tgt fc fe (own.map (·.2))))) := psImp (ps_setLc hc hN hy hyl hsw hi ok hg ht he hs) (tAsgI tLcI)
def unpS (tg : Tg) (f : Ev D) : Es := fun env => (f env).bind fun p => (tgE tg p.1 p.2).bind fun e1 => some (.nx, e1)
theorem s_unp {tg : Tg} {f : Ev D} (h : PS X st (tAsg (tE X.K f) (tgT X.K tg))) : PS X st (tS X.K (unpS tg f)) :=
  psImp h fun D σ H ⟨E, B, env, fl, env', r, ef, k⟩ => by
  obtain ⟨p, e1, ef⟩ := bindS ef
  obtain ⟨ea, e2, ef⟩ := bindS ef
  cases ef
  exact ⟨E, B, env, p.1, p.2, r, e1, fun v B' H' r' s' z => tgI _ tg p.1 v σ p.2 _ _ r' z e2 fun σ' r2 _ => k σ' B' H' r2 s'⟩
/-- a new thing is held while more is evaluated -/
theorem ResV.hold {E : Ent} {B H B' H' : Hp} {σ : L2.St} {env env' : Env} {x : Res} {u : V} (r : RR K E B H σ env) (h : ResV E B H σ env x u) (q : RR K (loc B H σ env) B' H' σ env') : ResV E B' H' σ env' x u := by
  have own : (∃ p o, u = .ref p ∧ H p = some o ∧ OwnO B x.ov o ∧ B p = none ∧ (∀ j, ¬ Own σ env j p) ∧ (E.H0 p = none ∨ E.Z p)) → ∃ p o, u = .ref p ∧ H' p = some o ∧ OwnO B' x.ov o ∧ B' p = none ∧ (∀ j, ¬ Own σ env' j p) ∧ (E.H0 p = none ∨ E.Z p) := by
    rintro ⟨p, o, rfl, h1, h2, h3, h4, h5⟩
    refine ⟨p, o, rfl, q.keep p o h1 (fun ⟨j, w⟩ => h4 j w) h2.ntb, h2.mono q.b0, ?_, fun j w => ?_, h5⟩
    · cases e : B' p with
      | none => rfl
      | some t =>
        rcases q.new p t e with y | y | ⟨j, ov, y1, y2, _, y4⟩
        · rw [show (loc B H σ env).B0 p = B p from rfl, h3] at y; cases y
        · rw [show (loc B H σ env).H0 p = H p from rfl, h1] at y; cases y
        · exact absurd ⟨ov, y1, y2, y4⟩ (h4 j)
    · rcases q.own j p w with ⟨j', y⟩ | y
      · exact h4 j' y
      · rw [show (loc B H σ env).H0 p = H p from rfl, h1] at y; cases y
  cases x with
  | d d => exact Rep.mono q.b0 h
  | l ds => exact own h
  | k ds => exact own h
  | t ds => exact own h
/-- what is new within a piece is new without -/
theorem ResV.out {E : Ent} {B H B' H' : Hp} {σ : L2.St} {env env' : Env} {x : Res} {u : V} (r : RR K E B H σ env) (h : ResV (loc B H σ env) B' H' σ env' x u) : ResV E B' H' σ env' x u := by
  have own : (∃ p o, u = .ref p ∧ H' p = some o ∧ OwnO B' x.ov o ∧ B' p = none ∧ (∀ j, ¬ Own σ env' j p) ∧ ((loc B H σ env).H0 p = none ∨ (loc B H σ env).Z p)) → ∃ p o, u = .ref p ∧ H' p = some o ∧ OwnO B' x.ov o ∧ B' p = none ∧ (∀ j, ¬ Own σ env' j p) ∧ (E.H0 p = none ∨ E.Z p) := by
    rintro ⟨p, o, rfl, h1, h2, h3, h4, h5⟩
    refine ⟨p, o, rfl, h1, h2, h3, h4, ?_⟩
    rcases h5 with z | ⟨j, ov, y1, y2, y3, y4⟩
    · exact .inl (r.off z)
    · exact r.ownz j p ov y1 y2 y3 y4
  cases x with
  | d d => exact h
  | l ds => exact own h
  | k ds => exact own h
  | t ds => exact own h
/-- .. and apart from what is held -/
theorem ResV.apart {E : Ent} {B H B' H' : Hp} {σ : L2.St} {env env' : Env} {x y : Res} {u v : V} (h : ResV E B H σ env x u) (h' : ResV (loc B H σ env) B' H' σ env' y v) : x.ov.owned = true → y.ov.owned = true → u ≠ v := by
  intro wx wy e
  subst e
  have ax : ∃ p o, u = .ref p ∧ H p = some o ∧ ∀ j, ¬ Own σ env j p := by
    cases x with
    | d d => cases wx
    | l ds => obtain ⟨p, o, a, b, _, _, c, _⟩ := h; exact ⟨p, o, a, b, c⟩
    | k ds => obtain ⟨p, o, a, b, _, _, c, _⟩ := h; exact ⟨p, o, a, b, c⟩
    | t ds => obtain ⟨p, o, a, b, _, _, c, _⟩ := h; exact ⟨p, o, a, b, c⟩
  have ay : ∃ p, u = .ref p ∧ ((loc B H σ env).H0 p = none ∨ (loc B H σ env).Z p) := by
    cases y with
    | d d => cases wy
    | l ds => obtain ⟨p, o, a, _, _, _, _, c⟩ := h'; exact ⟨p, a, c⟩
    | k ds => obtain ⟨p, o, a, _, _, _, _, c⟩ := h'; exact ⟨p, a, c⟩
    | t ds => obtain ⟨p, o, a, _, _, _, _, c⟩ := h'; exact ⟨p, a, c⟩
  obtain ⟨p, o, rfl, a1, a2⟩ := ax
  obtain ⟨p', e, b⟩ := ay
  cases e
  rcases b with z | ⟨j, ov, y1, y2, _, y4⟩
  · rw [show (loc B H σ env).H0 p = H p from rfl, a1] at z; cases z
  · exact a2 j ⟨ov, y1, y2, y4⟩
theorem RR.put2 {E : Ent} {B H : Hp} {σ : L2.St} {env : Env} {i j : Nat} {x y : Res} {u v : V} (hij : i ≠ j) (r : RR K E B H σ env) (hx : ResV E B H σ env x u) (hy : ResV E B H σ env y v) (ap : x.ov.owned = true → y.ov.owned = true → u ≠ v) : RR K E B H ((σ.set i (some u)).set j (some v)) ((env.set i (some x.ov)).set j (some y.ov)) := by
  obtain ⟨x1, x2, x3⟩ := hx.ok (K := K)
  obtain ⟨y1, y2, y3⟩ := hy.ok (K := K)
  refine (r.put (i := i) x1 x2 x3).put (i := j) y1 y2 fun w a e => ⟨fun l ⟨ov, w1, w2, w3⟩ => ?_, (y3 w a e).2⟩
  by_cases hl : l = i
  · subst hl
    by_cases hb : l < env.length
    · rw [List.getElem?_set_self hb] at w1
      cases w1
      rw [List.getElem?_set_self (by rw [r.len]; exact hb)] at w3
      cases w3
      exact ap w2 w e.symm
    · rw [List.getElem?_eq_none (by simpa using hb)] at w1; cases w1
  · rw [List.getElem?_set_ne (Ne.symm hl)] at w1 w3
    exact (y3 w a e).1 l ⟨ov, w1, w2, w3⟩
def par2 (i j : Nat) (fa fb : Ev Res) : Es := fun env => (fa env).bind fun p => (fb p.2).bind fun q => some (.nx, (q.2.set i (some p.1.ov)).set j (some q.1.ov))
theorem s_par2 {i j : Nat} {x y : Str} {a b : Expr} {fa fb : Ev Res} {px py pt : Pos} {kt k2 pt2} (hc : X.calm = true) (hN : X.N.Nodup) (hi : X.N[i]? = some x) (hj : X.N[j]? = some y) (hij : i ≠ j)
    (hx : X.env.scope.names.lookup x = some .local) (hy : X.env.scope.names.lookup y = some .local) (ha : PE X a (tR X.K fa)) (hb : PE X b (tR X.K fb))
    (hw : swappedStores [.Tuple [.Name x px, .Name y py] kt pt] (.Tuple [a, b] k2 pt2) X.env = pure (some [x, y]))
    (na : starEach [a, b] X.env = (false, eval a X.env) :: starEach [b] X.env := by rfl) (nb : starEach [b] X.env = (false, eval b X.env) :: starEach [] X.env := by rfl)
    (hs : swapsWithSole [.Tuple [.Name x px, .Name y py] kt pt] (.Tuple [a, b] k2 pt2) pos.line X.env = pure false := by rfl) :
    PS X (.Assign [.Tuple [.Name x px, .Name y py] kt pt] (.Tuple [a, b] k2 pt2) pos) (tS X.K (par2 i j fa fb)) :=
  psImp (ps_par hc hN hi hj hij hx hy (pa_cons ha (pa_cons hb pa_nil nb) na) hw hs) fun D σ H ⟨E, B, env, fl, env', r, ef, k⟩ => by
  obtain ⟨p, e1, ef⟩ := bindS ef
  obtain ⟨q, e2, ef⟩ := bindS ef
  cases ef
  refine ⟨E, B, env, p.1, p.2, r, e1, fun u B1 H1 r1 s1 q1 => ⟨loc B1 H1 σ p.2, B1, p.2, q.1, q.2, r1.loc, e2, fun v B2 H2 r2 s2 q2 => ?_⟩⟩
  refine ⟨u, v, rfl, k _ B2 H2 ((r1.comp r2).put2 hij (q1.hold r1 r2) (q2.out r1) (q1.apart q2)) (s1.tr s2)⟩
/-! ### x += e, x[i] = e, x[i] += e -/
def intAt (env : Env) (i : Nat) : Option Int := match env[i]? with
  | some (some (.fz (.int a))) => some a
  | _ => none
def augS (i : Nat) (op : Int → Int → Int) (f : Ev D) : Es := fun env => (intAt env i).bind fun a => (f env).bind fun p => match p.1 with
  | .int b => some (.nx, p.2.set i (some (.fz (.int (op a b)))))
  | _ => none
theorem s_aug {i : Nat} {x : Str} {op : Operator} {h2 : Int → Int → Int} {pos' : Pos} {f : Ev D} (ho : PIp X op (ipI h2)) (hN : X.N.Nodup) (hi : X.N[i]? = some x) (hx : Loc X.env.scope x) (he : PE X e (tE X.K f))
    (hf : X.fn x = true ∨ X.env.scope.names.lookup x = some .local := by first | exact .inl rfl | exact .inr rfl | assumption) : PS X (.AugAssign (.Name x pos') op e pos) (tS X.K (augS i h2 f)) :=
  psImp (ps_aug hN hi hx he ho hf) fun D σ H ⟨E, B, env, fl, env', r, ef, k⟩ => by
  obtain ⟨a, e0, ef⟩ := bindS ef
  obtain ⟨p, e1, ef⟩ := bindS ef
  have hs : σ[i]? = some (some (.int a)) := by
    unfold intAt at e0
    split at e0
    · rename_i a' ha
      cases e0
      obtain ⟨v, hv, ok⟩ := r.slot i _ ha
      cases (show Rep B v (.int a) from ok)
      exact hv
    · cases e0
  split at ef
  · rename_i b hb
    cases ef
    refine ⟨.int a, hs, E, B, env, p.1, p.2, r, e1, fun v B' H' r' s' z => ?_⟩
    rw [hb] at z
    cases z
    exact ⟨a, b, rfl, rfl, k _ B' H' (r'.put (show OvOk _ _ _ _ (.fz (.int (h2 a b))) from Rep.int _) rfl (fun w => nomatch w)) s'⟩
  · cases ef
def ownAt (env : Env) (i : Nat) : Bool := match env[i]? with
  | some (some ov) => ov.owned
  | _ => false
theorem RR.ownAt {E : Ent} {B H : Hp} {σ : L2.St} {env : Env} {i : Nat} (r : RR K E B H σ env) (h : NS.ownAt env i = true) : ∃ a o, σ[i]? = some (some (.ref a)) ∧ H a = some o := by
  unfold NS.ownAt at h
  split at h
  · rename_i ov hov
    obtain ⟨a, o, h1, h2, _⟩ := r.owns hov h
    exact ⟨a, o, h1, h2⟩
  · cases h
def setS (i : Nat) (fi fe : Ev D) : Es := fun env => (fe env).bind fun p => guardO (ownAt p.2 i) ((fi p.2).bind fun q => match q.2[i]?, q.1 with
  | some (some (.ol io ds)), .int n => (ixN ds.length n).bind fun j => some (.nx, q.2.set i (some (.ol io (ds.set j p.1))))
  | _, _ => none)
theorem s_set {i : Nat} {fi fe : Ev D} (h : PS X st (tAsg (tE X.K fe) (gSub (tVar i) (tE X.K fi) rSetL))) : PS X st (tS X.K (setS i fi fe)) := psImp h fun D σ H ⟨E, B, env, fl, env', r, ef, k⟩ => by
  obtain ⟨p, e1, ef⟩ := bindS ef
  obtain ⟨how, ef⟩ := guardS ef
  obtain ⟨q, e2, ef⟩ := bindS ef
  split at ef
  · rename_i io ds n h1 h2
    obtain ⟨j, e3, ef⟩ := bindS ef
    cases ef
    refine ⟨E, B, env, p.1, p.2, r, e1, fun v B1 H1 r1 s1 z1 => ?_⟩
    obtain ⟨a, o, ha, _⟩ := r1.ownAt how
    refine ⟨.ref a, ha, E, B1, p.2, q.1, q.2, r1, e2, fun u B2 H2 r2 s2 z2 => ?_⟩
    rw [h2] at z2
    cases z2
    obtain ⟨a', o', k1, k2, ⟨vs, rfl, rep⟩, k4⟩ := r2.owns h1 rfl
    rw [ha] at k1
    cases k1
    refine ⟨a, vs, n, j, rfl, rfl, k2, by rw [rep.len]; exact e3, ?_⟩
    exact k σ B2 _ (r2.write h1 rfl ha (ov' := .ol io (ds.set j p.1)) ⟨_, rfl, rep.set j (z1.mono s2)⟩ rfl) (s1.tr s2)
  · cases ef
theorem get_listP : PGet X (rIxL X.K) := by
  intro pins s σ H x y v u Q I rx ry h
  obtain ⟨p, xs, i, z, rfl, rfl, hq, he, q⟩ := h
  cases rx
  obtain ⟨t, rfl⟩ := ry
  obtain ⟨its, r, pl, hz⟩ := I.list hq
  obtain ⟨j, h1, h2, h3, h4, h5⟩ := atI_get he
  obtain ⟨w, ew, rw'⟩ := r.get h2
  have hl := r.length
  have hn := line63
  have fin : EP X pins σ Q w s := ⟨z, H, I, rw', q⟩
  by_cases h0 : 0 ≤ i
  · have hj : i.toNat = j := Option.some.inj ((seqIndex_of h0 h5).symm.trans h1)
    exact wpAny_getItem_list pl.isList h0 (by omega) (by rw [hj]; simpa using ew) fin
  · have hj : (i + (its.toArray.size : Int)).toNat = j := by
      have e := (seqIndex_neg (by omega) h4).symm.trans h1
      rw [List.size_toArray, ← hl]
      exact Option.some.inj e
    exact wpAny_getItem_list_neg pl.isList (by omega) (by rw [List.size_toArray] <;> omega) (by omega) (by rw [hj]; simpa using ew) fin
def augxS (i : Nat) (op : Int → Int → Int) (fi fe : Ev D) : Es := fun env => guardO (ownAt env i) ((fi env).bind fun q => match q.2[i]?, q.1 with
  | some (some (.ol _ ds)), .int n => (ixN ds.length n).bind fun j => match ds[j]? with
    | some (.int a) => (fe q.2).bind fun p => match p.2[i]?, p.1 with
      | some (some (.ol io ds')), .int b => guardO (decide (ds'.length = ds.length)) (some (.nx, p.2.set i (some (.ol io (ds'.set j (.int (op a b)))))))
      | _, _ => none
    | _ => none
  | _, _ => none)
theorem s_augx {i : Nat} {x : Str} {op : Operator} {h2 : Int → Int → Int} {pos' tpos : Pos} {ie : Expr} {fi fe : Ev D} (hp : PIp X op (ipI h2)) (ho : PE X (.Name x pos') (tVar i)) (hi : PE X ie (tE X.K fi)) (he : PE X e (tE X.K fe))
    (ha : ∀ ov iv new, augStore ie ov iv new = (do holding [new, ov, iv] (setItem ov iv new); release [new, ov, iv] []; pure .next) := by intros; rfl) :
    PS X (.AugAssign (.Subscript (.Name x pos') ie tpos) op e pos) (tS X.K (augxS i h2 fi fe)) := psImp (ps_augS ho hi get_listP he hp set_list ha) fun D σ H ⟨E, B, env, fl, env', r, ef, k⟩ => by
  obtain ⟨how, ef⟩ := guardS ef
  obtain ⟨q, e1, ef⟩ := bindS ef
  split at ef
  · rename_i io0 ds n g1 g2
    obtain ⟨j, e3, ef⟩ := bindS ef
    split at ef
    · rename_i a hd
      obtain ⟨p, e4, ef⟩ := bindS ef
      split at ef
      · rename_i io ds' b g3 g4
        obtain ⟨hl, ef⟩ := guardS ef
        cases ef
        obtain ⟨c, o, hc, _⟩ := r.ownAt how
        refine ⟨.ref c, hc, E, B, env, q.1, q.2, r, e1, fun u B1 H1 r1 s1 z1 => ?_⟩
        rw [g2] at z1
        cases z1
        obtain ⟨c', o', k1, k2, ⟨vs, rfl, rep⟩, k4⟩ := r1.owns g1 rfl
        rw [hc] at k1
        cases k1
        obtain ⟨w, hw, rw'⟩ := rep.get hd
        cases rw'
        have hix : atI vs n = some (V.int a) := by
          unfold atI
          rw [rep.len, e3]
          exact hw
        refine ⟨c, vs, n, V.int a, rfl, rfl, SqL.of k2, hix, E, B1, q.2, p.1, p.2, r1, e4, fun v B2 H2 r2 s2 z2 => ?_⟩
        rw [g4] at z2
        cases z2
        obtain ⟨c', o', k1, k2, ⟨vs', rfl, rep'⟩, k4⟩ := r2.owns g3 rfl
        rw [hc] at k1
        cases k1
        refine ⟨a, b, rfl, rfl, c, vs', n, j, rfl, rfl, k2, by rw [rep'.len, of_decide_eq_true hl]; exact e3, ?_⟩
        exact k σ B2 _ (r2.write g3 rfl hc (ov' := .ol io (ds'.set j (.int (h2 a b)))) ⟨_, rfl, rep'.set j (.int _)⟩ rfl) (s1.tr s2)
      · cases ef
    · cases ef
  · cases ef
/-! ### x.append(e), x.extend(e), a dropped value -/
def appS (i : Nat) (f : Ev D) : Es := fun env => guardO (ownAt env i) ((f env).bind fun p => match env[i]?, p.2[i]? with
  | some (some (.ol _ _)), some (some (.ol io ds)) => guardO (decide (ds.length < 1000000)) (some (.nx, p.2.set i (some (.ol io (ds ++ [p.1])))))
  | _, _ => none)
theorem s_app {i : Nat} {x : Str} {pos' apos cpos : Pos} {f : Ev D} (ho : PE X (.Name x pos') (tVar i)) (he : PE X e (tE X.K f))
    (hbase : attributeBase (.Name x pos') "append" X.env (eval (.Name x pos') X.env) = eval (.Name x pos') X.env := by rfl)
    (hfew : ((backTo cpos (starEach [e] X.env)).all (fun x => !x.1) && (backToKw cpos (keywordEach [] X.env)).all (fun x => x.1.isSome)
      && decide (([e] : List Expr).length + ([] : List Keyword).length + (if ([] : List Keyword).isEmpty then 0 else 1) < 30)) = true := by rfl)
    (hline : (apos.endLine == cpos.line) = true := by rfl) (hs : starEach [e] X.env = (false, eval e X.env) :: starEach [] X.env := by rfl) (hplain : (backTo cpos (starEach [] X.env)).any (·.1) = false := by rfl)
    (hsw : swapsWith (.Call (.Attribute (.Name x pos') "append" apos) [e] [] cpos) none pos.line X.env = pure false := by rfl) :
    PS X (.Expr (.Call (.Attribute (.Name x pos') "append" apos) [e] [] cpos) pos) (tS X.K (appS i f)) :=
  psImp (ps_expr (pe_bm PySem.F.plainAttrs_list PySem.F.slot_list_append PySem.F.type_list_append mt_append ho (pa_cons he pa_nil hs) hbase hfew hline hs hplain) hsw) fun D σ H ⟨E, B, env, fl, env', r, ef, k⟩ => by
  obtain ⟨how, ef⟩ := guardS ef
  obtain ⟨p, e1, ef⟩ := bindS ef
  split at ef
  · rename_i io0 ds0 io ds g0 g1
    obtain ⟨hl, ef⟩ := guardS ef
    cases ef
    obtain ⟨a, o, h1, h2, ⟨vs0, rfl, rep0⟩, h4⟩ := r.owns g0 rfl
    refine ⟨.ref a, h1, .inl ⟨rfl, vs0, SqL.of h2⟩, E, B, env, p.1, p.2, r, e1, fun v B' H' r' s' z => ?_⟩
    obtain ⟨a', o', k1, k2, ⟨vs, rfl, rep⟩, k4⟩ := r'.owns g1 rfl
    rw [h1] at k1
    cases k1
    refine ⟨a, vs, v, rfl, rfl, k2, by rw [rep.len]; exact lcLine (of_decide_eq_true hl), ?_⟩
    exact k σ B' _ (r'.write g1 rfl h1 (ov' := .ol io (ds ++ [p.1])) ⟨_, rfl, rep.app (.one z)⟩ rfl) s'
  · cases ef
/-- extend by a list or a tuple -/
def rExt (K : PySem.W.Frag) : V → List V → Hp → VK → Prop := fun x vs H Q => ∃ l b xs zs, x = .ref l ∧ vs = [.ref b] ∧ H l = some (.lst xs) ∧ (H b = some (.lst zs) ∨ H b = some (.tup zs)) ∧ xs.length + zs.length ≤ sizeLine ∧ Q .non (upd H l (.lst (xs ++ zs)))
theorem ext_tup (l : Addr) (items : Array Value) (n : Nat) (b : Addr) (items2 : Array Value) (n2 : Nat) (dd : Option Addr) (sl : Array (Option Value)) (hs0 : ¬(!items.isEmpty && Builtin.List.listTooLong (items.size + items2.size)) = true) (hs1 : items.size ≤ sizeLine) (hs2 : items.size + items2.size ≤ sizeLine + 1) :
    Meets (Builtin.«list.extend» ⟨[.ref l, .ref b], []⟩) (fun _ R s => s.heap.get? l = some { cls := .type "list", dict := none, data := .seq items n, slots := #[] } ∧ s.heap.get? b = some { cls := .type "tuple", dict := dd, data := .seq items2 n2, slots := sl } ∧ R (.ok (.ret Value.none)) { s with heap := s.heap.update l (Obj.mapSeq fun x => x ++ items2), toks := s.toks }) :=
  .of_wp fun prog w A R s h => by
    obtain ⟨hp, g, d, tk, os⟩ := s; obtain ⟨hl, hb, h⟩ := h; have f4 := sub_tuple_list
    have hz' : (items ++ items2).size ≤ sizeLine + 1 := by rw [Array.size_append]; exact hs2
    wp_walk using (wpAny_updateSeq hl rfl (hz := hs1) (_hz' := hz')), wpAny_loadPart' hl, wpAny_loadPart' hb; exact ⟨_, rfl, h⟩
theorem mt_ext : MtM X "list.extend" (rExt X.K) := by
  intro pins s σ H x vs v us Q I rx rv h
  obtain ⟨l, b, xs, zs, rfl, rfl, hH, hB, hz, q⟩ := h
  rcases hB with hB | hB
  · exact mt_extend pins s σ H _ _ v us Q I rx rv ⟨l, b, xs, zs, rfl, rfl, hH, hB, hz, q⟩
  · cases rx
    obtain ⟨u, rfl, ru⟩ := rv.one
    cases ru
    obtain ⟨z, its, n, r, hl, e⟩ := I.lstM hH
    obtain ⟨z2, its2, r2, ob, e2, hc2, n2, hd2⟩ := I.hok b _ hB
    obtain ⟨cls2, dd, data2, sl2⟩ := ob
    cases hc2
    cases hd2
    have hl2 := r2.length
    have hsz : its.toArray.size + its2.toArray.size ≤ sizeLine := by rw [List.size_toArray, List.size_toArray]; omega
    have hlong : ¬ (!its.toArray.isEmpty && Builtin.List.listTooLong (its.toArray.size + its2.toArray.size)) = true := by
      rw [notLongL hsz, Bool.and_false]
      exact Bool.false_ne_true
    refine call_meets PySem.F.slot_list_extend ⟨_, e, rfl⟩ PySem.F.entry_list_extend (PySem.F.args_list_extend_2 _ _)
      (ext_tup l its.toArray n b its2.toArray n2 dd sl2 hlong (by rw [List.size_toArray]; omega) (by omega)) ⟨e, e2, ?_⟩
    refine ⟨.non, _, I.lset (its' := its ++ its2) hH e (by simp) (r.append r2) ?_, rfl, q⟩
    rw [List.length_append]
    omega
end
end NS

set_option Elab.async false
set_option linter.all false
set_option maxRecDepth 100000
set_option maxHeartbeats 4000000
/-! NsH: more statements, and a def of the text by its evaluator. -/
namespace NS
open PySem L2 PyProof.Rows
section
variable {X : Cx} {st : Stmt} {rest : List Stmt} {e : Expr} {pos : Pos} {K : PySem.W.Frag}
def extS (i : Nat) (f : Ev D) : Es := fun env => guardO (ownAt env i) ((f env).bind fun p => match env[i]?, p.2[i]?, p.1 with
  | some (some (.ol _ _)), some (some (.ol io ds)), .list es => guardO (decide (ds.length + es.length ≤ 1000000)) (some (.nx, p.2.set i (some (.ol io (ds ++ es)))))
  | some (some (.ol _ _)), some (some (.ol io ds)), .tuple es => guardO (decide (ds.length + es.length ≤ 1000000)) (some (.nx, p.2.set i (some (.ol io (ds ++ es)))))
  | _, _, _ => none)
theorem line6 {n : Nat} (h : n ≤ 1000000) : n ≤ sizeLine := by rw [sizeLine_eq]; omega
theorem s_ext {i : Nat} {f : Ev D} (h : PS X st (tDrop (tBM X.K "list" (rExt X.K) (tVar i) (tCons (tE X.K f) tNil)))) : PS X st (tS X.K (extS i f)) := psImp h fun D σ H ⟨E, B, env, fl, env', r, ef, k⟩ => by
  obtain ⟨how, ef⟩ := guardS ef
  obtain ⟨p, e1, ef⟩ := bindS ef
  split at ef
  · rename_i io0 ds0 io ds es g0 g1 g2
    obtain ⟨hl, ef⟩ := guardS ef
    cases ef
    obtain ⟨a, o, h1, h2, ⟨vs0, rfl, rep0⟩, h4⟩ := r.owns g0 rfl
    refine ⟨.ref a, h1, .inl ⟨rfl, vs0, SqL.of h2⟩, E, B, env, p.1, p.2, r, e1, fun v B' H' r' s' z => ?_⟩
    rw [g2] at z
    obtain ⟨a', o', k1, k2, ⟨vs, rfl, rep⟩, k4⟩ := r'.owns g1 rfl
    rw [h1] at k1
    cases k1
    cases z with
    | lst z1 z2 =>
      rename_i b us
      exact ⟨a, b, vs, us, rfl, rfl, k2, .inl (r'.bh _ _ z1), by rw [rep.len, z2.len]; exact line6 (of_decide_eq_true hl), k σ B' _ (r'.write g1 rfl h1 (ov' := .ol io (ds ++ es)) ⟨_, rfl, rep.app z2⟩ rfl) s'⟩
  · rename_i io0 ds0 io ds es g0 g1 g2
    obtain ⟨hl, ef⟩ := guardS ef
    cases ef
    obtain ⟨a, o, h1, h2, ⟨vs0, rfl, rep0⟩, h4⟩ := r.owns g0 rfl
    refine ⟨.ref a, h1, .inl ⟨rfl, vs0, SqL.of h2⟩, E, B, env, p.1, p.2, r, e1, fun v B' H' r' s' z => ?_⟩
    rw [g2] at z
    obtain ⟨a', o', k1, k2, ⟨vs, rfl, rep⟩, k4⟩ := r'.owns g1 rfl
    rw [h1] at k1
    cases k1
    cases z with
    | tup z1 z2 =>
      rename_i b us
      exact ⟨a, b, vs, us, rfl, rfl, k2, .inr (r'.bh _ _ z1), by rw [rep.len, z2.len]; exact line6 (of_decide_eq_true hl), k σ B' _ (r'.write g1 rfl h1 (ov' := .ol io (ds ++ es)) ⟨_, rfl, rep.app z2⟩ rfl) s'⟩
  · cases ef
def dropS (f : Ev Res) : Es := fun env => (f env).bind fun p => some (.nx, p.2)
theorem s_drop {f : Ev Res} (he : PE X e (tR X.K f)) (hs : swapsWith e none pos.line X.env = pure false := by rfl) : PS X (.Expr e pos) (tS X.K (dropS f)) := psImp (ps_expr he hs) fun D σ H ⟨E, B, env, fl, env', r, ef, k⟩ => by
  obtain ⟨p, e1, ef⟩ := bindS ef
  cases ef
  exact ⟨E, B, env, p.1, p.2, r, e1, fun v B' H' r' s' z => k σ B' H' r' s'⟩
/-! ### if, for, while, return -/
def ifS (c : Ev Bool) (f g : Es) : Es := fun env => (c env).bind fun p => if p.1 = true then f p.2 else g p.2
theorem s_if {c : Expr} {a b : List Stmt} {fc : Ev Bool} {f g : Es} (hc : PT X c (tT X.K fc)) (ha : PSs X a (tS X.K f)) (hb : PSs X b (tS X.K g)) : PS X (.If c a b pos) (tS X.K (ifS fc f g)) := psImp (ps_if hc ha hb) fun D σ H ⟨E, B, env, fl, env', r, ef, k⟩ => by
  obtain ⟨p, e1, ef⟩ := bindS ef
  refine ⟨E, B, env, p.1, p.2, r, e1, fun B1 H1 r1 s1 => ?_⟩
  split at ef
  · rename_i hp
    rw [if_pos hp]
    refine ⟨E, B1, p.2, fl, env', r1, ef, ?_⟩
    cases fl with
    | nx => exact fun σ' B' H' r' s' => k σ' B' H' r' (s1.tr s')
    | bk => exact fun σ' B' H' r' s' => k σ' B' H' r' (s1.tr s')
    | ct => exact fun σ' B' H' r' s' => k σ' B' H' r' (s1.tr s')
    | rt x => exact fun v σ' B' H' r' s' q => k v σ' B' H' r' (s1.tr s') q
  · rename_i hp
    rw [if_neg hp]
    refine ⟨E, B1, p.2, fl, env', r1, ef, ?_⟩
    cases fl with
    | nx => exact fun σ' B' H' r' s' => k σ' B' H' r' (s1.tr s')
    | bk => exact fun σ' B' H' r' s' => k σ' B' H' r' (s1.tr s')
    | ct => exact fun σ' B' H' r' s' => k σ' B' H' r' (s1.tr s')
    | rt x => exact fun v σ' B' H' r' s' q => k v σ' B' H' r' (s1.tr s') q
def forGo (tg : Tg) (body : Es) : List D → Es
  | [], env => some (.nx, env)
  | d :: ds, env => (tgE tg d env).bind fun e1 => (body e1).bind fun p => match p.1 with
    | .nx => forGo tg body ds p.2
    | .ct => forGo tg body ds p.2
    | .bk => some (.nx, p.2)
    | .rt r => some (.rt r, p.2)
def forS (it : Ev (List D)) (tg : Tg) (body : Es) : Es := fun env => (it env).bind fun p => forGo tg body p.1 p.2
theorem s_for {tge iter : Expr} {body : List Stmt} {it : Ev (List D)} {tg : Tg} {fb : Es} (hp : PassesOwn (model X.prog X.w) X.A X.env X.xe) (hc : X.calm = true) (hi : PI X tge iter (tIt X.K it)) (hg : PG X tge (tgT X.K tg)) (hb : PSs X body (tS X.K fb))
    (hs : ∀ x, foldedSetIterable iter X.env x = pure x := by intro _; rfl) : PS X (.For tge iter body [] pos) (tS X.K (forS it tg fb)) := psImp (ps_for hp hc hi hg hb hs) fun D σ H ⟨E, B, env, fl, env', r, ef, k⟩ => by
  obtain ⟨p, e1, ef⟩ := bindS ef
  refine ⟨E, B, env, p.1, p.2, r, e1, fun J B1 H1 r1 s1 hJ => ?_⟩
  refine ⟨fun i m σ2 H2 => m = p.1.length - i ∧ i ≤ p.1.length ∧ ∃ B2 env2, RR X.K E B2 H2 σ2 env2 ∧ Sub B1 B2 ∧ forGo tg fb (p.1.drop i) env2 = some (fl, env'), ⟨p.1.length, by simp, Nat.zero_le _, B1, p.2, r1, Sub.rfl', ef⟩, ?_⟩
  rintro i m σ2 H2 ⟨rfl, hi, B2, env2, r2, s2, eg⟩
  have ext := hJ i B2 H2 s2 r2.bh
  by_cases hlt : i < p.1.length
  · obtain ⟨d, hd⟩ : ∃ d, p.1[i]? = some d := ⟨_, List.getElem?_eq_getElem hlt⟩
    have hdr : p.1.drop i = d :: p.1.drop (i + 1) := by
      rw [List.drop_eq_getElem_cons hlt]
      rw [List.getElem?_eq_getElem hlt] at hd
      cases hd
      rfl
    rw [hdr] at eg
    obtain ⟨go, yl⟩ := ext.1 d hd
    refine .inr ⟨go, fun σ' H' => i + 1 ≤ p.1.length ∧ ∃ B2 env2, RR X.K E B2 H' σ' env2 ∧ Sub B1 B2 ∧ forGo tg fb (p.1.drop (i + 1)) env2 = some (fl, env'), fun σ' H' w => ⟨p.1.length - (i + 1), by omega, rfl, w⟩, fun x H' hy => ?_⟩
    obtain ⟨B4, g4, rx⟩ := yl x H' hy
    obtain ⟨ea, t1, eg⟩ := bindS (show (tgE tg d env2).bind _ = _ from eg)
    obtain ⟨q, t2, eg⟩ := bindS eg
    refine tgI _ tg d x σ2 env2 ea _ (r2.grow g4) rx t1 fun σ5 r5 kp => ?_
    refine ⟨E, B4, ea, q.1, q.2, r5, t2, ?_⟩
    have s4 : Sub B1 B4 := s2.tr g4.bb
    split at eg
    · rename_i hq
      rw [hq]
      exact fun σ' B' H' r' s' => ⟨hlt, B', q.2, r', s4.tr s', eg⟩
    · rename_i hq
      rw [hq]
      exact fun σ' B' H' r' s' => ⟨hlt, B', q.2, r', s4.tr s', eg⟩
    · rename_i hq
      rw [hq]
      cases eg
      exact fun σ' B' H' r' s' => k σ' B' H' r' (s1.tr (s4.tr s'))
    · rename_i rr hq
      rw [hq]
      cases eg
      exact fun v σ' B' H' r' s' z => k v σ' B' H' r' (s1.tr (s4.tr s')) z
  · have hie : i = p.1.length := by omega
    subst hie
    rw [List.drop_length] at eg
    cases (show some (Fl.nx, env2) = some (fl, env') from eg)
    exact .inl ⟨ext.2 (Nat.le_refl _), k σ2 B2 H2 r2 (s1.tr s2)⟩
def whGo (c : Ev Bool) (body : Es) : Nat → Es
  | 0, _ => none
  | n + 1, env => (c env).bind fun p => if p.1 = true then (body p.2).bind fun q => match q.1 with
    | .nx => whGo c body n q.2
    | .ct => whGo c body n q.2
    | .bk => some (.nx, q.2)
    | .rt r => some (.rt r, q.2) else some (.nx, p.2)
theorem s_while {c : Expr} {body : List Stmt} {fc : Ev Bool} {fb : Es} (n : Nat) (hp : PassesOwn (model X.prog X.w) X.A X.env X.xe) (hc : PT X c (tT X.K fc)) (hb : PSs X body (tS X.K fb)) : PS X (.While c body [] pos) (tS X.K (whGo fc fb n)) :=
  psImp (ps_while hp hc hb) fun D σ H ⟨E, B, env, fl, env', r, ef, k⟩ => by
  refine ⟨fun m σ2 H2 => ∃ B2 env2, RR X.K E B2 H2 σ2 env2 ∧ Sub B B2 ∧ whGo fc fb m env2 = some (fl, env'), ⟨n, B, env, r, Sub.rfl', ef⟩, ?_⟩
  rintro m σ2 H2 ⟨B2, env2, r2, s2, eg⟩
  cases m with
  | zero => cases eg
  | succ m =>
    obtain ⟨p, t1, eg⟩ := bindS (show (fc env2).bind _ = _ from eg)
    refine ⟨E, B2, env2, p.1, p.2, r2, t1, fun B3 H3 r3 s3 => ?_⟩
    split at eg
    · rename_i hpp
      rw [if_pos hpp]
      obtain ⟨q, t2, eg⟩ := bindS eg
      refine ⟨fun σ' H' => ∃ B2 env2, RR X.K E B2 H' σ' env2 ∧ Sub B B2 ∧ whGo fc fb m env2 = some (fl, env'), fun σ' H' w => ⟨m, Nat.lt_succ_self m, w⟩, E, B3, p.2, q.1, q.2, r3, t2, ?_⟩
      have s4 : Sub B B3 := s2.tr s3
      split at eg
      · rename_i hq
        rw [hq]
        exact fun σ' B' H' r' s' => ⟨B', q.2, r', s4.tr s', eg⟩
      · rename_i hq
        rw [hq]
        exact fun σ' B' H' r' s' => ⟨B', q.2, r', s4.tr s', eg⟩
      · rename_i hq
        rw [hq]
        cases eg
        exact fun σ' B' H' r' s' => k σ' B' H' r' (s4.tr s')
      · rename_i rr hq
        rw [hq]
        cases eg
        exact fun v σ' B' H' r' s' z => k v σ' B' H' r' (s4.tr s') z
    · rename_i hpp
      rw [if_neg hpp]
      cases eg
      exact k σ2 B3 H3 r3 (s2.tr s3)
def brkS : Es := fun env => some (.bk, env)
def cntS : Es := fun env => some (.ct, env)
theorem s_break : PS X (.Break pos) (tS X.K brkS) := psImp ps_break fun D σ H ⟨E, B, env, fl, env', r, ef, k⟩ => by
  cases ef
  exact k σ B H r Sub.rfl'
theorem s_continue : PS X (.Continue pos) (tS X.K cntS) := psImp ps_continue fun D σ H ⟨E, B, env, fl, env', r, ef, k⟩ => by
  cases ef
  exact k σ B H r Sub.rfl'
def retS (f : Ev Res) : Es := fun env => (f env).bind fun p => some (.rt p.1, p.2)
theorem s_ret {f : Ev Res} (he : PE X e (tR X.K f)) : PS X (.Return (some e) pos) (tS X.K (retS f)) := psImp (ps_ret he) fun D σ H ⟨E, B, env, fl, env', r, ef, k⟩ => by
  obtain ⟨p, e1, ef⟩ := bindS ef
  cases ef
  exact ⟨E, B, env, p.1, p.2, r, e1, fun v B' H' r' s' z => k v σ B' H' r' s' z⟩
/-- a name whose thing leaves the frame -/
def takeR (i : Nat) : Ev Res := fun env => match env[i]? with
  | some (some (.fz d)) => some (.d d, env)
  | some (some (.ol false ds)) => some (.l ds, env.set i none)
  | some (some (.od false ds)) => some (.k ds, env.set i none)
  | some (some (.ot false ds)) => some (.t ds, env.set i none)
  | _ => none
theorem RR.take {E : Ent} {B H : Hp} {σ : L2.St} {env : Env} {i : Nat} {x : Res} (r : RR K E B H σ env) (h : env[i]? = some (some x.ov)) (w : x.ov.owned = true) (hio : x.ov.io = false) : ∃ v, σ[i]? = some (some v) ∧ RR K E B H σ (env.set i none) ∧ ResV E B H σ (env.set i none) x v := by
  obtain ⟨a, o, h1, h2, h3, h4⟩ := r.owns h w
  have look : ∀ (j : Nat) (ov : OV), (env.set i none)[j]? = some (some ov) → j ≠ i ∧ env[j]? = some (some ov) := fun j ov e => by
    by_cases hj : j = i
    · subst hj
      by_cases hl : j < env.length
      · rw [List.getElem?_set_self hl] at e; cases e
      · rw [List.getElem?_eq_none (by simpa using hl)] at e; cases e
    · rw [List.getElem?_set_ne (Ne.symm hj)] at e
      exact ⟨hj, e⟩
  refine ⟨.ref a, h1, r.less (by simpa using r.len) fun j ov e => ⟨(look j ov e).2, rfl⟩, ?_⟩
  have own : ∃ p o, V.ref a = .ref p ∧ H p = some o ∧ OwnO B x.ov o ∧ B p = none ∧ (∀ j, ¬ Own σ (env.set i none) j p) ∧ (E.H0 p = none ∨ E.Z p) := by
    refine ⟨a, o, rfl, h2, h3, h4, fun j ⟨ov, w1, w2, w3⟩ => ?_, r.ownz i a _ h w hio h1⟩
    obtain ⟨hj, e⟩ := look j ov w1
    exact hj (r.inj j i a ⟨ov, e, w2, w3⟩ ⟨_, h, w, h1⟩)
  cases x with
  | d d => cases w
  | l ds => exact own
  | k ds => exact own
  | t ds => exact own
theorem e_take {i : Nat} (h : PE X e (tVar i)) : PE X e (tR X.K (takeR i)) := peImp h fun σ H Q ⟨E, B, env, x, env', r, ef, k⟩ => by
  unfold takeR at ef
  split at ef
  · rename_i d hd
    cases ef
    obtain ⟨v, hv, ok⟩ := r.slot i _ hd
    exact ⟨v, hv, k v B H r Sub.rfl' ok⟩
  · rename_i ds hd
    cases ef
    obtain ⟨v, hv, r', rv⟩ := r.take (x := .l ds) hd rfl rfl
    exact ⟨v, hv, k v B H r' Sub.rfl' rv⟩
  · rename_i ds hd
    cases ef
    obtain ⟨v, hv, r', rv⟩ := r.take (x := .k ds) hd rfl rfl
    exact ⟨v, hv, k v B H r' Sub.rfl' rv⟩
  · rename_i ds hd
    cases ef
    obtain ⟨v, hv, r', rv⟩ := r.take (x := .t ds) hd rfl rfl
    exact ⟨v, hv, k v B H r' Sub.rfl' rv⟩
  · cases ef
end

/-! ### a def by its body's evaluator -/
def argOv : Opd → Option OV
  | .v d => some (.fz d)
  | .s ns => some (.scr ns)
  | .r _ => none
def envOf (n : Nat) (avs : List Opd) : Env := avs.map argOv ++ List.replicate (n - avs.length) none
def resOfFl : Fl → Option Res
  | .nx => some (.d .none)
  | .rt r => some r
  | _ => none
/-- the def's value: n slots, the arguments first -/
def runT (n : Nat) (body : Es) (avs : List Opd) : Option Res := (body (envOf n avs)).bind fun p => resOfFl p.1
theorem start_get {N : List Str} {vs : List V} {i : Nat} {v : V} (h : (L2.start N vs)[i]? = some (some v)) : vs[i]? = some v := by
  unfold L2.start at h
  by_cases hi : i < vs.length
  · rw [List.getElem?_append_left (by simpa using hi), List.getElem?_map] at h
    cases e : vs[i]? with
    | none => rw [e] at h; cases h
    | some a => rw [e] at h; cases h; rfl
  · rw [List.getElem?_append_right (by simpa using hi), List.getElem?_replicate] at h
    split at h <;> cases h
theorem start_of {N : List Str} {vs : List V} {i : Nat} {v : V} (h : vs[i]? = some v) : (L2.start N vs)[i]? = some (some v) := by
  have hi : i < vs.length := (List.getElem?_eq_some_iff.mp h).1
  unfold L2.start
  rw [List.getElem?_append_left (by simpa using hi), List.getElem?_map, h]
  rfl
theorem envOf_get {n : Nat} {avs : List Opd} {i : Nat} {ov : OV} (h : (envOf n avs)[i]? = some (some ov)) : ∃ a, avs[i]? = some a ∧ argOv a = some ov := by
  unfold envOf at h
  by_cases hi : i < avs.length
  · rw [List.getElem?_append_left (by simpa using hi), List.getElem?_map] at h
    cases e : avs[i]? with
    | none => rw [e] at h; cases h
    | some a =>
      rw [e] at h
      exact ⟨a, rfl, Option.some.inj h⟩
  · rw [List.getElem?_append_right (by simpa using hi), List.getElem?_replicate] at h
    split at h <;> cases h
theorem opvs_get {K : PySem.W.Frag} {B : Hp} {σ : L2.St} : ∀ {xs : List Opd} {us : List V} {i : Nat} {a : Opd}, OpVs K B σ xs us → xs[i]? = some a → ∃ u, us[i]? = some u ∧ OpV K B σ a u
  | [], _, _, _, _, e => by simp at e
  | x :: xs, _, 0, a, ⟨u, r, e0, h, k⟩, e => by subst e0; simp at e; subst e; exact ⟨u, rfl, h⟩
  | x :: xs, _, i + 1, a, ⟨u, r, e0, h, k⟩, e => by
    subst e0
    obtain ⟨u', h1, h2⟩ := opvs_get (i := i) (a := a) k (by simpa using e)
    exact ⟨u', by simpa using h1, h2⟩
theorem argOv_plain {a : Opd} {ov : OV} (h : argOv a = some ov) : ov.owned = false ∧ ov.io = false := by
  cases a with
  | v d => cases h; exact ⟨rfl, rfl⟩
  | s ns => cases h; exact ⟨rfl, rfl⟩
  | r i => cases h
/-- the entry of a def of trees -/
def entT (H B : Hp) (σ : L2.St) : Ent := { H0 := H, B0 := B, I := fun _ => False, Z := fun _ => False, s0 := σ, J := fun _ => False }
theorem rrT {K : PySem.W.Frag} {B H : Hp} {N : List Str} {avs : List Opd} {vs : List V} (s : Sub B H) (tb : TabsK K B H) (hl : avs.length ≤ N.length) (h : OpVs K B [] avs vs) : RR K (entT H B (L2.start N vs)) B H (L2.start N vs) (envOf N.length avs) := by
  have hvl := opvs_len h
  have plain : ∀ (i : Nat) (ov : OV), (envOf N.length avs)[i]? = some (some ov) → ov.owned = false ∧ ov.io = false := fun i ov e => by
    obtain ⟨a, _, e2⟩ := envOf_get e
    exact argOv_plain e2
  refine ⟨s, Sub.rfl', fun _ z => z, fun _ _ e _ _ => e, tb, fun _ e => e, fun _ _ e => .inl e, ?_, fun i ov e => ?_, fun i a ⟨ov, e, w, _⟩ => ?_, fun i a ov e w _ _ => ?_, fun i j a ⟨ov, e, w, _⟩ _ => ?_, fun i ov e w => ?_⟩
  · unfold L2.start envOf
    simp [hvl]
  · obtain ⟨a, e1, e2⟩ := envOf_get e
    obtain ⟨u, h1, h2⟩ := opvs_get h e1
    refine ⟨u, start_of h1, ?_⟩
    cases a with
    | v d => cases e2; exact h2
    | s ns => cases e2; exact h2
    | r i => cases e2
  · rw [(plain i ov e).1] at w; cases w
  · rw [(plain i ov e).1] at w; cases w
  · rw [(plain i ov e).1] at w; cases w
  · rw [(plain i ov e).2] at w; cases w
theorem ResV.newT {H B0 B' H' : Hp} {σ0 σ : L2.St} {env : Env} {x : Res} {u : V} (h : ResV (entT H B0 σ0) B' H' σ env x u) : NewV B0 H H' B' x u := by
  have own : (∃ p o, u = .ref p ∧ H' p = some o ∧ OwnO B' x.ov o ∧ B' p = none ∧ (∀ j, ¬ Own σ env j p) ∧ ((entT H B0 σ0).H0 p = none ∨ (entT H B0 σ0).Z p)) → ∃ p o, u = .ref p ∧ H p = none ∧ H' p = some o ∧ OwnO B' x.ov o ∧ B' p = none := by
    rintro ⟨p, o, rfl, h1, h2, h3, _, h5⟩
    rcases h5 with z | z
    · exact ⟨p, o, rfl, z, h1, h2, h3⟩
    · exact False.elim z
  cases x with
  | d d => exact h
  | l ds => exact own h
  | k ds => exact own h
  | t ds => exact own h
theorem RR.growT {K : PySem.W.Frag} {H B0 B' H' : Hp} {σ0 σ : L2.St} {env : Env} (r : RR K (entT H B0 σ0) B' H' σ env) : GrowC K B0 H B' H' :=
  ⟨r.b0, fun a o e nt => r.keep a o e (fun z => z) nt, r.there, r.bh, fun a o e => by
    rcases r.new a o e with z | z | z
    · exact .inl z
    · exact .inr z
    · exact False.elim z, r.tb⟩
section
variable {P : Program} {w : World} {K : PySem.W.Frag} {mg : Str → Option Value} {base : Heap}
/-- the promise of a def of trees, from its body's value -/
theorem okT_at {N ps : List Str} {body : Es} {vs : List V} {H : Hp} {Q : VK} {E : XK} (hnl : ps.length ≤ N.length) (hsp : spT K ps.length (runT N.length body) vs H Q E) : tS K body { nx := fun _ H' => Q .non H', rt := Q } (L2.start N vs) H := by
  obtain ⟨B, avs, res, s0, tb, hn, hl, ho, hg2, kk⟩ := hsp
  obtain ⟨p, e1, e2⟩ := bindS hg2
  refine ⟨entT H B (L2.start N vs), B, envOf N.length avs, p.1, p.2, rrT s0 tb (by omega) ho, e1, ?_⟩
  cases hp : p.1 with
  | nx =>
    rw [hp] at e2
    cases e2
    exact fun σ' B' H' r' s' => kk .non B' H' r'.growT (show Rep _ _ _ from .non)
  | bk => rw [hp] at e2; cases e2
  | ct => rw [hp] at e2; cases e2
  | rt r =>
    rw [hp] at e2
    cases e2
    exact fun v σ' B' H' r' s' z => kk v B' H' r'.growT z.newT
theorem okT {x qual : Str} {st : Stmt} {f : Addr} {fd : FuncData} {N ps : List Str} {k : Nat} {body : Es} (F : L2.Fun K x qual st f fd) (S : FnScope N ps (defScope st)) (hnl : ps.length ≤ N.length)
    (hb : ∀ (cdv : Value) (A : Around) (outer : List PySem.Env) (s : Shared) (H : Hp) (E : XK), A.guards = some [] → Room k (A.deeper (envOfC qual (defScope st) s.heap.objs.size f cdv)) →
      PSs (cxOf CX0 P w K mg base N qual (defScope st) f cdv A outer s H E).nox (defBody st) (tS K body)) : FnG P w K mg base CX0 (k + 1) f fd ps (spT K ps.length (runT N.length body)) := by
  refine Fun.okG F S spT_len fun cdv A outer s H vs Q E hg hr hsp => ⟨_, hb cdv A outer s H E hg hr, ?_⟩
  exact okT_at hnl hsp
end
end NS

set_option Elab.async false
set_option linter.all false
set_option maxRecDepth 100000
set_option maxHeartbeats 4000000
/-! NsI: a def whose first argument is lent. -/
namespace NS
open PySem L2 PyProof.Rows
def runU (n : Nat) (body : Es) (ov : OV) (avs : List Opd) : Option (Res × OV) := (body (some (ov.setIo true) :: envOf (n - 1) avs)).bind fun p => (resOfFl p.1).bind fun r => match p.2[0]? with
  | some (some ov') => guardO (ov'.owned && ov'.io) (some (r, ov'.setIo false))
  | _ => none
def entU (H B : Hp) (σ : L2.St) (a : Addr) : Ent := { H0 := H, B0 := B, I := fun b => b = a, Z := fun _ => False, s0 := σ, J := fun i => i = 0 }
theorem rrU {K : PySem.W.Frag} {B H : Hp} {N : List Str} {avs : List Opd} {rest : List V} {a : Addr} {o : HO} {ov : OV} (s : Sub B H) (ha : H a = some o) (hov : OwnO B ov o) (hb : B a = none) (hl : avs.length + 1 ≤ N.length) (h : OpVs K B [] avs rest) (tb : TabsK K B H) :
    RR K (entU H B (L2.start N (.ref a :: rest)) a) B H (L2.start N (.ref a :: rest)) (some (ov.setIo true) :: envOf (N.length - 1) avs) := by
  have hvl := opvs_len h
  have look : ∀ (i : Nat) (u : OV), (some (ov.setIo true) :: envOf (N.length - 1) avs)[i]? = some (some u) → (i = 0 ∧ u = ov.setIo true) ∨ ∃ j x, i = j + 1 ∧ avs[j]? = some x ∧ argOv x = some u := fun i u e => by
    cases i with
    | zero => simp at e; exact .inl ⟨rfl, e.symm⟩
    | succ j =>
      obtain ⟨x, e1, e2⟩ := envOf_get (show (envOf (N.length - 1) avs)[j]? = _ by simpa using e)
      exact .inr ⟨j, x, rfl, e1, e2⟩
  have h0 : (L2.start N (.ref a :: rest))[0]? = some (some (.ref a)) := start_of (by simp)
  have own0 : ∀ i b, Own (L2.start N (.ref a :: rest)) (some (ov.setIo true) :: envOf (N.length - 1) avs) i b → i = 0 ∧ b = a := fun i b ⟨u, e, w, q⟩ => by
    rcases look i u e with ⟨rfl, _⟩ | ⟨j, x, _, _, e2⟩
    · rw [h0] at q
      cases q
      exact ⟨rfl, rfl⟩
    · rw [(argOv_plain e2).1] at w; cases w
  refine ⟨s, Sub.rfl', fun _ z => False.elim z, fun _ _ e _ _ => e, tb, fun _ e => e, fun _ _ e => .inl e, ?_, fun i u e => ?_, fun i b q => .inl (own0 i b q).2, fun i b u e w wi q => ?_, fun i j b q q' => by rw [(own0 i b q).1, (own0 j b q').1], fun i u e w => ?_⟩
  · unfold L2.start envOf
    simp [hvl]
    omega
  · rcases look i u e with ⟨rfl, rfl⟩ | ⟨j, x, rfl, e1, e2⟩
    · exact ⟨_, h0, OvOk.of_own ha hov.setIo hb⟩
    · obtain ⟨v, h1, h2⟩ := opvs_get h e1
      refine ⟨v, start_of (by simpa using h1), ?_⟩
      cases x with
      | v d => cases e2; exact h2
      | s ns => cases e2; exact h2
      | r i => cases e2
  · rcases look i u e with ⟨rfl, rfl⟩ | ⟨j, x, _, _, e2⟩
    · rw [hov.io_eq] at wi; cases wi
    · rw [(argOv_plain e2).1] at w; cases w
  · rcases look i u e with ⟨rfl, rfl⟩ | ⟨j, x, _, _, e2⟩
    · exact ⟨rfl, rfl⟩
    · rw [(argOv_plain e2).2] at w; cases w
theorem RR.aftU {K : PySem.W.Frag} {H B0 B' H' : Hp} {σ0 σ : L2.St} {env : Env} {a : Addr} (r : RR K (entU H B0 σ0 a) B' H' σ env) : Aft K a B0 H B' H' :=
  ⟨r.b0, r.bh, fun b o e n nt => r.keep b o e n nt, r.there, r.tb, fun b o e => by
    rcases r.new b o e with z | z | z
    · exact .inl z
    · exact .inr z
    · exact False.elim z⟩
theorem ResV.newU {H B0 B' H' : Hp} {σ0 σ : L2.St} {env : Env} {a : Addr} {x : Res} {u : V} (h : ResV (entU H B0 σ0 a) B' H' σ env x u) : NewA H H' B' x u := by
  have own : (∃ p o, u = .ref p ∧ H' p = some o ∧ OwnO B' x.ov o ∧ B' p = none ∧ (∀ j, ¬ Own σ env j p) ∧ ((entU H B0 σ0 a).H0 p = none ∨ (entU H B0 σ0 a).Z p)) → ∃ p o, u = .ref p ∧ H p = none ∧ H' p = some o ∧ OwnO B' x.ov o ∧ B' p = none := by
    rintro ⟨p, o, rfl, h1, h2, h3, _, h5⟩
    rcases h5 with z | z
    · exact ⟨p, o, rfl, z, h1, h2, h3⟩
    · exact False.elim z
  cases x with
  | d d => exact h
  | l ds => exact own h
  | k ds => exact own h
  | t ds => exact own h
section
variable {P : Program} {w : World} {K : PySem.W.Frag} {mg : Str → Option Value} {base : Heap}
theorem okU {x qual : Str} {st : Stmt} {f : Addr} {fd : FuncData} {N ps : List Str} {k : Nat} {body : Es} (F : L2.Fun K x qual st f fd) (S : FnScope N ps (defScope st)) (hnl : ps.length ≤ N.length)
    (hb : ∀ (cdv : Value) (A : Around) (outer : List PySem.Env) (s : Shared) (H : Hp) (E : XK), A.guards = some [] → Room k (A.deeper (envOfC qual (defScope st) s.heap.objs.size f cdv)) →
      PSs (cxOf CX0 P w K mg base N qual (defScope st) f cdv A outer s H E).nox (defBody st) (tS K body)) : FnG P w K mg base CX0 (k + 1) f fd ps (spU K ps.length (runU N.length body)) := by
  refine Fun.okG F S spU_len fun cdv A outer s H vs Q E hg hr hsp => ⟨_, hb cdv A outer s H E hg hr, ?_⟩
  obtain ⟨B, a, o, ov, avs, rest, res, ov', s0, tb, rfl, ha, hov, hb0, hn, hl, ho, hg2, kk⟩ := hsp
  obtain ⟨p, e1, e2⟩ := bindS hg2
  obtain ⟨r, e3, e4⟩ := bindS e2
  split at e4
  · rename_i ou hou
    obtain ⟨hw, e5⟩ := guardS e4
    cases e5
    simp only [Bool.and_eq_true] at hw
    have fin : ∀ {σ' : L2.St} {B' H' : Hp}, RR K (entU H B (L2.start N (.ref a :: rest)) a) B' H' σ' p.2 → ∃ o', H' a = some o' ∧ OwnO B' (ou.setIo false) o' ∧ B' a = none := fun {σ' B' H'} r' => by
      obtain ⟨c, oc, h1, h2, h3, h4⟩ := r'.owns hou hw.1
      obtain ⟨_, e⟩ := r'.ios 0 ou hou hw.2
      have h0 : (L2.start N (.ref a :: rest))[0]? = some (some (.ref a)) := start_of (by simp)
      have e' : σ'[0]? = some (some (.ref a)) := e.trans h0
      rw [h1] at e'
      cases e'
      exact ⟨oc, h2, h3.setIo, h4⟩
    refine ⟨entU H B (L2.start N (.ref a :: rest)) a, B, _, p.1, p.2, rrU s0 ha hov hb0 (by omega) ho tb, e1, ?_⟩
    cases hp : p.1 with
    | nx =>
      rw [hp] at e3
      cases e3
      exact fun σ' B' H' r' s' => by
        obtain ⟨o', f1, f2, f3⟩ := fin r'
        exact kk .non B' H' o' r'.aftU f1 f2 f3 (show Rep _ _ _ from .non)
    | bk => rw [hp] at e3; cases e3
    | ct => rw [hp] at e3; cases e3
    | rt rr =>
      rw [hp] at e3
      cases e3
      exact fun v σ' B' H' r' s' z => by
        obtain ⟨o', f1, f2, f3⟩ := fin r'
        exact kk v B' H' o' r'.aftU f1 f2 f3 z.newU
  · cases e4
end
end NS

set_option Elab.async false
set_option linter.all false
set_option maxRecDepth 100000
set_option maxHeartbeats 4000000
/-! NsP: operations on trees. -/
namespace NS
open PySem L2 PyProof.Rows
def BIGN : Nat := 2 ^ 1000
theorem big_log {x : Int} (h : x.natAbs < BIGN) : x.natAbs.log2 < 1000 := by
  by_cases h0 : x.natAbs = 0
  · rw [h0]; decide
  · exact (Nat.log2_lt h0).mpr h
section
variable {X : Cx}
/-! ### a result without a new object -/
theorem newD {B H : Hp} {d : D} {u : V} {Q : VK} (s : Sub B H) (rep : Rep B u d) (k : ∀ w B' H', Grow B H B' H' → NewV B H H' B' (.d d) w → Q w H') : Q u H := k u B H (Grow.id s) rep
theorem newL {B H : Hp} {ds : List D} {vs : List V} {Q : VK} {p : Addr} (s : Sub B H) (rep : Reps B vs ds) (hp : H p = none) (k : ∀ w B' H', Grow B H B' H' → NewV B H H' B' (.l ds) w → Q w H') : Q (.ref p) (upd H p (.lst vs)) :=
  k (.ref p) B _ (Grow.heap s hp) ⟨p, _, rfl, hp, upd_same, ⟨vs, rfl, rep⟩, s.off hp⟩
theorem newT {B H : Hp} {ds : List D} {vs : List V} {Q : VK} {p : Addr} (s : Sub B H) (rep : Reps B vs ds) (hp : H p = none) (k : ∀ w B' H', Grow B H B' H' → NewV B H H' B' (.d (.tuple ds)) w → Q w H') : Q (.ref p) (upd H p (.tup vs)) :=
  k (.ref p) (upd B p (.tup vs)) _ (Grow.both s hp) (show Rep _ _ _ from .tup upd_same (rep.mono (Grow.both s hp).bb))
/-! ### + - * // % ** -/
def gAdd : D → D → Option Res
  | .int i, .int j => some (.d (.int (i + j)))
  | .list a, .list b => guardO (decide (a.length + b.length ≤ 1000000)) (some (.l (a ++ b)))
  | .str a, .str b => guardO (decide (a.length + b.length ≤ 1000000)) (some (.d (.str (a ++ b))))
  | .tuple a, .tuple b => guardO (decide (a.length + b.length ≤ 1000000)) (some (.d (.tuple (a ++ b))))
  | _, _ => none
def rStr2 : R2 := fun x y H Q => ∃ i j, x = .str i ∧ y = .str j ∧ i.length + j.length ≤ sizeLine ∧ Q (.str (i ++ j)) H
def rAddAll (K : PySem.W.Frag) : R2 := fun x y H Q => (((rI0 fun i j => .int (i + j)) x y H Q ∨ rCat x y H Q) ∨ rStr2 x y H Q) ∨ rCatA K x y H Q
theorem o_add : OpR X (binaryOp .Add) (rAddAll X.K) := ((op_add.or op_cat).or op_add_str).or op_catA
theorem p_add {K : PySem.W.Frag} : Prim2 (rAddAll K) gAdd := fun B H u v dx dy res Q s hx hy e k => by
  cases dx with
  | int i =>
    cases dy with
    | int j =>
      cases e
      exact .inl (.inl (.inl ⟨i, j, hx.int, hy.int, newD s (.int _) k⟩))
    | _ => cases e
  | list a =>
    cases dy with
    | list b =>
      obtain ⟨hl, e⟩ := guardS e
      cases e
      obtain ⟨p, vs, rfl, h1, r1⟩ := hx.lst s
      obtain ⟨q, us, rfl, h2, r2⟩ := hy.lst s
      exact .inl (.inl (.inr ⟨p, q, vs, us, rfl, rfl, h1, h2, by rw [r1.len, r2.len]; exact line6 (of_decide_eq_true hl), fun c hc => newL s (r1.app r2) hc k⟩))
    | _ => cases e
  | str a =>
    cases dy with
    | str b =>
      obtain ⟨hl, e⟩ := guardS e
      cases e
      exact .inl (.inr ⟨a, b, hx.str, hy.str, line6 (of_decide_eq_true hl), newD s (.str _) k⟩)
    | _ => cases e
  | tuple a =>
    cases dy with
    | tuple b =>
      obtain ⟨hl, e⟩ := guardS e
      cases e
      have hx' : Rep B u (.tuple a) := by
        rcases hx with h | ⟨_, _, ov, _, _, h2, h3, _⟩
        · exact h
        · cases ov <;> first | exact False.elim h2 | cases h3
      have hy' : Rep B v (.tuple b) := by
        rcases hy with h | ⟨_, _, ov, _, _, h2, h3, _⟩
        · exact h
        · cases ov <;> first | exact False.elim h2 | cases h3
      obtain ⟨p, vs, rfl, h1, r1⟩ := hx.tup s
      obtain ⟨q, us, rfl, h2, r2⟩ := hy.tup s
      refine .inr ⟨p, q, vs, us, rfl, rfl, SqT.of h1, SqT.of h2, by rw [r1.len, r2.len]; exact line6 (of_decide_eq_true hl), fun z => ?_, fun _ z => ?_, fun _ _ c hc => newT s (r1.app r2) hc k⟩
      · subst z
        have : a = [] := by
          have := r1.len
          simpa using this.symm
        subst this
        exact newD s hy' k
      · subst z
        have : b = [] := by
          have := r2.len
          simpa using this.symm
        subst this
        rw [List.append_nil] at k
        exact newD s hx' k
    | _ => cases e
  | _ => cases e
def gSub2 : D → D → Option Res
  | .int i, .int j => some (.d (.int (i - j)))
  | _, _ => none
theorem p_sub : Prim2 (rI0 fun i j => .int (i - j)) gSub2 := fun B H u v dx dy res Q s hx hy e k => by
  cases dx <;> cases dy <;> first | (cases e; done) | (cases e; exact ⟨_, _, hx.int, hy.int, newD s (.int _) k⟩)
def gMul : D → D → Option Res
  | .int i, .int j => guardO (decide (i.natAbs < BIGN) && decide (j.natAbs < BIGN)) (some (.d (.int (i * j))))
  | .list a, .int j => guardO (decide (-1000000 ≤ j) && decide (j ≤ 1000000) && decide (a.length * j.toNat ≤ 1000000)) (some (.l (List.replicate j.toNat a).flatten))
  | _, _ => none
def rMulAll : R2 := fun x y H Q => (rI CMulW fun i j => .int (i * j)) x y H Q ∨ rRep x y H Q
theorem o_mul : OpR X (binaryOp .Mult) rMulAll := op_mulW.or op_rep
theorem p_mul : Prim2 rMulAll gMul := fun B H u v dx dy res Q s hx hy e k => by
  cases dx with
  | int i =>
    cases dy with
    | int j =>
      obtain ⟨hl, e⟩ := guardS e
      cases e
      simp only [Bool.and_eq_true, decide_eq_true_eq] at hl
      refine .inl ⟨i, j, hx.int, hy.int, ?_, newD s (.int _) k⟩
      have h1 := big_log hl.1
      have h2 := big_log hl.2
      unfold CMulW
      omega
    | _ => cases e
  | list a =>
    cases dy with
    | int j =>
      obtain ⟨hl, e⟩ := guardS e
      cases e
      simp only [Bool.and_eq_true, decide_eq_true_eq] at hl
      obtain ⟨p, vs, rfl, h1, r1⟩ := hx.lst s
      exact .inr ⟨p, j, vs, rfl, hy.int, h1, by omega, by omega, by rw [r1.len]; exact line6 hl.2, fun c hc => newL s (r1.rep _) hc k⟩
    | _ => cases e
  | _ => cases e
def gFdiv : D → D → Option Res
  | .int i, .int j => guardO (decide (0 < j) && decide (j.natAbs < BIGN)) (some (.d (.int (i / j))))
  | _, _ => none
theorem p_fdiv : Prim2 (rI CDivW fun i j => .int (i / j)) gFdiv := fun B H u v dx dy res Q s hx hy e k => by
  cases dx with
  | int i =>
    cases dy with
    | int j =>
      obtain ⟨hl, e⟩ := guardS e
      cases e
      simp only [Bool.and_eq_true, decide_eq_true_eq] at hl
      refine ⟨i, j, hx.int, hy.int, ⟨hl.1, ?_⟩, newD s (.int _) k⟩
      have := big_log hl.2
      omega
    | _ => cases e
  | _ => cases e
def gMod : D → D → Option Res
  | .int i, .int j => guardO (decide (0 < j)) (some (.d (.int (i % j))))
  | _, _ => none
theorem p_mod : Prim2 (rI (fun _ j => 0 < j) fun i j => .int (i % j)) gMod := fun B H u v dx dy res Q s hx hy e k => by
  cases dx with
  | int i =>
    cases dy with
    | int j =>
      obtain ⟨hl, e⟩ := guardS e
      cases e
      exact ⟨i, j, hx.int, hy.int, of_decide_eq_true hl, newD s (.int _) k⟩
    | _ => cases e
  | _ => cases e
def gPow : D → D → Option Res
  | .int i, .int j => guardO (decide (0 ≤ j) && decide (j ≤ 1000) && decide (i.natAbs < 18446744073709551616)) (some (.d (.int (i ^ j.toNat))))
  | _, _ => none
theorem p_pow : Prim2 (rI CPow fun i j => .int (i ^ j.toNat)) gPow := fun B H u v dx dy res Q s hx hy e k => by
  cases dx with
  | int i =>
    cases dy with
    | int j =>
      obtain ⟨hl, e⟩ := guardS e
      cases e
      simp only [Bool.and_eq_true, decide_eq_true_eq] at hl
      exact ⟨i, j, hx.int, hy.int, ⟨hl.1.1, by omega, by omega⟩, newD s (.int _) k⟩
    | _ => cases e
  | _ => cases e
/-! ### comparisons -/
def gCmp (p : Int → Int → Bool) : D → D → Option Res
  | .int i, .int j => some (.d (.bool (p i j)))
  | _, _ => none
theorem p_cmp {p : Int → Int → Bool} : Prim2 (rI0 fun i j => .bl (p i j)) (gCmp p) := fun B H u v dx dy res Q s hx hy e k => by
  cases dx <;> cases dy <;> first | (cases e; done) | (cases e; exact ⟨_, _, hx.int, hy.int, newD s (.bl _) k⟩)
mutual
theorem Rep.dp (K : PySem.W.Frag) {H : Hp} : ∀ {v : V} {d : D}, Rep H v d → d.canLay0 = true → Dp K H v d
  | _, _, .non, _ => .non
  | _, _, .bl b, _ => .bl b
  | _, _, .int i, _ => .int i
  | _, _, .str x, _ => .str x
  | _, _, .lst h r, e => .lst (SqL.of h) (Reps.dp K r e)
  | _, _, .tup h r, e => .tup (SqT.of h) (Reps.dp K r e)
  | _, _, .dK h r, e => nomatch e
  | _, _, .dT h r, e => nomatch e
theorem Reps.dp (K : PySem.W.Frag) {H : Hp} : ∀ {vs : List V} {ds : List D}, Reps H vs ds → PyData.canLayAll0 ds = true → DpAll K H vs ds
  | _, _, .nil, _ => .nil
  | _, _, .cons a b, e => by
    have e' : (PyData.canLay0 _ && PyData.canLayAll0 _) = true := e
    obtain ⟨e1, e2⟩ := Bool.and_eq_true_iff.mp e'
    exact .cons (Rep.dp K a e1) (Reps.dp K b e2)
end
def gEq : D → D → Option Res := fun x y => guardO (SeqAt.shaped x && SeqAt.shaped y) (some (.d (.bool (PyData.eqv x y))))
def gNe : D → D → Option Res := fun x y => guardO (SeqAt.shaped x && SeqAt.shaped y) (some (.d (.bool (!PyData.eqv x y))))
theorem p_eq {K : PySem.W.Frag} : Prim2 (rEqD K) gEq := fun B H u v dx dy res Q s hx hy e k => by
  obtain ⟨hl, e⟩ := guardS e
  cases e
  obtain ⟨h1, h2⟩ := Bool.and_eq_true_iff.mp hl
  exact ⟨dx, dy, (hx.rep s).dp K (SeqAt.canLay_of_shaped h1), (hy.rep s).dp K (SeqAt.canLay_of_shaped h2), h1, h2, newD s (.bl _) k⟩
theorem p_ne {K : PySem.W.Frag} : Prim2 (rNeD K) gNe := fun B H u v dx dy res Q s hx hy e k => by
  obtain ⟨hl, e⟩ := guardS e
  cases e
  obtain ⟨h1, h2⟩ := Bool.and_eq_true_iff.mp hl
  exact ⟨dx, dy, (hx.rep s).dp K (SeqAt.canLay_of_shaped h1), (hy.rep s).dp K (SeqAt.canLay_of_shaped h2), h1, h2, newD s (.bl _) k⟩
/-! ### subscripts, slices -/
def gIx : D → D → Option Res
  | .list ds, .int i => (atI ds i).bind fun d => some (.d d)
  | .tuple ds, .int i => (atI ds i).bind fun d => some (.d d)
  | .str x, .int i => guardO (decide (x.length ≤ 1000000)) ((atI x.cps.toList i).bind fun c => some (.d (.str ⟨#[c]⟩)))
  | _, _ => none
theorem atI_rep {B : Hp} {vs : List V} {ds : List D} {i : Int} {d : D} (r : Reps B vs ds) (h : atI ds i = some d) : ∃ v, atI vs i = some v ∧ Rep B v d := by
  unfold atI at h ⊢
  rw [r.len]
  obtain ⟨j, h1, h2⟩ := bindS h
  obtain ⟨v, h3, h4⟩ := r.get h2
  exact ⟨v, by rw [h1]; exact h3, h4⟩
theorem p_ix {K : PySem.W.Frag} : Prim2 (rIx K) gIx := fun B H u v dx dy res Q s hx hy e k => by
  cases dx with
  | list ds =>
    cases dy with
    | int i =>
      obtain ⟨d, e1, e⟩ := bindS e
      cases e
      obtain ⟨p, vs, rfl, h1, r1⟩ := hx.lst s
      obtain ⟨w, h2, r2⟩ := atI_rep r1 e1
      exact .inl ⟨p, vs, i, w, rfl, hy.int, SqL.of h1, h2, newD s r2 k⟩
    | _ => cases e
  | tuple ds =>
    cases dy with
    | int i =>
      obtain ⟨d, e1, e⟩ := bindS e
      cases e
      obtain ⟨p, vs, rfl, h1, r1⟩ := hx.tup s
      obtain ⟨w, h2, r2⟩ := atI_rep r1 e1
      exact .inr (.inl ⟨p, vs, i, w, rfl, hy.int, SqT.of h1, h2, newD s r2 k⟩)
    | _ => cases e
  | str x =>
    cases dy with
    | int i =>
      obtain ⟨hl, e⟩ := guardS e
      obtain ⟨c, e1, e⟩ := bindS e
      cases e
      exact .inr (.inr ⟨x, i, c, hx.str, hy.int, line6 (of_decide_eq_true hl), e1, newD s (.str _) k⟩)
    | _ => cases e
  | _ => cases e
def cutD (ds : List D) (lo hi : Option Int) : List D := (ds.drop (HT.sIx ds.length 0 lo)).take (HT.sIx ds.length ds.length hi - HT.sIx ds.length 0 lo)
theorem cut_rep {B : Hp} {vs : List V} {ds : List D} (r : Reps B vs ds) (lo hi : Option Int) : Reps B (cutV vs lo hi) (cutD ds lo hi) := by
  unfold cutV cutD
  rw [r.len]
  exact (r.drop _).take _
def gSl : D → Option Int → Option Int → Option Res
  | .list ds, lo, hi => some (.l (cutD ds lo hi))
  | _, _, _ => none
theorem p_sl {K : PySem.W.Frag} : PrimS (rSlL K) gSl := fun B H u d lo hi res Q s hx e k => by
  cases d with
  | list ds =>
    cases e
    obtain ⟨p, vs, rfl, h1, r1⟩ := hx.lst s
    exact ⟨p, vs, rfl, SqL.of h1, fun c hc => newL s (cut_rep r1 lo hi) hc k⟩
  | _ => cases e
/-- xs[::-1] -/
def revR (f : Ev Opd) : Ev Res := fun env => (f env).bind fun p => (opD p.2 p.1).bind fun d => match d with
  | .list ds => some (.l ds.reverse, p.2)
  | _ => none
theorem e_rev {e : Expr} {f : Ev Opd} {k : Nat} {p1 p2 p3 pos : Pos} (he : PE X e (tP X.K f)) : PE X (.Subscript e (.Slice none none (some (.UnaryOp .USub (.Constant (.int 1) k p1) p2)) p3) pos) (tR X.K (revR f)) := peImp (pe_revL he) fun σ H Q ⟨E, B, env, x, env', r, ef, kk⟩ => by
  obtain ⟨p, e1, ef⟩ := bindS ef
  obtain ⟨d, e2, ef⟩ := bindS ef
  cases d with
  | list ds =>
    cases ef
    refine ⟨E, B, env, p.1, p.2, r, e1, fun v B' H' r' s' z => ?_⟩
    obtain ⟨a, vs, rfl, h1, r1⟩ := (opRd r' z e2).lst r'.bh
    refine ⟨a, vs, rfl, SqL.of h1, fun c hc => ?_⟩
    exact newL (Q := Q) r'.bh r1.rev hc fun w B2 H2 gr nw => kk w B2 H2 (r'.grow gr) (s'.tr gr.bb) (nw.res r')
  | _ => cases ef
/-! ### calls of built-ins -/
theorem rds1 {B H : Hp} {us : List V} {d : D} (h : Rds B H us [d]) : ∃ u, us = [u] ∧ Rd B H u d := by
  cases us with
  | nil => cases (show [d] = [] from h)
  | cons u r =>
    obtain ⟨d', r', e, h1, h2⟩ := h
    cases e
    cases r with
    | nil => exact ⟨u, rfl, h1⟩
    | cons w t =>
      obtain ⟨_, _, e, _⟩ := h2
      cases e
theorem rds2 {B H : Hp} {us : List V} {d d2 : D} (h : Rds B H us [d, d2]) : ∃ u v, us = [u, v] ∧ Rd B H u d ∧ Rd B H v d2 := by
  cases us with
  | nil => cases (show [d, d2] = [] from h)
  | cons u r =>
    obtain ⟨d', r', e, h1, h2⟩ := h
    cases e
    obtain ⟨v, rfl, h3⟩ := rds1 h2
    exact ⟨u, v, rfl, h1, h3⟩
def gLen : List D → Option Res
  | [.list ds] => some (.d (.int ds.length))
  | [.tuple ds] => some (.d (.int ds.length))
  | [.str x] => guardO (decide (x.length ≤ 1000000)) (some (.d (.int x.length)))
  | _ => none
def rLenAll (K : PySem.W.Frag) : List V → Hp → VK → Prop := fun xs H Q => (∃ p ys, xs = [.ref p] ∧ (SqL K H p ys ∨ SqT K H p ys) ∧ Q (.int ys.length) H) ∨ (∃ z, xs = [.str z] ∧ z.length ≤ sizeLine ∧ Q (.int z.length) H)
theorem c_len : CallR X (.builtin "len") (rLenAll X.K) := call_len_seq.or call_len_str
theorem p_len {K : PySem.W.Frag} : PrimN (rLenAll K) gLen := fun B H us ds res Q s h e k => by
  unfold gLen at e
  split at e
  · rename_i xs
    cases e
    obtain ⟨u, rfl, hu⟩ := rds1 h
    obtain ⟨p, vs, rfl, h1, r1⟩ := hu.lst s
    exact .inl ⟨p, vs, rfl, .inl (SqL.of h1), by rw [r1.len]; exact newD s (.int _) k⟩
  · rename_i xs
    cases e
    obtain ⟨u, rfl, hu⟩ := rds1 h
    obtain ⟨p, vs, rfl, h1, r1⟩ := hu.tup s
    exact .inl ⟨p, vs, rfl, .inr (SqT.of h1), by rw [r1.len]; exact newD s (.int _) k⟩
  · rename_i x
    obtain ⟨hl, e⟩ := guardS e
    cases e
    obtain ⟨u, rfl, hu⟩ := rds1 h
    cases hu.str
    exact .inr ⟨x, rfl, line6 (of_decide_eq_true hl), newD s (.int _) k⟩
  · cases e
def gInt : List D → Option Res
  | [.int i] => some (.d (.int i))
  | [.bool b] => some (.d (.int (if b then 1 else 0)))
  | _ => none
theorem p_int : PrimN (fun xs H Q => (∃ i, xs = [V.int i] ∧ Q (.int i) H) ∨ ∃ k, xs = [V.bl k] ∧ Q (.int (if k then 1 else 0)) H) gInt := fun B H us ds res Q s h e k => by
  unfold gInt at e
  split at e
  · cases e
    obtain ⟨u, rfl, hu⟩ := rds1 h
    cases hu.int
    exact .inl ⟨_, rfl, newD s (.int _) k⟩
  · cases e
    obtain ⟨u, rfl, hu⟩ := rds1 h
    cases hu.bl
    exact .inr ⟨_, rfl, newD s (.int _) k⟩
  · cases e
def gAbs : List D → Option Res
  | [.int i] => some (.d (.int (if i < 0 then -i else i)))
  | _ => none
theorem p_abs : PrimN (fun xs H Q => ∃ i, xs = [V.int i] ∧ Q (.int (if i < 0 then -i else i)) H) gAbs := fun B H us ds res Q s h e k => by
  unfold gAbs at e
  split at e
  · cases e
    obtain ⟨u, rfl, hu⟩ := rds1 h
    cases hu.int
    exact ⟨_, rfl, newD s (.int _) k⟩
  · cases e
def gMin2 : List D → Option Res
  | [.int i, .int j] => some (.d (.int (if j < i then j else i)))
  | _ => none
theorem p_min2 : PrimN (fun xs H Q => ∃ i j, xs = [V.int i, V.int j] ∧ Q (.int (if j < i then j else i)) H) gMin2 := fun B H us ds res Q s h e k => by
  unfold gMin2 at e
  split at e
  · cases e
    obtain ⟨u, v, rfl, hu, hv⟩ := rds2 h
    cases hu.int
    cases hv.int
    exact ⟨_, _, rfl, newD s (.int _) k⟩
  · cases e
def gMax2 : List D → Option Res
  | [.int i, .int j] => some (.d (.int (if j > i then j else i)))
  | _ => none
theorem p_max2 : PrimN (fun xs H Q => ∃ i j, xs = [V.int i, V.int j] ∧ Q (.int (if j > i then j else i)) H) gMax2 := fun B H us ds res Q s h e k => by
  unfold gMax2 at e
  split at e
  · cases e
    obtain ⟨u, v, rfl, hu, hv⟩ := rds2 h
    cases hu.int
    cases hv.int
    exact ⟨_, _, rfl, newD s (.int _) k⟩
  · cases e
/-- all of them ints -/
def intsOf : List D → Option (List Int)
  | [] => some []
  | .int i :: ds => (intsOf ds).bind fun r => some (i :: r)
  | _ :: _ => none
theorem intsOf_eq : ∀ {ds : List D} {ns : List Int}, intsOf ds = some ns → ds = ns.map PyData.int
  | [], ns, e => by cases e; rfl
  | .int i :: ds, ns, e => by
    obtain ⟨r, e1, e2⟩ := bindS e
    cases e2
    simp [intsOf_eq e1]
  | .none :: _, _, e => nomatch e
  | .bool _ :: _, _, e => nomatch e
  | .str _ :: _, _, e => nomatch e
  | .list _ :: _, _, e => nomatch e
  | .tuple _ :: _, _, e => nomatch e
  | .dict _ :: _, _, e => nomatch e
theorem intsOf_map : ∀ ns : List Int, intsOf (ns.map PyData.int) = some ns
  | [] => rfl
  | n :: ns => by simp [intsOf, intsOf_map ns]
theorem intsV {B : Hp} {vs : List V} {ds : List D} {ns : List Int} (r : Reps B vs ds) (e : intsOf ds = some ns) : vs = ns.map V.int := by
  rw [intsOf_eq e] at r
  exact r.ints
def gSum : List D → Option Res
  | [.list ds] => (intsOf ds).bind fun ns => some (.d (.int ns.sum))
  | _ => none
theorem p_sum {K : PySem.W.Frag} : PrimN (rSum K) gSum := fun B H us ds res Q s h e k => by
  unfold gSum at e
  split at e
  · obtain ⟨ns, e1, e⟩ := bindS e
    cases e
    obtain ⟨u, rfl, hu⟩ := rds1 h
    obtain ⟨p, vs, rfl, h1, r1⟩ := hu.lst s
    have := intsV r1 e1
    subst this
    exact ⟨p, ns, rfl, SqL.of h1, newD s (.int _) k⟩
  · cases e
def gTup : List D → Option Res
  | [.list ds] => some (.d (.tuple ds))
  | [.tuple ds] => some (.d (.tuple ds))
  | _ => none
theorem rep_of_tup {B H : Hp} {u : V} {a : List D} (hx : Rd B H u (.tuple a)) : Rep B u (.tuple a) := by
  rcases hx with h | ⟨_, _, ov, _, _, h2, h3, _⟩
  · exact h
  · cases ov <;> first | exact False.elim h2 | cases h3
theorem p_tup {K : PySem.W.Frag} : PrimN (fun xs H Q => ∃ p ys, xs = [V.ref p] ∧ ((SqL K H p ys ∧ ∀ l, H l = none → Q (.ref l) (upd H l (.tup ys))) ∨ (SqT K H p ys ∧ Q (.ref p) H))) gTup := fun B H us ds res Q s h e k => by
  unfold gTup at e
  split at e
  · cases e
    obtain ⟨u, rfl, hu⟩ := rds1 h
    obtain ⟨p, vs, rfl, h1, r1⟩ := hu.lst s
    exact ⟨p, vs, rfl, .inl ⟨SqL.of h1, fun l hl => newT s r1 hl k⟩⟩
  · cases e
    obtain ⟨u, rfl, hu⟩ := rds1 h
    have hr := rep_of_tup hu
    obtain ⟨p, vs, rfl, h1, r1⟩ := hu.tup s
    exact ⟨p, vs, rfl, .inr ⟨SqT.of h1, newD s hr k⟩⟩
  · cases e
def gList : List D → Option Res
  | [.list ds] => some (.l ds)
  | [.tuple ds] => some (.l ds)
  | _ => none
theorem p_list {K : PySem.W.Frag} : PrimN (fun xs H Q => ∃ p ys, xs = [V.ref p] ∧ (SqL K H p ys ∨ SqT K H p ys) ∧ ∀ l, H l = none → Q (.ref l) (upd H l (.lst ys))) gList := fun B H us ds res Q s h e k => by
  unfold gList at e
  split at e
  · cases e
    obtain ⟨u, rfl, hu⟩ := rds1 h
    obtain ⟨p, vs, rfl, h1, r1⟩ := hu.lst s
    exact ⟨p, vs, rfl, .inl (SqL.of h1), fun l hl => newL s r1 hl k⟩
  · cases e
    obtain ⟨u, rfl, hu⟩ := rds1 h
    obtain ⟨p, vs, rfl, h1, r1⟩ := hu.tup s
    exact ⟨p, vs, rfl, .inr (SqT.of h1), fun l hl => newL s r1 hl k⟩
  · cases e
/-- list(range(a, b)) -/
def lstRgR (f : Ev (List D)) : Ev Res := fun env => (f env).bind fun p => guardO (decide (p.1.length ≤ 1000000)) (some (.l p.1, p.2))
end
end NS

set_option Elab.async false
set_option linter.all false
set_option maxRecDepth 100000
set_option maxHeartbeats 4000000
/-! NsQ: the text of a tree, sorted, sets of ints. -/
namespace NS
open PySem L2 PyProof.Rows
section
variable {X : Cx}
def rRepr (K : PySem.W.Frag) : List V → Hp → VK → Prop := fun xs H Q => ∃ v d, xs = [v] ∧ Dp K H v d ∧ d.showable = true ∧ d.hasDict = false ∧ d.depth ≤ 60 ∧ d.shown.length ≤ sizeLine ∧ Q (.str d.shown) H
theorem c_repr (hg : X.A.guards = some []) (hu : X.A.units + 64 < cLine) : CallR X (.builtin "repr") (rRepr X.K) := by
  intro pins s σ H xs us Q I r h
  obtain ⟨v, d, rfl, hd, hs, hn, hdp, hz, q⟩ := h
  obtain ⟨u, rfl, rx⟩ := vals1 r
  have ref : ∀ (a : Addr) (as : List Addr), u = .ref a → Reads s.heap (.ref a) d as → wpAny (model X.prog X.w) X.A (call (.builtin "repr") [u]) (EP X pins σ Q) X.xe s := fun a as e rd => by
    subst e
    exact repr_of_reads' rd hs (fun z => by rw [hn] at z; cases z) hg (by omega) (fun _ _ z => z) (fun h' tk t' k => ⟨.str d.shown, H, I.kept (t' := t') k, ⟨_, rfl⟩, q⟩) hz
  cases d with
  | none =>
    cases hd
    cases rx
    exact PySem.P.repr_of_none ⟨.str _, H, I.tok _, ⟨_, rfl⟩, q⟩
  | bool b =>
    cases hd
    cases rx
    refine PySem.P.repr_of_bool ⟨.str _, H, I.tok _, ⟨_, rfl⟩, ?_⟩
    have e : (PyData.bool b).shown = (if b then "True" else "False" : Str) := by cases b <;> rfl
    rw [e] at q
    exact q
  | int i =>
    cases hd
    obtain ⟨t, rfl⟩ := rx
    exact PySem.P.repr_of_int (of_decide_eq_true hs) ⟨.str _, H, I.tok _, ⟨_, rfl⟩, q⟩
  | str x =>
    cases hd
    obtain ⟨t, rfl⟩ := rx
    exact PySem.P.repr_of_str ⟨.str _, H, I.tok _, ⟨_, rfl⟩, q⟩ hz
  | list ds =>
    obtain ⟨as, rd⟩ := Dp.reads I _ v u hd rx
    cases hd
    cases rx
    exact ref _ as rfl rd
  | tuple ds =>
    obtain ⟨as, rd⟩ := Dp.reads I _ v u hd rx
    cases hd
    cases rx
    exact ref _ as rfl rd
  | dict kvs => cases hn
def gRepr : List D → Option Res
  | [d] => guardO (d.canLay0 && d.showable && !d.hasDict && decide (d.depth ≤ 60) && decide (d.shown.length ≤ 1000000)) (some (.d (.str d.shown)))
  | _ => none
theorem p_repr {K : PySem.W.Frag} : PrimN (rRepr K) gRepr := fun B H us ds res Q s h e k => by
  unfold gRepr at e
  split at e
  · rename_i d
    obtain ⟨c, e⟩ := guardS e
    cases e
    simp only [Bool.and_eq_true, decide_eq_true_eq, Bool.not_eq_true'] at c
    obtain ⟨u, rfl, hu⟩ := rds1 h
    exact ⟨u, d, rfl, (hu.rep s).dp K c.1.1.1.1, c.1.1.1.2, c.1.1.2, c.1.2, line6 c.2, newD s (.str _) k⟩
  · cases e
/-- list(range(a, b)) -/
def lstRg2 (fa fb : Ev D) : Ev Res := fun env => (fa env).bind fun p => (fb p.2).bind fun q => match p.1, q.1 with
  | .int i, .int j => guardO (decide (0 ≤ i) && decide (i ≤ 1000000) && decide (0 ≤ j) && decide (j ≤ 1000000)) (some (.l (rangeD i (j - i).toNat), q.2))
  | _, _ => none
theorem rangeRep {B : Hp} (i j : Int) : Reps B (rgV i j) (rangeD i (j - i).toNat) := by
  unfold rgV rangeD
  generalize (j - i).toNat = n
  have : ∀ l : List Nat, Reps B (l.map fun k => V.int (i + (k : Nat))) (l.map fun (k : Nat) => PyData.int (i + k)) := fun l => by
    induction l with
    | nil => exact .nil
    | cons a l ih => exact .cons (.int _) ih
  exact this _
theorem e_lstRg2 {e : Expr} {fa fb : Ev D} (h : PE X e (tLstRg (tRg2 (tE X.K fa) (tE X.K fb)))) : PE X e (tR X.K (lstRg2 fa fb)) := peImp h fun σ H Q ⟨E, B, env, x, env', r, ef, k⟩ => by
  obtain ⟨pa, e1, ef⟩ := bindS ef
  obtain ⟨pb, e2, ef⟩ := bindS ef
  split at ef
  · rename_i i j h1 h2
    obtain ⟨c, ef⟩ := guardS ef
    cases ef
    simp only [Bool.and_eq_true, decide_eq_true_eq] at c
    refine ⟨E, B, env, pa.1, pa.2, r, e1, fun u B1 H1 r1 s1 z1 => ⟨E, B1, pa.2, pb.1, pb.2, r1, e2, fun v B2 H2 r2 s2 z2 => ?_⟩⟩
    rw [h1] at z1
    rw [h2] at z2
    cases z1
    cases z2
    refine ⟨i, j, rfl, rfl, RgOk.of_le c.1.1.1 (by omega) (by omega) c.1.2, fun q hq => ?_⟩
    exact newL (Q := Q) r2.bh (rangeRep i j) hq fun w B3 H3 gr nw => k w B3 H3 (r2.grow gr) (s1.tr (s2.tr gr.bb)) (nw.res r2)
  · cases ef
/-! ### sorted -/
def sortI (ns : List Int) : List Int := ns.mergeSort fun a b => decide (a ≤ b)
theorem sortI_perm (ns : List Int) : (sortI ns).Perm ns := List.mergeSort_perm _ _
theorem sortI_le (ns : List Int) : (sortI ns).Pairwise (· ≤ ·) := by
  have h := List.pairwise_mergeSort (le := fun a b : Int => decide (a ≤ b)) (fun a b c h1 h2 => by simp only [decide_eq_true_eq] at *; omega) (fun a b => by simp only [Bool.or_eq_true, decide_eq_true_eq]; omega) ns
  exact h.imp fun h => of_decide_eq_true h
theorem sorted_one : ∀ {l m : List Int}, l.Perm m → l.Pairwise (· ≤ ·) → m.Pairwise (· ≤ ·) → l = m
  | [], m, p, _, _ => (List.Perm.nil_eq p)
  | a :: l, [], p, _, _ => absurd p.length_eq (by simp)
  | a :: l, b :: m, p, h1, h2 => by
    rw [List.pairwise_cons] at h1 h2
    have ha : a ∈ b :: m := p.mem_iff.mp (by simp)
    have hb : b ∈ a :: l := p.mem_iff.mpr (by simp)
    have e : a = b := by
      rcases List.mem_cons.mp ha with z | z
      · exact z
      · rcases List.mem_cons.mp hb with y | y
        · exact y.symm
        · have := h1.1 b y
          have := h2.1 a z
          omega
    subst e
    rw [sorted_one (List.Perm.cons_inv p) h1.2 h2.2]
theorem sorted_is {ns ms : List Int} (p : ms.Perm ns) (h : ms.Pairwise (· ≤ ·)) : ms = sortI ns := sorted_one (p.trans (sortI_perm ns).symm) h (sortI_le ns)
def gSorted : List D → Option Res
  | [.list ds] => (intsOf ds).bind fun ns => guardO (decide (ns.length < 64)) (some (.l ((sortI ns).map .int)))
  | _ => none
theorem p_sorted {K : PySem.W.Frag} : PrimN (rSorted K) gSorted := fun B H us ds res Q s h e k => by
  unfold gSorted at e
  split at e
  · obtain ⟨ns, e1, e⟩ := bindS e
    obtain ⟨c, e⟩ := guardS e
    cases e
    obtain ⟨u, rfl, hu⟩ := rds1 h
    obtain ⟨p, vs, rfl, h1, r1⟩ := hu.lst s
    have := intsV r1 e1
    subst this
    refine ⟨p, ns, rfl, SqL.of h1, of_decide_eq_true c, fun ns' q hp hs hq => ?_⟩
    rw [sorted_is hp hs]
    exact newL s (Reps.ofInts _) hq k
  · cases e
end
end NS

set_option Elab.async false
set_option linter.all false
set_option maxRecDepth 100000
set_option maxHeartbeats 4000000
/-! NsS: a set of a list of ints, at once sorted. -/
namespace NS
open PySem L2 PyProof.Rows
section
/-! ### set(list of ints), at once sorted -/
abbrev nset (w : World) : Obj := { cls := .type "set", dict := none, data := .set #[] 0 (.fresh 0 0 (!w.params.followText "set-order")) }
end
section
variable {P : Program} {w : World} {A : Around} {E : Value → Shared → Prop} {s : Shared}
set_option maxHeartbeats 8000000 in
theorem set_of_list {l : Addr} {items : Array Value} (ns : List Int) {Q : Value → Shared → Prop} (hh : A.handled = none) (hl : s.heap.IsList l items) (hit : IntsAre items.toList ns) (hb : ns.length + 1 < scanBound)
    (h : ∀ (h' : Heap) (tk c : Nat), SetR w h' s.heap.objs.size (fun j => decide (j ∈ ns)) c → c ≤ ns.length → (∀ b o, s.heap.get? b = some o → h'.get? b = some o) → Q (.ref s.heap.objs.size) { s with heap := h', toks := tk }) :
    wpAny (model P w) A (call (.type "set") [.ref l]) Q E s := by
  have hisz : items.size = ns.length := by
    have q := IntsAre.length hit
    rwa [Array.length_toList] at q
  obtain ⟨cc, tl, hmro⟩ := F.called_set.mro
  have hmade := F.called_set.made
  have hsub := F.called_set.sub
  refine wpAny_call (codeAny_of_tree ?_)
  show wpAny _ _ (callAny (.type "set") _) _ _ _
  refine wpAny_pure ⟨Code.quiet_builtin _ (by decide +kernel), codeAny_builtin F.entry_type_call ?_⟩
  rw [Around.under_plain (weight_type_call_type "set" [.ref l] []) rfl]
  have h1 := F.called_set.notType
  have h2 := F.called_set.canCreate
  have hct := F.typeCall_set_1 (.ref l)
  repeat (any_goals (first | assumption | wp_step))
  refine codeAny_mono (code_set_led1 (.ref l) (E := E) (Q₁ := fun ob s₁ => ob = .ref s.heap.objs.size ∧ s₁ = { s with heap := s.heap.push (nset w) }) ⟨rfl, rfl⟩) fun r s₁ hr => ?_
  cases r with
  | error e => exact hr
  | ok fl =>
    cases fl with
    | next => exact False.elim hr
    | brk => exact False.elim hr
    | cont => exact False.elim hr
    | ret ob =>
      obtain ⟨rfl, rfl⟩ := hr
      have hS : (s.heap.push (nset w)).get? s.heap.objs.size = some (nset w) := Heap.get?_push_size _ rfl
      have hT : Shared.TypeIs { s with heap := s.heap.push (nset w) } (.ref s.heap.objs.size) "set" := ⟨_, hS, rfl⟩
      have hli := F.called_set.init.lookup
      have hbi := F.called_set.init.bind (.ref s.heap.objs.size)
      repeat (any_goals (first | assumption | wp_step))
      refine codeAny_mono (codeAny_call_builtin (R := wants (fun r s₂ => r = .none ∧ ∃ h' tk c, s₂ = { s with heap := h', toks := tk } ∧ SetR w h' s.heap.objs.size (fun j => decide (j ∈ ns)) c ∧ c ≤ ns.length ∧ (∀ b o, s.heap.get? b = some o → h'.get? b = some o)) E)
        F.called_set.init.plain F.entry_set_init (check_set_init_1 hT ?_)) fun r₂ s₂ hr₂ => ?_
      · obtain ⟨ol, hol, hcl, nl, hdl⟩ := hl
        obtain ⟨ocls, odict, odata, oslots⟩ := ol
        cases hcl
        cases hdl
        have hol' : (s.heap.push (nset w)).get? l = some { cls := .type "list", dict := odict, data := .seq items nl, slots := oslots } := Heap.get?_push_of_some _ hol
        have hsls := F.sub_list_set
        have hslf := F.sub_list_frozenset
        have hne : (Value.type "list" == Value.type "dict") = false := by decide
        have hl1 : (s.heap.push (nset w)).IsList l items := ⟨_, hol', rfl, nl, rfl⟩
        unfold Builtin.«set.__init__» noKeywords Builtin.Frozenset.updateFrom
        generalize hPI : pyIter = PI
        wp_walk
        subst hPI
        refine wpAny_pyIter_list hl1 ?_
        refine wpAny_bind (wpAny_runValue ?_)
        have hlS : l < s.heap.objs.size := Heap.lt_size hol
        have hh3 : A.in1.in1.in1.handled = none := by simp [hh]
        have hneI : l ≠ (s.heap.push (nset w)).objs.size := by
          rw [Heap.size_push]; exact Nat.ne_of_lt (Nat.lt_succ_of_lt hlS)
        have hSf : s.heap.objs.size ∉ [(s.heap.push (nset w)).objs.size, l] := by
          rw [Heap.size_push]; simp only [List.mem_cons, List.mem_singleton, List.not_mem_nil, or_false, not_or]
          exact ⟨Nat.ne_of_lt (Nat.lt_succ_self _), Nat.ne_of_gt hlS⟩
        have hval : ∀ (i : Nat) (v : Value), items[i]? = some v → ∃ k t, ns[i]? = some k ∧ v = .int k t := fun i v hv => by
          have hi : i < ns.length := by rw [← hisz]; exact (Array.getElem?_eq_some_iff.mp hv).1
          obtain ⟨t, e⟩ := PyProof.Rows.IntsAre.int_at hit i v (by rw [Array.getElem?_toList]; exact hv)
          refine ⟨ns[i], t, List.getElem?_eq_getElem hi, ?_⟩
          rw [e, List.getD_eq_getElem?_getD, List.getElem?_eq_getElem hi] <;> rfl
        refine set_update_ints ((Walks.list hh3 _ l hneI items).toS) s.heap.objs.size hSf ns hisz hb hval (items.size - 0) 0 _ (by omega) (Nat.zero_le _) ⟨⟨_, Heap.get?_push_size _ rfl, rfl, rfl⟩, (hl1.push _)⟩ ?hS0 ?hR
        case hS0 => exact ⟨0, Nat.le_refl 0, setR_new_at (Heap.get?_push_of_some _ hS)⟩
        case hR =>
          intro s' c' hm hc' hS'
          obtain ⟨h', g2, d', tk', os'⟩ := s'
          have eg : g2 = s.gens := hm.gens
          have ed : d' = s.drawn := hm.drawn
          have eo : os' = s.os := hm.os
          subst eg; subst ed; subst eo
          show wpAny _ _ _ _ _ _
          refine wpAny_pure ?_
          show wpAny _ _ (ret Value.none) _ _ _
          rw [hisz] at hc'
          refine wpAny_pure ⟨rfl, h', tk', c', rfl, hS', hc', fun b o e => ?_⟩
          have hb0 : b < s.heap.objs.size := Heap.lt_size e
          have hb2 : b ≠ (s.heap.push (nset w)).objs.size := by
            rw [Heap.size_push]; exact Nat.ne_of_lt (Nat.lt_succ_of_lt hb0)
          exact hm.heap b o (by simp only [List.mem_cons, List.mem_singleton, List.not_mem_nil, or_false, not_or]; exact ⟨Nat.ne_of_lt hb0, hb2⟩) (Heap.get?_push_of_some _ (Heap.get?_push_of_some _ e))
      · cases r₂ with
        | error e => exact hr₂
        | ok fl₂ =>
          cases fl₂ with
          | next => exact False.elim hr₂
          | brk => exact False.elim hr₂
          | cont => exact False.elim hr₂
          | ret r =>
            obtain ⟨rfl, h', tk, c', rfl, hS', hc', hk'⟩ := hr₂
            repeat (any_goals (first | assumption | wp_step))
            exact h _ _ _ hS' hc' hk'
end
def rSetL (K : PySem.W.Frag) (w : World) : List V → Hp → VK → Prop := fun xs H Q => ∃ (l : Addr) (ns : List Int), xs = [.ref l] ∧ SqL K H l (ns.map V.int) ∧ ns.length < 4000 ∧ ∀ p c, H p = none → c ≤ ns.length → (∀ h : Heap, SetR w h p (fun j => decide (j ∈ ns)) c → True) → Q (.ref p) (upd H p (SetO w p (fun j => decide (j ∈ ns)) c))
section
variable {X : Cx}
theorem cr_setL (hc : X.calm = true) : CallR X (.type "set") (rSetL X.K X.w) := by
  intro pins s σ H xs us Q I r h
  obtain ⟨l, ns, rfl, hq, hl, q⟩ := h
  obtain ⟨u, rfl, rx⟩ := vals1 r
  cases rx
  obtain ⟨its, rv, pl, hz⟩ := I.list hq
  refine set_of_list ns (I.ok.hd hc) pl.isList (by simpa using rv.ints) (by unfold scanBound; omega) fun h' tk c hS hcl hk => ?_
  have J : Inv X pins σ (upd H s.heap.objs.size (SetO X.w s.heap.objs.size (fun j => decide (j ∈ ns)) c)) { s with heap := h', toks := tk } := I.laid (t' := tk) hk (Nat.le_refl _) (setO_new hS)
  exact ⟨.ref s.heap.objs.size, _, J, rfl, q _ c (I.hok.fresh (Nat.le_refl _)) hcl fun _ _ => trivial⟩
/-- the members, each once, ascending -/
def setSort (ns : List Int) : List Int := sortI (ns.eraseDups)
theorem strict_one : ∀ {l m : List Int}, l.Pairwise (· < ·) → m.Pairwise (· < ·) → (∀ k, k ∈ l ↔ k ∈ m) → l = m
  | [], [], _, _, _ => rfl
  | [], b :: m, _, _, h => absurd ((h b).mpr (by simp)) (by simp)
  | a :: l, [], _, _, h => absurd ((h a).mp (by simp)) (by simp)
  | a :: l, b :: m, h1, h2, h => by
    rw [List.pairwise_cons] at h1 h2
    have e : a = b := by
      rcases List.mem_cons.mp ((h a).mp (by simp)) with z | z
      · exact z
      · rcases List.mem_cons.mp ((h b).mpr (by simp)) with y | y
        · exact y.symm
        · have := h1.1 b y
          have := h2.1 a z
          omega
    subst e
    rw [strict_one h1.2 h2.2 fun k => ⟨fun hk => ?_, fun hk => ?_⟩]
    · rcases List.mem_cons.mp ((h k).mp (by simp [hk])) with z | z
      · subst z
        have := h1.1 k hk
        omega
      · exact z
    · rcases List.mem_cons.mp ((h k).mpr (by simp [hk])) with z | z
      · subst z
        have := h2.1 k hk
        omega
      · exact z
theorem eraseDups_mem (ns : List Int) (k : Int) : k ∈ ns.eraseDups ↔ k ∈ ns := List.mem_eraseDups
theorem eraseDups_nodup : ∀ (n : Nat) (ns : List Int), ns.length ≤ n → ns.eraseDups.Nodup
  | _, [], _ => by simp
  | 0, a :: l, h => by simp at h
  | n + 1, a :: l, h => by
    rw [List.eraseDups_cons, List.nodup_cons]
    refine ⟨fun z => ?_, eraseDups_nodup n _ (Nat.le_trans (List.length_filter_le _ _) (by simpa using h))⟩
    have z2 := (eraseDups_mem _ _).mp z
    rw [List.mem_filter] at z2
    simpa using z2.2
theorem setSort_lt (ns : List Int) : (setSort ns).Pairwise (· < ·) := by
  have h1 := sortI_le ns.eraseDups
  have h2 : (setSort ns).Nodup := (sortI_perm ns.eraseDups).nodup_iff.mpr (eraseDups_nodup _ ns (Nat.le_refl _))
  exact List.Pairwise.imp₂ (fun a b h g => by
    have : a ≠ b := g
    omega) h1 h2
theorem setSort_mem (ns : List Int) (k : Int) : k ∈ setSort ns ↔ k ∈ ns := ((sortI_perm _).mem_iff).trans (eraseDups_mem ns k)
def gSetSorted : List D → Option Res
  | [.list ds] => (intsOf ds).bind fun ns => guardO (decide (ns.length < 64)) (some (.l ((setSort ns).map .int)))
  | _ => none
theorem e_setSorted {e : Expr} {f : Ev (List Opd)} (h : PE X e (tCB (rSortedSet X.w) (tCons (tCB (rSetL X.K X.w) (tA X.K f)) tNil))) : PE X e (tR X.K (callN gSetSorted f)) := peImp h fun σ H Q ⟨E, B, env, x, env', rr, ef, k⟩ => by
  obtain ⟨p, e1, ef⟩ := bindS ef
  obtain ⟨ds, e2, ef⟩ := bindS ef
  obtain ⟨rs, e3, ef⟩ := bindS ef
  cases ef
  refine ⟨E, B, env, p.1, p.2, rr, e1, fun us B1 H1 r1 s1 q1 => ?_⟩
  have hr := opRds r1 q1 e2
  unfold gSetSorted at e3
  split at e3
  · obtain ⟨ns, e4, e3⟩ := bindS e3
    obtain ⟨c, e3⟩ := guardS e3
    cases e3
    have hlen := of_decide_eq_true c
    obtain ⟨u, rfl, hu⟩ := rds1 hr
    obtain ⟨a, vs, rfl, h1, r2⟩ := hu.lst r1.bh
    have := intsV r2 e4
    subst this
    refine ⟨a, ns, rfl, SqL.of h1, by omega, fun q n hq hn _ => ⟨q, fun j => decide (j ∈ ns), n, rfl, upd_same, by omega, fun ms l hs hm hl hl2 => ?_⟩⟩
    have hms : ms = setSort ns := strict_one hs (setSort_lt ns) fun k => by rw [hm k, setSort_mem]; simp
    subst hms
    have g1 : Grow B1 H1 B1 (upd H1 q (SetO X.w q (fun j => decide (j ∈ ns)) n)) := Grow.heap r1.bh hq
    have r3 := r1.grow g1
    refine newL (Q := Q) r3.bh (Reps.ofInts _) hl2 fun w B3 H3 gr nw => k w B3 H3 (r3.grow gr) (s1.tr gr.bb) (nw.res r3)
  · cases e3
end
end NS

set_option Elab.async false
set_option linter.all false
set_option maxRecDepth 100000
set_option maxHeartbeats 4000000
/-! NsZ: from a def of trees to a law's row. -/
namespace NS
open PySem L2 PyProof.Rows
/-- the makers' tables at the law's head -/
structure Heads (K : PySem.W.Frag) (h : Heap) : Prop where
  at_ : ∀ x c P, x ∈ lamNames → PySem.W.tabIn K x = some (c, P) → PySem.W.CodeHd h c P ∧ h.get? P = some (PySem.W.tabObj #[])
  no : PySem.W.noTabs K = true
  ap : ∀ x y c d P, x ∈ lamNames → y ∈ lamNames → PySem.W.tabIn K x = some (c, P) → PySem.W.tabIn K y = some (d, P) → x = y
theorem Heads.tab {K : PySem.W.Frag} {h : Heap} (T : Heads K h) {P : Addr} (e : isTab K P) : h.get? P = some (PySem.W.tabObj #[]) := by
  obtain ⟨x, hx, c, hc⟩ := e
  exact (T.at_ x c P hx hc).2
theorem Heads.off {K : PySem.W.Frag} {h : Heap} (T : Heads K h) (KX : K.In h) {P : Addr} (e : isTab K P) : K.lookup P = none := by
  cases q : K.lookup P with
  | none => rfl
  | some o =>
    have e1 := KX P o q
    rw [T.tab e] at e1
    have h2 := List.all_eq_true.mp T.no (P, o) (PySem.W.mem_of_lookupK q)
    cases e1
    exact absurd (show false = true from h2) Bool.false_ne_true
open Classical in
noncomputable def lessT (K : PySem.W.Frag) (H : Hp) : Hp := fun b => if isTab K b then none else H b
theorem lessT_sub {K : PySem.W.Frag} {H : Hp} : Sub (lessT K H) H := fun b o e => by
  unfold lessT at e
  split at e
  · cases e
  · exact e
/-- what a law's walk is told of the makers -/
structure MakersOk (K : PySem.W.Frag) (mg : Str → Option Value) (base : Heap) : Prop where
  tb : ∀ x c P, x ∈ lamNames → PySem.W.tabIn K x = some (c, P) → LamX.TabB base mg c P
  ap : ∀ x y c d P, x ∈ lamNames → y ∈ lamNames → PySem.W.tabIn K x = some (c, P) → PySem.W.tabIn K y = some (d, P) → x = y
/-- the call of the law, at an abstract heap that knows the script and the makers' tables alone -/
theorem lawCore {P : Program} {w : World} {K : PySem.W.Frag} {mg mb : Str → Option Value} {k : Nat} {fa a : Addr} {fd : FuncData} {x : Str} {g : List Opd → Option Res} {s₁ : Shared} {vs : List Value} {ns : List Int}
    (KX : K.In s₁.heap) (hns : s₁.heap.Ns mainGlobals mg) (hb : s₁.heap.Ns builtinsNs mb) (hbb : ∀ x : Str, x ≠ "__name__" → mb x = bootBuiltins x) (hlim : s₁.heap.NoLimit) (hg : s₁.gens = #[]) (T : Heads K s₁.heap)
    (hbm : ∃ (bm : Addr) (ob : Obj), mg "__builtins__" = some (.ref bm) ∧ bm ≠ builtinsNs ∧ s₁.heap.get? bm = some ob ∧ ob.cls = .type "module" ∧ ob.dict = some builtinsNs ∧ ob.data = .plain)
    (ha : s₁.heap.get? a = some { cls := .type "list", data := .seq vs.toArray }) (hr : Room k callerA)
    (F : ∀ base : Heap, K.In base → base.Ns mainGlobals mg → MakersOk K mg base → FnG P w K mg base CX0 k fa fd [x] (spT K 1 g)) (hbind : ∀ (s : Shared) (u : Value), BindsTo s fd ⟨[u], []⟩ [(x, u)])
    (hgv : g [.s ns] = some (.d (.bool true))) (H : Hp) (hO : ∀ b, H b = none ∨ isTab K b ∨ ∃ o xs, H b = some (.frz o (.lst xs))) (hTt : ∀ b, isTab K b → H b = some (.tbl #[])) (hS : SqL K (lessT K H) a (ns.map V.int)) (hok : HOk P w H s₁.heap) (hA : ∀ b, H b ≠ none → b = a ∨ isTab K b) (hK : H a ≠ none → K.lookup a = none) :
    codeAny (model P w) callerA (.call (.ref fa) ⟨[.ref a], []⟩) (fun r s' => r = .ok (.ret (.bool true)) ∧ OldK s₁.heap s'.heap ∧ s'.os = s₁.os ∧ AllBare s'.gens) s₁ := by
  have known : ∀ {b : Addr} {o : Obj}, s₁.heap.get? b = some o → H b ≠ none → (b = a ∧ o = { cls := .type "list", data := .seq vs.toArray }) ∨ (isTab K b ∧ o = PySem.W.tabObj #[]) := fun {b o} e n => by
    rcases hA b n with e' | e'
    · subst e'
      rw [ha] at e
      exact .inl ⟨rfl, (Option.some.inj e).symm⟩
    · rw [T.tab e'] at e
      exact .inr ⟨e', (Option.some.inj e).symm⟩
  have free : ∀ {b : Addr} {o : Obj}, s₁.heap.get? b = some o → (∀ y n, o.data ≠ .seq y n) → o.data ≠ .fields #[] → H b = none := fun {b o} e d d2 => Classical.byContradiction fun n => by
    rcases known e n with ⟨_, z⟩ | ⟨_, z⟩
    · subst z
      exact d _ _ rfl
    · subst z
      exact d2 rfl
  have stay : ∀ {b : Addr} {o : Obj}, s₁.heap.get? b = some o → (∀ y n, o.data ≠ .seq y n) → o.data ≠ .fields #[] → (hidT s₁.heap H).get? b = some o := fun {b o} e d d2 => hidT_get e (free e d d2)
  have space : ∀ {b : Addr} {m : Str → Option Value}, s₁.heap.Ns b m → (hidT s₁.heap H).Ns b m := fun {b m} ⟨o, es, ep, e, d, r⟩ => ⟨o, es, ep, stay e (fun y n z => by rw [d] at z; cases z) (fun z => by rw [d] at z; cases z), d, r⟩
  have KB : K.In (hidT s₁.heap H) := fun b o e => hidT_get (KX b o e) (Classical.byContradiction fun n => by
    rcases known (KX b o e) n with ⟨z, _⟩ | ⟨z, _⟩
    · subst z
      rw [hK n] at e
      cases e
    · rw [T.off KX z] at e
      cases e)
  have M : Mod K mg (hidT s₁.heap H) := ⟨KB, space hns, ⟨mb, space hb, hbb⟩, let ⟨mc, h1, h2⟩ := hlim; ⟨mc, space h1, h2⟩⟩
  have gl : ∀ {b : Addr}, b = mainGlobals → ∃ es ep, ∀ o, s₁.heap.get? b = some o → o.data = .dict es ep := fun {b} e => by
    obtain ⟨o, es, ep, q, d, _⟩ := hns
    subst e
    exact ⟨es, ep, fun o' q' => by rw [q] at q'; cases q'; exact d⟩
  have TB : MakersOk K mg (hidT s₁.heap H) := by
    refine ⟨fun y c Pt hy hc => ?_, T.ap⟩
    obtain ⟨h1, h2⟩ := T.at_ y c Pt hy hc
    refine ⟨?_, ?_, fun z => ?_⟩
    · obtain ⟨o, us, f1, f2, f3, f4, f5, f6, f7, e1, r1, r2, r3, rest⟩ := h1
      refine ⟨o, us, f1, f2, f3, f4, f5, f6, f7, stay e1 (fun y n z => by rw [r2] at z; cases z) (fun z => ?_), r1, r2, r3, rest⟩
      rw [r2] at z
      cases z
      simp at r3
    · obtain ⟨bm, ob, b1, b2, b3, b4, b5, b6⟩ := hbm
      refine ⟨bm, ob, b1, b2, fun z => ?_, fun z => ?_, stay b3 (fun y n z => by rw [b6] at z; cases z) (fun z => by rw [b6] at z; cases z), b4, b5, b6⟩
      · obtain ⟨es, ep, q⟩ := gl z
        have := q ob b3
        rw [b6] at this
        cases this
      · rw [z, h2] at b3
        cases b3
        cases b6
    · obtain ⟨es, ep, q⟩ := gl z.symm
      have := q _ h2
      cases this
  have en : Env0 P w K mg (hidT s₁.heap H) callerA [] s₁ H := ⟨rfl, M, fun b o e => of_hidT e, Nat.le_of_eq (hidT_size _ _), trivial, fun b z => absurd (show b ∈ ([] : List Addr) from z) (by simp), hok, .of_eq hg⟩
  have tb : TabsK K (lessT K H) H := ⟨fun y Pt e => LamX.TabS.nil (hTt Pt ⟨y, e⟩), fun Pt e => by unfold lessT; exact if_pos e⟩
  have sp : spT K 1 g [.ref a] H (fun v _ => v = .bl true) E0 := ⟨lessT K H, [.s ns], _, lessT_sub, tb, rfl, rfl, ⟨_, _, rfl, ⟨a, rfl, hS⟩, rfl⟩, hgv, fun v B' H' gr nw => by
    cases (show Rep B' v (.bool true) from nw)
    rfl⟩
  refine codeAny_mono ((F _ KB (space hns) TB).run callerA [] s₁ H ⟨[.ref a], []⟩ [.ref a] [.ref a] _ _ rfl hr en (hbind s₁ (.ref a)) (.cons rfl .nil) sp) fun r s' h => ?_
  match r, h with
  | .error e, h => exact False.elim h
  | .ok .next, h => exact False.elim h
  | .ok .brk, h => exact False.elim h
  | .ok .cont, h => exact False.elim h
  | .ok (.ret u), h =>
    obtain ⟨v, H', os, bare, un, hok', rv, hv⟩ := h
    cases (show v = .bl true from hv)
    cases (show u = Value.bool true from rv)
    have key : ∀ b o, ¬ isTab K b → s₁.heap.get? b = some o → s'.heap.get? b = some o := fun b o nt e => by
      by_cases n : H b = none
      · exact un.keep b o e n (fun z => absurd (show b ∈ ([] : List Addr) from z) (by simp)) (by simp)
      · rcases hO b with z | z | ⟨ob, xs, z⟩
        · exact absurd z n
        · exact absurd z nt
        · obtain ⟨e1, _⟩ := hok b _ z
          obtain ⟨e2, _⟩ := hok' b _ (un.frzs b ob _ z)
          rw [e] at e1
          cases e1
          exact e2
    have tabs : ∀ b, isTab K b → ∃ more : Array Value, s'.heap.get? b = some (PySem.W.tabObj more) := fun b z => by
      obtain ⟨more, q⟩ := un.tbls b #[] (hTt b z)
      exact ⟨_, hok' b _ q⟩
    refine ⟨rfl, ⟨fun b o e => ?_, fun b o e => ?_⟩, os, bare⟩
    · by_cases nt : isTab K b
      · obtain ⟨more, hm⟩ := tabs b nt
        obtain ⟨y, hy, c, hc⟩ := nt
        obtain ⟨h1, h2⟩ := T.at_ y c b hy hc
        rw [h2] at e
        cases e
        exact .inr (.inl ⟨(h1.tab h2).isCodeTable, rfl, #[], more, rfl, by rw [Array.empty_append]; exact hm⟩)
      · exact .inl (key b o nt e)
    · by_cases nt : isTab K b
      · obtain ⟨more, hm⟩ := tabs b nt
        exact ⟨_, hm⟩
      · exact ⟨o, key b o nt e⟩
/-- each maker that the law can come to is a def of the text -/
def madeIn (q : Program) (K : PySem.W.Frag) : Bool := lamNames.all fun x => ((PySem.W.tabIn K x).isNone || ((recsOf q).find? fun e => e.name == x).isSome) && lamNames.all fun y => x == y || match PySem.W.tabIn K x, PySem.W.tabIn K y with
  | some a, some b => a.2 != b.2
  | _, _ => true
open Classical in
theorem lawWalk {l : PySem.W.OpenLaw} {k : Nat} {q : Program} {loose : List Str} {XP : (Str → Option Value) → Heap → Prop} {YP : World → Heap → Prop} {d : DefRec} {K : Params → PySem.W.Frag} {x : Str} {g : List Opd → Option Res}
    (hn : l.most = some 63) (hdf : d.params.defaults = []) (hr : Room k callerA) (hY : ∀ (w : World) (h : Heap), YP w h → (K w.params).In h)
    (hno : ∀ p, PySem.W.noTabs (K p) = true) (hmk : ∀ p, madeIn q (K p) = true)
    (F : ∀ (w : World) (mg : Str → Option Value) (fa : Addr) (h : Heap), (K w.params).In h → h.Ns mainGlobals mg → mg d.name = some (.ref fa) →
      ∃ fd : FuncData, (∀ (s : Shared) (u : Value), BindsTo s fd ⟨[u], []⟩ [(x, u)]) ∧ ∀ base : Heap, (K w.params).In base → base.Ns mainGlobals mg → MakersOk (K w.params) mg base → FnG l.prog w (K w.params) mg base CX0 k fa fd [x] (spT (K w.params) 1 g))
    (hgv : ∀ ns : List Int, ns.length ≤ 63 → g [.s ns] = some (.d (.bool true))) : PySem.W.WalkO q loose XP YP l.row.toRowW d [] (fun f vs => PySem.call f vs) := by
  refine Att.attach_callB hn hdf fun w s₀ s₁ mg mb fa o pm cd doc a vs ns G Y ho hd hcd hmg hobj hints hlen hbits hg => ?_
  have KX := hY w _ Y
  have made : ∀ y ∈ lamNames, ((PySem.W.tabIn (K w.params) y).isNone || ((recsOf q).find? fun e => e.name == y).isSome) = true ∧ ∀ z ∈ lamNames, (y == z || match PySem.W.tabIn (K w.params) y, PySem.W.tabIn (K w.params) z with
    | some a, some b => a.2 != b.2
    | _, _ => true) = true := fun y hy => by
    have e1 := List.all_eq_true.mp (hmk w.params) y hy
    rw [Bool.and_eq_true] at e1
    exact ⟨e1.1, fun z hz => List.all_eq_true.mp e1.2 z hz⟩
  have T : Heads (K w.params) s₁.heap := ⟨fun y c P hy hc => by
    have e1 := (made y hy).1
    rw [hc] at e1
    simp only [Option.isNone_some, Bool.false_or] at e1
    obtain ⟨d', hd'⟩ := Option.isSome_iff_exists.mp e1
    exact PySem.W.tab_of G.T KX hd' hc, hno w.params, fun y z c c' P hy hz h1 h2 => by
    have e1 := (made y hy).2 z hz
    rw [h1, h2] at e1
    simpa using e1⟩
  obtain ⟨fd, hb, hF⟩ := F w mg fa _ KX G.T.g hmg
  have rv := vals_ints hints
  have hsz : ns.length ≤ sizeLine := by rw [sizeLine_eq]; omega
  have hvl := hints.length
  have aT : ¬ isTab (K w.params) a := fun z => by
    have e := T.tab z
    rw [hobj] at e
    cases e
  by_cases hk : (K w.params).lookup a = none
  · have hHa : ∀ b, (fun b => if b = a then some (.frz { cls := .type "list", data := .seq vs.toArray } (.lst (ns.map V.int))) else if isTab (K w.params) b then some (.tbl #[]) else none : Hp) b = (if b = a then some (.frz { cls := .type "list", data := .seq vs.toArray } (.lst (ns.map V.int))) else if isTab (K w.params) b then some (.tbl #[]) else none) := fun _ => rfl
    refine lawCore KX G.T.g G.T.b G.T.builtins G.T.nolimit hg T G.T.bmain hobj hr hF hb (hgv ns hlen) (fun b => if b = a then some (.frz { cls := .type "list", data := .seq vs.toArray } (.lst (ns.map V.int))) else if isTab (K w.params) b then some (.tbl #[]) else none)
      (fun b => ?_) (fun b z => ?_) (.inl (.inr ⟨{ cls := .type "list", data := .seq vs.toArray }, ?_⟩)) (fun b u z => ?_) (fun b z => ?_) fun _ => hk
    · by_cases e : b = a
      · exact .inr (.inr ⟨_, _, if_pos e⟩)
      · by_cases e2 : isTab (K w.params) b
        · exact .inr (.inl e2)
        · exact .inl ((if_neg e).trans (if_neg e2))
    · have e : b ≠ a := fun e => aT (by rw [← e]; exact z)
      exact (if_neg e).trans (if_pos z)
    · unfold lessT
      exact (if_neg aT).trans (if_pos rfl)
    · by_cases e : b = a
      · have z' := (if_pos e).symm.trans z
        cases z'
        subst e
        exact ⟨hobj, by rw [List.length_map]; exact hsz, vs, _, rv, hobj⟩
      · by_cases e2 : isTab (K w.params) b
        · have z' := ((if_neg e).trans (if_pos e2)).symm.trans z
          cases z'
          exact T.tab e2
        · have z' := ((if_neg e).trans (if_neg e2)).symm.trans z
          cases z'
    · by_cases e : b = a
      · exact .inl e
      · exact .inr (Classical.byContradiction fun e2 => z ((if_neg e).trans (if_neg e2)))
  · obtain ⟨ob, hob⟩ : ∃ ob, (K w.params).lookup a = some ob := by
      cases z : (K w.params).lookup a with
      | none => exact absurd z hk
      | some ob => exact ⟨ob, rfl⟩
    have e := KX a ob hob
    rw [hobj] at e
    cases e
    refine lawCore KX G.T.g G.T.b G.T.builtins G.T.nolimit hg T G.T.bmain hobj hr hF hb (hgv ns hlen) (fun b => if isTab (K w.params) b then some (.tbl #[]) else none)
      (fun b => ?_) (fun b z => if_pos z) (.inr ⟨_, vs.toArray, _, hob, rfl, rfl, rfl, by rw [List.size_toArray, hvl]; exact hsz, by simpa using rv⟩) (fun b u z => ?_) (fun b z => ?_) fun z => absurd (if_neg aT) z
    · by_cases e2 : isTab (K w.params) b
      · exact .inr (.inl e2)
      · exact .inl (if_neg e2)
    · by_cases e2 : isTab (K w.params) b
      · have z' := (if_pos e2).symm.trans z
        cases z'
        exact T.tab e2
      · have z' := (if_neg e2).symm.trans z
        cases z'
    · exact .inr (Classical.byContradiction fun e2 => z (if_neg e2))
/-- a def that is called by its name -/
structure Callee (P : Program) (w : World) (K : PySem.W.Frag) (mg : Str → Option Value) (base : Heap) (x : Str) (k : Nat) (ps : List Str) (sp : Sp) : Prop where
  ex : ∃ f fd, FnG P w K mg base CX0 k f fd ps sp ∧ mg x = some (.ref f) ∧ PySem.W.keepIn K (.ref f) = true ∧ Binds K fd ps []
/-- a def as it stands behind the top -/
structure DefAt (K : PySem.W.Frag) (mg : Str → Option Value) (x : Str) (st : Stmt) (ps : List Str) : Prop where
  ex : ∃ f fd, L2.Fun K x x st f fd ∧ mg x = some (.ref f) ∧ Binds K fd ps []
section
variable {P : Program} {w : World} {K : PySem.W.Frag} {mg : Str → Option Value} {base : Heap} {x : Str} {st : Stmt} {N ps : List Str} {k : Nat} {body : Es}
theorem DefAt.t (D : DefAt K mg x st ps) (S : FnScope N ps (defScope st)) (hnl : ps.length ≤ N.length)
    (hb : ∀ (f : Addr) (cdv : Value) (A : Around) (outer : List PySem.Env) (s : Shared) (H : Hp) (E : XK), A.guards = some [] → Room k (A.deeper (envOfC x (defScope st) s.heap.objs.size f cdv)) →
      PSs (cxOf CX0 P w K mg base N x (defScope st) f cdv A outer s H E).nox (defBody st) (tS K body)) : Callee P w K mg base x (k + 1) ps (spT K ps.length (runT N.length body)) := by
  obtain ⟨f, fd, F, hm, hbi⟩ := D.ex
  exact ⟨f, fd, okT F S hnl (hb f), hm, F.kp, hbi⟩
theorem DefAt.u (D : DefAt K mg x st ps) (S : FnScope N ps (defScope st)) (hnl : ps.length ≤ N.length)
    (hb : ∀ (f : Addr) (cdv : Value) (A : Around) (outer : List PySem.Env) (s : Shared) (H : Hp) (E : XK), A.guards = some [] → Room k (A.deeper (envOfC x (defScope st) s.heap.objs.size f cdv)) →
      PSs (cxOf CX0 P w K mg base N x (defScope st) f cdv A outer s H E).nox (defBody st) (tS K body)) : Callee P w K mg base x (k + 1) ps (spU K ps.length (runU N.length body)) := by
  obtain ⟨f, fd, F, hm, hbi⟩ := D.ex
  exact ⟨f, fd, okU F S hnl (hb f), hm, F.kp, hbi⟩
theorem defAt {l : PySem.W.OpenLaw} {h : Heap} {oc kV doc pm cdv ct : Value} {od an : Option Addr} {osl : Array (Option Value)} {f : Addr} (X : K.In h) (G : h.Ns mainGlobals mg) (a : PySem.W.nsIn K mainGlobals x = some (some (.ref f)))
    (lk : K.lookup f = some ⟨oc, od, .func (PySem.W.fnOf x x (defArgs st) (defBody st) (defScope st) .none kV doc pm an cdv ct), osl⟩) (c : PySem.W.codeIn K cdv x = true) (kp : PySem.W.keepIn K (.ref f) = true)
    (hb : ∀ (kV doc pm : Value) (an : Option Addr) (cdv ct : Value) (us : List Value), us.length = ps.length → bindArgs (PySem.W.fnOf x x (defArgs st) (defBody st) (defScope st) .none kV doc pm an cdv ct) ⟨us, []⟩ = pure (ps.zip us)) : DefAt K mg x st ps :=
  ⟨f, _, fun_mk lk c kp, PySem.W.mg_of X G a, (fun_mk (st := st) lk c kp).binds hb⟩
end
/-- a def that makes lambdas, as it stands behind the top -/
structure DefAtM (K : PySem.W.Frag) (mg : Str → Option Value) (x : Str) (st : Stmt) (ps : List Str) (c P : Addr) : Prop where
  ex : ∃ (f : Addr) (oc : Value) (od : Option Addr) (kV doc pm : Value) (an : Option Addr) (ct : Value) (osl : Array (Option Value)),
    K.lookup f = some ⟨oc, od, .func (PySem.W.fnOf x x (defArgs st) (defBody st) (defScope st) .none kV doc pm an (.ref c) ct), osl⟩ ∧ PySem.W.codeIn K (.ref c) x = true ∧ PySem.W.keepIn K (.ref f) = true ∧ mg x = some (.ref f) ∧
      Binds K (PySem.W.fnOf x x (defArgs st) (defBody st) (defScope st) .none kV doc pm an (.ref c) ct) ps []
  tab : PySem.W.tabIn K x = some (c, P)
theorem tab_at {K : PySem.W.Frag} {x y z : Str} {pa : Arguments} {bo : List Stmt} {sc : Scope} {dV kV doc pm cdv ct oc : Value} {od an : Option Addr} {osl : Array (Option Value)} {f : Addr} (a : PySem.W.nsIn K mainGlobals x = some (some (.ref f)))
    (lk : K.lookup f = some ⟨oc, od, .func (PySem.W.fnOf y z pa bo sc dV kV doc pm an cdv ct), osl⟩) (m : (PySem.W.tabIn K x).isSome = true) : ∃ c P, cdv = .ref c ∧ PySem.W.tabIn K x = some (c, P) := by
  obtain ⟨⟨c, P⟩, h⟩ := Option.isSome_iff_exists.mp m
  refine ⟨c, P, ?_, h⟩
  unfold PySem.W.tabIn at h
  rw [a] at h
  simp only [lk] at h
  split at h
  · split at h
    · split at h
      · cases h; rfl
      · cases h
    · cases h
  · cases h
theorem defAtM {l : PySem.W.OpenLaw} {h : Heap} {K : PySem.W.Frag} {mg : Str → Option Value} {x : Str} {st : Stmt} {ps : List Str} {oc kV doc pm cdv ct : Value} {od an : Option Addr} {osl : Array (Option Value)} {f : Addr} (X : K.In h) (G : h.Ns mainGlobals mg) (a : PySem.W.nsIn K mainGlobals x = some (some (.ref f)))
    (lk : K.lookup f = some ⟨oc, od, .func (PySem.W.fnOf x x (defArgs st) (defBody st) (defScope st) .none kV doc pm an cdv ct), osl⟩) (c : PySem.W.codeIn K cdv x = true) (kp : PySem.W.keepIn K (.ref f) = true) (m : (PySem.W.tabIn K x).isSome = true)
    (hb : ∀ (kV doc pm : Value) (an : Option Addr) (cdv ct : Value) (us : List Value), us.length = ps.length → bindArgs (PySem.W.fnOf x x (defArgs st) (defBody st) (defScope st) .none kV doc pm an cdv ct) ⟨us, []⟩ = pure (ps.zip us)) : ∃ c P, DefAtM K mg x st ps c P := by
  obtain ⟨c0, P, e, ht⟩ := tab_at a lk m
  subst e
  exact ⟨c0, P, ⟨f, oc, od, kV, doc, pm, an, ct, osl, lk, c, kp, PySem.W.mg_of X G a, (fun_mk (st := st) lk c kp).binds hb⟩, ht⟩
theorem DefAtM.t {P : Program} {w : World} {K : PySem.W.Frag} {mg : Str → Option Value} {base : Heap} {x : Str} {st : Stmt} {N ps : List Str} {k : Nat} {body : Es} {c Pt : Addr} (D : DefAtM K mg x st ps c Pt) (S : FnScope N ps (defScope st)) (hnl : ps.length ≤ N.length)
    (hb : ∀ (f : Addr) (A : Around) (outer : List PySem.Env) (s : Shared) (H : Hp) (E : XK), A.guards = some [] → Room k (A.deeper (envOfC x (defScope st) s.heap.objs.size f (.ref c))) →
      PSs (cxOf CX0 P w K mg base N x (defScope st) f (.ref c) A outer s H E).nox (defBody st) (tS K body)) : Callee P w K mg base x (k + 1) ps (spT K ps.length (runT N.length body)) := by
  obtain ⟨f, oc, od, kV, doc, pm, an, ct, osl, lk, hcd, kp, hm, hbi⟩ := D.ex
  refine ⟨f, _, fnG_of lk hcd S spT_len fun A outer s H vs Q E hg hr hsp => ⟨_, (hb f A outer s H E hg hr).nox, ?_⟩, hm, kp, hbi⟩
  exact okT_at hnl hsp
section
variable {X : Cx} {k j n : Nat} {ps : List Str} {x : Str} {p pos : Pos} {e : Expr} {es : List Expr} {fa : Ev (List Opd)}
theorem e_fun {g : List Opd → Option Res} (C : Callee X.prog X.w X.K X.mg X.base x j ps (spT X.K n g)) (hgd : X.A.guards = some []) (hr : Room k X.A) (hjk : j ≤ k) (hg : Gl X x) (ha : PA X (e :: es) (tA X.K fa)) (hdb : (x == ("__debug__" : Str)) = false := by decide)
    (he : starEach (e :: es) X.env = (false, eval e X.env) :: starEach es X.env := by rfl) (hpl : (backTo pos (starEach es X.env)).any (·.1) = false := by rfl) : PE X (.Call (.Name x p) (e :: es) [] pos) (tR X.K (callT n g fa)) := by
  obtain ⟨f, fd, F, hm, hk, hb⟩ := C.ex
  exact e_callT F hgd (hr.mono hjk) hg hm hk hb ha hdb he hpl
theorem e_funU {g : OV → List Opd → Option (Res × OV)} (C : Callee X.prog X.w X.K X.mg X.base x j ps (spU X.K n g)) (hgd : X.A.guards = some []) (hr : Room k X.A) (hjk : j ≤ k) (hg : Gl X x) (ha : PA X (e :: es) (tA X.K fa)) (hdb : (x == ("__debug__" : Str)) = false := by decide)
    (he : starEach (e :: es) X.env = (false, eval e X.env) :: starEach es X.env := by rfl) (hpl : (backTo pos (starEach es X.env)).any (·.1) = false := by rfl) : PE X (.Call (.Name x p) (e :: es) [] pos) (tR X.K (callU n g fa)) := by
  obtain ⟨f, fd, F, hm, hk, hb⟩ := C.ex
  exact e_callU F hgd (hr.mono hjk) hg hm hk hb ha hdb he hpl
end
/-! ### an argument that is handed on as a tree; - x; x is None -/
def slotF (i : Nat) : Ev Opd := fun env => match env[i]? with
  | some (some (.fz d)) => some (.v d, env)
  | some (some (.scr ns)) => some (.s ns, env)
  | some (some ov) => if (ov.owned && !ov.io) = true then some (.v ov.toD, env.set i (some (.fz ov.toD))) else none
  | _ => none
def negR (f : Ev D) : Ev Res := fun env => (f env).bind fun p => match p.1 with
  | .int i => some (.d (.int (-i)), p.2)
  | _ => none
def isNone : D → Bool
  | .none => true
  | _ => false
def gIsN : D → D → Option Res
  | d, .none => some (.d (.bool (isNone d)))
  | _, _ => none
def gNotN : D → D → Option Res
  | d, .none => some (.d (.bool (!isNone d)))
  | _, _ => none
section
variable {X : Cx} {e : Expr} {pos : Pos}
theorem e_slotF {i : Nat} (h : PE X e (tVar i)) : PE X e (tP X.K (slotF i)) := peImp h fun σ H Q ⟨E, B, env, x, env', r, ef, k⟩ => by
  unfold slotF at ef
  split at ef
  · rename_i d hd
    cases ef
    obtain ⟨v, hv, ok⟩ := r.slot i _ hd
    exact ⟨v, hv, k v B H r Sub.rfl' ok⟩
  · rename_i ns hd
    cases ef
    obtain ⟨v, hv, ok⟩ := r.slot i _ hd
    exact ⟨v, hv, k v B H r Sub.rfl' ok⟩
  · rename_i ov h1 h2 hd
    split at ef
    · rename_i w
      cases ef
      simp only [Bool.and_eq_true, Bool.not_eq_true'] at w
      obtain ⟨v, B', hv, s, r', rep⟩ := r.freeze hd w.1 w.2
      exact ⟨v, hv, k v B' H r' s rep⟩
    · cases ef
  · cases ef
theorem e_neg {f : Ev D} (h : PE X e (tE X.K f)) : PE X (.UnaryOp .USub e pos) (tR X.K (negR f)) := peImp (pe_un un_neg h) fun σ H Q ⟨E, B, env, x, env', r, ef, k⟩ => by
  obtain ⟨p, e1, ef⟩ := bindS ef
  split at ef
  · rename_i i hi
    cases ef
    refine ⟨E, B, env, p.1, p.2, r, e1, fun v B' H' r' s' z => ?_⟩
    rw [hi] at z
    cases z
    exact ⟨i, rfl, k _ B' H' r' s' (show Rep _ _ _ from .int _)⟩
  · cases ef
theorem isN_of {B H : Hp} {u : V} {d : D} (h : Rd B H u d) : decide (u = V.non) = isNone d := by
  rcases h with h | ⟨a, o, ov, rfl, _, h2, rfl, _⟩
  · cases h <;> rfl
  · cases ov <;> first | exact False.elim h2 | rfl
theorem p_isN : Prim2 (fun x y H Q => y = V.non ∧ Q (.bl (decide (x = .non))) H) gIsN := fun B H u v dx dy res Q s hx hy e k => by
  cases dy with
  | none =>
    cases e
    exact ⟨hy.non, by rw [isN_of hx]; exact newD s (.bl _) k⟩
  | _ => cases e
theorem p_notN : Prim2 (fun x y H Q => y = V.non ∧ Q (.bl (!decide (x = .non))) H) gNotN := fun B H u v dx dy res Q s hx hy e k => by
  cases dy with
  | none =>
    cases e
    refine ⟨hy.non, ?_⟩
    rw [isN_of hx]
    exact newD s (.bl _) k
  | _ => cases e
end
end NS

set_option Elab.async false
set_option linter.all false
set_option maxRecDepth 100000
set_option maxHeartbeats 4000000
/-! NsX: more constructs: list.insert, slices of tuples, zip. -/
namespace NS
open PySem L2 PyProof.Rows
section
variable {X : Cx} {st : Stmt} {rest : List Stmt} {e : Expr} {pos : Pos} {K : PySem.W.Frag}
def rIns : V → List V → Hp → VK → Prop := fun x vs H Q => ∃ (l : Addr) (xs : List V) (i : Int) (y : V), x = .ref l ∧ vs = [.int i, y] ∧ H l = some (.lst xs) ∧ xs.length < sizeLine ∧ 0 ≤ i ∧ i < 2 ^ 63 ∧ Q .non (upd H l (.lst (xs.take i.toNat ++ [y] ++ xs.drop i.toNat)))
theorem mt_ins : MtR X "list.insert" rIns := mt_insert
def insS (i : Nat) (fi fe : Ev D) : Es := fun env => guardO (ownAt env i) ((fi env).bind fun q => (fe q.2).bind fun p => match env[i]?, p.2[i]?, q.1 with
  | some (some (.ol _ _)), some (some (.ol io ds)), .int n => guardO (decide (0 ≤ n) && decide (n ≤ 1000000) && decide (ds.length < 1000000)) (some (.nx, p.2.set i (some (.ol io (ds.take n.toNat ++ [p.1] ++ ds.drop n.toNat)))))
  | _, _, _ => none)
theorem s_ins {i : Nat} {fi fe : Ev D} (h : PS X st (tDrop (tBM X.K "list" rIns (tVar i) (tCons (tE X.K fi) (tCons (tE X.K fe) tNil))))) : PS X st (tS X.K (insS i fi fe)) := psImp h fun D σ H ⟨E, B, env, fl, env', r, ef, k⟩ => by
  obtain ⟨how, ef⟩ := guardS ef
  obtain ⟨q, e0, ef⟩ := bindS ef
  obtain ⟨p, e1, ef⟩ := bindS ef
  split at ef
  · rename_i io0 ds0 io ds n g0 g1 g2
    obtain ⟨hl, ef⟩ := guardS ef
    cases ef
    simp only [Bool.and_eq_true, decide_eq_true_eq] at hl
    obtain ⟨a, o, h1, h2, ⟨vs0, rfl, rep0⟩, h4⟩ := r.owns g0 rfl
    refine ⟨.ref a, h1, .inl ⟨rfl, vs0, SqL.of h2⟩, E, B, env, q.1, q.2, r, e0, fun u B1 H1 r1 s1 zu => ?_⟩
    rw [g2] at zu
    refine ⟨E, B1, q.2, p.1, p.2, r1, e1, fun v B' H' r' s' z => ?_⟩
    obtain ⟨a', o', k1, k2, ⟨vs, rfl, rep⟩, k4⟩ := r'.owns g1 rfl
    rw [h1] at k1
    cases k1
    cases zu
    exact ⟨a, vs, n, v, rfl, rfl, k2, by rw [rep.len]; exact lcLine hl.2, hl.1.1, by omega, k σ B' _ (r'.write g1 rfl h1 (ov' := .ol io (ds.take n.toNat ++ [p.1] ++ ds.drop n.toNat)) ⟨_, rfl, ((rep.take _).app (.one z)).app (rep.drop _)⟩ rfl) (s1.tr s')⟩
  · cases ef
/-! ### isinstance(x, T), T a built-in type -/
def dTy : D → String
  | .none => "NoneType"
  | .bool _ => "bool"
  | .int _ => "int"
  | .str _ => "str"
  | .list _ => "list"
  | .tuple _ => "tuple"
  | .dict _ => "dict"
def isiB (T : String) (d : D) : Bool := decide (dTy d = T) || (decide (T = "int") && decide (dTy d = "bool"))
theorem rep_ty {K : PySem.W.Frag} {H : Hp} {u : V} {d : D} (h : Rep H u d) : TyX K H u (.type (dTy d)) := by
  cases h with
  | non => exact .base .non
  | bl b => exact .base (.bl b)
  | int i => exact .base (.int i)
  | str x => exact .base (.str x)
  | lst e _ => exact .base (.lst e)
  | tup e _ => exact .base (.tup e)
  | dK e _ => exact .base (.dK e)
  | dT e _ => exact .base (.dT e)
def isiR (T : String) (f : Ev Opd) : Ev Res := fun env => (f env).bind fun p => (opD p.2 p.1).bind fun d => some (.d (.bool (isiB T d)), p.2)
theorem e_isi {f : Ev Opd} {x : Str} {T : String} {p p2 : Pos} (he : PE X e (tP X.K f)) (hg : Gl X "isinstance") (hm : X.mg "isinstance" = none) (gx : Gl X x) (mx : X.mg x = none) (hv : bootBuiltins x = some (.type T))
    (hk : ∀ d, PySem.W.kitOne X.K (.type (dTy d)) (.type T) = some (isiB T d)) (hn : x ≠ "__name__" := by decide) (hd : (x == ("__debug__" : Str)) = false := by decide)
    (hs1 : starEach [e, .Name x p2] X.env = (false, eval e X.env) :: starEach [.Name x p2] X.env := by rfl) (hs2 : starEach [.Name x p2] X.env = (false, eval (.Name x p2) X.env) :: starEach [] X.env := by rfl)
    (hpl : (backTo pos (starEach [.Name x p2] X.env)).any (·.1) = false := by rfl) : PE X (.Call (.Name "isinstance" p) [e, .Name x p2] [] pos) (tR X.K (isiR T f)) :=
  peImp (pe_callB (id := "isinstance") call_isi hg hm PyProof.Rows.boot_isinstance (pa_cons he (pa_cons (pe_bltn (v := .ty T) gx mx hv rfl hn hd) pa_nil hs2) hs1) (by decide) (by decide) hs1 hpl) fun σ H Q ⟨E, B, env, r, env', rr, ef, k⟩ => by
    obtain ⟨q, e1, ef⟩ := bindS ef
    obtain ⟨d, e2, ef⟩ := bindS ef
    cases ef
    refine ⟨E, B, env, q.1, q.2, rr, e1, fun v B' H' r' s' z => ?_⟩
    have hr := (opRd r' z e2).rep r'.bh
    exact ⟨v, .ty T, .type (dTy d), .type T, isiB T d, rfl, .ty T, rep_ty hr, hk d, k _ B' H' r' s' (.bl _)⟩
theorem kit_int {K : PySem.W.Frag} : ∀ d, PySem.W.kitOne K (.type (dTy d)) (.type "int") = some (isiB "int" d) := by intro d; cases d <;> rfl
theorem kit_bool {K : PySem.W.Frag} : ∀ d, PySem.W.kitOne K (.type (dTy d)) (.type "bool") = some (isiB "bool" d) := by intro d; cases d <;> rfl
theorem kit_str {K : PySem.W.Frag} : ∀ d, PySem.W.kitOne K (.type (dTy d)) (.type "str") = some (isiB "str" d) := by intro d; cases d <;> rfl
theorem kit_list {K : PySem.W.Frag} : ∀ d, PySem.W.kitOne K (.type (dTy d)) (.type "list") = some (isiB "list" d) := by intro d; cases d <;> rfl
theorem kit_tuple {K : PySem.W.Frag} : ∀ d, PySem.W.kitOne K (.type (dTy d)) (.type "tuple") = some (isiB "tuple" d) := by intro d; cases d <;> rfl
theorem kit_dict {K : PySem.W.Frag} : ∀ d, PySem.W.kitOne K (.type (dTy d)) (.type "dict") = some (isiB "dict" d) := by intro d; cases d <;> rfl
/-! ### slices of lists, tuples, texts -/
def gSlA : D → Option Int → Option Int → Option Res
  | .list ds, lo, hi => some (.l (cutD ds lo hi))
  | .tuple ds, lo, hi => some (.d (.tuple (cutD ds lo hi)))
  | .str z, lo, hi => guardO (decide (z.length ≤ 1000000)) (some (.d (.str (L2.cutS z lo hi))))
  | _, _, _ => none
def rSlAll (K : PySem.W.Frag) : V → Option Int → Option Int → Hp → VK → Prop := fun x lo hi H Q => (rSlL K x lo hi H Q ∨ rSlA K x lo hi H Q) ∨ rSlS x lo hi H Q
theorem sl_all : SlR X (rSlAll X.K) := (sl_list.or sl_tupA).or sl_str
theorem cutD_whole {ds : List D} {lo hi : Option Int} (h : HT.sIx ds.length 0 lo = 0 ∧ HT.sIx ds.length ds.length hi = ds.length) : cutD ds lo hi = ds := by
  unfold cutD
  rw [h.1, h.2, List.drop_zero, Nat.sub_zero, List.take_of_length_le (Nat.le_refl _)]
theorem p_slA {K : PySem.W.Frag} : PrimS (rSlAll K) gSlA := fun B H u d lo hi res Q s hx e k => by
  cases d with
  | list ds =>
    cases e
    obtain ⟨p, vs, rfl, h1, r1⟩ := hx.lst s
    exact .inl (.inl ⟨p, vs, rfl, SqL.of h1, fun c hc => newL s (cut_rep r1 lo hi) hc k⟩)
  | tuple ds =>
    cases e
    have hr := rep_of_tup hx
    obtain ⟨p, vs, rfl, h1, r1⟩ := hx.tup s
    refine .inl (.inr ⟨p, vs, rfl, SqT.of h1, fun z => ?_, fun _ c hc => newT s (cut_rep r1 lo hi) hc k⟩)
    rw [r1.len] at z
    rw [cutD_whole z] at k
    exact newD s hr k
  | str z =>
    obtain ⟨c, e⟩ := guardS e
    cases e
    cases hx.str
    exact .inr ⟨z, rfl, line6 (of_decide_eq_true c), newD s (.str _) k⟩
  | _ => cases e
/-! ### zip -/
def zipD (a b : List D) : List D := List.zipWith (fun x y => PyData.tuple [x, y]) a b
theorem zipD_at {a b : List D} {i : Nat} {d : D} (h : (zipD a b)[i]? = some d) : ∃ x y, a[i]? = some x ∧ b[i]? = some y ∧ d = .tuple [x, y] := by
  unfold zipD at h
  rw [List.getElem?_zipWith] at h
  split at h
  · rename_i x y hx hy
    exact ⟨x, y, hx, hy, (Option.some.inj h).symm⟩
  · cases h
theorem itzl {K : PySem.W.Frag} {a b : Addr} {B : Hp} {vs us : List V} {ds es : List D} (h : B a = some (.lst vs)) (r : Reps B vs ds) (h' : B b = some (.lst us)) (r' : Reps B us es) : ItD (Itz K a b) B (zipD ds es) := fun i B1 H1 s1 s2 => by
  have hs : SqL K H1 a vs := SqL.of (s2 _ _ (s1 _ _ h))
  have hs' : SqL K H1 b us := SqL.of (s2 _ _ (s1 _ _ h'))
  refine ⟨fun d hd => ?_, fun hl => ⟨vs, us, hs, hs', by
    unfold zipD at hl
    rw [List.length_zipWith] at hl
    rw [r.len, r'.len]; omega⟩⟩
  obtain ⟨x, y, hx, hy, rfl⟩ := zipD_at hd
  obtain ⟨v, hv, rv⟩ := r.get hx
  obtain ⟨w, hw, rw'⟩ := r'.get hy
  refine ⟨⟨vs, us, v, w, hs, hs', hv, hw⟩, fun z H' ⟨T, v', w', e, hT, e2, y1, y2⟩ => ?_⟩
  subst e e2
  have e3 := y1 vs hs
  rw [hv] at e3
  cases e3
  have e4 := y2 us hs'
  rw [hw] at e4
  cases e4
  have g := Grow.both s2 (o := .tup [v, w]) hT
  exact ⟨_, g, .tup upd_same (.cons ((rv.mono s1).mono g.bb) (.cons ((rw'.mono s1).mono g.bb) .nil))⟩
theorem itzt {K : PySem.W.Frag} {a b : Addr} {B : Hp} {vs us : List V} {ds es : List D} (h : B a = some (.tup vs)) (r : Reps B vs ds) (h' : B b = some (.tup us)) (r' : Reps B us es) : ItD (RZ.ItzT K a b) B (zipD ds es) := fun i B1 H1 s1 s2 => by
  have hs : SqT K H1 a vs := SqT.of (s2 _ _ (s1 _ _ h))
  have hs' : SqT K H1 b us := SqT.of (s2 _ _ (s1 _ _ h'))
  refine ⟨fun d hd => ?_, fun hl => ⟨vs, us, hs, hs', by
    unfold zipD at hl
    rw [List.length_zipWith] at hl
    rw [r.len, r'.len]; omega⟩⟩
  obtain ⟨x, y, hx, hy, rfl⟩ := zipD_at hd
  obtain ⟨v, hv, rv⟩ := r.get hx
  obtain ⟨w, hw, rw'⟩ := r'.get hy
  refine ⟨⟨vs, us, v, w, hs, hs', hv, hw⟩, fun z H' ⟨T, v', w', e, hT, e2, y1, y2⟩ => ?_⟩
  subst e e2
  have e3 := y1 vs hs
  rw [hv] at e3
  cases e3
  have e4 := y2 us hs'
  rw [hw] at e4
  cases e4
  have g := Grow.both s2 (o := .tup [v, w]) hT
  exact ⟨_, g, .tup upd_same (.cons ((rv.mono s1).mono g.bb) (.cons ((rw'.mono s1).mono g.bb) .nil))⟩
def itZip (f : Ev (List Opd)) : Ev (List D) := fun env => (f env).bind fun p => match p.1 with
  | [.v (.list a), .v (.list b)] => some (zipD a b, p.2)
  | [.v (.tuple a), .v (.tuple b)] => some (zipD a b, p.2)
  | _ => none
theorem i_zip {X : Cx} {a b : Expr} {f : Ev (List Opd)} {p pos tpos : Pos} {elts : List Expr} {kk : Nat} (hg : Gl X "zip") (hm : X.mg "zip" = none) (ha : PA X [a, b] (tA X.K f))
    (hs : starEach [a, b] X.env = (false, eval a X.env) :: starEach [b] X.env := by rfl) (hpl : (backTo pos (starEach [b] X.env)).any (·.1) = false := by rfl) :
    PI X (.Tuple elts kk tpos) (.Call (.Name "zip" p) [a, b] [] pos) (tIt X.K (itZip f)) := piImp (RZ.pi_zipA hg hm ha hs hpl) fun σ H R ⟨E, B, env, ds, env', r, ef, k⟩ => by
  obtain ⟨q, e1, ef⟩ := bindS (show (f env).bind _ = _ from ef)
  split at ef
  · rename_i x y hj
    cases ef
    refine ⟨E, B, env, q.1, q.2, r, e1, fun vs B' H' r' s' z => ?_⟩
    rw [hj] at z
    obtain ⟨u, rr, rfl, z1, w, rr2, rfl, z2, z3⟩ := z
    cases z3
    cases (show Rep B' u (.list x) from z1) with
    | lst g1 g2 =>
      cases (show Rep B' w (.list y) from z2) with
      | lst g3 g4 => exact ⟨_, _, _, _, rfl, .inl ⟨SqL.of (r'.bh _ _ g1), SqL.of (r'.bh _ _ g3), k _ B' H' r' s' (itzl g1 g2 g3 g4)⟩⟩
  · rename_i x y hj
    cases ef
    refine ⟨E, B, env, q.1, q.2, r, e1, fun vs B' H' r' s' z => ?_⟩
    rw [hj] at z
    obtain ⟨u, rr, rfl, z1, w, rr2, rfl, z2, z3⟩ := z
    cases z3
    cases (show Rep B' u (.tuple x) from z1) with
    | tup g1 g2 =>
      cases (show Rep B' w (.tuple y) from z2) with
      | tup g3 g4 => exact ⟨_, _, _, _, rfl, .inr ⟨SqT.of (r'.bh _ _ g1), SqT.of (r'.bh _ _ g3), k _ B' H' r' s' (itzt g1 g2 g3 g4)⟩⟩
  · cases ef
/-! ### in, not in: lists; all, any -/
def gIn : D → D → Option Res
  | d, .list ds => guardO (SeqAt.shaped d && SeqAt.shaped (.list ds)) (some (.d (.bool (ds.any fun z => PyData.eqv z d))))
  | _, _ => none
def gNotIn : D → D → Option Res
  | d, .list ds => guardO (SeqAt.shaped d && SeqAt.shaped (.list ds)) (some (.d (.bool (!ds.any fun z => PyData.eqv z d))))
  | _, _ => none
theorem p_in {K : PySem.W.Frag} : Prim2 (rInD K) gIn := fun B H u v dx dy res Q s hx hy e k => by
  cases dy with
  | list ds =>
    obtain ⟨hl, e⟩ := guardS e
    cases e
    obtain ⟨h1, h2⟩ := Bool.and_eq_true_iff.mp hl
    exact ⟨dx, ds, (hx.rep s).dp K (SeqAt.canLay_of_shaped h1), (hy.rep s).dp K (SeqAt.canLay_of_shaped h2), h1, h2, newD s (.bl _) k⟩
  | _ => cases e
theorem p_notin {K : PySem.W.Frag} : Prim2 (rNotInD K) gNotIn := fun B H u v dx dy res Q s hx hy e k => by
  cases dy with
  | list ds =>
    obtain ⟨hl, e⟩ := guardS e
    cases e
    obtain ⟨h1, h2⟩ := Bool.and_eq_true_iff.mp hl
    exact ⟨dx, ds, (hx.rep s).dp K (SeqAt.canLay_of_shaped h1), (hy.rep s).dp K (SeqAt.canLay_of_shaped h2), h1, h2, newD s (.bl _) k⟩
  | _ => cases e
def boolsOf : List D → Option (List Bool)
  | [] => some []
  | .bool i :: ds => (boolsOf ds).bind fun r => some (i :: r)
  | _ :: _ => none
theorem boolsOf_map : ∀ ns : List Bool, boolsOf (ns.map PyData.bool) = some ns
  | [] => rfl
  | n :: ns => by simp [boolsOf, boolsOf_map ns]
theorem boolsV {B : Hp} : ∀ {vs : List V} {ds : List D} {bs : List Bool}, Reps B vs ds → boolsOf ds = some bs → vs = bs.map V.bl
  | _, _, _, .nil, e => by cases e; rfl
  | _, _, _, .cons (d := d) (ds := ds) a b, e => by
    cases d with
    | bool i =>
      obtain ⟨r, e1, e2⟩ := bindS e
      cases e2
      cases a
      rw [boolsV b e1]; rfl
    | _ => cases e
def gAll : List D → Option Res
  | [.list ds] => (boolsOf ds).bind fun bs => some (.d (.bool (bs.all id)))
  | _ => none
def gAny : List D → Option Res
  | [.list ds] => (boolsOf ds).bind fun bs => some (.d (.bool (bs.any id)))
  | _ => none
theorem p_all {K : PySem.W.Frag} : PrimN (rAll K) gAll := fun B H us ds res Q s h e k => by
  unfold gAll at e
  split at e
  · obtain ⟨bs, e1, e⟩ := bindS e
    cases e
    obtain ⟨u, rfl, hu⟩ := rds1 h
    obtain ⟨p, vs, rfl, h1, r1⟩ := hu.lst s
    have := boolsV r1 e1
    subst this
    exact ⟨p, bs, rfl, SqL.of h1, newD s (.bl _) k⟩
  · cases e
theorem p_any {K : PySem.W.Frag} : PrimN (rAny K) gAny := fun B H us ds res Q s h e k => by
  unfold gAny at e
  split at e
  · obtain ⟨bs, e1, e⟩ := bindS e
    cases e
    obtain ⟨u, rfl, hu⟩ := rds1 h
    obtain ⟨p, vs, rfl, h1, r1⟩ := hu.lst s
    have := boolsV r1 e1
    subst this
    exact ⟨p, bs, rfl, SqL.of h1, newD s (.bl _) k⟩
  · cases e
theorem room65 {k : Nat} {A : Around} (r : Room k A) : A.units + 65 < cLine := by have := r.un; omega
/-! ### enumerate(list) -/
def enumD (a : List D) : List D := a.mapIdx fun i x => PyData.tuple [.int (i : Nat), x]
theorem ite {K : PySem.W.Frag} {a : Addr} {B : Hp} {vs : List V} {ds : List D} (h : B a = some (.lst vs)) (r : Reps B vs ds) : ItD (Ite K a) B (enumD ds) := fun i B1 H1 s1 s2 => by
  have hs : SqL K H1 a vs := SqL.of (s2 _ _ (s1 _ _ h))
  refine ⟨fun d hd => ?_, fun hl => ⟨vs, hs, by
    unfold enumD at hl
    rw [List.length_mapIdx] at hl
    rw [r.len]; exact hl⟩⟩
  unfold enumD at hd
  rw [List.getElem?_mapIdx] at hd
  obtain ⟨x, hx, rfl⟩ := Option.map_eq_some_iff.mp hd
  obtain ⟨v, hv, rv⟩ := r.get hx
  refine ⟨⟨vs, v, hs, hv⟩, fun z H' ⟨T, v', e, hT, e2, y1⟩ => ?_⟩
  subst e e2
  have e3 := y1 vs hs
  rw [hv] at e3
  cases e3
  have g := Grow.both s2 (o := .tup [.int (i : Nat), v]) hT
  exact ⟨_, g, .tup upd_same (.cons (.int _) (.cons ((rv.mono s1).mono g.bb) .nil))⟩
def itEnum (f : Ev (List Opd)) : Ev (List D) := fun env => (f env).bind fun p => match p.1 with
  | [.v (.list a)] => some (enumD a, p.2)
  | _ => none
theorem i_enum {X : Cx} {a : Expr} {f : Ev (List Opd)} {p pos tpos : Pos} {elts : List Expr} {kk : Nat} (hg : Gl X "enumerate") (hm : X.mg "enumerate" = none) (ha : PA X [a] (tA X.K f))
    (hs : starEach [a] X.env = [(false, eval a X.env)] := by rfl) :
    PI X (.Tuple elts kk tpos) (.Call (.Name "enumerate" p) [a] [] pos) (tIt X.K (itEnum f)) := piImp (pi_enum hg hm ha hs) fun σ H R ⟨E, B, env, ds, env', r, ef, k⟩ => by
  obtain ⟨q, e1, ef⟩ := bindS (show (f env).bind _ = _ from ef)
  split at ef
  · rename_i x hj
    cases ef
    refine ⟨E, B, env, q.1, q.2, r, e1, fun vs B' H' r' s' z => ?_⟩
    rw [hj] at z
    obtain ⟨u, rr, rfl, z1, z3⟩ := z
    cases z3
    cases (show Rep B' u (.list x) from z1) with
    | lst g1 g2 => exact ⟨_, _, rfl, SqL.of (r'.bh _ _ g1), k _ B' H' r' s' (ite g1 g2)⟩
  · cases ef
/-! ### min, max of a list of ints -/
def gMinL : List D → Option Res
  | [.list ds] => (intsOf ds).bind fun ns => ns.min?.bind fun m => some (.d (.int m))
  | _ => none
def gMaxL : List D → Option Res
  | [.list ds] => (intsOf ds).bind fun ns => ns.max?.bind fun m => some (.d (.int m))
  | _ => none
theorem min_one {ns : List Int} {m k : Int} (e : ns.min? = some m) (h : k ∈ ns) (g : ∀ y, y ∈ ns → k ≤ y) : k = m := by
  obtain ⟨h1, h2⟩ := List.min?_eq_some_iff.mp e
  have a := h2 k h
  have b := g m h1
  omega
theorem max_one {ns : List Int} {m k : Int} (e : ns.max? = some m) (h : k ∈ ns) (g : ∀ y, y ∈ ns → y ≤ k) : k = m := by
  obtain ⟨h1, h2⟩ := List.max?_eq_some_iff.mp e
  have a := h2 k h
  have b := g m h1
  omega
theorem p_minL {K : PySem.W.Frag} : PrimN (rMin K) gMinL := fun B H us ds res Q s h e k => by
  unfold gMinL at e
  split at e
  · obtain ⟨ns, e1, e⟩ := bindS e
    obtain ⟨m, e2, e⟩ := bindS e
    cases e
    obtain ⟨u, rfl, hu⟩ := rds1 h
    obtain ⟨p, vs, rfl, h1, r1⟩ := hu.lst s
    have := intsV r1 e1
    subst this
    refine ⟨p, ns, rfl, SqL.of h1, ?_, fun j hj hg => ?_⟩
    · cases ns with
      | nil => cases e2
      | cons a l => exact Nat.succ_pos _
    · rw [min_one e2 hj hg]
      exact newD s (.int _) k
  · cases e
theorem p_maxL {K : PySem.W.Frag} : PrimN (rMax K) gMaxL := fun B H us ds res Q s h e k => by
  unfold gMaxL at e
  split at e
  · obtain ⟨ns, e1, e⟩ := bindS e
    obtain ⟨m, e2, e⟩ := bindS e
    cases e
    obtain ⟨u, rfl, hu⟩ := rds1 h
    obtain ⟨p, vs, rfl, h1, r1⟩ := hu.lst s
    have := intsV r1 e1
    subst this
    refine ⟨p, ns, rfl, SqL.of h1, ?_, fun j hj hg => ?_⟩
    · cases ns with
      | nil => cases e2
      | cons a l => exact Nat.succ_pos _
    · rw [max_one e2 hj hg]
      exact newD s (.int _) k
  · cases e
/-! ### str(int), str(text) -/
def gStr : List D → Option Res
  | [.int i] => guardO (decide (i.natAbs < BIGN)) (some (.d (.str (toString i : String))))
  | [.str z] => some (.d (.str z))
  | _ => none
def rStrAll : List V → Hp → VK → Prop := fun xs H Q => (∃ i, xs = [.int i] ∧ i.natAbs.log2 < 1920 ∧ Q (.str (toString i : String)) H) ∨ (∃ a, xs = [.str a] ∧ Q (.str a) H)
theorem call_strAll : CallR X (.type "str") rStrAll := by
  intro pins s σ H xs us Q I r h
  rcases h with h | h
  · exact call_str_int pins s σ H xs us Q I r h
  · exact SkE.call_str_str pins s σ H xs us Q I r h
theorem p_str : PrimN rStrAll gStr := fun B H us ds res Q s h e k => by
  unfold gStr at e
  split at e
  · rename_i i
    obtain ⟨c, e⟩ := guardS e
    cases e
    obtain ⟨u, rfl, hu⟩ := rds1 h
    cases hu.int
    refine .inl ⟨i, rfl, ?_, newD s (.str _) k⟩
    have := of_decide_eq_true c
    by_cases h0 : i.natAbs = 0
    · rw [h0]; decide
    · have h2 : i.natAbs.log2 < 1000 := (Nat.log2_lt h0).mpr this
      omega
  · cases e
    obtain ⟨u, rfl, hu⟩ := rds1 h
    cases hu.str
    exact .inr ⟨_, rfl, newD s (.str _) k⟩
  · cases e
/-! ### {} -/
def dict0 : Ev Res := fun env => some (.k [], env)
def dict0T : Ev Res := fun env => some (.t [], env)
theorem e_dict0 : PE X (.Dict [] [] pos) (tR X.K dict0) := peImp pe_dnewK fun σ H Q ⟨E, B, env, x, env', r, ef, k⟩ => by
  cases ef
  intro a ha
  have g : Grow B H B (upd H a (.dK [])) := Grow.heap r.bh ha
  have nw : NewV B H (upd H a (.dK [])) B (.k []) (.ref a) := ⟨a, _, rfl, ha, upd_same, ⟨[], rfl, rfl, .nil⟩, r.bh.off ha⟩
  exact k _ _ _ (r.grow g) Sub.rfl' (nw.res r)
theorem e_dict0T : PE X (.Dict [] [] pos) (tR X.K dict0T) := peImp pe_dnewT fun σ H Q ⟨E, B, env, x, env', r, ef, k⟩ => by
  cases ef
  intro a ha
  have g : Grow B H B (upd H a (.dT [])) := Grow.heap r.bh ha
  have nw : NewV B H (upd H a (.dT [])) B (.t []) (.ref a) := ⟨a, _, rfl, ha, upd_same, ⟨[], rfl, rfl, .nil⟩, r.bh.off ha⟩
  exact k _ _ _ (r.grow g) Sub.rfl' (nw.res r)
/-! ### d[k] = v -/
def asKey : D → Option Key
  | .int i => some (.inl i)
  | .str x => some (.inr x)
  | _ => none
def asKeys : List D → Option (List Key)
  | [] => some []
  | d :: ds => (asKey d).bind fun k => (asKeys ds).bind fun ks => some (k :: ks)
theorem asKey_v {B : Hp} {u : V} {d : D} {k : Key} (h : Rep B u d) (e : asKey d = some k) : u = kV k := by
  cases d with
  | int i => cases e; cases h; rfl
  | str x => cases e; cases h; rfl
  | _ => cases e
theorem asKeys_v {B : Hp} : ∀ {us : List V} {ds : List D} {ks : List Key}, Reps B us ds → asKeys ds = some ks → us = ks.map kV
  | _, _, _, .nil, e => by cases e; rfl
  | _, _, _, .cons a b, e => by
    obtain ⟨k, e1, e⟩ := bindS e
    obtain ⟨ks, e2, e⟩ := bindS e
    cases e
    rw [asKey_v a e1, asKeys_v b e2]; rfl
def putD {κ : Type} [DecidableEq κ] (kvs : List (κ × D)) (k : κ) (v : D) : List (κ × D) :=
  if (kvs.any fun kv => decide (kv.1 = k)) = true then kvs.map (fun kv => if kv.1 = k then (kv.1, v) else kv) else kvs ++ [(k, v)]
theorem putR {κ : Type} [DecidableEq κ] {B : Hp} {k : κ} {v : V} {d : D} (h : Rep B v d) : ∀ {kv : List (κ × V)} {kvs : List (κ × D)}, kv.map (·.1) = kvs.map (·.1) → Reps B (kv.map (·.2)) (kvs.map (·.2)) →
    (kv.any fun p => decide (p.1 = k)) = (kvs.any fun p => decide (p.1 = k)) ∧ (kv.map fun p => if p.1 = k then (p.1, v) else p).map (·.1) = (kvs.map fun p => if p.1 = k then (p.1, d) else p).map (·.1) ∧
    Reps B ((kv.map fun p => if p.1 = k then (p.1, v) else p).map (·.2)) ((kvs.map fun p => if p.1 = k then (p.1, d) else p).map (·.2))
  | [], [], _, _ => ⟨rfl, rfl, .nil⟩
  | [], _ :: _, e, _ => by cases e
  | _ :: _, [], e, _ => by cases e
  | p :: kv, q :: kvs, e, r => by
    simp only [List.map_cons, List.cons.injEq] at e
    cases r with
    | cons a b =>
      obtain ⟨h1, h2, h3⟩ := putR (k := k) h (kv := kv) (kvs := kvs) e.2 b
      refine ⟨by simp only [List.any_cons, e.1, h1], ?_, ?_⟩
      · simp only [List.map_cons]
        rw [h2]
        congr 1
        rw [← e.1]
        split
        · show p.1 = p.1
          rfl
        · exact e.1
      · simp only [List.map_cons]
        refine .cons ?_ h3
        rw [← e.1]
        split
        · exact h
        · exact a
theorem put_ok {κ : Type} [DecidableEq κ] {B : Hp} {k : κ} {v : V} {d : D} (h : Rep B v d) {kv : List (κ × V)} {kvs : List (κ × D)} (e : kv.map (·.1) = kvs.map (·.1)) (r : Reps B (kv.map (·.2)) (kvs.map (·.2))) :
    (putK kv k v).map (·.1) = (putD kvs k d).map (·.1) ∧ Reps B ((putK kv k v).map (·.2)) ((putD kvs k d).map (·.2)) := by
  obtain ⟨h1, h2, h3⟩ := putR (k := k) h e r
  unfold putK putD
  rw [h1]
  split
  · exact ⟨h2, h3⟩
  · rw [List.map_append, List.map_append, List.map_append, List.map_append, e]
    exact ⟨rfl, r.app (.one h)⟩
def setDS (i : Nat) (fi fe : Ev D) : Es := fun env => (fe env).bind fun p => guardO (ownAt p.2 i) ((fi p.2).bind fun q => match q.2[i]?, q.1 with
  | some (some (.od io kvs)), d => (asKey d).bind fun k => guardO (decide (kvs.length < 1000000)) (some (.nx, q.2.set i (some (.od io (putD kvs k p.1)))))
  | some (some (.ot io kvs)), .tuple ds => (asKeys ds).bind fun k => guardO (decide (kvs.length < 1000000)) (some (.nx, q.2.set i (some (.ot io (putD kvs k p.1)))))
  | _, _ => none)
theorem s_setD {i : Nat} {fi fe : Ev D} (h : PS X st (tAsg (tE X.K fe) (gSub (tVar i) (tE X.K fi) rSetD))) : PS X st (tS X.K (setDS i fi fe)) := psImp h fun D σ H ⟨E, B, env, fl, env', r, ef, k⟩ => by
  obtain ⟨p, e1, ef⟩ := bindS ef
  obtain ⟨how, ef⟩ := guardS ef
  obtain ⟨q, e2, ef⟩ := bindS ef
  split at ef
  · rename_i d io kvs h1
    obtain ⟨ky, e3, ef⟩ := bindS ef
    obtain ⟨hl, ef⟩ := guardS ef
    cases ef
    refine ⟨E, B, env, p.1, p.2, r, e1, fun v B1 H1 r1 s1 z1 => ?_⟩
    obtain ⟨a, o, ha, _⟩ := r1.ownAt how
    refine ⟨.ref a, ha, E, B1, p.2, q.1, q.2, r1, e2, fun u B2 H2 r2 s2 z2 => ?_⟩
    obtain ⟨a', o', k1, k2, ⟨kv, rfl, hk, rep⟩, k4⟩ := r2.owns h1 rfl
    rw [ha] at k1
    cases k1
    have hlen : kv.length = kvs.length := by simpa using congrArg List.length hk
    obtain ⟨g1, g2⟩ := put_ok (k := ky) (z1.mono s2) hk rep
    refine ⟨a, _, rfl, .inl ⟨kv, ky, k2, asKey_v z2 e3, by rw [hlen]; exact lcLine (of_decide_eq_true hl), rfl⟩, ?_⟩
    exact k σ B2 _ (r2.write h1 rfl ha (ov' := .od io (putD kvs ky p.1)) ⟨_, rfl, g1, g2⟩ rfl) (s1.tr s2)
  · rename_i io kvs ds h1 h2
    obtain ⟨ky, e3, ef⟩ := bindS ef
    obtain ⟨hl, ef⟩ := guardS ef
    cases ef
    refine ⟨E, B, env, p.1, p.2, r, e1, fun v B1 H1 r1 s1 z1 => ?_⟩
    obtain ⟨a, o, ha, _⟩ := r1.ownAt how
    refine ⟨.ref a, ha, E, B1, p.2, q.1, q.2, r1, e2, fun u B2 H2 r2 s2 z2 => ?_⟩
    obtain ⟨a', o', k1, k2, ⟨kv, rfl, hk, rep⟩, k4⟩ := r2.owns h1 rfl
    rw [ha] at k1
    cases k1
    have hlen : kv.length = kvs.length := by simpa using congrArg List.length hk
    obtain ⟨g1, g2⟩ := put_ok (k := ky) (z1.mono s2) hk rep
    rw [h2] at z2
    cases z2 with
    | tup t1 t2 =>
      refine ⟨a, _, rfl, .inr ⟨kv, ky, _, k2, rfl, by rw [← asKeys_v t2 e3]; exact r2.bh _ _ t1, by rw [hlen]; exact lcLine (of_decide_eq_true hl), rfl⟩, ?_⟩
      exact k σ B2 _ (r2.write h1 rfl ha (ov' := .ot io (putD kvs ky p.1)) ⟨_, rfl, g1, g2⟩ rfl) (s1.tr s2)
  · cases ef
/-! ### d[k] -/
def lookK (k : Key) : List (D × D) → Option D
  | [] => none
  | p :: r => if asKey p.1 = some k then some p.2 else lookK k r
def lookT (k : List Key) : List (D × D) → Option D
  | [] => none
  | p :: r => if (match p.1 with | .tuple ds => asKeys ds | _ => none) = some k then some p.2 else lookT k r
theorem asKey_D (k : Key) : asKey (keyD k) = some k := by cases k <;> rfl
theorem asKeys_D : ∀ ks : List Key, asKeys (ks.map keyD) = some ks
  | [] => rfl
  | k :: ks => by simp [asKeys, asKey_D, asKeys_D ks]
theorem lookK_ok {H : Hp} {k : Key} {d : D} : ∀ {kv : List (Key × V)} {ds : List D}, Reps H (kv.map (·.2)) ds → lookK k ((kv.map fun p => keyD p.1).zip ds) = some d → ∃ v, valV kv k = some v ∧ Rep H v d
  | [], _, _, e => by simp [lookK] at e
  | p :: kv, _, .cons (d := x) (ds := ds) a b, e => by
    simp only [List.map_cons, List.zip_cons_cons, lookK, asKey_D] at e
    split at e
    · rename_i h
      cases e
      exact ⟨p.2, valV_pos (Option.some.inj h), a⟩
    · rename_i h
      obtain ⟨v, h1, h2⟩ := lookK_ok b e
      exact ⟨v, by rw [valV_neg (fun z => h (by rw [z]))]; exact h1, h2⟩
theorem lookT_ok {H : Hp} {k : List Key} {d : D} : ∀ {kv : List (List Key × V)} {ds : List D}, Reps H (kv.map (·.2)) ds → lookT k ((kv.map fun p => tkD p.1).zip ds) = some d → ∃ v, valV kv k = some v ∧ Rep H v d
  | [], _, _, e => by simp [lookT] at e
  | p :: kv, _, .cons (d := x) (ds := ds) a b, e => by
    simp only [List.map_cons, List.zip_cons_cons, lookT, tkD, asKeys_D] at e
    split at e
    · rename_i h
      cases e
      exact ⟨p.2, valV_pos (Option.some.inj h), a⟩
    · rename_i h
      obtain ⟨v, h1, h2⟩ := lookT_ok b e
      exact ⟨v, by rw [valV_neg (fun z => h (by rw [z]))]; exact h1, h2⟩
theorem lookK_T {k : Key} : ∀ {ks : List (List Key)} {ds : List D}, lookK k ((ks.map tkD).zip ds) = none
  | [], _ => by simp [lookK]
  | _ :: _, [] => by simp [lookK]
  | _ :: ks, _ :: ds => by
    simp only [List.map_cons, List.zip_cons_cons, lookK]
    rw [if_neg (by intro z; cases z)]
    exact lookK_T
theorem zipK {κ : Type} {f : κ → D} {kv : List (κ × V)} : ∀ {kvs : List (κ × D)}, kv.map (·.1) = kvs.map (·.1) → (kvs.map fun p => (f p.1, p.2)) = (kv.map fun p => f p.1).zip (kvs.map (·.2)) := by
  intro kvs h
  have e : (kv.map fun p => f p.1) = kvs.map fun p => f p.1 := by
    have := congrArg (List.map f) h
    rw [List.map_map, List.map_map] at this
    exact this
  rw [e]
  clear e h
  induction kvs with
  | nil => rfl
  | cons p r ih => simp [ih]
def gDGet : D → D → Option Res
  | .dict ps, .tuple ds => (asKeys ds).bind fun k => (lookT k ps).bind fun d => some (.d d)
  | .dict ps, y => (asKey y).bind fun k => (lookK k ps).bind fun d => some (.d d)
  | _, _ => none
theorem dict_cases {B H : Hp} {u : V} {ps : List (D × D)} (s : Sub B H) (h : NS.Rd B H u (.dict ps)) : ∃ a, u = .ref a ∧
    ((∃ (kv : List (Key × V)) (ds : List D), H a = some (.dK kv) ∧ Reps B (kv.map (·.2)) ds ∧ ps = (kv.map fun p => keyD p.1).zip ds) ∨
      ∃ (kv : List (List Key × V)) (ds : List D), H a = some (.dT kv) ∧ Reps B (kv.map (·.2)) ds ∧ ps = (kv.map fun p => tkD p.1).zip ds) := by
  rcases h with h | ⟨a, o, ov, e, h1, h2, h3, _⟩
  · cases h with
    | dK h r => exact ⟨_, rfl, .inl ⟨_, _, s _ _ h, r, rfl⟩⟩
    | dT h r => exact ⟨_, rfl, .inr ⟨_, _, s _ _ h, r, rfl⟩⟩
  · refine ⟨a, e, ?_⟩
    cases ov with
    | fn _ => exact False.elim h2
    | od b kvs =>
      obtain ⟨kv, rfl, hk, r⟩ := h2
      cases h3
      exact .inl ⟨kv, kvs.map (·.2), h1, r, zipK hk⟩
    | ot b kvs =>
      obtain ⟨kv, rfl, hk, r⟩ := h2
      cases h3
      exact .inr ⟨kv, kvs.map (·.2), h1, r, zipK hk⟩
    | ol b ds => cases h3
    | fz d => exact False.elim h2
    | scr ns => exact False.elim h2
theorem p_dget {B H : Hp} {u v : V} {dx dy : D} {res : Res} {Q : VK} (s : Sub B H) (hx : NS.Rd B H u dx) (hy : NS.Rd B H v dy) (e : gDGet dx dy = some res) (k : ∀ w B' H', Grow B H B' H' → NewV B H H' B' res w → Q w H') : ∃ a w, u = .ref a ∧ DGet H a v (some w) ∧ Q w H := by
  unfold gDGet at e
  split at e
  · rename_i ps ds
    obtain ⟨ky, e1, e⟩ := bindS e
    obtain ⟨d, e2, e⟩ := bindS e
    cases e
    obtain ⟨a, rfl, h⟩ := dict_cases s hx
    obtain ⟨b, us, rfl, t1, t2⟩ := hy.tup s
    rw [asKeys_v t2 e1] at t1
    rcases h with ⟨kv, es, h1, r, rfl⟩ | ⟨kv, es, h1, r, rfl⟩
    · exfalso
      have : ∀ {ks : List Key} {es : List D}, lookT ky ((ks.map keyD).zip es) = none := by
        intro ks
        induction ks with
        | nil => intro es; simp [lookT]
        | cons k0 ks ih =>
          intro es
          cases es with
          | nil => simp [lookT]
          | cons e0 es =>
            simp only [List.map_cons, List.zip_cons_cons, lookT]
            rw [if_neg (by cases k0 <;> (intro z; cases z))]
            exact ih
      rw [show (kv.map fun p => keyD p.1) = (kv.map (·.1)).map keyD by rw [List.map_map]; rfl, this] at e2
      cases e2
    · obtain ⟨w, q1, q2⟩ := lookT_ok r e2
      exact ⟨a, w, rfl, by rw [← q1]; exact DGet.t h1 t1, newD s q2 k⟩
  · rename_i ps hnt
    obtain ⟨ky, e1, e⟩ := bindS e
    obtain ⟨d, e2, e⟩ := bindS e
    cases e
    obtain ⟨a, rfl, h⟩ := dict_cases s hx
    have hv : v = kV ky := asKey_v (hy.rep s) e1
    subst hv
    rcases h with ⟨kv, es, h1, r, rfl⟩ | ⟨kv, es, h1, r, rfl⟩
    · obtain ⟨w, q1, q2⟩ := lookK_ok r e2
      exact ⟨a, w, rfl, by rw [← q1]; exact DGet.k h1, newD s q2 k⟩
    · exfalso
      rw [show (kv.map fun p => tkD p.1) = (kv.map (·.1)).map tkD by rw [List.map_map]; rfl, lookK_T] at e2
      cases e2
  · cases e
theorem e_dget {a i : Expr} {fa fi : Ev Opd} (hu : X.A.units + 1 < cLine) (ha : PE X a (tP X.K fa)) (hi : PE X i (tP X.K fi)) (hs : NoSl i) : PE X (.Subscript a i pos) (tR X.K (bin2 gDGet fa fi)) :=
  peImp (pe_dget hu ha hi hs) fun σ H Q ⟨E, B, env, x, env', rr, ef, k⟩ => by
    obtain ⟨p, e1, ef⟩ := bindS ef
    obtain ⟨q, e2, ef⟩ := bindS ef
    obtain ⟨dx, e3, ef⟩ := bindS ef
    obtain ⟨dy, e4, ef⟩ := bindS ef
    obtain ⟨r, e5, ef⟩ := bindS ef
    cases ef
    refine ⟨E, B, env, p.1, p.2, rr, e1, fun u B1 H1 r1 s1 z1 => ⟨E, B1, p.2, q.1, q.2, r1, e2, fun v B2 H2 r2 s2 z2 => ?_⟩⟩
    exact p_dget r2.bh (opRd r2 (z1.mono s2) e3) (opRd r2 z2 e4) e5 fun w B' H' g n => k w B' H' (r2.grow g) ((s1.tr s2).tr g.bb) (n.res r2)
/-! ### k in d -/
theorem lookK_no {H : Hp} {k : Key} : ∀ {kv : List (Key × V)} {ds : List D}, Reps H (kv.map (·.2)) ds → lookK k ((kv.map fun p => keyD p.1).zip ds) = none → valV kv k = none
  | [], _, _, _ => valV_nil
  | p :: kv, _, .cons (d := x) (ds := ds) a b, e => by
    simp only [List.map_cons, List.zip_cons_cons, lookK, asKey_D] at e
    split at e
    · cases e
    · rename_i h
      rw [valV_neg (fun z => h (by rw [z]))]
      exact lookK_no b e
theorem lookT_no {H : Hp} {k : List Key} : ∀ {kv : List (List Key × V)} {ds : List D}, Reps H (kv.map (·.2)) ds → lookT k ((kv.map fun p => tkD p.1).zip ds) = none → valV kv k = none
  | [], _, _, _ => valV_nil
  | p :: kv, _, .cons (d := x) (ds := ds) a b, e => by
    simp only [List.map_cons, List.zip_cons_cons, lookT, tkD, asKeys_D] at e
    split at e
    · cases e
    · rename_i h
      rw [valV_neg (fun z => h (by rw [z]))]
      exact lookT_no b e
theorem valV_any {κ : Type} [DecidableEq κ] {k : κ} : ∀ {kv : List (κ × V)} {kvs : List (κ × D)}, kv.map (·.1) = kvs.map (·.1) → (valV kv k).isSome = (kvs.any fun p => decide (p.1 = k))
  | [], [], _ => rfl
  | [], _ :: _, e => by cases e
  | _ :: _, [], e => by cases e
  | p :: kv, q :: kvs, e => by
    simp only [List.map_cons, List.cons.injEq] at e
    by_cases h : p.1 = k
    · rw [valV_pos h, List.any_cons, ← e.1, decide_eq_true h]; rfl
    · rw [valV_neg h, valV_any (kvs := kvs) e.2, List.any_cons, ← e.1, decide_eq_false h]; rfl
def inR (i : Nat) (fk : Ev D) : Ev Res := fun env => (fk env).bind fun p => match p.2[i]?, p.1 with
  | some (some (.od _ kvs)), d => (asKey d).bind fun k => some (.d (.bool (kvs.any fun kv => decide (kv.1 = k))), p.2)
  | some (some (.ot _ kvs)), .tuple ds => (asKeys ds).bind fun k => some (.d (.bool (kvs.any fun kv => decide (kv.1 = k))), p.2)
  | _, _ => none
theorem e_in {i : Nat} {fk : Ev D} {a b : Expr} (hu : X.A.units + 1 < cLine) (ha : PE X a (tE X.K fk)) (hb : PE X b (tVar i)) (hm : behindInMarks .In b = false) : PE X (.Compare a [.In] [b] pos) (tR X.K (inR i fk)) :=
  peImp (pe_cmp (pc_din hu ha hb) hm) fun σ H Q ⟨E, B, env, x, env', rr, ef, k⟩ => by
    obtain ⟨p, e1, ef⟩ := bindS ef
    refine ⟨E, B, env, p.1, p.2, rr, e1, fun v B' H' r' s' z => ?_⟩
    split at ef
    · rename_i d io kvs h1
      obtain ⟨ky, e3, ef⟩ := bindS ef
      cases ef
      obtain ⟨a', o, k1, k2, ⟨kv, rfl, hk, rep⟩, k4⟩ := r'.owns h1 rfl
      exact ⟨.ref a', k1, a', valV kv ky, rfl, by rw [asKey_v z e3]; exact DGet.k k2, by rw [valV_any hk]; exact k _ B' H' r' s' (.bl _)⟩
    · rename_i io kvs ds h1 h2
      obtain ⟨ky, e3, ef⟩ := bindS ef
      cases ef
      obtain ⟨a', o, k1, k2, ⟨kv, rfl, hk, rep⟩, k4⟩ := r'.owns h1 rfl
      rw [h2] at z
      cases z with
      | tup t1 t2 => exact ⟨.ref a', k1, a', valV kv ky, rfl, DGet.t k2 (by rw [← asKeys_v t2 e3]; exact r'.bh _ _ t1), by rw [valV_any hk]; exact k _ B' H' r' s' (.bl _)⟩
    · cases ef
end
end NS

set_option Elab.async false
set_option linter.all false
set_option maxRecDepth 100000
set_option maxHeartbeats 4000000
/-! NsL: a lambda of one parameter handed to a def, beside other arguments, and called there. -/
namespace NS
open PySem L2 PyProof.Rows
/-! ### what it answers -/
def capOf : Option OV → Option D
  | some (.fz d) => some d
  | _ => none
def capsOf (env : Env) : List (Option D) := env.map capOf
def lamEnvOf (ds : List (Option D)) (d : D) : Env := ds.map (fun o => o.map OV.fz) ++ [some (.fz d)]
def lamG (fb : Ev Res) (ds : List (Option D)) : List Opd → Option Res
  | [.v d] => (fb (lamEnvOf ds d)).bind fun p => match p.1 with
    | .d x => some (.d x)
    | _ => none
  | _ => none
open Classical in
/-- a call of the function in slot i -/
noncomputable def callF (i : Nat) (F : FnI) (g : List Opd → Option Res) (fa : Ev (List Opd)) : Ev Res := fun env =>
  if env[i]? = some (some (.fn F)) then (fa env).bind fun p => if p.2[i]? = some (some (.fn F)) then (g p.1).bind fun r => some (r, p.2) else none else none
/-- a def whose first argument is a function -/
def runF (n : Nat) (F : FnI) (body : Es) (avs : List Opd) : Option Res := (body (some (.fn F) :: envOf (n - 1) avs)).bind fun p => resOfFl p.1
open Classical in
/-- f(lambda p: .., ..) -/
noncomputable def callL (n na : Nat) (body : FnI → (List Opd → Option Res) → Es) (fb : Ev Res) (fa : Ev (List Opd)) : Ev Res := fun env => (fa env).bind fun p => guardO (noR p.1 && p.1.length == na)
  (if h : ∃ res, ∀ F : FnI, F.ds = capsOf p.2 → runF n F (body F (lamG fb F.ds)) p.1 = some res then some (Classical.choose h, p.2) else none)

/-! ### the lambda's frame -/
structure LamP (sc scope : Scope) (a : Str) : Prop where
  kind : scope.kind = .function
  co : scope.isCoroutine = false
  gen : scope.isGenerator = false
  nocell : ∀ y ∈ scope.names, y.2 ≠ .cell
  par : scope.names.lookup a = some .local
  own : ∀ y ∈ scope.names, y.2 = .local → y.1 = a
  free : ∀ y ∈ scope.names, y.2 = .free → sc.names.lookup y.1 = some .cell ∨ sc.names.lookup y.1 = some .free
def lamPB (sc scope : Scope) (a : Str) : Bool :=
  decide (scope.kind = .function) && !scope.isCoroutine && !scope.isGenerator && decide (scope.names.lookup a = some .local) && scope.names.all fun y => !decide (y.2 = .cell) && (!decide (y.2 = .local) || decide (y.1 = a)) && (!decide (y.2 = .free) || decide (sc.names.lookup y.1 = some .cell) || decide (sc.names.lookup y.1 = some .free))
theorem lamP_by {sc scope : Scope} {a : Str} (h : lamPB sc scope a = true) : LamP sc scope a := by
  unfold lamPB at h
  simp only [Bool.and_eq_true, Bool.or_eq_true, Bool.not_eq_true', decide_eq_true_eq, decide_eq_false_iff_not, List.all_eq_true] at h
  obtain ⟨⟨⟨⟨h1, h2⟩, h3⟩, h4⟩, h5⟩ := h
  refine ⟨h1, h2, h3, fun y hy => (h5 y hy).1.1, h4, fun y hy e => ?_, fun y hy e => ?_⟩
  · rcases (h5 y hy).1.2 with z | z
    · exact absurd e z
    · exact z
  · rcases (h5 y hy).2 with (z | z) | z
    · exact absurd e z
    · exact .inl z
    · exact .inr z
abbrev lamE (X : Cx) (scope : Scope) (L f c' : Addr) : PySem.Env := PySem.W.envX (X.env.qual ++ "<lambda>") scope L f (.ref c') (cloFrom X.env.cells scope.names [])
/-- the context of the lambda's body, entered at s -/
def lamC (X : Cx) (a : Str) (A : Around) (outer : List PySem.Env) (s : Shared) (H : Hp) (scope : Scope) (f c' : Addr) : Cx where
  prog := X.prog
  w := X.w
  K := X.K
  mg := X.mg
  base := X.base
  A := A.deeper (lamE X scope s.heap.objs.size f c')
  N := X.N ++ [a]
  s_0 := s
  H_0 := H
  env := lamE X scope s.heap.objs.size f c'
  outer := outer
  stack := lamE X scope s.heap.objs.size f c' :: outer
  ex := []
  fn := fun _ => false
  calm := true
  pn := []
  xe := fun _ _ => False
section
variable {X : Cx} {pins : List (Addr × Obj)} {σ : L2.St} {H HZ : Hp} {s s1 : Shared}
theorem lam_entry {A : Around} {outer : List PySem.Env} {scope : Scope} {a : Str} {f c' : Addr} {h₁ : Heap} {tk : Nat} {v : V} {u : Value} (I : Inv X pins σ H s) (L : LamP X.env.scope scope a) (hna : a ∉ X.N) (rv : RelV v u)
    (e0 : Env0 X.prog X.w X.K X.mg X.base A outer s1 HZ) (hd : A.handled = none) (un : Un (frs X.stack) [] H HZ s.heap s1.heap) (hns : h₁.Ns s1.heap.objs.size fun y => ([(a, u)] : List (Str × Value)).reverse.lookup y)
    (kp : ∀ b o, s1.heap.get? b = some o → h₁.get? b = some o) : Inv (lamC X a A outer s1 HZ scope f c') [] (σ ++ [some v]) HZ { s1 with heap := h₁, toks := tk } := by
  have hfree : ∀ y ∈ scope.names, y.2 = .free → ∃ c, X.env.cells.lookup y.1 = some c := fun y hy e => (L.free y hy e).elim (fun k => I.ok.has _ (.inl k)) fun k => I.ok.has _ (.inr k)
  -- the captured cells are the maker's
  have back : ∀ {y c}, (cloFrom X.env.cells scope.names []).lookup y = some c → X.env.cells.lookup y = some c := fun {y c} e => by
    rcases cloFrom_mem (PySem.mem_of_lookup e) with hm | ⟨h1, h2⟩
    · cases hm
    · obtain ⟨c1, hc⟩ := hfree _ h1 rfl
      have hc : X.env.cells.lookup y = some c1 := hc
      have e2 : c = c1 := by
        rw [h2, hc] <;> rfl
      rw [e2]
      exact hc
  have there : ∀ {y}, scope.names.lookup y = some .free → ∃ c, (cloFrom X.env.cells scope.names []).lookup y = some c := fun {y} hl => by
    have hy : (y, NameKind.free) ∈ scope.names := PySem.mem_of_lookup hl
    exact mem_lookup (cloFrom_has (cells := X.env.cells) (acc := []) hy)
  have cellK : ∀ {c : Addr} {w : Option Value}, H c = none → s.heap.IsCell c w → h₁.IsCell c w := fun {c w} n ⟨o, ho, hd⟩ => by
    obtain ⟨sl, q⟩ := un.any ho n (by simp)
    exact ⟨_, kp _ _ q, hd⟩
  have nx : ∀ b : Addr, b ∉ (lamC X a A outer s1 HZ scope f c').ex := fun b z => absurd (show b ∈ ([] : List Addr) from z) (by simp)
  have ok : (lamC X a A outer s1 HZ scope f c').Ok := by
    refine ⟨e0.mod, L.kind, rfl, rfl, Nat.le_refl _, fun y z c e1 e2 => I.ok.inj y z c (back e1) (back e2), fun y hy => ?_, fun y c z _ => ?_, fun _ => hd, Around.frames_deeper e0.frames, .inr ⟨rfl, rfl⟩, fun b z => absurd z (nx b), e0.bs, e0.bsz, fun b _ _ => nx b, fun b z => absurd z (nx b), e0.funs, e0.frf⟩
    · have hy : scope.names.lookup y = some .cell ∨ scope.names.lookup y = some .free := hy
      rcases hy with hy | hy
      · exact absurd rfl (L.nocell _ (PySem.mem_of_lookup hy))
      · exact there hy
    · have z : false = true := z
      cases z
  refine ⟨ok, rfl, e0.bare, Un.kept kp, ⟨_, hns, fun i y w e1 e2 e3 => ?_⟩, fun y c e => ?_, e0.hok.fresh (Nat.le_refl _), fun y c e => ?_, fun q hq => absurd (show q ∈ ([] : List (Addr × Obj)) ++ [] from hq) (by simp), e0.hok.kept kp, ?_⟩
  · have e1 : (X.N ++ [a])[i]? = some y := e1
    have e3 : Vis scope y := e3
    have hlen := I.len
    by_cases hi : i < X.N.length
    · rw [List.getElem?_append_left hi] at e1
      rw [List.getElem?_append_left (by omega)] at e2
      have ym : y ∈ X.N := List.mem_of_getElem? e1
      rcases e3 with k | k | k
      · exact absurd (by have := L.own _ (PySem.mem_of_lookup k) rfl; simp only at this; rw [← this]; exact ym) hna
      · exact absurd rfl (L.nocell _ (PySem.mem_of_lookup k))
      · obtain ⟨m, hn, hl⟩ := I.loc
        have hvis : Vis X.env.scope y := (L.free _ (PySem.mem_of_lookup k) rfl).elim (fun k => .inr (.inl k)) fun k => .inr (.inr k)
        obtain ⟨w', r, q⟩ := hl i y w e1 e2 hvis
        obtain ⟨c2, h2⟩ := there k
        refine ⟨w', r, .inr ⟨.inr k, c2, h2, ?_⟩⟩
        have c1 := back h2
        rcases q with ⟨k', _⟩ | ⟨_, c3, e', z⟩
        · have k' : X.env.scope.names.lookup y = some .local := k'
          rcases L.free _ (PySem.mem_of_lookup k) rfl with k2 | k2 <;> rw [show X.env.scope.names.lookup y = _ from k2] at k' <;> cases k'
        · rw [c1] at e'
          cases e'
          exact cellK (I.freeC y _ c1) z
    · rw [List.getElem?_append_right (by omega)] at e1 e2
      by_cases h0 : i - X.N.length = 0
      · rw [h0] at e1
        have ea : a = y := by simpa using e1
        subst ea
        rw [hlen, h0] at e2
        have ev : v = w := by simpa using e2
        subst ev
        exact ⟨u, rv, .inl ⟨L.par, by simp⟩⟩
      · obtain ⟨j, hj⟩ : ∃ j, i - X.N.length = j + 1 := ⟨i - X.N.length - 1, by omega⟩
        rw [hj] at e1
        simp at e1
  · obtain ⟨w', z⟩ := I.cell y c (back e)
    exact ⟨w', cellK (I.freeC y c (back e)) z⟩
  · obtain ⟨w, o, ho, hd⟩ := I.cell y c (back e)
    exact un.free c o ho (I.freeC y c (back e)) (by simp)
  · show (σ ++ [some v]).length = (X.N ++ [a]).length
    rw [List.length_append, List.length_append, I.len]
    rfl
/-- the slots of the lambda's frame -/
theorem rrL {K : PySem.W.Frag} {B H : Hp} {σ : L2.St} {ds : List (Option D)} {v : V} {d : D} (s : Sub B H) (tb : TabsK K B H) (hl : σ.length = ds.length) (hold : ∀ (i : Nat) (d : D), ds[i]? = some (some d) → ∃ u, σ[i]? = some (some u) ∧ Rep B u d) (rv : Rep B v d) :
    RR K (entT H B (σ ++ [some v])) B H (σ ++ [some v]) (lamEnvOf ds d) := by
  have look : ∀ (i : Nat) (ov : OV), (lamEnvOf ds d)[i]? = some (some ov) → ∃ x u, ov = .fz x ∧ (σ ++ [some v])[i]? = some (some u) ∧ Rep B u x := fun i ov e => by
    unfold lamEnvOf at e
    by_cases hi : i < ds.length
    · rw [List.getElem?_append_left (by simpa using hi), List.getElem?_map] at e
      cases q : ds[i]? with
      | none => rw [q] at e; cases e
      | some o =>
        rw [q] at e
        cases o with
        | none => cases e
        | some x =>
          cases e
          obtain ⟨u, h1, h2⟩ := hold i x q
          exact ⟨x, u, rfl, by rw [List.getElem?_append_left (by omega)]; exact h1, h2⟩
    · rw [List.getElem?_append_right (by simpa using hi), List.length_map] at e
      by_cases h0 : i - ds.length = 0
      · rw [h0] at e
        have e' : ov = .fz d := by simpa using e.symm
        exact ⟨d, v, e', by rw [List.getElem?_append_right (by omega), hl, h0]; rfl, rv⟩
      · obtain ⟨j, hj⟩ : ∃ j, i - ds.length = j + 1 := ⟨i - ds.length - 1, by omega⟩
        rw [hj] at e
        simp at e
  refine ⟨s, Sub.rfl', fun _ z => z, fun _ _ e _ _ => e, tb, fun _ e => e, fun _ _ e => .inl e, ?_, fun i ov e => ?_, fun i a ⟨ov, e, w, _⟩ => ?_, fun i a ov e w _ _ => ?_, fun i j a ⟨ov, e, w, _⟩ _ => ?_, fun i ov e w => ?_⟩
  · unfold lamEnvOf
    simp [hl]
  · obtain ⟨x, u, rfl, h1, h2⟩ := look i ov e
    exact ⟨u, h1, h2⟩
  · obtain ⟨x, u, rfl, _, _⟩ := look i ov e; cases w
  · obtain ⟨x, u, rfl, _, _⟩ := look i ov e; cases w
  · obtain ⟨x, u, rfl, _, _⟩ := look i ov e; cases w
  · obtain ⟨x, u, rfl, _, _⟩ := look i ov e; cases w
/-- what a call of the function in slot i does -/
def Acts (Z : Cx) (a : Str) (i : Nat) (F : FnI) (g : List Opd → Option Res) : Prop := ∀ {e : Expr} {p1 p2 : Pos} {fa : Ev (List Opd)}, PA Z [e] (tA Z.K fa) → (starEach [e] Z.env = (false, eval e Z.env) :: starEach [] Z.env) → PE Z (.Call (.Name a p1) [e] [] p2) (tR Z.K (callF i F g fa))
theorem acts {CXg : CXT} {Eg : XK} {Ng : List Str} {qg : Str} {sg : Scope} {g : Addr} {cdg pm ctv : Value} {params : Arguments} {body : Expr} {scope : Scope} {k i : Nat} {a a' : Str} {F : FnI} {fb : Ev Res} (I : Inv X pins σ H s) (L : LamP X.env.scope scope a') (hna : a' ∉ X.N)
    (hf : s.heap.get? F.f = some (PySem.W.kla_obj "<lambda>" (X.env.qual ++ "<lambda>") params body scope (cloFrom X.env.cells scope.names []) pm F.c ctv)) (hfn : H F.f = none) (hfr : F.f ∉ frs X.stack) (hq : F.q = X.env.qual ++ "<lambda>") (hσ : F.σ = σ) (hds : F.ds.length = σ.length)
    (hbind : ∀ u : Value, bindArgs (PySem.W.kla_fn "<lambda>" (X.env.qual ++ "<lambda>") params body scope (cloFrom X.env.cells scope.names []) pm (.ref F.c) ctv) ⟨[u], []⟩ = pure [(a', u)])
    (hgd : X.A.guards = some []) (hr : Room (k + 1) (X.A.deeper (envOfC qg sg s.heap.objs.size g cdg)))
    (hbody : ∀ (A : Around) (outer : List PySem.Env) (s : Shared) (H : Hp), A.guards = some [] → Room k (A.deeper (lamE X scope s.heap.objs.size F.f F.c)) → PE (lamC X a' A outer s H scope F.f F.c) body (tR X.K fb))
    (hN : Ng[i]? = some a) (hv : Vis sg a) (hd : (a == ("__debug__" : Str)) = false := by decide) (hcd : (a == ("__classdict__" : Str)) = false := by decide) :
    Acts (cxOf CXg X.prog X.w X.K X.mg X.base Ng qg sg g cdg X.A X.stack s H Eg).nox a i F (lamG fb F.ds) := by
  intro e p1 p2 fa ha he
  refine ⟨fun pinsZ sZ σZ HZ Q IZ h => ?_⟩
  obtain ⟨E, B, env, res, env', r, ef, kk⟩ := h
  unfold callF at ef
  by_cases hi : env[i]? = some (some (.fn F))
  case neg => rw [if_neg hi] at ef; cases ef
  rw [if_pos hi] at ef
  obtain ⟨q, e1, ef⟩ := bindS ef
  by_cases hi2 : q.2[i]? = some (some (.fn F))
  case neg => rw [if_neg hi2] at ef; cases ef
  rw [if_pos hi2] at ef
  obtain ⟨rs, e2, ef⟩ := bindS ef
  cases ef
  obtain ⟨v0, hs, hv0, _⟩ := r.slot i _ hi
  subst hv0
  refine wpAny_Call_Name_kw (thn ((pe_var (pos := p1) (i := i) hN hv hd hcd).run pinsZ sZ σZ HZ (fun v H1 => v = .ref F.f ∧ H1 = HZ) IZ ⟨.ref F.f, hs, rfl, rfl⟩) fun u s1 ⟨v, H1, I1, r1, q1⟩ => ?_)
  obtain ⟨ev, eH⟩ := q1
  subst ev
  rw [eH] at I1
  obtain rfl : u = Value.ref F.f := r1
  have keepF : ∀ {s2 : Shared} {H2 : Hp} {ps : List (Addr × Obj)}, Inv (cxOf CXg X.prog X.w X.K X.mg X.base Ng qg sg g cdg X.A X.stack s H Eg).nox ps σZ H2 s2 → s2.heap.get? F.f = some (PySem.W.kla_obj "<lambda>" (X.env.qual ++ "<lambda>") params body scope (cloFrom X.env.cells scope.names []) pm F.c ctv) :=
    fun {s2 H2 ps} J => J.base.keep F.f _ hf hfn hfr (fun z => nomatch (show F.f ∈ ([] : List Addr) from z))
  refine PySem.W.callWith_F (q := F.f) ⟨_, _, _, _, keepF I1⟩ ?_ he
  refine thn (ha.run p2 pinsZ s1 σZ HZ (fun vs H2 => ∃ B2, RR X.K E B2 H2 σZ q.2 ∧ Sub B B2 ∧ OpVs X.K B2 σZ q.1 vs) I1 ⟨E, B, env, q.1, q.2, r, e1, fun vs B2 H2 r2 s2 z => ⟨B2, r2, s2, z⟩⟩) fun us s2 ⟨vs, H2, I2, rus, B2, r2, sB, z⟩ => ?_
  have of2 := keepF I2
  refine ⟨⟨_, _, _, _, of2⟩, ?_⟩
  -- the argument
  have hex : ∃ d x p, q.1 = [Opd.v d] ∧ res = Res.d x ∧ fb (lamEnvOf F.ds d) = some p ∧ p.1 = .d x := by
    unfold lamG at e2
    split at e2
    · rename_i d hq1
      obtain ⟨p, f1, f2⟩ := bindS e2
      split at f2
      · rename_i x hx
        cases f2
        exact ⟨d, x, p, hq1, rfl, f1, hx⟩
      · cases f2
    · cases e2
  obtain ⟨d, x, p, hq1, hrs, f1, f2⟩ := hex
  subst hrs
  rw [hq1] at z
  obtain ⟨v1, rest, ez, z1, z2⟩ := z
  have z2 : rest = [] := z2
  subst z2
  subst ez
  obtain ⟨u1, ru, hu1⟩ : ∃ u1, RelV v1 u1 ∧ us = [u1] := by
    obtain ⟨u, e3, r3⟩ := rus.one
    exact ⟨u, r3, e3⟩
  subst hu1
  obtain ⟨v2, hs2, _, hold⟩ := r2.slot i _ hi2
  have hco : H2 F.c = some (LamX.CodeO F.c F.q) := hold.1
  obtain ⟨⟨oc, cvs, t, hoc, hdc, hvc⟩, _, _⟩ := I2.hok F.c _ hco
  have un : Un (frs X.stack) [] H H2 s.heap s2.heap := I2.base
  have hσl : σ.length = F.ds.length := hds.symm
  have rc : codeAny (model X.prog X.w) (X.A.deeper (envOfC qg sg s.heap.objs.size g cdg)) (.call (.ref F.f) ⟨[u1], []⟩) (CR CX0 (envOfC qg sg s.heap.objs.size g cdg :: X.stack) X.prog X.w H2 s2 Q E0) s2 := by
    refine PySem.W.kla_callFunE hr.depth of2 rfl L.co L.gen rfl ⟨F.c, oc, cvs, t, rfl, hoc, hdc, by rw [← hq]; exact hvc⟩ ?_
    rw [hbind]
    have hpar : ∀ y ∈ ([(a', u1)] : List (Str × Value)), scope.names.lookup y.1 = some .local := fun y hy => by
      have hy' : y = (a', u1) := by simpa using hy
      rw [hy']
      exact L.par
    refine wpAny_pure (wpAny_newFunctionEnv (fun y hy => L.nocell y hy) hpar (fun h₁ hns hsb => ⟨I2.nolimit.fresh _ hsb, ?_⟩) L.kind)
    show codeAny _ _ (.expr body (lamE X scope s2.heap.objs.size F.f F.c)) _ _
    have kp : ∀ b o, s2.heap.get? b = some o → h₁.get? b = some o := fun b o e => hsb.extBut b o (Nat.ne_of_lt (Heap.lt_size e)) (Heap.get?_push_of_some _ e)
    have J : Inv (lamC X a' (X.A.deeper (envOfC qg sg s.heap.objs.size g cdg)) (envOfC qg sg s.heap.objs.size g cdg :: X.stack) s2 H2 scope F.f F.c) [] (σ ++ [some v1]) H2 { s2 with heap := h₁, toks := s2.toks + ([(a', u1)] : List (Str × Value)).length } :=
      lam_entry I L hna ru I2.env0 hr.hd un hns kp
    refine PySem.W.kla_codeExpr (wpAny_mono ((hbody (X.A.deeper (envOfC qg sg s.heap.objs.size g cdg)) _ s2 H2 hgd (hr.deeper _)).run [] _ _ H2 Q J ?_) (fun v s' hq => ?_) fun e s' hq => False.elim hq)
    · rw [← hσ]
      refine ⟨entT H2 B2 (F.σ ++ [some v1]), B2, lamEnvOf F.ds d, p.1, p.2, rrL r2.bh r2.tb (by rw [hσ]; exact hσl) hold.2 z1, f1, fun v B3 H3 r3 s3 z3 => ?_⟩
      rw [f2] at z3
      exact kk v B3 H3 (r2.growC r3.growT) (sB.tr r3.b0) z3
    · obtain ⟨w', H', J', rv, q⟩ := hq
      exact ⟨w', H', J'.os, J'.bare, J'.base, J'.hok, rv, q⟩
  refine wpAny_call (codeAny_mono rc fun r s' hq => ?_)
  cases r with
  | error e => exact False.elim hq
  | ok fl =>
    cases fl with
    | ret u => exact I2.after hq
    | next => exact False.elim hq
    | brk => exact False.elim hq
    | cont => exact False.elim hq
end

/-! ### a def whose first argument is a function -/
theorem rrF {K : PySem.W.Frag} {B H : Hp} {N : List Str} {avs : List Opd} {vs : List V} {F : FnI} (s : Sub B H) (tb : TabsK K B H) (hl : avs.length + 1 ≤ N.length) (h : OpVs K B [] avs vs) (hold : FnHold B H F) :
    RR K (entT H B (L2.start N (.ref F.f :: vs))) B H (L2.start N (.ref F.f :: vs)) (some (.fn F) :: envOf (N.length - 1) avs) := by
  have hvl := opvs_len h
  have look : ∀ (i : Nat) (ov : OV), (some (OV.fn F) :: envOf (N.length - 1) avs)[i]? = some (some ov) → (i = 0 ∧ ov = .fn F) ∨ ∃ j a, i = j + 1 ∧ avs[j]? = some a ∧ argOv a = some ov := fun i ov e => by
    cases i with
    | zero => simp at e; exact .inl ⟨rfl, e.symm⟩
    | succ j =>
      obtain ⟨x, e1, e2⟩ := envOf_get (show (envOf (N.length - 1) avs)[j]? = _ by simpa using e)
      exact .inr ⟨j, x, rfl, e1, e2⟩
  have plain : ∀ (i : Nat) (ov : OV), (some (OV.fn F) :: envOf (N.length - 1) avs)[i]? = some (some ov) → ov.owned = false ∧ ov.io = false := fun i ov e => by
    rcases look i ov e with ⟨_, rfl⟩ | ⟨j, a, _, _, e2⟩
    · exact ⟨rfl, rfl⟩
    · exact argOv_plain e2
  refine ⟨s, Sub.rfl', fun _ z => z, fun _ _ e _ _ => e, tb, fun _ e => e, fun _ _ e => .inl e, ?_, fun i ov e => ?_, fun i a ⟨ov, e, w, _⟩ => ?_, fun i a ov e w _ _ => ?_, fun i j a ⟨ov, e, w, _⟩ _ => ?_, fun i ov e w => ?_⟩
  · unfold L2.start envOf
    simp [hvl]
    omega
  · rcases look i ov e with ⟨rfl, rfl⟩ | ⟨j, a, rfl, e1, e2⟩
    · exact ⟨_, start_of (by simp), rfl, hold⟩
    · obtain ⟨u, h1, h2⟩ := opvs_get h e1
      refine ⟨u, start_of (by simpa using h1), ?_⟩
      cases a with
      | v d => cases e2; exact h2
      | s ns => cases e2; exact h2
      | r i => cases e2
  · rw [(plain i ov e).1] at w; cases w
  · rw [(plain i ov e).1] at w; cases w
  · rw [(plain i ov e).1] at w; cases w
  · rw [(plain i ov e).2] at w; cases w
/-- a def whose first argument is a function, called by its name: its body, whatever the function does -/
structure CalleeF (P : Program) (w : World) (K : PySem.W.Frag) (mg : Str → Option Value) (base : Heap) (x : Str) (k : Nat) (a : Str) (ps : List Str) (n : Nat) (b : FnI → (List Opd → Option Res) → Es) : Prop where
  ex : ∃ (f : Addr) (st : Stmt) (N : List Str) (oc : Value) (od : Option Addr) (kV doc pm : Value) (an : Option Addr) (cdv ct : Value) (osl : Array (Option Value)),
    K.lookup f = some ⟨oc, od, .func (PySem.W.fnOf x x (defArgs st) (defBody st) (defScope st) .none kV doc pm an cdv ct), osl⟩ ∧ PySem.W.codeIn K cdv x = true ∧ mg x = some (.ref f) ∧ PySem.W.keepIn K (.ref f) = true ∧
      Binds K (PySem.W.fnOf x x (defArgs st) (defBody st) (defScope st) .none kV doc pm an cdv ct) (a :: ps) [] ∧ FnScope N (a :: ps) (defScope st) ∧ N.length = n ∧ N[0]? = some a ∧ Vis (defScope st) a ∧ ps.length + 1 ≤ n ∧
      ∀ (F : FnI) (g : List Opd → Option Res) (A : Around) (outer : List PySem.Env) (s : Shared) (H : Hp), A.guards = some [] → Room k (A.deeper (envOfC x (defScope st) s.heap.objs.size f cdv)) → Acts (cxOf CX0 P w K mg base N x (defScope st) f cdv A outer s H E0).nox a 0 F g →
        PSs (cxOf CX0 P w K mg base N x (defScope st) f cdv A outer s H E0).nox (defBody st) (tS K (b F g))
theorem DefAt.f {P : Program} {w : World} {K : PySem.W.Frag} {mg : Str → Option Value} {base : Heap} {x a : Str} {st : Stmt} {N ps : List Str} {k : Nat} {b : FnI → (List Opd → Option Res) → Es} (D : DefAt K mg x st (a :: ps)) (S : FnScope N (a :: ps) (defScope st)) (hv : Vis (defScope st) a) (h0 : N[0]? = some a) (hnl : ps.length + 1 ≤ N.length)
    (hb : ∀ (f : Addr) (cdv : Value) (F : FnI) (g : List Opd → Option Res) (A : Around) (outer : List PySem.Env) (s : Shared) (H : Hp), A.guards = some [] → Room k (A.deeper (envOfC x (defScope st) s.heap.objs.size f cdv)) → Acts (cxOf CX0 P w K mg base N x (defScope st) f cdv A outer s H E0).nox a 0 F g →
      PSs (cxOf CX0 P w K mg base N x (defScope st) f cdv A outer s H E0).nox (defBody st) (tS K (b F g))) : CalleeF P w K mg base x k a ps N.length b := by
  obtain ⟨f, fd, F, hm, hbi⟩ := D.ex
  have kp := F.kp
  obtain ⟨oc, od, kV, doc, pm, an, cdv, ct, osl, rfl, lk, hcd⟩ := F.ex
  exact ⟨f, st, N, oc, od, kV, doc, pm, an, cdv, ct, osl, lk, hcd, hm, kp, hbi, S, rfl, h0, hv, hnl, hb f cdv⟩
/-- all makers' tables, with the names of their lambdas -/
def allT (K : PySem.W.Frag) : List (Addr × Str) := lamNames.filterMap fun x => (PySem.W.tabIn K x).map fun p => (p.2, lamQ x)
theorem allT_mem {K : PySem.W.Frag} {x : Str} {c P : Addr} (hx : x ∈ lamNames) (h : PySem.W.tabIn K x = some (c, P)) : (P, lamQ x) ∈ allT K := by
  unfold allT
  rw [List.mem_filterMap]
  exact ⟨x, hx, by rw [h]; rfl⟩
theorem allT_of {K : PySem.W.Frag} {p : Addr × Str} (h : p ∈ allT K) : ∃ x c, x ∈ lamNames ∧ PySem.W.tabIn K x = some (c, p.1) ∧ p.2 = lamQ x := by
  unfold allT at h
  rw [List.mem_filterMap] at h
  obtain ⟨x, hx, e⟩ := h
  cases q : PySem.W.tabIn K x with
  | none => rw [q] at e; cases e
  | some cp =>
    rw [q] at e
    cases e
    exact ⟨x, cp.1, hx, q, rfl⟩
/-- the making of a lambda: what has changed -/
def Made (P c' : Addr) (q : Str) (H H1 : Hp) : Prop := H1 = H ∨ ∃ (ps more : Array Value), H P = some (.tbl ps) ∧ H c' = none ∧ H1 = upd (upd H P (.tbl (ps ++ more))) c' (LamX.CodeO c' q)
theorem lam_make {X : Cx} {pins : List (Addr × Obj)} {σ : L2.St} {H : Hp} {s : Shared} {c P : Addr} {params : Arguments} {body : Expr} {scope : Scope} {pos : Pos} {E : Value → Shared → Prop} {Q : Value → Shared → Prop} (I : Inv X pins σ H s) (TB : LamX.TabB X.base X.mg c P) (hcode : X.env.code = .ref c)
    (hT : LamX.TabS H P (X.env.qual ++ "<lambda>")) (hdef : defaultsOf params X.env = ([], [])) (hfree : ∀ y ∈ scope.names, y.2 = .free → ∃ c, X.env.cells.lookup y.1 = some c)
    (h : ∀ (f c' : Addr) (pm ctv : Value) (H1 : Hp) (s' : Shared), Inv X pins σ H1 s' → Made P c' (X.env.qual ++ "<lambda>") H H1 → LamX.TabS H1 P (X.env.qual ++ "<lambda>") →
      s'.heap.get? f = some (PySem.W.kla_obj "<lambda>" (X.env.qual ++ "<lambda>") params body scope (cloFrom X.env.cells scope.names []) pm c' ctv) → H1 f = none → f ∉ frs X.stack → H1 c' = some (LamX.CodeO c' (X.env.qual ++ "<lambda>")) → Q (.ref f) s') :
    wpAny (model X.prog X.w) X.A (eval (.Lambda params body scope pos) X.env) Q E s := by
  obtain ⟨ps, hP, ht, ha⟩ := hT
  refine PySem.W.kla_eval hdef ?_
  have bP : s.heap.BuiltinsAt X.mg P := TB.bm.keeps I.bk
  have oP : s.heap.get? P = some { cls := .none, data := .fields ps } := I.hok P _ hP
  have new : ∀ f, s.heap.objs.size ≤ f → f ∉ frs X.stack := fun f hf z => by
    rcases List.mem_cons.mp (I.stkSub _ z) with e | e
    · have q := I.lt
      rw [← e] at q
      exact Nat.lt_irrefl _ (Nat.lt_of_lt_of_le q hf)
    · exact I.nofs hf e
  cases hc : codeAmong pos ps.toList with
  | some cv =>
    obtain ⟨c', e, hco⟩ := ha pos cv hc
    subst e
    refine PySem.W.kla_makeFunctionHit (mg := X.mg) (c := c) (P := P) (ps := ps) (closure_ok hfree) I.ok.glob (I.mod.glob.keeps I.bk) hcode (TB.code.keeps I.bk) oP ht hc bP fun ctv h' tk hx hsz => ?_
    have J : Inv X pins σ H { s with heap := h'.push (PySem.W.kla_obj "<lambda>" (X.env.qual ++ "<lambda>") params body scope (cloFrom X.env.cells scope.names []) ((X.mg "__name__").getD .none) c' ctv), toks := tk } := I.kept fun b o e => Heap.get?_push_of_some _ (hx b o e)
    exact h _ c' _ ctv H _ J (.inl rfl) ⟨ps, hP, ht, ha⟩ (Heap.get?_push_size _ rfl) (I.hok.fresh hsz) (new _ hsz) hco
  | none =>
    refine PySem.W.kla_makeFunction (mg := X.mg) (c := c) (P := P) (ps := ps) (closure_ok hfree) I.ok.glob (I.mod.glob.keeps I.bk) hcode (TB.code.keeps I.bk) oP ht hc TB.gP bP fun c' ctv h' tk hx hge hlt hrec htb => ?_
    obtain ⟨c2, oc, vs, t, e2, hoc, hd, hv⟩ := hrec
    cases e2
    have nC : H c' = none := I.hok.fresh hge
    have hsz : s.heap.objs.size ≤ h'.objs.size := Nat.le_trans hge (Nat.le_of_lt hlt)
    have nPc : P ≠ c' := ne_of_none hP nC
    have J := LamX.inv_table (t' := tk) (more := #[rawInt pos.line, rawInt pos.col, .ref c']) (h' := h'.push (PySem.W.kla_obj "<lambda>" (X.env.qual ++ "<lambda>") params body scope (cloFrom X.env.cells scope.names []) ((X.mg "__name__").getD .none) c' ctv)) I hP
      (fun b o hb e => Heap.get?_push_of_some _ (hx b o hb e)) (Heap.get?_push_of_some _ htb) hge ⟨oc, vs, t, Heap.get?_push_of_some _ hoc, hd, hv⟩
    have eL : (ps ++ #[rawInt pos.line, rawInt pos.col, .ref c']).toList = ps.toList ++ [rawInt pos.line, rawInt pos.col, .ref c'] := by simp
    refine h _ c' _ ctv _ _ J (.inr ⟨ps, _, hP, nC, rfl⟩) ⟨_, by rw [upd_ne nPc, upd_same], by rw [eL]; exact PySem.TriplesOk_snoc _ _ _ _ ht, fun p' cv hcv => ?_⟩ (Heap.get?_push_size _ rfl) ?_ (new _ hsz) upd_same
    · rw [eL] at hcv
      rcases LamX.among_app _ ht hcv with z | z
      · obtain ⟨c0, e1, e2⟩ := ha p' cv z
        refine ⟨c0, e1, ?_⟩
        rw [upd_ne (ne_of_none e2 nC), upd_ne (fun z => by rw [z, hP] at e2; have := Option.some.inj e2; unfold LamX.CodeO at this; cases this)]
        exact e2
      · exact ⟨c', z, upd_same⟩
    · have n1 : h'.objs.size ≠ c' := Nat.ne_of_gt hlt
      have n2 : h'.objs.size ≠ P := Nat.ne_of_gt (Nat.lt_of_lt_of_le (Heap.lt_size oP) hsz)
      rw [upd_ne n1, upd_ne n2]
      exact I.hok.fresh hsz
theorem Made.keep {P c' : Addr} {q : Str} {H H1 : Hp} (m : Made P c' q H H1) : ∀ b o, H b = some o → (∀ ps, o ≠ .tbl ps) → H1 b = some o := fun b o e n => by
  rcases m with rfl | ⟨ps, more, hP, nC, rfl⟩
  · exact e
  · rw [upd_ne (ne_of_none e nC), upd_ne (fun z => by rw [z, hP] at e; exact n ps (Option.some.inj e).symm)]
    exact e
theorem Made.other {P c' : Addr} {q : Str} {H H1 : Hp} (m : Made P c' q H H1) : ∀ b o, H b = some o → b ≠ P → H1 b = some o := fun b o e n => by
  rcases m with rfl | ⟨ps, more, hP, nC, rfl⟩
  · exact e
  · rw [upd_ne (ne_of_none e nC), upd_ne n]
    exact e
theorem Made.dom {P c' : Addr} {q : Str} {H H1 : Hp} (m : Made P c' q H H1) : ∀ b, H b ≠ none → H1 b ≠ none := fun b e => by
  rcases m with rfl | ⟨ps, more, hP, nC, rfl⟩
  · exact e
  · by_cases h1 : b = c'
    · subst h1; rw [upd_same]; simp
    · rw [upd_ne h1]
      by_cases h2 : b = P
      · subst h2; rw [upd_same]; simp
      · rw [upd_ne h2]; exact e
/-- x(lambda a': body, ..), in a def y that makes it -/
theorem e_lam {X : Cx} {x y a a' : Str} {k j m n na : Nat} {ps : List Str} {b : FnI → (List Opd → Option Res) → Es} {fb : Ev Res} {fa : Ev (List Opd)} {params : Arguments} {body : Expr} {scope : Scope} {es : List Expr} {p lpos pos : Pos} {c Pt : Addr} (C : CalleeF X.prog X.w X.K X.mg X.base x k a ps n b) (M : MakersOk X.K X.mg X.base) (hy : y ∈ lamNames) (ht : PySem.W.tabIn X.K y = some (c, Pt))
    (hqual : X.env.qual ++ "<lambda>" = lamQ y) (hcode : X.env.code = .ref c) (hgd : X.A.guards = some []) (hr : Room m X.A) (hkm : k + 1 ≤ m) (hjk : j + 1 ≤ k) (hg : Gl X x) (L : LamP X.env.scope scope a') (hna : a' ∉ X.N) (hdef : defaultsOf params X.env = ([], []))
    (hbind : ∀ (q : Str) (cl : List (Str × Addr)) (pm cv ctv u : Value), bindArgs (PySem.W.kla_fn "<lambda>" q params body scope cl pm cv ctv) ⟨[u], []⟩ = pure [(a', u)])
    (hbody : ∀ (A : Around) (outer : List PySem.Env) (s : Shared) (H : Hp) (f c' : Addr), A.guards = some [] → Room j (A.deeper (lamE X scope s.heap.objs.size f c')) → PE (lamC X a' A outer s H scope f c') body (tR X.K fb))
    (ha : PA X es (tA X.K fa)) (hs : starEach (.Lambda params body scope lpos :: es) X.env = (false, eval (.Lambda params body scope lpos) X.env) :: starEach es X.env := by rfl) (hpl : (backTo pos (starEach es X.env)).any (·.1) = false := by rfl)
    (hpn : ps.length = na := by rfl) (hdb : (x == ("__debug__" : Str)) = false := by decide) (hd : (a == ("__debug__" : Str)) = false := by decide) (hcd : (a == ("__classdict__" : Str)) = false := by decide) :
    PE X (.Call (.Name x p) (.Lambda params body scope lpos :: es) [] pos) (tR X.K (callL n na b fb fa)) := by
  refine ⟨fun pins s σ H Q I h => ?_⟩
  obtain ⟨E, B, env, res, env', r, ef, kk⟩ := h
  obtain ⟨q, e1, ef⟩ := bindS ef
  obtain ⟨hn, ef⟩ := guardS ef
  rw [Bool.and_eq_true] at hn
  obtain ⟨hn, hl⟩ := hn
  have hl : q.1.length = na := by simpa using hl
  by_cases hex : ∃ res, ∀ F : FnI, F.ds = capsOf q.2 → runF n F (b F (lamG fb F.ds)) q.1 = some res
  case neg => rw [dif_neg hex] at ef; cases ef
  rw [dif_pos hex] at ef
  have hres := Classical.choose_spec hex
  revert ef hres
  generalize Classical.choose hex = rs
  intro ef hres
  cases ef
  obtain ⟨g, st, Ng, oc, od, kV, doc, pm, an, cdv, ct, osl, lk, hcg, hm, hk, hb, Sg, hNn, hN0, hvis, hps, hG⟩ := C.ex
  have isT : isTab X.K Pt := ⟨y, hy, c, ht⟩
  refine wpAny_Call_Name_kw (ld_glob I hg hm ?_ hdb)
  refine PySem.W.callWith_K (h₀ := X.base) I.ok.mod.kin hk ?_ hs hpl
  rw [hs]
  show wpAny _ _ (spliced ((false, eval (.Lambda params body scope lpos) X.env) :: backTo pos (starEach es X.env))) _ _ s
  refine Calls.spliced_cons (lam_make I (M.tb y c Pt hy ht) hcode (by rw [hqual]; exact r.tb.tab y Pt ⟨hy, c, ht⟩) hdef (fun z hz e => (L.free z hz e).elim (fun k => I.ok.has _ (.inl k)) fun k => I.ok.has _ (.inr k)) fun f c' pm' ctv H1 s1 I1 md T1 hf hfn hfr hco => ?_)
  -- the frame behind the making
  have bh1 : Sub B H1 := fun b o e => md.other b o (r.bh b o e) fun z => by
    rw [z, r.tb.off Pt isT] at e
    cases e
  have tb1 : TabsK X.K B H1 := ⟨fun z P e => by
    by_cases hz : P = Pt
    · subst hz
      obtain ⟨hz, c0, hc0⟩ := e
      rw [M.ap z y c0 c P hz hy hc0 ht, ← hqual]
      exact T1
    · obtain ⟨ps, q1, q2, q3⟩ := r.tb.tab z P e
      refine ⟨ps, md.other P _ q1 hz, q2, fun pos cv hcv => ?_⟩
      obtain ⟨c0, w1, w2⟩ := q3 pos cv hcv
      exact ⟨c0, w1, md.keep c0 _ w2 codeO_nt⟩, r.tb.off⟩
  have r1 : RR X.K E B H1 σ env := r.growC ⟨Sub.rfl', md.keep, md.dom, bh1, fun _ _ h => .inl h, tb1⟩
  -- the other arguments, the new function being held
  obtain ⟨m0, ⟨ol, es0, ep0, hol, hdl, _⟩, _⟩ := id I1.loc
  have neL : f ≠ X.env.locals := fun z => by
    rw [z, hol] at hf
    cases hf
    cases hdl
  have nfs : f ∉ X.fs := fun z => hfr (by
    rcases I1.ok.stk with e | ⟨e, hfm⟩
    · rw [e]; exact z
    · rw [e]
      show f ∈ frs (X.env :: X.outer)
      unfold frs
      rw [List.filterMap_cons, hfm]
      exact List.mem_cons_of_mem _ z)
  have I1p : Inv X ((f, PySem.W.kla_obj "<lambda>" (X.env.qual ++ "<lambda>") params body scope (cloFrom X.env.cells scope.names []) pm' c' ctv) :: pins) σ H1 s1 := I1.pins_of fun pr hpr => by
    rcases List.mem_cons.mp hpr with h2 | h2
    · subst h2
      exact ⟨hf, hfn, neL, nfs, fun v z => by cases z⟩
    · exact I1.pin pr (List.mem_append_right _ h2)
  refine thn (ha.run pos _ s1 σ H1 (fun vs H2 => ∃ B2, RR X.K (loc B H1 σ env) B2 H2 σ q.2 ∧ OpVs X.K B2 σ q.1 vs) I1p ⟨loc B H1 σ env, B, env, q.1, q.2, r1.loc, e1, fun vs B2 H2 r2 s2 z => ⟨B2, r2, z⟩⟩) fun us s2 ⟨vs, H2, I2, rus, B2, r2, z⟩ => ?_
  obtain ⟨hf2, hfn2, _, _, _⟩ := I2.pin (f, PySem.W.kla_obj "<lambda>" (X.env.qual ++ "<lambda>") params body scope (cloFrom X.env.cells scope.names []) pm' c' ctv) (List.mem_append_right _ List.mem_cons_self)
  have I3 : Inv X pins σ H2 s2 := I2.pins_of fun pr hpr => I2.pin pr (List.mem_append_right _ (List.mem_cons_of_mem _ hpr))
  have hco2 : H2 c' = some (LamX.CodeO c' (X.env.qual ++ "<lambda>")) := r2.keep c' _ hco (fun ⟨i, ov, w1, w2, w3⟩ => by
    obtain ⟨a1, o1, v1, v2, v3, _⟩ := r1.owns w1 w2
    rw [w3] at v1
    cases v1
    rw [hco] at v2
    cases v2
    exact v3.next) codeO_nt
  have hqlen := r2.len
  have hold : FnHold B2 H2 ⟨f, c', X.env.qual ++ "<lambda>", σ, capsOf q.2⟩ := ⟨hco2, fun i d e => by
    have e : (q.2.map capOf)[i]? = some (some d) := e
    rw [List.getElem?_map] at e
    cases hq : q.2[i]? with
    | none => rw [hq] at e; cases e
    | some o =>
      rw [hq] at e
      have e' : capOf o = some d := by simpa using e
      cases o with
      | none => cases e'
      | some ov =>
        cases ov with
        | fz d' =>
          cases e'
          obtain ⟨u, h1, h2⟩ := r2.slot i _ hq
          exact ⟨u, h1, h2⟩
        | fn _ => cases e'
        | scr _ => cases e'
        | ol _ _ => cases e'
        | od _ _ => cases e'
        | ot _ _ => cases e'⟩
  have hrun := hres ⟨f, c', X.env.qual ++ "<lambda>", σ, capsOf q.2⟩ rfl
  generalize hF : (⟨f, c', X.env.qual ++ "<lambda>", σ, capsOf q.2⟩ : FnI) = F at hold hrun
  have eF1 : F.f = f := by rw [← hF]
  have eF2 : F.c = c' := by rw [← hF]
  have eF3 : F.q = X.env.qual ++ "<lambda>" := by rw [← hF]
  have eF4 : F.σ = σ := by rw [← hF]
  have eF5 : F.ds = capsOf q.2 := by rw [← hF]
  obtain ⟨pb, f1, f2⟩ := bindS hrun
  have act : Acts (cxOf CX0 X.prog X.w X.K X.mg X.base Ng x (defScope st) g cdv X.A X.stack s2 H2 E0).nox a 0 F (lamG fb F.ds) :=
    acts (k := j) I3 L hna (by rw [eF1, eF2]; exact hf2) (by rw [eF1]; exact hfn2) (by rw [eF1]; exact hfr) eF3 eF4 (by rw [eF5]; unfold capsOf; rw [List.length_map, ← hqlen]) (fun u => hbind _ _ _ _ _ u) hgd (((hr.mono hkm).deeper _).mono hjk) (fun A outer s H hg' hr' => hbody A outer s H F.f F.c hg' hr') hN0 hvis hd hcd
  have body' := hG F (lamG fb F.ds) X.A X.stack s2 H2 hgd ((hr.mono hkm).deeper _) act
  have hvl := opvs_len z
  have hul := rus.length
  have hpl : q.1.length = ps.length := by omega
  have rc : codeAny (model X.prog X.w) X.A (.call (.ref g) ⟨.ref f :: us, []⟩) (CR CX0 X.stack X.prog X.w H2 s2 Q E0) s2 := by
    refine LamX.run_ofS (N := Ng) (ps := a :: ps) (us := .ref f :: us) (vs := .ref f :: vs) lk hcg Sg (hr.mono hkm) I3.env0 ?_ (.cons rfl rus) (by simp; omega) fun hr' => ⟨_, body'.nox, ?_⟩
    · have q := hb s2 (.ref f :: us) I3.kIn (by simp; omega)
      rw [List.append_nil] at q
      exact q
    · rw [← hNn] at f1
      refine ⟨entT H2 B2 (L2.start Ng (.ref f :: vs)), B2, _, pb.1, pb.2, by rw [← eF1]; exact rrF r2.bh r2.tb (by rw [hNn]; omega) (opvs_any hn z) hold, f1, ?_⟩
      have r3 := r1.comp r2
      cases hp : pb.1 with
      | nx =>
        rw [hp] at f2
        cases f2
        exact fun σ' B' H' r' s' => kk .non B' H' (r3.growC r'.growT) (r2.b0.tr s') (show Rep _ _ _ from .non)
      | bk => rw [hp] at f2; cases f2
      | ct => rw [hp] at f2; cases f2
      | rt rr =>
        rw [hp] at f2
        cases f2
        exact fun v σ' B' H' r' s' zz => kk v B' H' (r3.growC r'.growT) (r2.b0.tr s') (zz.newT.res r3)
  refine ⟨I3.kIn, ?_⟩
  refine wpAny_call (codeAny_mono rc fun r s' hq => ?_)
  cases r with
  | error e => exact False.elim hq
  | ok fl =>
    cases fl with
    | ret u => exact I3.after hq
    | next => exact False.elim hq
    | brk => exact False.elim hq
    | cont => exact False.elim hq
end NS

set_option Elab.async false
set_option linter.all false
set_option maxRecDepth 100000
set_option maxHeartbeats 4000000
/-! NsK: a lambda of one parameter handed to a def as the second of two arguments. -/
namespace NS
open PySem L2 PyProof.Rows
def env2 (n : Nat) (F : FnI) (d : D) : Env := some (.fz d) :: some (.fn F) :: List.replicate (n - 2) none
/-- a def whose second argument is a function -/
def runF2 (n : Nat) (F : FnI) (body : Es) (d : D) : Option Res := (body (env2 n F d)).bind fun p => resOfFl p.1
open Classical in
/-- f(x, lambda p: ..) -/
noncomputable def callL2 (n : Nat) (body : FnI → (List Opd → Option Res) → Es) (fb : Ev Res) (fe : Ev Opd) : Ev Res := fun env => (fe env).bind fun p => match p.1 with
  | .v d => (if h : ∃ res, ∀ F : FnI, F.ds = capsOf p.2 → runF2 n F (body F (lamG fb F.ds)) d = some res then some (Classical.choose h, p.2) else none)
  | _ => none
theorem rrF2 {K : PySem.W.Frag} {B H : Hp} {N : List Str} {d : D} {v : V} {F : FnI} (s : Sub B H) (tb : TabsK K B H) (hl : 2 ≤ N.length) (h : Rep B v d) (hold : FnHold B H F) :
    RR K (entT H B (L2.start N [v, .ref F.f])) B H (L2.start N [v, .ref F.f]) (env2 N.length F d) := by
  have look : ∀ (i : Nat) (ov : OV), (env2 N.length F d)[i]? = some (some ov) → (i = 0 ∧ ov = .fz d) ∨ (i = 1 ∧ ov = .fn F) := fun i ov e => by
    unfold env2 at e
    match i with
    | 0 => simp at e; exact .inl ⟨rfl, e.symm⟩
    | 1 => simp at e; exact .inr ⟨rfl, e.symm⟩
    | j + 2 =>
      simp only [List.getElem?_cons_succ] at e
      rw [List.getElem?_replicate] at e
      split at e <;> simp at e
  have plain : ∀ (i : Nat) (ov : OV), (env2 N.length F d)[i]? = some (some ov) → ov.owned = false ∧ ov.io = false := fun i ov e => by
    rcases look i ov e with ⟨_, rfl⟩ | ⟨_, rfl⟩
    · exact ⟨rfl, rfl⟩
    · exact ⟨rfl, rfl⟩
  refine ⟨s, Sub.rfl', fun _ z => z, fun _ _ e _ _ => e, tb, fun _ e => e, fun _ _ e => .inl e, ?_, fun i ov e => ?_, fun i a ⟨ov, e, w, _⟩ => ?_, fun i a ov e w _ _ => ?_, fun i j a ⟨ov, e, w, _⟩ _ => ?_, fun i ov e w => ?_⟩
  · unfold L2.start env2
    simp
  · rcases look i ov e with ⟨rfl, rfl⟩ | ⟨rfl, rfl⟩
    · exact ⟨_, start_of (by simp), h⟩
    · exact ⟨_, start_of (by simp), rfl, hold⟩
  · rw [(plain i ov e).1] at w; cases w
  · rw [(plain i ov e).1] at w; cases w
  · rw [(plain i ov e).1] at w; cases w
  · rw [(plain i ov e).2] at w; cases w
/-- a def whose second argument is a function, called by its name: its body, whatever the function does -/
structure CalleeF2 (P : Program) (w : World) (K : PySem.W.Frag) (mg : Str → Option Value) (base : Heap) (x : Str) (k : Nat) (p0 a : Str) (n : Nat) (b : FnI → (List Opd → Option Res) → Es) : Prop where
  ex : ∃ (f : Addr) (st : Stmt) (N : List Str) (oc : Value) (od : Option Addr) (kV doc pm : Value) (an : Option Addr) (cdv ct : Value) (osl : Array (Option Value)),
    K.lookup f = some ⟨oc, od, .func (PySem.W.fnOf x x (defArgs st) (defBody st) (defScope st) .none kV doc pm an cdv ct), osl⟩ ∧ PySem.W.codeIn K cdv x = true ∧ mg x = some (.ref f) ∧ PySem.W.keepIn K (.ref f) = true ∧
      Binds K (PySem.W.fnOf x x (defArgs st) (defBody st) (defScope st) .none kV doc pm an cdv ct) [p0, a] [] ∧ FnScope N [p0, a] (defScope st) ∧ N.length = n ∧ N[1]? = some a ∧ Vis (defScope st) a ∧ 2 ≤ n ∧
      ∀ (F : FnI) (g : List Opd → Option Res) (A : Around) (outer : List PySem.Env) (s : Shared) (H : Hp), A.guards = some [] → Room k (A.deeper (envOfC x (defScope st) s.heap.objs.size f cdv)) → Acts (cxOf CX0 P w K mg base N x (defScope st) f cdv A outer s H E0).nox a 1 F g →
        PSs (cxOf CX0 P w K mg base N x (defScope st) f cdv A outer s H E0).nox (defBody st) (tS K (b F g))
theorem DefAt.f2 {P : Program} {w : World} {K : PySem.W.Frag} {mg : Str → Option Value} {base : Heap} {x p0 a : Str} {st : Stmt} {N : List Str} {k : Nat} {b : FnI → (List Opd → Option Res) → Es} (D : DefAt K mg x st [p0, a]) (S : FnScope N [p0, a] (defScope st)) (hv : Vis (defScope st) a) (h0 : N[1]? = some a) (hnl : 2 ≤ N.length)
    (hb : ∀ (f : Addr) (cdv : Value) (F : FnI) (g : List Opd → Option Res) (A : Around) (outer : List PySem.Env) (s : Shared) (H : Hp), A.guards = some [] → Room k (A.deeper (envOfC x (defScope st) s.heap.objs.size f cdv)) → Acts (cxOf CX0 P w K mg base N x (defScope st) f cdv A outer s H E0).nox a 1 F g →
      PSs (cxOf CX0 P w K mg base N x (defScope st) f cdv A outer s H E0).nox (defBody st) (tS K (b F g))) : CalleeF2 P w K mg base x k p0 a N.length b := by
  obtain ⟨f, fd, F, hm, hbi⟩ := D.ex
  have kp := F.kp
  obtain ⟨oc, od, kV, doc, pm, an, cdv, ct, osl, rfl, lk, hcd⟩ := F.ex
  exact ⟨f, st, N, oc, od, kV, doc, pm, an, cdv, ct, osl, lk, hcd, hm, kp, hbi, S, rfl, h0, hv, hnl, hb f cdv⟩
/-- what is held of a function that was just made -/
theorem hold_of {K : PySem.W.Frag} {E : Ent} {B H : Hp} {σ : L2.St} {env : Env} {f c' : Addr} {q : Str} (r : RR K E B H σ env) (hco : H c' = some (LamX.CodeO c' q)) : FnHold B H ⟨f, c', q, σ, capsOf env⟩ := ⟨hco, fun i d e => by
    have e : (env.map capOf)[i]? = some (some d) := e
    rw [List.getElem?_map] at e
    cases hq : env[i]? with
    | none => rw [hq] at e; cases e
    | some o =>
      rw [hq] at e
      have e' : capOf o = some d := by simpa using e
      cases o with
      | none => cases e'
      | some ov =>
        cases ov with
        | fz d' =>
          cases e'
          obtain ⟨u, h1, h2⟩ := r.slot i _ hq
          exact ⟨u, h1, h2⟩
        | fn _ => cases e'
        | scr _ => cases e'
        | ol _ _ => cases e'
        | od _ _ => cases e'
        | ot _ _ => cases e'⟩
/-- the frame behind the making of a lambda -/
theorem made_rr {X : Cx} {y : Str} {c Pt c' : Addr} {E : Ent} {B H H1 : Hp} {σ : L2.St} {env : Env} (M : MakersOk X.K X.mg X.base) (hy : y ∈ lamNames) (ht : PySem.W.tabIn X.K y = some (c, Pt)) (hqual : X.env.qual ++ "<lambda>" = lamQ y) (r : RR X.K E B H σ env)
    (md : Made Pt c' (X.env.qual ++ "<lambda>") H H1) (T1 : LamX.TabS H1 Pt (X.env.qual ++ "<lambda>")) : RR X.K E B H1 σ env := by
  have isT : isTab X.K Pt := ⟨y, hy, c, ht⟩
  have bh1 : Sub B H1 := fun b o e => md.other b o (r.bh b o e) fun z => by
    rw [z, r.tb.off Pt isT] at e
    cases e
  have tb1 : TabsK X.K B H1 := ⟨fun z P e => by
    by_cases hz : P = Pt
    · subst hz
      obtain ⟨hz, c0, hc0⟩ := e
      rw [M.ap z y c0 c P hz hy hc0 ht, ← hqual]
      exact T1
    · obtain ⟨ps, q1, q2, q3⟩ := r.tb.tab z P e
      refine ⟨ps, md.other P _ q1 hz, q2, fun pos cv hcv => ?_⟩
      obtain ⟨c0, w1, w2⟩ := q3 pos cv hcv
      exact ⟨c0, w1, md.keep c0 _ w2 codeO_nt⟩, r.tb.off⟩
  exact r.growC ⟨Sub.rfl', md.keep, md.dom, bh1, fun _ _ h => .inl h, tb1⟩
/-- x(e1, lambda a': body), in a def y that makes it -/
theorem e_lam2 {X : Cx} {x y p0 a a' : Str} {k j m n : Nat} {b : FnI → (List Opd → Option Res) → Es} {fb : Ev Res} {fe : Ev Opd} {params : Arguments} {body e1 : Expr} {scope : Scope} {p lpos pos : Pos} {c Pt : Addr} (C : CalleeF2 X.prog X.w X.K X.mg X.base x k p0 a n b) (M : MakersOk X.K X.mg X.base) (hy : y ∈ lamNames) (ht : PySem.W.tabIn X.K y = some (c, Pt))
    (hqual : X.env.qual ++ "<lambda>" = lamQ y) (hcode : X.env.code = .ref c) (hgd : X.A.guards = some []) (hr : Room m X.A) (hkm : k + 1 ≤ m) (hjk : j + 1 ≤ k) (hg : Gl X x) (L : LamP X.env.scope scope a') (hna : a' ∉ X.N) (hdef : defaultsOf params X.env = ([], []))
    (hbind : ∀ (q : Str) (cl : List (Str × Addr)) (pm cv ctv u : Value), bindArgs (PySem.W.kla_fn "<lambda>" q params body scope cl pm cv ctv) ⟨[u], []⟩ = pure [(a', u)])
    (hbody : ∀ (A : Around) (outer : List PySem.Env) (s : Shared) (H : Hp) (f c' : Addr), A.guards = some [] → Room j (A.deeper (lamE X scope s.heap.objs.size f c')) → PE (lamC X a' A outer s H scope f c') body (tR X.K fb))
    (he : PE X e1 (tP X.K fe)) (hs : starEach (e1 :: [.Lambda params body scope lpos]) X.env = (false, eval e1 X.env) :: [(false, eval (.Lambda params body scope lpos) X.env)] := by rfl)
    (hdb : (x == ("__debug__" : Str)) = false := by decide) (hd : (a == ("__debug__" : Str)) = false := by decide) (hcd : (a == ("__classdict__" : Str)) = false := by decide) :
    PE X (.Call (.Name x p) (e1 :: [.Lambda params body scope lpos]) [] pos) (tR X.K (callL2 n b fb fe)) := by
  refine ⟨fun pins s σ H Q I h => ?_⟩
  obtain ⟨E, B, env, res, env', r, ef, kk⟩ := h
  obtain ⟨q, ee, ef⟩ := bindS ef
  obtain ⟨d, hq1⟩ : ∃ d, q.1 = .v d := by
    cases hq : q.1 with
    | v d => exact ⟨d, rfl⟩
    | s ns => rw [hq] at ef; cases ef
    | r i => rw [hq] at ef; cases ef
  rw [hq1] at ef
  by_cases hex : ∃ res, ∀ F : FnI, F.ds = capsOf q.2 → runF2 n F (b F (lamG fb F.ds)) d = some res
  case neg => dsimp only at ef; rw [dif_neg hex] at ef; cases ef
  dsimp only at ef
  rw [dif_pos hex] at ef
  have hres := Classical.choose_spec hex
  revert ef hres
  generalize Classical.choose hex = rs
  intro ef hres
  cases ef
  obtain ⟨g, st, Ng, oc, od, kV, doc, pm, an, cdv, ct, osl, lk, hcg, hm, hk, hb, Sg, hNn, hN0, hvis, hps, hG⟩ := C.ex
  refine wpAny_Call_Name_kw (ld_glob I hg hm ?_ hdb)
  refine PySem.W.callWith_K (h₀ := X.base) I.ok.mod.kin hk ?_ hs rfl
  rw [hs]
  show wpAny _ _ (spliced ((false, eval e1 X.env) :: [(false, eval (.Lambda params body scope lpos) X.env)])) _ _ s
  refine Calls.spliced_cons (thn (he.run pins s σ H (fun v H1 => ∃ B1, RR X.K E B1 H1 σ q.2 ∧ Sub B B1 ∧ OpV X.K B1 σ q.1 v) I ⟨E, B, env, q.1, q.2, r, ee, fun v B1 H1 r1 s1 z => ⟨B1, r1, s1, z⟩⟩) fun u s1 ⟨v, H1, I1, ru, B1, r1, sB, z⟩ => ?_)
  rw [hq1] at z
  have z : Rep B1 v d := z
  refine Calls.spliced_cons (lam_make I1 (M.tb y c Pt hy ht) hcode (by rw [hqual]; exact r1.tb.tab y Pt ⟨hy, c, ht⟩) hdef (fun z hz e => (L.free z hz e).elim (fun k => I1.ok.has _ (.inl k)) fun k => I1.ok.has _ (.inr k)) fun f c' pm' ctv H2 s2 I2 md T1 hf hfn hfr hco => ?_)
  refine Calls.spliced_nil ?_
  have r2 := made_rr M hy ht hqual r1 md T1
  have hold : FnHold B1 H2 ⟨f, c', X.env.qual ++ "<lambda>", σ, capsOf q.2⟩ := hold_of r2 hco
  have hqlen := r2.len
  have hrun := hres ⟨f, c', X.env.qual ++ "<lambda>", σ, capsOf q.2⟩ rfl
  generalize hF : (⟨f, c', X.env.qual ++ "<lambda>", σ, capsOf q.2⟩ : FnI) = F at hold hrun
  have eF1 : F.f = f := by rw [← hF]
  have eF2 : F.c = c' := by rw [← hF]
  have eF3 : F.q = X.env.qual ++ "<lambda>" := by rw [← hF]
  have eF4 : F.σ = σ := by rw [← hF]
  have eF5 : F.ds = capsOf q.2 := by rw [← hF]
  obtain ⟨pb, f1, f2⟩ := bindS hrun
  have act : Acts (cxOf CX0 X.prog X.w X.K X.mg X.base Ng x (defScope st) g cdv X.A X.stack s2 H2 E0).nox a 1 F (lamG fb F.ds) :=
    acts (k := j) I2 L hna (by rw [eF1, eF2]; exact hf) (by rw [eF1]; exact hfn) (by rw [eF1]; exact hfr) eF3 eF4 (by rw [eF5]; unfold capsOf; rw [List.length_map, ← hqlen]) (fun u => hbind _ _ _ _ _ u) hgd (((hr.mono hkm).deeper _).mono hjk) (fun A outer s H hg' hr' => hbody A outer s H F.f F.c hg' hr') hN0 hvis hd hcd
  have body' := hG F (lamG fb F.ds) X.A X.stack s2 H2 hgd ((hr.mono hkm).deeper _) act
  have rc : codeAny (model X.prog X.w) X.A (.call (.ref g) ⟨[u, .ref f], []⟩) (CR CX0 X.stack X.prog X.w H2 s2 Q E0) s2 := by
    refine LamX.run_ofS (N := Ng) (ps := [p0, a]) (us := [u, .ref f]) (vs := [v, .ref f]) lk hcg Sg (hr.mono hkm) I2.env0 ?_ (.cons ru (.cons rfl .nil)) rfl fun hr' => ⟨_, body'.nox, ?_⟩
    · have q := hb s2 [u, .ref f] I2.kIn (by simp)
      rw [List.append_nil] at q
      exact q
    · rw [← hNn] at f1
      refine ⟨entT H2 B1 (L2.start Ng [v, .ref f]), B1, _, pb.1, pb.2, by rw [← eF1]; exact rrF2 r2.bh r2.tb (by rw [hNn]; omega) z hold, f1, ?_⟩
      cases hp : pb.1 with
      | nx =>
        rw [hp] at f2
        cases f2
        exact fun σ' B' H' r' s' => kk .non B' H' (r2.growC r'.growT) (sB.tr r'.b0) (show Rep _ _ _ from .non)
      | bk => rw [hp] at f2; cases f2
      | ct => rw [hp] at f2; cases f2
      | rt rr =>
        rw [hp] at f2
        cases f2
        exact fun v σ' B' H' r' s' zz => kk v B' H' (r2.growC r'.growT) (sB.tr r'.b0) (zz.newT.res r2)
  refine ⟨I2.kIn, ?_⟩
  refine wpAny_call (codeAny_mono rc fun r s' hq => ?_)
  cases r with
  | error e => exact False.elim hq
  | ok fl =>
    cases fl with
    | ret u => exact I2.after hq
    | next => exact False.elim hq
    | brk => exact False.elim hq
    | cont => exact False.elim hq
end NS

set_option Elab.async false
set_option linter.all false
set_option maxRecDepth 100000
set_option maxHeartbeats 4000000
/-! NsT: a lambda whose parameter is a cell (a comprehension in its body looks at it), perhaps of a name that the def around has, too. -/
namespace NS
open PySem L2 PyProof.Rows
def cellFlt (names : List (Str × NameKind)) : List (Str × NameKind) := names.filter fun y => y.2 == .cell
theorem cellsFrom_flt : ∀ (names : List (Str × NameKind)) (n : Nat) (acc : List (Str × Addr)), cellsFrom n names acc = cellsFrom n (cellFlt names) acc
  | [], _, _ => rfl
  | (x, k) :: r, n, acc => by
    cases h : k == NameKind.cell with
    | true =>
      have e : cellFlt ((x, k) :: r) = (x, k) :: cellFlt r := List.filter_cons_of_pos h
      rw [e]
      unfold cellsFrom
      rw [if_pos h, if_pos h]
      exact cellsFrom_flt r _ _
    | false =>
      have e : cellFlt ((x, k) :: r) = cellFlt r := List.filter_cons_of_neg (by rw [h]; decide)
      rw [e]
      rw [show cellsFrom n ((x, k) :: r) acc = cellsFrom n r acc from by rw [cellsFrom.eq_2]; exact if_neg (by rw [h]; decide)]
      exact cellsFrom_flt r _ _
theorem pushCells_flt : ∀ (names : List (Str × NameKind)) (h : Heap), pushCells h names = pushCells h (cellFlt names)
  | [], _ => rfl
  | (x, k) :: r, hp => by
    cases h : k == NameKind.cell with
    | true =>
      have e : cellFlt ((x, k) :: r) = (x, k) :: cellFlt r := List.filter_cons_of_pos h
      rw [e]
      unfold pushCells
      rw [if_pos h, if_pos h]
      exact pushCells_flt r _
    | false =>
      have e : cellFlt ((x, k) :: r) = cellFlt r := List.filter_cons_of_neg (by rw [h]; decide)
      rw [e]
      rw [show pushCells hp ((x, k) :: r) = pushCells hp r from by rw [pushCells.eq_2]; exact if_neg (by rw [h]; decide)]
      exact pushCells_flt r _
theorem newEnv_cell1 {M : Model} {A : Around} {E : Value → Shared → Prop} {s : Shared} {scope : Scope} {globals : Addr} {clo : List (Str × Addr)} {a : Str} {u : Value} {qual : Str} {func : Option Addr} {code : Value} {builtins : Addr} {Q : PySem.Env → Shared → Prop}
    (hk : scope.kind = .function) (hc : cellFlt scope.names = [(a, .cell)]) (hl : scope.names.lookup a = some .cell)
    (hQ : ∀ h' : Heap, h'.Ns s.heap.objs.size (fun _ => none) → h'.IsCell (s.heap.objs.size + 1) (some u) → (∀ b o, s.heap.get? b = some o → h'.get? b = some o) → Q (newEnv scope s.heap.objs.size globals ((a, s.heap.objs.size + 1) :: clo) qual func code none builtins) { s with heap := h' }) :
    wpAny M A (newFunctionEnv scope globals clo [(a, u)] qual func code none builtins) Q E s := by
  simp only [newFunctionEnv, Option.isSome_none, Bool.false_eq_true, if_false]
  refine wpAny_bind (wpAny_alloc ?_)
  refine wpAny_bind (wpAny_layCells _ (fun name kind cells => by cases hkc : kind == NameKind.cell <;> simp [hkc]) _ _ _ _ ?_)
  rw [cellsFrom_flt, pushCells_flt, hc]
  rw [show ({ s with heap := s.heap.push { cls := .type "frame", data := .dict #[] } } : Shared).heap.objs.size = s.heap.objs.size + 1 from Heap.size_push ..]
  have hsz : (s.heap.push { cls := .type "frame", data := .dict #[] }).objs.size = s.heap.objs.size + 1 := Heap.size_push ..
  have hcell : ((s.heap.push { cls := .type "frame", data := .dict #[] }).push { cls := .type "cell", data := .cell none }).IsCell (s.heap.objs.size + 1) none := by
    rw [← hsz]
    exact ⟨_, Heap.get?_push_size _ rfl, rfl⟩
  have hns : ((s.heap.push { cls := .type "frame", data := .dict #[] }).push { cls := .type "cell", data := .cell none }).Ns s.heap.objs.size (fun _ => none) := (Heap.Ns.new s.heap (.type "frame")).keeps fun b o e => Heap.get?_push_of_some _ e
  have hcl : List.lookup a ((a, s.heap.objs.size + 1) :: clo) = some (s.heap.objs.size + 1) := by simp
  show wpAny M A (bind (forIn [(a, u)] PUnit.unit fun (x : Str × Value) (r : PUnit) => (do storeName (newEnv scope s.heap.objs.size globals ((a, s.heap.objs.size + 1) :: clo) qual func code none builtins) x.1 x.2; pure (ForInStep.yield PUnit.unit))) _) Q E { s with heap := (s.heap.push { cls := .type "frame", data := .dict #[] }).push { cls := .type "cell", data := .cell none } }
  refine wpAny_bind ?_
  rw [List.forIn_cons]
  refine wpAny_bind (wpAny_bind (wpAny_storeName_cell (env := newEnv scope s.heap.objs.size globals ((a, s.heap.objs.size + 1) :: clo) qual func code none builtins) hk hl hcl hcell fun h' hc' hs' => wpAny_pure ?_))
  show wpAny M A (forIn [] _ _) _ E _
  rw [List.forIn_nil]
  refine wpAny_pure (wpAny_pure ?_)
  refine hQ h' (hns.sameBut hs' (Nat.ne_of_lt (Nat.lt_succ_self _))) hc' fun b o e => ?_
  have hlt := Heap.lt_size e
  exact hs'.extBut b o (Nat.ne_of_lt (Nat.lt_succ_of_lt hlt)) (Heap.get?_push_of_some _ (Heap.get?_push_of_some _ e))
/-! ### the lambda's frame -/
structure LamP2 (sc scope : Scope) (a : Str) : Prop where
  kind : scope.kind = .function
  co : scope.isCoroutine = false
  gen : scope.isGenerator = false
  par : scope.names.lookup a = some .cell
  cells : cellFlt scope.names = [(a, .cell)]
  own : ∀ y ∈ scope.names, y.2 ≠ .local
  nov : scope.names.lookup ("" : Str) = none
  free : ∀ y ∈ scope.names, y.2 = .free → sc.names.lookup y.1 = some .cell ∨ sc.names.lookup y.1 = some .free
def lamPB2 (sc scope : Scope) (a : Str) : Bool :=
  decide (scope.kind = .function) && !scope.isCoroutine && !scope.isGenerator && decide (scope.names.lookup a = some .cell) && decide (cellFlt scope.names = [(a, .cell)]) && decide (scope.names.lookup ("" : Str) = none) && scope.names.all fun y => !decide (y.2 = .local) && (!decide (y.2 = .free) || decide (sc.names.lookup y.1 = some .cell) || decide (sc.names.lookup y.1 = some .free))
theorem lamP2_by {sc scope : Scope} {a : Str} (h : lamPB2 sc scope a = true) : LamP2 sc scope a := by
  unfold lamPB2 at h
  simp only [Bool.and_eq_true, Bool.or_eq_true, Bool.not_eq_true', decide_eq_true_eq, decide_eq_false_iff_not, List.all_eq_true] at h
  obtain ⟨⟨⟨⟨⟨⟨h1, h2⟩, h3⟩, h4⟩, h6⟩, h7⟩, h5⟩ := h
  refine ⟨h1, h2, h3, h4, h6, fun y hy => (h5 y hy).1, h7, fun y hy e => ?_⟩
  rcases (h5 y hy).2 with (z | z) | z
  · exact absurd e z
  · exact .inl z
  · exact .inr z
/-- the names of the def around, one of them hidden -/
structure Hid (N N' : List Str) (a : Str) : Prop where
  len : N'.length = N.length
  sub : ∀ (i : Nat) (x : Str), N'[i]? = some x → x = ("" : Str) ∨ N[i]? = some x
  no : a ∉ N'
  neq : a ≠ ("" : Str)
def hidB (N N' : List Str) (a : Str) : Bool := decide (N'.length = N.length) && decide (a ∉ N') && decide (a ≠ ("" : Str)) && (List.range N'.length).all fun i => decide (N'[i]? = some ("" : Str)) || decide (N'[i]? = N[i]?)
theorem hid_by {N N' : List Str} {a : Str} (h : hidB N N' a = true) : Hid N N' a := by
  unfold hidB at h
  simp only [Bool.and_eq_true, decide_eq_true_eq, List.all_eq_true, Bool.or_eq_true, List.mem_range] at h
  obtain ⟨⟨⟨h1, h2⟩, h3⟩, h4⟩ := h
  refine ⟨h1, fun i x e => ?_, h2, h3⟩
  have hi : i < N'.length := (List.getElem?_eq_some_iff.mp e).1
  rcases h4 i hi with z | z
  · rw [e] at z; exact .inl (Option.some.inj z)
  · exact .inr (by rw [← z, e])
theorem hid_of (N : List Str) {a : Str} (h : a ≠ ("" : Str)) : Hid N (N.map fun x => if x = a then ("" : Str) else x) a := by
  refine ⟨by simp, fun i x e => ?_, fun hm => ?_, h⟩
  · rw [List.getElem?_map] at e
    cases q : N[i]? with
    | none => rw [q] at e; cases e
    | some y =>
      rw [q] at e
      have e : (if y = a then ("" : Str) else y) = x := by simpa using e
      split at e
      · exact .inl e.symm
      · exact .inr (by rw [← e])
  · obtain ⟨y, _, e⟩ := List.mem_map.mp hm
    split at e
    · exact h e.symm
    · rename_i hn; exact hn e
abbrev lamE2 (X : Cx) (scope : Scope) (a : Str) (L f c' : Addr) : PySem.Env := PySem.W.envX (X.env.qual ++ "<lambda>") scope L f (.ref c') ((a, L + 1) :: cloFrom X.env.cells scope.names [])
def lamC2 (X : Cx) (N' : List Str) (a : Str) (A : Around) (outer : List PySem.Env) (s : Shared) (H : Hp) (scope : Scope) (f c' : Addr) : Cx where
  prog := X.prog
  w := X.w
  K := X.K
  mg := X.mg
  base := X.base
  A := A.deeper (lamE2 X scope a s.heap.objs.size f c')
  N := N' ++ [a]
  s_0 := s
  H_0 := H
  env := lamE2 X scope a s.heap.objs.size f c'
  outer := outer
  stack := lamE2 X scope a s.heap.objs.size f c' :: outer
  ex := []
  fn := fun _ => false
  calm := true
  pn := []
  xe := fun _ _ => False
section
variable {X : Cx} {pins : List (Addr × Obj)} {σ : L2.St} {H HZ : Hp} {s s1 : Shared}
theorem lam_entry2 {A : Around} {outer : List PySem.Env} {scope : Scope} {a : Str} {N' : List Str} {f c' : Addr} {h₁ : Heap} {v : V} {u : Value} (I : Inv X pins σ H s) (L : LamP2 X.env.scope scope a) (hid : Hid X.N N' a) (rv : RelV v u)
    (e0 : Env0 X.prog X.w X.K X.mg X.base A outer s1 HZ) (hd : A.handled = none) (un : Un (frs X.stack) [] H HZ s.heap s1.heap) (hns : h₁.Ns s1.heap.objs.size (fun _ => none)) (hcl : h₁.IsCell (s1.heap.objs.size + 1) (some u))
    (kp : ∀ b o, s1.heap.get? b = some o → h₁.get? b = some o) : Inv (lamC2 X N' a A outer s1 HZ scope f c') [] (σ ++ [some v]) HZ { s1 with heap := h₁ } := by
  have hfree : ∀ y ∈ scope.names, y.2 = .free → ∃ c, X.env.cells.lookup y.1 = some c := fun y hy e => (L.free y hy e).elim (fun k => I.ok.has _ (.inl k)) fun k => I.ok.has _ (.inr k)
  have back0 : ∀ {y c}, (cloFrom X.env.cells scope.names []).lookup y = some c → X.env.cells.lookup y = some c := fun {y c} e => by
    rcases cloFrom_mem (PySem.mem_of_lookup e) with hm | ⟨h1, h2⟩
    · cases hm
    · obtain ⟨c1, hc⟩ := hfree _ h1 rfl
      have hc : X.env.cells.lookup y = some c1 := hc
      have e2 : c = c1 := by
        rw [h2, hc] <;> rfl
      rw [e2]
      exact hc
  have there0 : ∀ {y}, scope.names.lookup y = some .free → ∃ c, (cloFrom X.env.cells scope.names []).lookup y = some c := fun {y} hl => by
    have hy : (y, NameKind.free) ∈ scope.names := PySem.mem_of_lookup hl
    exact mem_lookup (cloFrom_has (cells := X.env.cells) (acc := []) hy)
  -- the cell of the parameter, and those of the def around
  have look : ∀ {y c}, List.lookup y ((a, s1.heap.objs.size + 1) :: cloFrom X.env.cells scope.names []) = some c → (y = a ∧ c = s1.heap.objs.size + 1) ∨ (y ≠ a ∧ X.env.cells.lookup y = some c) := fun {y c} e => by
    rw [List.lookup_cons] at e
    cases hb : y == a with
    | true => rw [hb] at e; cases e; exact .inl ⟨beq_iff_eq.mp hb, rfl⟩
    | false => rw [hb] at e; exact .inr ⟨fun z => (by rw [z, beq_self_eq_true] at hb; cases hb), back0 e⟩
  have old : ∀ {y c}, X.env.cells.lookup y = some c → c < s1.heap.objs.size := fun {y c} e => by
    obtain ⟨w, o, ho, hd⟩ := I.cell y c e
    obtain ⟨sl, q⟩ := un.any ho (I.freeC y c e) (by simp)
    exact Heap.lt_size q
  have cellK : ∀ {c : Addr} {w : Option Value}, H c = none → s.heap.IsCell c w → h₁.IsCell c w := fun {c w} n ⟨o, ho, hd⟩ => by
    obtain ⟨sl, q⟩ := un.any ho n (by simp)
    exact ⟨_, kp _ _ q, hd⟩
  have nx : ∀ b : Addr, b ∉ (lamC2 X N' a A outer s1 HZ scope f c').ex := fun b z => absurd (show b ∈ ([] : List Addr) from z) (by simp)
  have ok : (lamC2 X N' a A outer s1 HZ scope f c').Ok := by
    refine ⟨e0.mod, L.kind, rfl, rfl, Nat.le_refl _, fun y z c e1 e2 => ?_, fun y hy => ?_, fun y c z _ => ?_, fun _ => hd, Around.frames_deeper e0.frames, .inr ⟨rfl, rfl⟩, fun b z => absurd z (nx b), e0.bs, e0.bsz, fun b _ _ => nx b, fun b z => absurd z (nx b), e0.funs, e0.frf⟩
    · rcases look e1 with ⟨y1, c1⟩ | ⟨_, c1⟩ <;> rcases look e2 with ⟨y2, c2⟩ | ⟨_, c2⟩
      · rw [y1, y2]
      · have := old c2; rw [c1] at this; exact absurd this (Nat.not_lt.mpr (Nat.le_succ _))
      · have := old c1; rw [c2] at this; exact absurd this (Nat.not_lt.mpr (Nat.le_succ _))
      · exact I.ok.inj y z c c1 c2
    · have hy : scope.names.lookup y = some .cell ∨ scope.names.lookup y = some .free := hy
      show ∃ c, List.lookup y ((a, s1.heap.objs.size + 1) :: cloFrom X.env.cells scope.names []) = some c
      by_cases hya : y = a
      · rw [hya]; exact ⟨s1.heap.objs.size + 1, by simp⟩
      · have hb : (y == a) = false := by simpa using hya
        rw [List.lookup_cons, hb]
        rcases hy with hy | hy
        · have hm : (y, NameKind.cell) ∈ cellFlt scope.names := List.mem_filter.mpr ⟨PySem.mem_of_lookup hy, rfl⟩
          rw [L.cells] at hm
          have := List.mem_singleton.mp hm
          exact absurd (Prod.mk.inj this).1 hya
        · exact there0 hy
    · have z : false = true := z
      cases z
  refine ⟨ok, rfl, e0.bare, Un.kept kp, ⟨_, hns, fun i y w e1 e2 e3 => ?_⟩, fun y c e => ?_, e0.hok.fresh (Nat.le_refl _), fun y c e => ?_, fun q hq => absurd (show q ∈ ([] : List (Addr × Obj)) ++ [] from hq) (by simp), e0.hok.kept kp, ?_⟩
  · have e1 : (N' ++ [a])[i]? = some y := e1
    have e3 : Vis scope y := e3
    have hlen := I.len
    have hl' := hid.len
    by_cases hi : i < N'.length
    · rw [List.getElem?_append_left hi] at e1
      rw [List.getElem?_append_left (by omega)] at e2
      have ym : y ∈ N' := List.mem_of_getElem? e1
      have hya : y ≠ a := fun z => hid.no (by rw [← z]; exact ym)
      rcases hid.sub i y e1 with z | e1
      · rw [z] at e3
        rcases e3 with k | k | k <;> rw [L.nov] at k <;> cases k
      rcases e3 with k | k | k
      · exact absurd rfl (L.own _ (PySem.mem_of_lookup k))
      · have hm : (y, NameKind.cell) ∈ cellFlt scope.names := List.mem_filter.mpr ⟨PySem.mem_of_lookup k, rfl⟩
        rw [L.cells] at hm
        have := List.mem_singleton.mp hm
        exact absurd (Prod.mk.inj this).1 hya
      · obtain ⟨m, hn, hl⟩ := I.loc
        have hvis : Vis X.env.scope y := (L.free _ (PySem.mem_of_lookup k) rfl).elim (fun k => .inr (.inl k)) fun k => .inr (.inr k)
        obtain ⟨w', r, q⟩ := hl i y w e1 e2 hvis
        obtain ⟨c2, h2⟩ := there0 k
        have c1 := back0 h2
        refine ⟨w', r, .inr ⟨.inr k, c2, ?_, ?_⟩⟩
        · show List.lookup y ((a, s1.heap.objs.size + 1) :: cloFrom X.env.cells scope.names []) = some c2
          have hb : (y == a) = false := by simpa using hya
          rw [List.lookup_cons, hb]; exact h2
        · rcases q with ⟨k', _⟩ | ⟨_, c3, e', z⟩
          · have k' : X.env.scope.names.lookup y = some .local := k'
            rcases L.free _ (PySem.mem_of_lookup k) rfl with k2 | k2 <;> rw [show X.env.scope.names.lookup y = _ from k2] at k' <;> cases k'
          · rw [c1] at e'
            cases e'
            exact cellK (I.freeC y _ c1) z
    · rw [List.getElem?_append_right (by omega)] at e1 e2
      by_cases h0 : i - N'.length = 0
      · rw [h0] at e1
        have ea : a = y := by simpa using e1
        subst ea
        rw [hlen, ← hl', h0] at e2
        have ev : v = w := by simpa using e2
        subst ev
        exact ⟨u, rv, .inr ⟨.inl L.par, s1.heap.objs.size + 1, by show List.lookup a ((a, s1.heap.objs.size + 1) :: cloFrom X.env.cells scope.names []) = _; simp, hcl⟩⟩
      · obtain ⟨j, hj⟩ : ∃ j, i - N'.length = j + 1 := ⟨i - N'.length - 1, by omega⟩
        rw [hj] at e1
        simp at e1
  · rcases look e with ⟨_, rfl⟩ | ⟨_, e⟩
    · exact ⟨_, hcl⟩
    · obtain ⟨w', z⟩ := I.cell y c e
      exact ⟨w', cellK (I.freeC y c e) z⟩
  · rcases look e with ⟨_, rfl⟩ | ⟨_, e⟩
    · exact e0.hok.fresh (Nat.le_succ _)
    · obtain ⟨w, o, ho, hd⟩ := I.cell y c e
      exact un.free c o ho (I.freeC y c e) (by simp)
  · show (σ ++ [some v]).length = (N' ++ [a]).length
    rw [List.length_append, List.length_append, I.len, hid.len]
    rfl
theorem acts2 {CXg : CXT} {Eg : XK} {Ng : List Str} {qg : Str} {sg : Scope} {g : Addr} {cdg pm ctv : Value} {params : Arguments} {body : Expr} {scope : Scope} {k i : Nat} {a a' : Str} {N' : List Str} {F : FnI} {fb : Ev Res} (I : Inv X pins σ H s) (L : LamP2 X.env.scope scope a') (hid : Hid X.N N' a')
    (hf : s.heap.get? F.f = some (PySem.W.kla_obj "<lambda>" (X.env.qual ++ "<lambda>") params body scope (cloFrom X.env.cells scope.names []) pm F.c ctv)) (hfn : H F.f = none) (hfr : F.f ∉ frs X.stack) (hq : F.q = X.env.qual ++ "<lambda>") (hσ : F.σ = σ) (hds : F.ds.length = σ.length)
    (hbind : ∀ u : Value, bindArgs (PySem.W.kla_fn "<lambda>" (X.env.qual ++ "<lambda>") params body scope (cloFrom X.env.cells scope.names []) pm (.ref F.c) ctv) ⟨[u], []⟩ = pure [(a', u)])
    (hgd : X.A.guards = some []) (hr : Room (k + 1) (X.A.deeper (envOfC qg sg s.heap.objs.size g cdg)))
    (hbody : ∀ (A : Around) (outer : List PySem.Env) (s : Shared) (H : Hp), A.guards = some [] → Room k (A.deeper (lamE2 X scope a' s.heap.objs.size F.f F.c)) → PE (lamC2 X N' a' A outer s H scope F.f F.c) body (tR X.K fb))
    (hN : Ng[i]? = some a) (hv : Vis sg a) (hd : (a == ("__debug__" : Str)) = false := by decide) (hcd : (a == ("__classdict__" : Str)) = false := by decide) :
    Acts (cxOf CXg X.prog X.w X.K X.mg X.base Ng qg sg g cdg X.A X.stack s H Eg).nox a i F (lamG fb F.ds) := by
  intro e p1 p2 fa ha he
  refine ⟨fun pinsZ sZ σZ HZ Q IZ h => ?_⟩
  obtain ⟨E, B, env, res, env', r, ef, kk⟩ := h
  unfold callF at ef
  by_cases hi : env[i]? = some (some (.fn F))
  case neg => rw [if_neg hi] at ef; cases ef
  rw [if_pos hi] at ef
  obtain ⟨q, e1, ef⟩ := bindS ef
  by_cases hi2 : q.2[i]? = some (some (.fn F))
  case neg => rw [if_neg hi2] at ef; cases ef
  rw [if_pos hi2] at ef
  obtain ⟨rs, e2, ef⟩ := bindS ef
  cases ef
  obtain ⟨v0, hs, hv0, _⟩ := r.slot i _ hi
  subst hv0
  refine wpAny_Call_Name_kw (thn ((pe_var (pos := p1) (i := i) hN hv hd hcd).run pinsZ sZ σZ HZ (fun v H1 => v = .ref F.f ∧ H1 = HZ) IZ ⟨.ref F.f, hs, rfl, rfl⟩) fun u s1 ⟨v, H1, I1, r1, q1⟩ => ?_)
  obtain ⟨ev, eH⟩ := q1
  subst ev
  rw [eH] at I1
  obtain rfl : u = Value.ref F.f := r1
  have keepF : ∀ {s2 : Shared} {H2 : Hp} {ps : List (Addr × Obj)}, Inv (cxOf CXg X.prog X.w X.K X.mg X.base Ng qg sg g cdg X.A X.stack s H Eg).nox ps σZ H2 s2 → s2.heap.get? F.f = some (PySem.W.kla_obj "<lambda>" (X.env.qual ++ "<lambda>") params body scope (cloFrom X.env.cells scope.names []) pm F.c ctv) :=
    fun {s2 H2 ps} J => J.base.keep F.f _ hf hfn hfr (fun z => nomatch (show F.f ∈ ([] : List Addr) from z))
  refine PySem.W.callWith_F (q := F.f) ⟨_, _, _, _, keepF I1⟩ ?_ he
  refine thn (ha.run p2 pinsZ s1 σZ HZ (fun vs H2 => ∃ B2, RR X.K E B2 H2 σZ q.2 ∧ Sub B B2 ∧ OpVs X.K B2 σZ q.1 vs) I1 ⟨E, B, env, q.1, q.2, r, e1, fun vs B2 H2 r2 s2 z => ⟨B2, r2, s2, z⟩⟩) fun us s2 ⟨vs, H2, I2, rus, B2, r2, sB, z⟩ => ?_
  have of2 := keepF I2
  refine ⟨⟨_, _, _, _, of2⟩, ?_⟩
  -- the argument
  have hex : ∃ d x p, q.1 = [Opd.v d] ∧ res = Res.d x ∧ fb (lamEnvOf F.ds d) = some p ∧ p.1 = .d x := by
    unfold lamG at e2
    split at e2
    · rename_i d hq1
      obtain ⟨p, f1, f2⟩ := bindS e2
      split at f2
      · rename_i x hx
        cases f2
        exact ⟨d, x, p, hq1, rfl, f1, hx⟩
      · cases f2
    · cases e2
  obtain ⟨d, x, p, hq1, hrs, f1, f2⟩ := hex
  subst hrs
  rw [hq1] at z
  obtain ⟨v1, rest, ez, z1, z2⟩ := z
  have z2 : rest = [] := z2
  subst z2
  subst ez
  obtain ⟨u1, ru, hu1⟩ : ∃ u1, RelV v1 u1 ∧ us = [u1] := by
    obtain ⟨u, e3, r3⟩ := rus.one
    exact ⟨u, r3, e3⟩
  subst hu1
  obtain ⟨v2, hs2, _, hold⟩ := r2.slot i _ hi2
  have hco : H2 F.c = some (LamX.CodeO F.c F.q) := hold.1
  obtain ⟨⟨oc, cvs, t, hoc, hdc, hvc⟩, _, _⟩ := I2.hok F.c _ hco
  have un : Un (frs X.stack) [] H H2 s.heap s2.heap := I2.base
  have hσl : σ.length = F.ds.length := hds.symm
  have rc : codeAny (model X.prog X.w) (X.A.deeper (envOfC qg sg s.heap.objs.size g cdg)) (.call (.ref F.f) ⟨[u1], []⟩) (CR CX0 (envOfC qg sg s.heap.objs.size g cdg :: X.stack) X.prog X.w H2 s2 Q E0) s2 := by
    refine PySem.W.kla_callFunE hr.depth of2 rfl L.co L.gen rfl ⟨F.c, oc, cvs, t, rfl, hoc, hdc, by rw [← hq]; exact hvc⟩ ?_
    rw [hbind]
    refine wpAny_pure (newEnv_cell1 L.kind L.cells L.par fun h₁ hns hcl kp => ⟨I2.nolimit.keeps kp, ?_⟩)
    show codeAny _ _ (.expr body (lamE2 X scope a' s2.heap.objs.size F.f F.c)) _ _
    have J : Inv (lamC2 X N' a' (X.A.deeper (envOfC qg sg s.heap.objs.size g cdg)) (envOfC qg sg s.heap.objs.size g cdg :: X.stack) s2 H2 scope F.f F.c) [] (σ ++ [some v1]) H2 { s2 with heap := h₁ } :=
      lam_entry2 I L hid ru I2.env0 hr.hd un hns hcl kp
    refine PySem.W.kla_codeExpr (wpAny_mono ((hbody (X.A.deeper (envOfC qg sg s.heap.objs.size g cdg)) _ s2 H2 hgd (hr.deeper _)).run [] _ _ H2 Q J ?_) (fun v s' hq => ?_) fun e s' hq => False.elim hq)
    · rw [← hσ]
      refine ⟨entT H2 B2 (F.σ ++ [some v1]), B2, lamEnvOf F.ds d, p.1, p.2, rrL r2.bh r2.tb (by rw [hσ]; exact hσl) hold.2 z1, f1, fun v B3 H3 r3 s3 z3 => ?_⟩
      rw [f2] at z3
      exact kk v B3 H3 (r2.growC r3.growT) (sB.tr r3.b0) z3
    · obtain ⟨w', H', J', rv, q⟩ := hq
      exact ⟨w', H', J'.os, J'.bare, J'.base, J'.hok, rv, q⟩
  refine wpAny_call (codeAny_mono rc fun r s' hq => ?_)
  cases r with
  | error e => exact False.elim hq
  | ok fl =>
    cases fl with
    | ret u => exact I2.after hq
    | next => exact False.elim hq
    | brk => exact False.elim hq
    | cont => exact False.elim hq
end
/-- x(e1, lambda a': body), in a def y that makes it -/
theorem e_lam3 {X : Cx} {x y p0 a a' : Str} {N' : List Str} {k j m n : Nat} {b : FnI → (List Opd → Option Res) → Es} {fb : Ev Res} {fe : Ev Opd} {params : Arguments} {body e1 : Expr} {scope : Scope} {p lpos pos : Pos} {c Pt : Addr} (C : CalleeF2 X.prog X.w X.K X.mg X.base x k p0 a n b) (M : MakersOk X.K X.mg X.base) (hy : y ∈ lamNames) (ht : PySem.W.tabIn X.K y = some (c, Pt))
    (hqual : X.env.qual ++ "<lambda>" = lamQ y) (hcode : X.env.code = .ref c) (hgd : X.A.guards = some []) (hr : Room m X.A) (hkm : k + 1 ≤ m) (hjk : j + 1 ≤ k) (hg : Gl X x) (L : LamP2 X.env.scope scope a') (hid : Hid X.N N' a') (hdef : defaultsOf params X.env = ([], []))
    (hbind : ∀ (q : Str) (cl : List (Str × Addr)) (pm cv ctv u : Value), bindArgs (PySem.W.kla_fn "<lambda>" q params body scope cl pm cv ctv) ⟨[u], []⟩ = pure [(a', u)])
    (hbody : ∀ (A : Around) (outer : List PySem.Env) (s : Shared) (H : Hp) (f c' : Addr), A.guards = some [] → Room j (A.deeper (lamE2 X scope a' s.heap.objs.size f c')) → PE (lamC2 X N' a' A outer s H scope f c') body (tR X.K fb))
    (he : PE X e1 (tP X.K fe)) (hs : starEach (e1 :: [.Lambda params body scope lpos]) X.env = (false, eval e1 X.env) :: [(false, eval (.Lambda params body scope lpos) X.env)] := by rfl)
    (hdb : (x == ("__debug__" : Str)) = false := by decide) (hd : (a == ("__debug__" : Str)) = false := by decide) (hcd : (a == ("__classdict__" : Str)) = false := by decide) :
    PE X (.Call (.Name x p) (e1 :: [.Lambda params body scope lpos]) [] pos) (tR X.K (callL2 n b fb fe)) := by
  refine ⟨fun pins s σ H Q I h => ?_⟩
  obtain ⟨E, B, env, res, env', r, ef, kk⟩ := h
  obtain ⟨q, ee, ef⟩ := bindS ef
  obtain ⟨d, hq1⟩ : ∃ d, q.1 = .v d := by
    cases hq : q.1 with
    | v d => exact ⟨d, rfl⟩
    | s ns => rw [hq] at ef; cases ef
    | r i => rw [hq] at ef; cases ef
  rw [hq1] at ef
  by_cases hex : ∃ res, ∀ F : FnI, F.ds = capsOf q.2 → runF2 n F (b F (lamG fb F.ds)) d = some res
  case neg => dsimp only at ef; rw [dif_neg hex] at ef; cases ef
  dsimp only at ef
  rw [dif_pos hex] at ef
  have hres := Classical.choose_spec hex
  revert ef hres
  generalize Classical.choose hex = rs
  intro ef hres
  cases ef
  obtain ⟨g, st, Ng, oc, od, kV, doc, pm, an, cdv, ct, osl, lk, hcg, hm, hk, hb, Sg, hNn, hN0, hvis, hps, hG⟩ := C.ex
  refine wpAny_Call_Name_kw (ld_glob I hg hm ?_ hdb)
  refine PySem.W.callWith_K (h₀ := X.base) I.ok.mod.kin hk ?_ hs rfl
  rw [hs]
  show wpAny _ _ (spliced ((false, eval e1 X.env) :: [(false, eval (.Lambda params body scope lpos) X.env)])) _ _ s
  refine Calls.spliced_cons (thn (he.run pins s σ H (fun v H1 => ∃ B1, RR X.K E B1 H1 σ q.2 ∧ Sub B B1 ∧ OpV X.K B1 σ q.1 v) I ⟨E, B, env, q.1, q.2, r, ee, fun v B1 H1 r1 s1 z => ⟨B1, r1, s1, z⟩⟩) fun u s1 ⟨v, H1, I1, ru, B1, r1, sB, z⟩ => ?_)
  rw [hq1] at z
  have z : Rep B1 v d := z
  refine Calls.spliced_cons (lam_make I1 (M.tb y c Pt hy ht) hcode (by rw [hqual]; exact r1.tb.tab y Pt ⟨hy, c, ht⟩) hdef (fun z hz e => (L.free z hz e).elim (fun k => I1.ok.has _ (.inl k)) fun k => I1.ok.has _ (.inr k)) fun f c' pm' ctv H2 s2 I2 md T1 hf hfn hfr hco => ?_)
  refine Calls.spliced_nil ?_
  have r2 := made_rr M hy ht hqual r1 md T1
  have hold : FnHold B1 H2 ⟨f, c', X.env.qual ++ "<lambda>", σ, capsOf q.2⟩ := hold_of r2 hco
  have hqlen := r2.len
  have hrun := hres ⟨f, c', X.env.qual ++ "<lambda>", σ, capsOf q.2⟩ rfl
  generalize hF : (⟨f, c', X.env.qual ++ "<lambda>", σ, capsOf q.2⟩ : FnI) = F at hold hrun
  have eF1 : F.f = f := by rw [← hF]
  have eF2 : F.c = c' := by rw [← hF]
  have eF3 : F.q = X.env.qual ++ "<lambda>" := by rw [← hF]
  have eF4 : F.σ = σ := by rw [← hF]
  have eF5 : F.ds = capsOf q.2 := by rw [← hF]
  obtain ⟨pb, f1, f2⟩ := bindS hrun
  have act : Acts (cxOf CX0 X.prog X.w X.K X.mg X.base Ng x (defScope st) g cdv X.A X.stack s2 H2 E0).nox a 1 F (lamG fb F.ds) :=
    acts2 (k := j) I2 L hid (by rw [eF1, eF2]; exact hf) (by rw [eF1]; exact hfn) (by rw [eF1]; exact hfr) eF3 eF4 (by rw [eF5]; unfold capsOf; rw [List.length_map, ← hqlen]) (fun u => hbind _ _ _ _ _ u) hgd (((hr.mono hkm).deeper _).mono hjk) (fun A outer s H hg' hr' => hbody A outer s H F.f F.c hg' hr') hN0 hvis hd hcd
  have body' := hG F (lamG fb F.ds) X.A X.stack s2 H2 hgd ((hr.mono hkm).deeper _) act
  have rc : codeAny (model X.prog X.w) X.A (.call (.ref g) ⟨[u, .ref f], []⟩) (CR CX0 X.stack X.prog X.w H2 s2 Q E0) s2 := by
    refine LamX.run_ofS (N := Ng) (ps := [p0, a]) (us := [u, .ref f]) (vs := [v, .ref f]) lk hcg Sg (hr.mono hkm) I2.env0 ?_ (.cons ru (.cons rfl .nil)) rfl fun hr' => ⟨_, body'.nox, ?_⟩
    · have q := hb s2 [u, .ref f] I2.kIn (by simp)
      rw [List.append_nil] at q
      exact q
    · rw [← hNn] at f1
      refine ⟨entT H2 B1 (L2.start Ng [v, .ref f]), B1, _, pb.1, pb.2, by rw [← eF1]; exact rrF2 r2.bh r2.tb (by rw [hNn]; omega) z hold, f1, ?_⟩
      cases hp : pb.1 with
      | nx =>
        rw [hp] at f2
        cases f2
        exact fun σ' B' H' r' s' => kk .non B' H' (r2.growC r'.growT) (sB.tr r'.b0) (show Rep _ _ _ from .non)
      | bk => rw [hp] at f2; cases f2
      | ct => rw [hp] at f2; cases f2
      | rt rr =>
        rw [hp] at f2
        cases f2
        exact fun v σ' B' H' r' s' zz => kk v B' H' (r2.growC r'.growT) (sB.tr r'.b0) (zz.newT.res r2)
  refine ⟨I2.kIn, ?_⟩
  refine wpAny_call (codeAny_mono rc fun r s' hq => ?_)
  cases r with
  | error e => exact False.elim hq
  | ok fl =>
    cases fl with
    | ret u => exact I2.after hq
    | next => exact False.elim hq
    | brk => exact False.elim hq
    | cont => exact False.elim hq
/-- a comprehension in such a lambda -/
theorem e_lcL {X : Cx} {N' : List Str} {a : Str} {A : Around} {outer : List PySem.Env} {s : Shared} {H : Hp} {scope : Scope} {f c' : Addr} {elt tg iter : Expr} {ifs : List Expr} {cscope : Scope} {own : List (Str × Nat)} {pos : Pos} {it : Ev (List D)} {tgt : Tg} {fc : Ev Bool} {fe : Ev D} (hN : (N' ++ [a]).Nodup) (hi : PI (lamC2 X N' a A outer s H scope f c') tg iter (tIt X.K it)) (ok : BlkOk (N' ++ [a]) scope cscope own)
    (hg : ∀ (s' : Shared) (H' : Hp) (C : Addr) (cl : List (Str × Addr)) (fp : List Addr), PG ((lamC2 X N' a A outer s H scope f c').blk s' H' cscope (compEnvC cscope cl C (lamC2 X N' a A outer s H scope f c').env) fp) tg (tgT X.K tgt))
    (ht : ∀ (s' : Shared) (H' : Hp) (C : Addr) (cl : List (Str × Addr)) (fp : List Addr), PTs ((lamC2 X N' a A outer s H scope f c').blk s' H' cscope (compEnvC cscope cl C (lamC2 X N' a A outer s H scope f c').env) fp) ifs (tT X.K fc))
    (he : ∀ (s' : Shared) (H' : Hp) (C : Addr) (cl : List (Str × Addr)) (fp : List Addr), PE ((lamC2 X N' a A outer s H scope f c').blk s' H' cscope (compEnvC cscope cl C (lamC2 X N' a A outer s H scope f c').env) fp) elt (tE X.K fe)) (hs : ∀ x, foldedSetIterable iter (lamC2 X N' a A outer s H scope f c').env x = pure x := by intro _; rfl) :
    PE (lamC2 X N' a A outer s H scope f c') (.ListComp elt [⟨tg, iter, ifs, 0⟩] cscope pos) (tR X.K (lcR it tgt fc fe (own.map (·.2)))) := e_lc (X := lamC2 X N' a A outer s H scope f c') rfl hN hi ok hg ht he hs
/-- x, y, z = a, b, c: plain names, trees -/
theorem s_unp3 {X : Cx} {i j l : Nat} {x y z : Str} {a b c : Expr} {f : Ev (List Opd)} {px py pz pt pos : Pos} {kt k2 pt2} (hc : X.calm = true) (hN : X.N.Nodup) (hi : X.N[i]? = some x) (hj : X.N[j]? = some y) (hl : X.N[l]? = some z) (hij : i ≠ j) (hil : i ≠ l) (hjl : j ≠ l)
    (hx : X.env.scope.names.lookup x = some .local) (hy : X.env.scope.names.lookup y = some .local) (hz : X.env.scope.names.lookup z = some .local) (ha : PA X [a, b, c] (tA X.K f))
    (hw : swappedStores [.Tuple [.Name x px, .Name y py, .Name z pz] kt pt] (.Tuple [a, b, c] k2 pt2) X.env = pure (some [x, y, z]))
    (hs : swapsWithSole [.Tuple [.Name x px, .Name y py, .Name z pz] kt pt] (.Tuple [a, b, c] k2 pt2) pos.line X.env = pure false := by rfl) :
    PS X (.Assign [.Tuple [.Name x px, .Name y py, .Name z pz] kt pt] (.Tuple [a, b, c] k2 pt2) pos) (tS X.K (unpS (.tp [.nm i, .nm j, .nm l]) (layOf (tupR f)))) :=
  psImp (ps_par3 hc hN hi hj hl hij hil hjl hx hy hz ha hw hs) fun D σ H ⟨E, B, env, fl, env', r, ef, k⟩ => by
  obtain ⟨p, e1, ef⟩ := bindS ef
  obtain ⟨ea, e2, ef⟩ := bindS ef
  cases ef
  obtain ⟨q, e3, e1⟩ := bindS e1
  obtain ⟨m, e4, e3⟩ := bindS e3
  obtain ⟨ds, e5, e3⟩ := bindS e3
  obtain ⟨_, e3⟩ := guardS e3
  cases e3
  cases e1
  have e2 : tgE (.tp [.nm i, .nm j, .nm l]) (.tuple ds) m.2 = some env' := e2
  refine ⟨E, B, env, m.1, m.2, r, e4, fun vs B1 H1 r1 s1 zz => ?_⟩
  have rep := valsRep zz e5
  match ds, e2, rep with
  | [d1, d2, d3], e2, .cons p1 (.cons p2 (.cons p3 .nil)) =>
    cases e2
    refine ⟨_, _, _, rfl, k _ B1 H1 ?_ s1⟩
    exact ((r1.put (i := i) (ov := .fz d1) p1 rfl (fun w => nomatch w)).put (i := j) (ov := .fz d2) p2 rfl (fun w => nomatch w)).put (i := l) (ov := .fz d3) p3 rfl (fun w => nomatch w)
  | [], e2, _ => cases e2
  | [_], e2, _ => cases e2
  | [_, _], e2, _ => cases e2
  | _ :: _ :: _ :: _ :: _, e2, _ => simp [tgE] at e2
end NS

set_option Elab.async false
set_option linter.all false
set_option maxRecDepth 100000
set_option maxHeartbeats 4000000
/-! NsO: sorted(xs, key=lambda x: 0 - x), xs a list of ints. -/
namespace NS
open PySem L2 PyProof.Rows
/-- a list of ints, falling -/
def sortN (ns : List Int) : List Int := (sortI ns).reverse
theorem sortN_is {ns ms : List Int} (p : ms.Perm ns) (h : ms.Pairwise (fun a b => b ≤ a)) : ms = sortN ns := by
  unfold sortN
  rw [← sorted_is (ns := ns) (ms := ms.reverse) ((List.reverse_perm _).trans p) (by rw [List.pairwise_reverse]; exact h), List.reverse_reverse]
def sortNegR (fa : Ev (List Opd)) : Ev Res := fun env => (fa env).bind fun p => match p.1 with
  | [.v (.list ds)] => (intsOf ds).bind fun ns => guardO (decide (ns.length ≤ 1000000)) (some (.l ((sortN ns).map .int), p.2))
  | _ => none
theorem each_ints : ∀ {vs : List Value} {ns : List Int}, IntsAre vs ns → PySem.W.EachIs (fun v n => ∃ t, v = Value.int n t) vs ns
  | _, _, .nil => .nil
  | _, _, .cons n t h => .cons ⟨t, rfl⟩ (each_ints h)
theorem ints_each : ∀ {vs : List Value} {ns : List Int}, PySem.W.EachIs (fun v n => ∃ t, v = Value.int n t) vs ns → IntsAre vs ns
  | _, _, .nil => .nil
  | _, _, .cons ⟨t, e⟩ h => by subst e; exact .cons _ t (ints_each h)
section
variable {prog : Program} {w : World} {A : Around} {s : Shared}
/-- the key's call -/
theorem neg_call {f c' oc : Addr} {q : Str} {params : Arguments} {scope : Scope} {clo : List (Str × Addr)} {pm ctv : Value} {a' : Str} {jp : Nat} {p1 p2 p3 : Pos} {n : Int} {t : Tok} (hdp : A.depth < recursionLimit)
    (hf : s.heap.get? f = some (PySem.W.kla_obj "<lambda>" q params (.BinOp (.Constant (.int 0) jp p1) .Sub (.Name a' p2) p3) scope clo pm c' ctv)) (hkind : scope.kind = .function) (hco : scope.isCoroutine = false) (hgen : scope.isGenerator = false) (hnc : ∀ y ∈ scope.names, y.2 ≠ .cell) (hpar : scope.names.lookup a' = some .local)
    (hrec : s.heap.CodeRec (.ref c') q) (hlim : s.heap.NoLimit) (hbind : bindArgs (PySem.W.kla_fn "<lambda>" q params (.BinOp (.Constant (.int 0) jp p1) .Sub (.Name a' p2) p3) scope clo pm (.ref c') ctv) ⟨[.int n t], []⟩ = pure [(a', .int n t)])
    (hd : (a' == ("__debug__" : Str)) = false) :
    wpAny (model prog w) A (call (.ref f) [.int n t]) (PySem.W.KeyPure (.int (0 - n)) s) (fun _ _ => False) s := by
  refine wpAny_call (PySem.W.kla_callFunE hdp hf rfl hco hgen rfl hrec ?_)
  rw [hbind]
  have hpar' : ∀ y ∈ ([(a', Value.int n t)] : List (Str × Value)), scope.names.lookup y.1 = some .local := fun y hy => by
    have hy' : y = (a', Value.int n t) := by simpa using hy
    rw [hy']; exact hpar
  refine wpAny_pure (wpAny_newFunctionEnv (fun y hy => hnc y hy) hpar' (fun h₁ hns hsb => ⟨hlim.fresh _ hsb, ?_⟩) hkind)
  have kp : ∀ b o, s.heap.get? b = some o → h₁.get? b = some o := fun b o e => hsb.extBut b o (Nat.ne_of_lt (Heap.lt_size e)) (Heap.get?_push_of_some _ e)
  refine PySem.W.kla_codeExpr (wpAny_BinOp (wpAny_Constant_int (wpAny_Name (wpAny_loadName_local (v := .int n t) hkind hpar hns (by simp) ?_) hd)))
  refine sub_int ?_
  exact ⟨h₁, _, rfl, kp, .int _ _⟩
end
/-- sorted(e, key=lambda a': 0 - a'), in a def y that makes it -/
theorem e_sortNeg {X : Cx} {x y a' : Str} {m jp : Nat} {fa : Ev (List Opd)} {params : Arguments} {e1 : Expr} {scope : Scope} {p lpos kpos pos p1 p2 p3 : Pos} {c Pt : Addr} (M : MakersOk X.K X.mg X.base) (hy : y ∈ lamNames) (ht : PySem.W.tabIn X.K y = some (c, Pt))
    (hqual : X.env.qual ++ "<lambda>" = lamQ y) (hcode : X.env.code = .ref c) (hgd : X.A.guards = some []) (hr : Room m X.A) (hg : Gl X x) (hm : X.mg x = none) (hv : bootBuiltins x = some (.builtin "sorted")) (L : LamP X.env.scope scope a') (hdef : defaultsOf params X.env = ([], []))
    (hbind : ∀ (q : Str) (cl : List (Str × Addr)) (pm cv ctv u : Value), bindArgs (PySem.W.kla_fn "<lambda>" q params (.BinOp (.Constant (.int 0) jp p1) .Sub (.Name a' p2) p3) scope cl pm cv ctv) ⟨[u], []⟩ = pure [(a', u)])
    (ha : PA X [e1] (tA X.K fa)) (hn : x ≠ "__name__" := by decide) (hdb : (x == ("__debug__" : Str)) = false := by decide) (hd : (a' == ("__debug__" : Str)) = false := by decide)
    (he : backTo pos (starEach (e1 :: []) X.env) = (false, eval e1 X.env) :: backTo pos (starEach [] X.env) := by rfl) (hpl : (backTo pos (starEach (e1 :: []) X.env)).any (·.1) = false := by rfl) :
    PE X (.Call (.Name x p) [e1] [⟨some "key", .Lambda params (.BinOp (.Constant (.int 0) jp p1) .Sub (.Name a' p2) p3) scope lpos, kpos⟩] pos) (tR X.K (sortNegR fa)) := by
  refine ⟨fun pins s σ H Q I h => ?_⟩
  obtain ⟨E, B, env, res, env', r, ef, kk⟩ := h
  obtain ⟨q, ee, ef⟩ := bindS ef
  have hex : ∃ ds ns, q.1 = [.v (.list ds)] ∧ intsOf ds = some ns ∧ ns.length ≤ 1000000 ∧ res = .l ((sortN ns).map .int) ∧ env' = q.2 := by
    split at ef
    · rename_i ds hq
      obtain ⟨ns, e2, ef⟩ := bindS ef
      obtain ⟨hl, ef⟩ := guardS ef
      cases ef
      exact ⟨ds, ns, hq, e2, of_decide_eq_true hl, rfl, rfl⟩
    · cases ef
  obtain ⟨ds, ns, hq1, hns, hlen, rfl, rfl⟩ := hex
  refine wpAny_Call_Name_kw (ld_blt I hg hm hv ?_ hn hdb)
  refine PyProof.Rows.callWith_kw (thn (ha.run pos pins s σ H (fun vs H1 => ∃ B1, RR X.K E B1 H1 σ q.2 ∧ Sub B B1 ∧ OpVs X.K B1 σ q.1 vs) I ⟨E, B, env, q.1, q.2, r, ee, fun vs B1 H1 r1 s1 z => ⟨B1, r1, s1, z⟩⟩) fun us s1 ⟨vs, H1, I1, rus, B1, r1, sB, z⟩ => PyProof.Rows.kwAll_cons (lam_make I1 (M.tb y c Pt hy ht) hcode (by rw [hqual]; exact r1.tb.tab y Pt ⟨hy, c, ht⟩) hdef (fun z hz e => (L.free z hz e).elim (fun k => I1.ok.has _ (.inl k)) fun k => I1.ok.has _ (.inr k)) fun f c' pm' ctv H2 s2 I2 md T1 hf hfn hfr hco => PyProof.Rows.kwAll_nil ?_)) he hpl rfl rfl
  rw [hq1] at z
  obtain ⟨v1, rest, ez, z1, z2⟩ := z
  have z2 : rest = [] := z2
  subst z2
  subst ez
  obtain ⟨u1, ru, hu1⟩ : ∃ u1, RelV v1 u1 ∧ us = [u1] := by
    obtain ⟨u, e3, r3⟩ := rus.one
    exact ⟨u, r3, e3⟩
  subst hu1
  have r2 := made_rr M hy ht hqual r1 md T1
  have z1 : Rep B1 v1 (.list ds) := z1
  obtain ⟨a, xs, rfl, h1, rx⟩ := Rd.lst r2.bh (show Rd B1 H2 v1 (.list ds) from .inl z1)
  have := intsV rx hns
  subst this
  obtain ⟨its, rv, hl, hz⟩ := I2.list (SqL.of (K := X.K) h1)
  obtain rfl : u1 = Value.ref a := ru
  have hi := rv.ints
  show wpAny _ _ (call (.builtin "sorted") [.ref a] [(Str.ofString "key", .ref f)]) _ _ s2
  obtain ⟨⟨oc, cvs, t, hoc, hdc, hvc⟩, _, _⟩ := I2.hok c' _ hco
  refine PySem.W.sorted_key_data (β := Int) (b := false) (R := fun v n => ∃ t, v = Value.int n t) (fun n => PyData.int (0 - n)) hl.isList (each_ints hi) (PySem.W.AllAlike.of fun _ _ => by simp [PySem.W.alike]) (PySem.W.Sortable.others fun _ => ⟨fun z => by (cases z), fun _ z => by (cases z)⟩) (by rw [sizeLine_eq]; omega) (fun x _ => ?u) (ksk_s1 _ _) (fun _ => ksk_l1 _ _) (fun _ => ksk_t1 _ _) (fun v n ⟨tt, ev⟩ _ h tk kp => ?turn) fun out cc h' tk kp fr hD hlo eo => ?fin
  case u =>
    have := hr.un
    show X.A.units + 2 + PyData.depth (.int _) < cLine
    simp only [PyData.depth]
    omega
  case turn =>
    subst ev
    exact neg_call (s := { s2 with heap := h, toks := tk }) (A := X.A.in1.in1) (oc := f) hr.depth (kp _ _ hf) L.kind L.co L.gen L.nocell L.par ⟨c', oc, cvs, t, rfl, kp _ _ hoc, hdc, hvc⟩ (I2.nolimit.keeps kp) (hbind _ _ _ _ _ _) hd
  case fin =>
    rw [PySem.W.dataLe_int] at eo
    have hp : (ns.mergeSort fun a b => decide (0 - a ≤ 0 - b)).Perm ns := List.mergeSort_perm _ _
    have hs : (ns.mergeSort fun a b => decide (0 - a ≤ 0 - b)).Pairwise (fun a b => b ≤ a) := by
      have h := List.pairwise_mergeSort (le := fun a b : Int => decide (0 - a ≤ 0 - b)) (fun a b c h1 h2 => by simp only [decide_eq_true_eq] at *; omega) (fun a b => by simp only [Bool.or_eq_true, decide_eq_true_eq]; omega) ns
      exact h.imp fun h => by have := of_decide_eq_true h; omega
    rw [sortN_is hp hs] at eo
    have hi2 := ints_each eo
    have hlen2 : ((sortN ns).map V.int).length ≤ sizeLine := by
      have : (sortN ns).length = ns.length := by rw [← sortN_is hp hs]; exact hp.length_eq
      rw [List.length_map, this, sizeLine_eq]; omega
    have hq : H2 (s2.heap.objs.size + 1) = none := I2.hok.fresh (Nat.le_succ _)
    exact ⟨.ref _, upd H2 (s2.heap.objs.size + 1) (.lst ((sortN ns).map V.int)), I2.laid (t' := tk) kp (Nat.le_succ _) ⟨hlen2, out, cc, vals_of_ints hi2, hD⟩, rfl, newL (Q := Q) r2.bh (Reps.ofInts _) hq fun w B3 H3 gr nw => kk w B3 H3 (r2.grow gr) (sB.tr gr.bb) (nw.res r2)⟩
end NS

set_option Elab.async false
set_option linter.all false
set_option maxRecDepth 100000
set_option maxHeartbeats 4000000
/-! NsR: f([..], [..]) whose lists hold owned things: a call that only looks, its answer a truth. -/
namespace NS
open PySem L2 PyProof.Rows
/-- all that can be read in H beside B -/
def ExB (B H : Hp) (a1 a2 : Addr) (x : Addr) : Prop := x = a1 ∨ x = a2 ∨ ∃ o ov, H x = some o ∧ OwnO B ov o
open Classical in
noncomputable def wideB (B H : Hp) (a1 a2 : Addr) : Hp := fun x => if B x = none ∧ ExB B H a1 a2 x then H x else B x
section
variable {K : PySem.W.Frag} {B H : Hp} {a1 a2 : Addr}
theorem wideB_sub : Sub B (wideB B H a1 a2) := fun b o e => by
  unfold wideB
  rw [if_neg (fun z => by rw [z.1] at e; cases e)]
  exact e
theorem wideB_low (s : Sub B H) : Sub (wideB B H a1 a2) H := fun b o e => by
  unfold wideB at e
  by_cases h : B b = none ∧ ExB B H a1 a2 b
  · rw [if_pos h] at e; exact e
  · rw [if_neg h] at e; exact s b o e
theorem wideB_at {x : Addr} (s : Sub B H) (h : ExB B H a1 a2 x) {o : HO} (e : H x = some o) : wideB B H a1 a2 x = some o := by
  unfold wideB
  by_cases z : B x = none
  · rw [if_pos ⟨z, h⟩]; exact e
  · rw [if_neg (fun q => z q.1)]
    cases q : B x with
    | none => exact absurd q z
    | some o' => rw [s x o' q] at e; exact e
theorem wideB_rd {u : V} {d : D} (s : Sub B H) (h : Rd B H u d) : Rep (wideB B H a1 a2) u d := by
  rcases h with h | ⟨a, o, ov, rfl, h1, h2, rfl, h4⟩
  · exact h.mono wideB_sub
  · exact (h2.mono wideB_sub).rep (wideB_at s (.inr (.inr ⟨o, ov, h1, h2⟩)) h1)
theorem wideB_rds : ∀ {us : List V} {ds : List D}, Sub B H → Rds B H us ds → Reps (wideB B H a1 a2) us ds
  | [], ds, _, h => by
    have h : ds = [] := h
    subst h; exact .nil
  | u :: us, ds, s, ⟨d, r, e, h, k⟩ => by
    subst e
    exact .cons (wideB_rd s h) (wideB_rds s k)
end
def callB2 (g : List Opd → Option Res) (fa fb : Ev (List Opd)) : Ev Res := fun env => (fa env).bind fun p => (fb p.2).bind fun q => (opDs q.2 p.1).bind fun da => (opDs q.2 q.1).bind fun db =>
  guardO (decide (da.length ≤ 100000) && decide (db.length ≤ 100000)) ((g [.v (.list da), .v (.list db)]).bind fun r => match r with
    | .d (.bool b) => some (.d (.bool b), q.2)
    | _ => none)
theorem rds_len {B H : Hp} : ∀ {us : List V} {ds : List D}, Rds B H us ds → us.length = ds.length
  | [], ds, h => by
    have h : ds = [] := h
    subst h; rfl
  | u :: us, ds, ⟨d, r, e, h, k⟩ => by
    subst e
    rw [List.length_cons, List.length_cons, rds_len k]
theorem opDs_len {env : Env} : ∀ {xs : List Opd} {ds : List D}, opDs env xs = some ds → xs.length = ds.length
  | [], ds, h => by cases h; rfl
  | x :: xs, ds, h => by
    obtain ⟨d, _, h⟩ := bindS h
    obtain ⟨r, e, h⟩ := bindS h
    cases h
    rw [List.length_cons, List.length_cons, opDs_len e]
theorem tCallB2 {K : PySem.W.Frag} {g : List Opd → Option Res} {fa fb : Ev (List Opd)} (σ : L2.St) (H : Hp) (Q : VK) (h : tR K (callB2 g fa fb) σ H Q) : tCall (spT K 2 g) [] E0 (tCons (tLst (tA K fa)) (tCons (tLst (tA K fb)) tNil)) σ H Q := by
  obtain ⟨E, B, env, res, env', r, ef, kk⟩ := h
  obtain ⟨p, e1, ef⟩ := bindS ef
  obtain ⟨q, e2, ef⟩ := bindS ef
  obtain ⟨da, e3, ef⟩ := bindS ef
  obtain ⟨db, e4, ef⟩ := bindS ef
  obtain ⟨hl, ef⟩ := guardS ef
  obtain ⟨rs, e5, ef⟩ := bindS ef
  simp only [Bool.and_eq_true, decide_eq_true_eq] at hl
  obtain ⟨b, rfl, rfl, rfl⟩ : ∃ b, rs = .d (.bool b) ∧ res = .d (.bool b) ∧ env' = q.2 := by
    split at ef
    · rename_i b
      cases ef
      exact ⟨b, rfl, rfl, rfl⟩
    · cases ef
  refine ⟨E, B, env, p.1, p.2, r, e1, fun us B1 H1 r1 s1 z1 => ⟨?_, fun a1 ha1 => ?_⟩⟩
  · rw [opvs_len z1, opDs_len e3]; exact line5 hl.1
  have g1 : Grow B1 H1 B1 (upd H1 a1 (.lst us)) := Grow.heap r1.bh ha1
  have r1' := r1.grow g1
  refine ⟨NS.loc B1 (upd H1 a1 (.lst us)) σ p.2, B1, p.2, q.1, q.2, r1'.loc, e2, fun ws B2 H2 r2 s2 z2 => ⟨?_, fun a2 ha2 => ?_⟩⟩
  · rw [opvs_len z2, opDs_len e4]; exact line5 hl.2
  have r12 := r1'.comp r2
  have hk1 : H2 a1 = some (.lst us) := r2.keep a1 _ upd_same (fun ⟨i, ov, w1, w2, w3⟩ => by
    obtain ⟨a', o1, v1, v2, v3, _⟩ := r1.owns w1 w2
    rw [w3] at v1
    cases v1
    rw [ha1] at v2
    cases v2) (fun ps z => by cases z)
  have g2 : Grow B2 H2 B2 (upd H2 a2 (.lst ws)) := Grow.heap r12.bh ha2
  have r3 := r12.grow g2
  have rd1 : Rds B2 (upd H2 a2 (.lst ws)) us da := opRds r3 (OpVs.mono s2 z1) e3
  have rd2 : Rds B2 (upd H2 a2 (.lst ws)) ws db := opRds r3 z2 e4
  have ha12 : a1 ≠ a2 := fun z => by rw [z, ha2] at hk1; cases hk1
  have hk1' : upd H2 a2 (.lst ws) a1 = some (.lst us) := by rw [upd_ne ha12]; exact hk1
  have hk2' : upd H2 a2 (.lst ws) a2 = some (.lst ws) := upd_same
  generalize upd H2 a2 (.lst ws) = H3 at *
  have w1 : Rep (wideB B2 H3 a1 a2) (.ref a1) (.list da) := .lst (wideB_at r3.bh (.inl rfl) hk1') (wideB_rds r3.bh rd1)
  have w2 : Rep (wideB B2 H3 a1 a2) (.ref a2) (.list db) := .lst (wideB_at r3.bh (.inr (.inl rfl)) hk2') (wideB_rds r3.bh rd2)
  have tb : TabsK K (wideB B2 H3 a1 a2) H3 := ⟨r3.tb.tab, fun P hP => by
    obtain ⟨ps, hps⟩ := r3.tb.at hP
    unfold wideB
    rw [if_neg (fun z => by
      rcases z.2 with z | z | ⟨o, ov, z1, z2⟩
      · rw [z, hk1'] at hps; cases hps
      · rw [z, hk2'] at hps; cases hps
      · rw [hps] at z1
        cases z1
        cases ov with
        | ol _ _ => obtain ⟨_, e, _⟩ := z2; cases e
        | od _ _ => obtain ⟨_, e, _⟩ := z2; cases e
        | ot _ _ => obtain ⟨_, e, _⟩ := z2; cases e
        | fz _ => exact z2
        | fn _ => exact z2
        | scr _ => exact z2)]
    exact r3.tb.off P hP⟩
  refine ⟨wideB B2 H3 a1 a2, [.v (.list da), .v (.list db)], .d (.bool b), wideB_low r3.bh, tb, rfl, rfl, ⟨_, _, rfl, w1, _, _, rfl, w2, rfl⟩, e5, fun v B4 H4 gr nw => ?_⟩
  have r4 : RR K E B2 H4 σ q.2 := r3.growC ⟨Sub.rfl', gr.hh, gr.dom, fun x o e => gr.bh x o (gr.bb x o (wideB_sub x o e)), fun _ _ e => .inl e, ⟨gr.tb.tab, r3.tb.off⟩⟩
  refine kk v B2 H4 r4 ((s1.tr s2)) ?_
  have nw : Rep B4 v (.bool b) := nw
  cases nw
  exact (show Rep B2 _ (.bool b) from .bl _)
theorem e_callB2 {X : Cx} {k j : Nat} {ps : List Str} {x : Str} {p pos q1 q2 : Pos} {es1 es2 : List Expr} {fa fb : Ev (List Opd)} {g : List Opd → Option Res} (C : Callee X.prog X.w X.K X.mg X.base x j ps (spT X.K 2 g)) (hgd : X.A.guards = some []) (hr : Room k X.A) (hjk : j ≤ k) (hg : Gl X x) (ha : PA X es1 (tA X.K fa)) (hb : PA X es2 (tA X.K fb)) (hdb : (x == ("__debug__" : Str)) = false := by decide) :
    PE X (.Call (.Name x p) [.List es1 q1, .List es2 q2] [] pos) (tR X.K (callB2 g fa fb)) := by
  obtain ⟨f, fd, F, hm, hk, hbi⟩ := C.ex
  exact peImp (callG F hgd (hr.mono hjk) hg hm hk hbi pass0 (pa_cons (pe_lst ha) (pa_cons (pe_lst hb) pa_nil)) hdb rfl rfl) tCallB2
end NS

set_option Elab.async false
set_option linter.all false
set_option maxRecDepth 100000
set_option maxHeartbeats 4000000
/-! NsM: sorted of a tuple of ints. -/
namespace NS
open PySem L2 PyProof.Rows
section
variable {prog : Program} {w : World} {A : Around} {E : Value → Shared → Prop} {s : Shared}
/-- what a tuple holds is gathered in a new list -/
theorem collect_tup {l : Addr} {vs : List Value} {Q : List Value → Shared → Prop} (hl : IsTup s.heap l vs.toArray) (hsz : vs.length ≤ sizeLine)
    (h : Q vs { s with heap := (s.heap.push (seqObj "list" #[] 0)).update s.heap.objs.size (Obj.mapSeq (· ++ vs.toArray)) }) : wpAny (model prog w) A (collect (.ref l)) Q E s := by
  obtain ⟨o, ho, hc, n, hd⟩ := hl
  have hT : (s.heap.push (seqObj "list" #[] 0)).get? l = some o := Heap.get?_push_of_some _ ho
  have hN : (s.heap.push (seqObj "list" #[] 0)).get? s.heap.objs.size = some (seqObj "list" #[] 0) := Heap.get?_push_size _ rfl
  unfold collect
  refine wpAny_bind (wpAny_runValue (codeAny_builtin entry_proto_collect' ?_))
  show wpAny _ _ (do again (.builtin "list.__iadd__" ⟨[← newList [], .ref l], []⟩)) _ _ s
  refine wpAny_bind (wpAny_newList (wpAny_pure ⟨Code.quiet_builtin _ (by decide +kernel), codeAny_builtin entry_list_iadd' ?_⟩))
  show wpAny _ _ (Builtin.List.listExtendWith (.ref s.heap.objs.size) (.ref l) (.ref s.heap.objs.size)) _ _ { s with heap := s.heap.push (seqObj "list" #[] 0) }
  unfold Builtin.List.listExtendWith
  refine wpAny_bind (wpAny_typeOf (T := "tuple") ⟨o, hT, hc⟩ ?_)
  have ht : (Value.type "tuple" == Value.type "tuple") = true := by rfl
  rw [if_pos (by rw [ht]; simp)]
  refine wpAny_bind (listItems_at hT hd ?_)
  refine wpAny_bind (listItems_at (xs := #[]) (n := 0) hN rfl ?_)
  rw [if_neg (by simp)]
  refine wpAny_bind (listUpdate_at (xs := #[]) (n := 0) hN rfl ?_ (Nat.zero_le _) (by show (#[] ++ vs.toArray).size ≤ sizeLine + 1; simp only [Array.size_append, List.size_toArray, List.length_nil]; omega))
  refine wpAny_pure ?_
  show wpAny (model prog w) A (do
      let o ← load s.heap.objs.size
      match o.data with
      | .seq xs _ => pure xs.toList
      | _ => unsupported "internal:collect") Q E { s with heap := (s.heap.push (seqObj "list" #[] 0)).update s.heap.objs.size (Obj.mapSeq (· ++ vs.toArray)) }
  refine wpAny_bind (wpAny_load (get?_update_seq hN _) ?_)
  show wpAny _ _ (pure ((#[] : Array Value) ++ vs.toArray).toList) Q E _
  rw [show ((#[] : Array Value) ++ vs.toArray).toList = vs by simp]
  exact wpAny_pure h
/-- sorted(t) of a tuple t of ints: collected, then sorted in place -/
theorem sorted_tup {l : Addr} {vs : List Value} {ns : List Int} {Q : Value → Shared → Prop} (hl : IsTup s.heap l vs.toArray) (hI : IntsAre vs ns) (h64 : vs.length < 64)
    (h : ∀ (out : Array Value) (ns' : List Int), IntsAre out.toList ns' → ns'.Perm ns → ns'.Pairwise (· ≤ ·) → Q (.ref (s.heap.objs.size + 1)) { s with heap := sortedAll s.heap vs out }) :
    wpAny (model prog w) A (call (.builtin "sorted") [.ref l]) Q E s := by
  refine Calls.call_function_entry kind_sorted plain_sorted entry_sorted (args_sorted1 _) ?_
  unfold Builtin.«sorted»
  refine wpAny_bind (m := checkCount "sorted" 1 1 _) (wpAny_pure ?_)
  refine wpAny_bind (collect_tup hl (by rw [sizeLine_eq]; omega) ?_)
  refine wpAny_bind (wpAny_newList ?_)
  have sz : ((s.heap.push (seqObj "list" #[] 0)).update s.heap.objs.size (Obj.mapSeq (· ++ vs.toArray))).objs.size = s.heap.objs.size + 1 := by rw [Heap.size_update, size_push']
  have hoL : (((s.heap.push (seqObj "list" #[] 0)).update s.heap.objs.size (Obj.mapSeq (· ++ vs.toArray))).push (seqObj "list" vs.toArray 0)).get? (s.heap.objs.size + 1) = some (seqObj "list" vs.toArray 0) := by
    rw [← sz]
    exact Heap.get?_push_size _ rfl
  show wpAny _ _ _ _ _ { s with heap := ((s.heap.push (seqObj "list" #[] 0)).update s.heap.objs.size (Obj.mapSeq (· ++ vs.toArray))).push (seqObj "list" vs.toArray 0) }
  rw [sz]
  refine wpAny_bind (wpAny_holding (wpAny_call_entry slot_list_sort ⟨_, hoL, rfl⟩ entry_list_sort (list_sort_tree hoL hI h64 fun out ns' a1 a2 a3 => ⟨_, rfl, ?_⟩) (args_list_sort _)))
  exact wpAny_pure ⟨_, rfl, h out ns' a1 a2 a3⟩
end
def rSortA (K : PySem.W.Frag) : List V → Hp → VK → Prop := fun vs H Q => rSorted K vs H Q ∨ ∃ (a : Addr) (ns : List Int), vs = [V.ref a] ∧ SqT K H a (ns.map V.int) ∧ ns.length < 64 ∧
  ∀ (ns' : List Int) (p : Addr), ns'.Perm ns → ns'.Pairwise (· ≤ ·) → H p = none → Q (.ref p) (upd H p (.lst (ns'.map V.int)))
theorem cr_sortA {X : Cx} : CallR X (.builtin "sorted") (rSortA X.K) := by
  refine CallR.or cr_sorted ?_
  intro pins s σ H vs us Q I r h
  obtain ⟨a, ns, rfl, hs, h64, q⟩ := h
  obtain ⟨its, rv, hl, _⟩ := I.tuple hs
  rw [Vals.ref1 r]
  have hi := rv.ints
  refine sorted_tup hl hi (by rw [hi.length]; exact h64) fun out ns' h1 h2 h3 => ?_
  obtain ⟨ep, he'⟩ := sortedAll_at s.heap its out
  have hlen : (ns'.map V.int).length ≤ sizeLine := by rw [List.length_map, h2.length_eq]; exact small64 h64
  exact ⟨.ref _, upd H (s.heap.objs.size + 1) (.lst (ns'.map V.int)), I.laid (t' := s.toks) (fun _ _ => sortedAll_old) (Nat.le_succ _) ⟨hlen, out.toList, ep, vals_of_ints h1, he'⟩, rfl, q ns' _ h2 h3 (I.hok.fresh (Nat.le_succ _))⟩
def gSortA : List D → Option Res
  | [.list ds] => (intsOf ds).bind fun ns => guardO (decide (ns.length < 64)) (some (.l ((sortI ns).map .int)))
  | [.tuple ds] => (intsOf ds).bind fun ns => guardO (decide (ns.length < 64)) (some (.l ((sortI ns).map .int)))
  | _ => none
theorem p_sortA {K : PySem.W.Frag} : PrimN (rSortA K) gSortA := fun B H us ds res Q s h e k => by
  unfold gSortA at e
  split at e
  · exact .inl (p_sorted B H us _ res Q s h e k)
  · obtain ⟨ns, e1, e⟩ := bindS e
    obtain ⟨c, e⟩ := guardS e
    cases e
    obtain ⟨u, rfl, hu⟩ := rds1 h
    obtain ⟨p, vs, rfl, h1, r1⟩ := hu.tup s
    have := intsV r1 e1
    subst this
    refine .inr ⟨p, ns, rfl, SqT.of h1, of_decide_eq_true c, fun ns' q hp hs hq => ?_⟩
    rw [sorted_is hp hs]
    exact newL s (Reps.ofInts _) hq k
  · cases e
end NS

set_option Elab.async false
set_option linter.all false
set_option maxRecDepth 100000
set_option maxHeartbeats 4000000
/-! NsN: the least of a list of pairs; enumerate of a tuple. -/
namespace NS
open PySem L2 PyProof.Rows
/-! ### min of pairs of ints -/
abbrev pairD (p : Int × Int) : D := .tuple [.int p.1, .int p.2]
def pairsOf : List D → Option (List (Int × Int))
  | [] => some []
  | .tuple [.int a, .int b] :: ds => (pairsOf ds).bind fun ps => some ((a, b) :: ps)
  | _ :: _ => none
theorem pairsOf_map : ∀ ps : List (Int × Int), pairsOf (ps.map pairD) = some ps
  | [] => rfl
  | p :: ps => by
    show (pairsOf (ps.map pairD)).bind _ = _
    rw [pairsOf_map ps]; rfl
theorem pairsOf_is : ∀ {ds : List D} {ps : List (Int × Int)}, pairsOf ds = some ps → ds = ps.map pairD
  | [], ps, e => by cases e; rfl
  | d :: ds, ps, e => by
    unfold pairsOf at e
    split at e
    · rename_i heq; cases heq
    · rename_i a b ds' heq
      cases heq
      obtain ⟨qs, e1, e2⟩ := bindS e
      cases e2
      rw [pairsOf_is e1]; rfl
    · cases e
def rMinP (K : PySem.W.Frag) : List V → Hp → VK → Prop := fun vs H Q => ∃ (a : Addr) (xs : List V) (p : Int × Int) (ps : List (Int × Int)), vs = [V.ref a] ∧ SqL K H a xs ∧ xs.length = (p :: ps).length ∧ (∀ (i : Nat) (x : V) (q : Int × Int), xs[i]? = some x → (p :: ps)[i]? = some q → Dp K H x (pairD q)) ∧
  ∀ (i : Nat) (w : V), xs[i]? = some w → (p :: ps)[i]? = some (PySem.W.minOf p ps) → Q w H
theorem cr_minP {X : Cx} (hc : X.calm = true) (hu : X.A.units + 65 < cLine) : CallR X (.builtin "min") (rMinP X.K) := by
  intro pins s σ H vs us Q I r h
  obtain ⟨a, xs, p, ps, rfl, hs, hlen, hd, q⟩ := h
  obtain ⟨its, rv, hl, hz⟩ := I.list hs
  rw [Vals.ref1 r]
  have rd : ∀ (xs : List V) (us : List Value) (qs : List (Int × Int)), Vals xs us → xs.length = qs.length → (∀ (i : Nat) (x : V) (q : Int × Int), xs[i]? = some x → qs[i]? = some q → Dp X.K H x (pairD q)) → ∃ as, ReadsAll s.heap us (qs.map pairD) as := fun xs us qs rv => by
    induction rv generalizing qs with
    | nil => intro hl _; cases qs with | nil => exact ⟨_, .nil⟩ | cons _ _ => simp at hl
    | @cons x u xs us rx _ ih =>
      intro hl hd
      cases qs with
      | nil => simp at hl
      | cons q qs =>
        obtain ⟨as, h1⟩ := Dp.reads I (pairD q) x u (hd 0 x q rfl rfl) rx
        obtain ⟨bs, h2⟩ := ih qs (by simpa using hl) fun i x' q' e1 e2 => hd (i + 1) x' q' (by simpa using e1) (by simpa using e2)
        exact ⟨_, .cons h1 h2⟩
  obtain ⟨as, hr⟩ := rd xs its (p :: ps) rv hlen hd
  have dep : PySem.W.Datum.depth (Int × Int) ≤ 64 := by decide
  refine PySem.W.min_list_datum (x := p) (xs := ps) (I.ok.hd hc) hl.isList ⟨as, ?_⟩ (by omega) fun i v h' tk hi Hv hk => ?_
  · rw [List.toList_toArray]; exact hr
  · have hi' : its[i]? = some v := by simpa using hi
    have hil0 : i < xs.length := by rw [rv.length]; exact (List.getElem?_eq_some_iff.mp hi').1
    obtain ⟨w, hw⟩ : ∃ w, xs[i]? = some w := ⟨_, List.getElem?_eq_getElem hil0⟩
    obtain ⟨v', hv', rw'⟩ := rv.get hw
    rw [hi'] at hv'
    cases hv'
    have hil : i < (p :: ps).length := by rw [← hlen]; exact (List.getElem?_eq_some_iff.mp hw).1
    obtain ⟨z, hz'⟩ : ∃ z, (p :: ps)[i]? = some z := ⟨_, List.getElem?_eq_getElem hil⟩
    obtain ⟨bs, h1⟩ := Dp.reads I (pairD z) w v (hd i w z hw hz') rw'
    obtain ⟨cs, h2⟩ := Hv
    have e := (reads_det (fun b o e _ => hk b o e) h1 h2).1
    have ez : z = PySem.W.minOf p ps := by
      have e' : PyData.tuple [.int (PySem.W.minOf p ps).1, .int (PySem.W.minOf p ps).2] = PyData.tuple [.int z.1, .int z.2] := e
      injection e' with e'
      injection e' with a1 a2
      injection a2 with a2 _
      injection a1 with a1
      injection a2 with a2
      exact Prod.ext a1.symm a2.symm
    subst ez
    exact ⟨w, H, I.kept hk, rw', q i w hw hz'⟩
def gMinA : List D → Option Res
  | [.list ds] => match intsOf ds with
    | some ns => ns.min?.bind fun m => some (.d (.int m))
    | none => (pairsOf ds).bind fun ps => match ps with
      | p :: ps => some (.d (pairD (PySem.W.minOf p ps)))
      | [] => none
  | _ => none
def rMinA (K : PySem.W.Frag) : List V → Hp → VK → Prop := fun vs H Q => rMin K vs H Q ∨ rMinP K vs H Q
theorem cr_minA {X : Cx} (hc : X.calm = true) (hu : X.A.units + 65 < cLine) : CallR X (.builtin "min") (rMinA X.K) := CallR.or (cr_min hc) (cr_minP hc hu)
theorem p_minA {K : PySem.W.Frag} : PrimN (rMinA K) gMinA := fun B H us ds res Q s h e k => by
  unfold gMinA at e
  split at e
  · rename_i ds0
    split at e
    · rename_i ns hns
      exact .inl (p_minL B H us _ res Q s h (by unfold gMinL; show (intsOf ds0).bind _ = _; rw [hns]; exact e) k)
    · obtain ⟨ps, e1, e⟩ := bindS e
      split at e
      · rename_i psx p ps'
        cases e
        obtain ⟨u, rfl, hu⟩ := rds1 h
        obtain ⟨a, vs, rfl, h1, r1⟩ := hu.lst s
        have hds := pairsOf_is e1
        subst hds
        have at_ : ∀ (i : Nat) (w : V) (q : Int × Int), vs[i]? = some w → (p :: ps')[i]? = some q → Rep B w (pairD q) := fun i w q e1 e2 => by
          obtain ⟨d, h2, h3⟩ := r1.getV e1
          rw [List.getElem?_map, e2] at h2
          cases h2
          exact h3
        refine .inr ⟨a, vs, p, ps', rfl, SqL.of h1, by rw [r1.len, List.length_map], fun i x q e1 e2 => ((at_ i x q e1 e2).mono s).dp K rfl, fun i w e1 e2 => ?_⟩
        exact newD s (at_ i w _ e1 e2) k
      · cases e
  · cases e
/-! ### enumerate of a tuple -/
open AutoSeq1 (wpAny_loadPart')
theorem meets_enum_tup (l : Addr) (items : Array Value) (n : Nat) (dct : Option Addr) (sl : Array (Option Value)) :
    Meets (Builtin.«enumerate.__new__» ⟨[.type "enumerate", .ref l], []⟩) (fun _ R s => s.heap.get? l = some { cls := .type "tuple", dict := dct, data := .seq items n, slots := sl } ∧
      R (.ok (.ret (.ref (s.heap.push { cls := .type "tuple_iterator", data := .fields #[.ref l, .int 0 0] }).objs.size)))
        { s with heap := (s.heap.push { cls := .type "tuple_iterator", data := .fields #[.ref l, .int 0 0] }).push { cls := .type "enumerate", data := .fields #[.none, .bool false, .ref s.heap.objs.size, rawInt 0, .none, .none] } }) :=
  .of_wp fun prog w A R s h => by
    obtain ⟨hp, g, d, tk, os⟩ := s
    obtain ⟨hl, h⟩ := h
    have hsub := sub_enumerate
    have hL : Heap.IsTuple (Shared.heap ⟨hp, g, d, tk, os⟩) l items := ⟨_, hl, rfl, n, rfl⟩
    wp_walk using wpAny_loadPart' hl
    refine wpAny_stack_any fun st => wpAny_pure ?_
    split
    · rename_i c _ _ _ _ _
      cases (c == Value.type "enumerate")
      · wp_walk using wpAny_loadPart' hl, wpAny_pyIter_tuple hL
        exact ⟨_, rfl, h⟩
      · wp_walk using wpAny_loadPart' hl, wpAny_pyIter_tuple hL
        exact ⟨_, rfl, h⟩
    · wp_walk using wpAny_loadPart' hl, wpAny_pyIter_tuple hL
      exact ⟨_, rfl, h⟩
theorem call_enum_tup {prog : Program} {w : World} {A : Around} {E : Value → Shared → Prop} {s : Shared} {l : Addr} {items : Array Value} {Q : Value → Shared → Prop} (hL : s.heap.IsTuple l items)
    (h : ∀ h', IsEnum h' (s.heap.objs.size + 1) s.heap.objs.size 0 .none → h'.IsTupleIter s.heap.objs.size l 0 → h'.objs.size = s.heap.objs.size + 2 →
      (∀ b o, s.heap.get? b = some o → h'.get? b = some o) → Q (.ref (s.heap.objs.size + 1)) { s with heap := h' }) :
    wpAny (model prog w) A (call (.type "enumerate") [.ref l]) Q E s := by
  obtain ⟨⟨c, dct, dt, sl⟩, hl, hc, n, hd⟩ := hL
  replace hc : c = .type "tuple" := hc
  replace hd : dt = .seq items n := hd
  subst hc hd
  refine callType_new F.called_enumerate (by decide) (F.typeCall_enumerate_1 _) (F.newCall_enumerate_1 _) (fun obj => F.args_object_init_2 obj _) F.entry_enumerate_new (meets_enum_tup l items n dct sl) ⟨hl, ?_⟩
  have hz : (s.heap.push { cls := .type "tuple_iterator", data := .fields #[.ref l, .int 0 0] }).objs.size = s.heap.objs.size + 1 := Heap.size_push ..
  show _ ∧ _
  rw [hz]
  have he : IsEnum ((s.heap.push { cls := .type "tuple_iterator", data := .fields #[.ref l, .int 0 0] }).push { cls := .type "enumerate", data := .fields #[.none, .bool false, .ref s.heap.objs.size, rawInt 0, .none, .none] }) (s.heap.objs.size + 1) s.heap.objs.size 0 .none := by
    have q := Heap.get?_push_size (s.heap.push { cls := .type "tuple_iterator", data := .fields #[.ref l, .int 0 0] }) (o := { cls := .type "enumerate", data := .fields #[.none, .bool false, .ref s.heap.objs.size, rawInt 0, .none, .none] }) rfl
    rw [hz] at q
    exact q
  exact ⟨⟨_, he, rfl⟩, h _ he ⟨_, Heap.get?_push_of_some _ (Heap.get?_push_size _ rfl), rfl, rfl⟩ (by rw [Heap.size_push, hz]) fun b o x => Heap.get?_push_of_some _ (Heap.get?_push_of_some _ x)⟩
/-- the tuple at a, each item in a new pair -/
def IteT (K : PySem.W.Frag) (a : Addr) : It :=
  ⟨fun i H => ∃ (xs : List V) (x : V), SqT K H a xs ∧ xs[i]? = some x, fun i H v H' => ∃ T x, v = .ref T ∧ H T = none ∧ H' = upd H T (.tup [.int (i : Nat), x]) ∧ ∀ xs, SqT K H a xs → xs[i]? = some x, fun i H => ∃ xs : List V, SqT K H a xs ∧ xs.length ≤ i⟩
theorem turn_enumT {P : Program} {w : World} {K : PySem.W.Frag} {elts : List Expr} {kk : Nat} {tpos : Pos} (a e it : Addr) (hai : a ≠ it) (hae : a ≠ e) :
    Turn P w K (.Tuple elts kk tpos) (IteT K a) [e, it] e (fun i h => (∃ old, IsEnum h e it ((i : Nat) : Int) old) ∧ h.IsTupleIter it a i ∧ e ≠ it) where
  mem := by simp
  obj := fun i h st b hb => by
    obtain ⟨⟨old, he⟩, ⟨o, ho, hc, hd⟩, _⟩ := st
    have e' : b = e ∨ b = it := by simpa using hb
    rcases e' with z | z
    · rw [z]; exact ⟨_, he, fun v q => nomatch q⟩
    · rw [z]; exact ⟨o, ho, fun v q => by rw [hd] at q; cases q⟩
  keep := fun i h h' st k => let ⟨⟨old, he⟩, hi, hne⟩ := st; ⟨⟨old, k e (by simp) _ he⟩, hi.at fun o q => k it (by simp) o q, hne⟩
  item := by
    intro X hP hw hK hc i pins s σ H E I hf st hg
    subst hP hw hK
    obtain ⟨⟨old, he⟩, hit, hne⟩ := st
    obtain ⟨xs, x, hq, hx⟩ := hg
    obtain ⟨its, rv, p, hz⟩ := I.tuple hq
    obtain ⟨u, hu, ru⟩ := rv.get hx
    have hlt : i < its.toArray.size := by rw [List.size_toArray]; exact (List.getElem?_eq_some_iff.mp hu).1
    have hel : e < s.heap.objs.size := Heap.lt_size he
    have hil : it < s.heap.objs.size := by obtain ⟨_, q, _⟩ := hit; exact Heap.lt_size q
    refine wpAny_pyNext_enum_itemD (PySem.Draws.tuple (A := X.A.in1) (I.ok.hd hc) it a hai its.toArray) he ⟨hit, p⟩ hlt hne (by simp [hne]; exact fun z => hae z.symm) fun y h' tk hy ho st' hT hsz hk => ?_
    have hy' : y = u := by
      rw [show its.toArray[i]? = its[i]? by simp, hu] at hy
      exact (Option.some.inj hy).symm
    subst hy'
    refine ⟨_, rfl, wpAny_letOwnedTupleGo_enum (s := { s with heap := h', toks := tk + 1 }) ho fun h'' he' sb => ?_⟩
    have hT2 : h''.get? s.heap.objs.size = some { cls := .type "tuple", data := .seq #[.int i tk, y] } := (sb.2 _ (Nat.ne_of_gt hel)).trans hT
    have new : ObjOk X.prog X.w (upd H s.heap.objs.size (.tup [.int (i : Nat), x])) h'' s.heap.objs.size (.tup [.int (i : Nat), x]) :=
      ⟨by show 2 ≤ sizeLine; decide, [.int i tk, y], .cons ⟨_, rfl⟩ (.cons ru .nil), ⟨_, hT2, rfl, _, rfl⟩⟩
    have I1 : Inv X pins σ (upd H s.heap.objs.size (.tup [.int (i : Nat), x])) { s with heap := h'', toks := tk + 1 } :=
      I.turnedNew (ch := [e, it]) (fun b ob hb q => (sb.2 b (fun z => hb (by simp [z]))).trans (hk b ob (fun z => hb (by simp [z])) (fun z => hb (by simp [z])) q)) hf (Nat.le_refl _) new
    refine ⟨.ref s.heap.objs.size, _, I1, rfl, ⟨_, x, rfl, I.hok.fresh (Nat.le_refl _), rfl, fun ys hy => by rw [I.tuple_inj hy hq]; exact hx⟩, ⟨⟨y, ?_⟩, st'.1.at fun o q => (sb.2 it (Ne.symm hne)).trans q, hne⟩, fun b hb => ?_⟩
    · have e1 : ((i + 1 : Nat) : Int) = (i : Int) + 1 := by omega
      rw [e1]; exact he'
    · have hb' : b < s.heap.objs.size := by
        have e' : b = e ∨ b = it := by simpa using hb
        rcases e' with z | z
        · rw [z]; exact hel
        · rw [z]; exact hil
      rw [upd_ne (Nat.ne_of_lt hb')]
      exact (hf b hb).1
  done := by
    intro X hP hw hK hc i pins s σ H E I hf st hg
    subst hP hw hK
    obtain ⟨⟨old, he⟩, hit, hne⟩ := st
    obtain ⟨xs, hq, hx⟩ := hg
    obtain ⟨its, rv, p, hz⟩ := I.tuple hq
    obtain ⟨f0, f1, f2, f3, f4, f5⟩ := hf it (by simp)
    have hl := rv.length
    have D : Draws X.prog X.w X.A.in1 it [it, a] i (fun _ _ => False) (fun j h => j = i ∧ h.IsTupleIter it a i ∧ h.IsTuple a its.toArray) :=
      { live := fun _ _ st => let ⟨o, ho, _⟩ := st.2.1; ⟨o, ho⟩
        frame := fun _ _ _ st hk => ⟨st.1, st.2.1.at fun o e => hk it (by simp) o e, st.2.2.at fun o e => hk a (by simp) o e⟩
        item := fun j s Q E hi st hQ => absurd hi (by have := st.1; omega)
        done := fun s Q E st hE => wpAny_nextOf_tuple_end (I.ok.hd hc) st.2.1 st.2.2 (by simp; omega) hE }
    exact wpAny_pyNext_enum_endD D he ⟨rfl, hit, p⟩ fun h' eb => ⟨rfl, I.turned (t' := s.toks) (fun b o hb q => eb b o hb q) f0 f1 f3 f4 f5⟩
  self := fun A i s Q E st h => let ⟨⟨_, he⟩, _⟩ := st; wpAny_pyIter_enum he h
def iEnumT (K : PySem.W.Frag) (ta : TA) : TI := fun σ H R => ta σ H fun vs H1 => ∃ a xs, vs = [.ref a] ∧ SqT K H1 a xs ∧ R (IteT K a) H1
theorem pi_enumT {X : Cx} {e : Expr} {ta : TA} {p pos tpos : Pos} {elts : List Expr} {kk : Nat} (hg : Gl X "enumerate") (hm : X.mg "enumerate" = none) (ha : PA X [e] ta) (hs : starEach [e] X.env = [(false, eval e X.env)] := by rfl) :
    PI X (.Tuple elts kk tpos) (.Call (.Name "enumerate" p) [e] [] pos) (iEnumT X.K ta) := by
  refine ⟨fun pins s σ H R I h => ?_⟩
  refine Call_ (ld_blt I hg hm boot_enumerate (PyProof.Rows.callWith_type1 (thn (ha.run pos pins s σ H _ I h) fun us s1 ⟨vs, H1, I1, r1, q1⟩ => ?_) hs rfl))
  obtain ⟨a, xs, ex, hq, q⟩ := q1
  subst ex
  cases r1 with
  | cons r rr =>
    cases rr
    cases r
    obtain ⟨its, rv, p', hz⟩ := I1.tuple hq
    have hal : a < s1.heap.objs.size := by obtain ⟨_, y, _⟩ := p'; exact Heap.lt_size y
    refine call_enum_tup p' fun h' he hit hsz hk => wpAny_pyIter_enum he ?_
    have I2 : Inv X pins σ H1 { s1 with heap := h' } := I1.kept (t' := s1.toks) hk
    refine ⟨s1.heap.objs.size + 1, [s1.heap.objs.size + 1, s1.heap.objs.size], _, _, H1, rfl, I2, turn_enumT a (s1.heap.objs.size + 1) s1.heap.objs.size (Nat.ne_of_lt hal) (Nat.ne_of_lt (Nat.lt_succ_of_lt hal)), ⟨⟨.none, he⟩, hit, Nat.succ_ne_self _⟩, fun b hb => ?_, q⟩
    have e' : b = s1.heap.objs.size + 1 ∨ b = s1.heap.objs.size := by simpa using hb
    have hle : s1.heap.objs.size ≤ b := by
      rcases e' with z | z
      · rw [z]; exact Nat.le_add_right _ _
      · rw [z]; exact Nat.le_refl _
    exact I1.fpOk hle (I1.hok.fresh hle)
theorem iteT {K : PySem.W.Frag} {a : Addr} {B : Hp} {vs : List V} {ds : List D} (h : B a = some (.tup vs)) (r : Reps B vs ds) : ItD (IteT K a) B (enumD ds) := fun i B1 H1 s1 s2 => by
  have hs : SqT K H1 a vs := SqT.of (s2 _ _ (s1 _ _ h))
  refine ⟨fun d hd => ?_, fun hl => ⟨vs, hs, by
    unfold enumD at hl
    rw [List.length_mapIdx] at hl
    rw [r.len]; exact hl⟩⟩
  unfold enumD at hd
  rw [List.getElem?_mapIdx] at hd
  obtain ⟨x, hx, rfl⟩ := Option.map_eq_some_iff.mp hd
  obtain ⟨v, hv, rv⟩ := r.get hx
  refine ⟨⟨vs, v, hs, hv⟩, fun z H' ⟨T, v', e, hT, e2, y1⟩ => ?_⟩
  subst e e2
  have e3 := y1 vs hs
  rw [hv] at e3
  cases e3
  have g := Grow.both s2 (o := .tup [.int (i : Nat), v]) hT
  exact ⟨_, g, .tup upd_same (.cons (.int _) (.cons ((rv.mono s1).mono g.bb) .nil))⟩
def itEnumA (f : Ev (List Opd)) : Ev (List D) := fun env => (f env).bind fun p => match p.1 with
  | [.v (.list a)] => some (enumD a, p.2)
  | [.v (.tuple a)] => some (enumD a, p.2)
  | _ => none
theorem piOr {X : Cx} {tg e : Expr} {t u : TI} (h : PI X tg e t) (k : PI X tg e u) : PI X tg e (fun σ H R => t σ H R ∨ u σ H R) := ⟨fun pins s σ H R I q => q.elim (fun q => h.run pins s σ H R I q) fun q => k.run pins s σ H R I q⟩
theorem i_enumA {X : Cx} {a : Expr} {f : Ev (List Opd)} {p pos tpos : Pos} {elts : List Expr} {kk : Nat} (hg : Gl X "enumerate") (hm : X.mg "enumerate" = none) (ha : PA X [a] (tA X.K f))
    (hs : starEach [a] X.env = [(false, eval a X.env)] := by rfl) :
    PI X (.Tuple elts kk tpos) (.Call (.Name "enumerate" p) [a] [] pos) (tIt X.K (itEnumA f)) := piImp (piOr (pi_enum hg hm ha hs) (pi_enumT hg hm ha hs)) fun σ H R ⟨E, B, env, ds, env', r, ef, k⟩ => by
  obtain ⟨q, e1, ef⟩ := bindS (show (f env).bind _ = _ from ef)
  split at ef
  · rename_i x hj
    cases ef
    refine .inl ⟨E, B, env, q.1, q.2, r, e1, fun vs B' H' r' s' z => ?_⟩
    rw [hj] at z
    obtain ⟨u, rr, rfl, z1, z3⟩ := z
    cases z3
    cases (show Rep B' u (.list x) from z1) with
    | lst g1 g2 => exact ⟨_, _, rfl, SqL.of (r'.bh _ _ g1), k _ B' H' r' s' (ite g1 g2)⟩
  · rename_i x hj
    cases ef
    refine .inr ⟨E, B, env, q.1, q.2, r, e1, fun vs B' H' r' s' z => ?_⟩
    rw [hj] at z
    obtain ⟨u, rr, rfl, z1, z3⟩ := z
    cases z3
    cases (show Rep B' u (.tuple x) from z1) with
    | tup g1 g2 => exact ⟨_, _, rfl, SqT.of (r'.bh _ _ g1), k _ B' H' r' s' (iteT g1 g2)⟩
  · cases ef
/-! ### x, y = a, b by way of a tuple (a name is a cell) -/
theorem ResV.grow {K : PySem.W.Frag} {E : Ent} {B H B' H' : Hp} {σ : L2.St} {env : NS.Env} {x : Res} {u : V} (h : ResV E B H σ env x u) (g : Grow B H B' H') : ResV E B' H' σ env x u := by
  have own : (∃ p o, u = .ref p ∧ H p = some o ∧ OwnO B x.ov o ∧ B p = none ∧ (∀ j, ¬ Own σ env j p) ∧ (E.H0 p = none ∨ E.Z p)) → ∃ p o, u = .ref p ∧ H' p = some o ∧ OwnO B' x.ov o ∧ B' p = none ∧ (∀ j, ¬ Own σ env j p) ∧ (E.H0 p = none ∨ E.Z p) := by
    rintro ⟨p, o, rfl, h1, h2, h3, h4, h5⟩
    refine ⟨p, o, rfl, g.hh p o h1, h2.mono g.bb, ?_, h4, h5⟩
    cases e : B' p with
    | none => rfl
    | some t =>
      rcases g.new p t e with y | y
      · rw [h3] at y; cases y
      · rw [h1] at y; cases y
  cases x with
  | d d => exact Rep.mono g.bb h
  | l ds => exact own h
  | k ds => exact own h
  | t ds => exact own h
theorem s_unp2 {X : Cx} {st : Stmt} {i j : Nat} {fa fb : Ev Res} {ta : TA} (hij : i ≠ j) (hst : PS X st (tAsg (tTup ta) (L2.gTup X.K 2 (gCons (gName i) (gCons (gName j) gNil)))))
    (hta : ∀ σ H Q, (∃ E B env x env' y env'', RR X.K E B H σ env ∧ fa env = some (x, env') ∧ fb env' = some (y, env'') ∧ ∀ u v B2 H2, RR X.K E B2 H2 σ env'' → Sub B B2 → ResV E B2 H2 σ env'' x u → ResV E B2 H2 σ env'' y v → (x.ov.owned = true → y.ov.owned = true → u ≠ v) → Q [u, v] H2) → ta σ H Q) :
    PS X st (tS X.K (par2 i j fa fb)) := psImp hst fun D σ H ⟨E, B, env, fl, env', r, ef, k⟩ => by
  obtain ⟨p, e1, ef⟩ := bindS ef
  obtain ⟨q, e2, ef⟩ := bindS ef
  cases ef
  refine hta σ H _ ⟨E, B, env, p.1, p.2, q.1, q.2, r, e1, e2, fun u v B2 H2 r2 s2 h1 h2 ap => ⟨by show 2 ≤ sizeLine; rw [sizeLine_eq]; omega, fun T hT => ?_⟩⟩
  have g : Grow B2 H2 B2 (upd H2 T (.tup [u, v])) := Grow.heap r2.bh hT
  refine ⟨T, [u, v], rfl, SqT.of upd_same, rfl, u, [v], rfl, v, [], rfl, rfl, ?_⟩
  exact k _ B2 _ ((r2.grow g).put2 hij (ResV.grow (K := X.K) h1 g) (ResV.grow (K := X.K) h2 g) ap) s2
theorem ta_two {X : Cx} {fa fb : Ev Res} (σ : L2.St) (H : Hp) (Q : List V → Hp → Prop) (h : ∃ E B env x env' y env'', RR X.K E B H σ env ∧ fa env = some (x, env') ∧ fb env' = some (y, env'') ∧ ∀ u v B2 H2, RR X.K E B2 H2 σ env'' → Sub B B2 → ResV E B2 H2 σ env'' x u → ResV E B2 H2 σ env'' y v → (x.ov.owned = true → y.ov.owned = true → u ≠ v) → Q [u, v] H2) :
    tCons (tR X.K fa) (tCons (tR X.K fb) tNil) σ H Q := by
  obtain ⟨E, B, env, x, env', y, env'', r, e1, e2, k⟩ := h
  refine ⟨E, B, env, x, env', r, e1, fun u B1 H1 r1 s1 q1 => ⟨loc B1 H1 σ env', B1, env', y, env'', r1.loc, e2, fun v B2 H2 r2 s2 q2 => ?_⟩⟩
  exact k u v B2 H2 (r1.comp r2) (s1.tr s2) (q1.hold r1 r2) (q2.out r1) (q1.apart q2)
end NS

set_option Elab.async false
set_option linter.all false
set_option maxRecDepth 100000
set_option maxHeartbeats 4000000
/-! NsU: tuple * 0, tuple * 1; a set of a tuple of ints, at once sorted. -/
namespace NS
open PySem PySem.Spec L2 PyProof.Rows
theorem tuple_mul1 (l : Addr) (items : Array Value) (n : Nat) (dd : Option Addr) (sl : Array (Option Value)) (u : Tok) :
    Meets (Builtin.«tuple.__mul__» ⟨[.ref l, .int 1 u], []⟩) (fun _ R s => s.heap.get? l = some { cls := .type "tuple", dict := dd, data := .seq items n, slots := sl } ∧
      R (.ok (.ret (Value.ref l))) s) :=
  .of_wp fun prog w A R s h => by
    obtain ⟨hp, g, d, tk, os⟩ := s
    obtain ⟨hl, h⟩ := h
    have f1 := AutoSeq1.idx_int
    wp_walk using wpAny_loadPart' hl
    exact ⟨_, rfl, h⟩
theorem tuple_mul0 (l : Addr) (items : Array Value) (n : Nat) (dd : Option Addr) (sl : Array (Option Value)) (u : Tok) :
    Meets (Builtin.«tuple.__mul__» ⟨[.ref l, .int 0 u], []⟩) (fun _ R s => s.heap.get? l = some { cls := .type "tuple", dict := dd, data := .seq items n, slots := sl } ∧ items.isEmpty = false ∧
      R (.ok (.ret (Value.ref s.heap.objs.size))) { s with heap := s.heap.push { cls := Value.type "tuple", data := Data.seq #[] } }) :=
  .of_wp fun prog w A R s h => by
    obtain ⟨hp, g, d, tk, os⟩ := s
    obtain ⟨hl, hi, h⟩ := h
    have f1 := AutoSeq1.idx_int
    wp_walk using wpAny_loadPart' hl
    exact ⟨_, rfl, h⟩
def rRep01 (K : PySem.W.Frag) : R2 := fun x y H Q => ∃ l xs, x = .ref l ∧ SqT K H l xs ∧ xs ≠ [] ∧ ((y = .int 1 ∧ Q (.ref l) H) ∨ (y = .int 0 ∧ ∀ p, H p = none → Q (.ref p) (upd H p (.tup []))))
theorem op_rep01 {X : Cx} : OpR X (binaryOp .Mult) (rRep01 X.K) := by
  intro pins s σ H x y v u Q I rx ry h
  obtain ⟨l, xs, rfl, hT, hne, q⟩ := h
  cases rx
  obtain ⟨its, r, ⟨⟨cls, dd, data, sl⟩, ho, hc, n, hd⟩, hs⟩ := I.tuple hT
  simp only at hc hd
  subst hc hd
  have hle : its.length = xs.length := r.length.symm
  have hn : its ≠ [] := fun e => hne (by
    rw [e] at hle
    exact List.eq_nil_of_length_eq_zero hle.symm)
  have hi : its.toArray.isEmpty = false := by
    cases its with
    | nil => exact absurd rfl hn
    | cons a b => rfl
  rcases q with ⟨rfl, q⟩ | ⟨rfl, q⟩
  · obtain ⟨t, rfl⟩ := ry
    refine wpAny_binaryOp_repeat_ref (T := "tuple") (U := "int") (by decide) ⟨_, ho, rfl⟩ (fun s' => typeIs_int s' 1 t) noFill_tuple_mul F.fills_int_mul F.slot_int_rmul repeat_tuple F.slot_int_index.lookup
      (call_meets F.slot_int_rmul (typeIs_int s 1 t) F.entry_int_rmul (F.args_int_rmul_2 _ _) (int_rmul_tuple 1 t l its.toArray n dd sl)
        ⟨ho, rfl, ⟨_, ho, rfl⟩, call_meets F.slot_tuple_mul ⟨_, ho, rfl⟩ F.entry_tuple_mul (F.args_tuple_mul_2 _ _) (tuple_mul1 l its.toArray n dd sl t) ⟨ho, ?_⟩⟩)
    exact ⟨.ref l, H, I, rfl, q⟩
  · obtain ⟨t, rfl⟩ := ry
    refine wpAny_binaryOp_repeat_ref (T := "tuple") (U := "int") (by decide) ⟨_, ho, rfl⟩ (fun s' => typeIs_int s' 0 t) noFill_tuple_mul F.fills_int_mul F.slot_int_rmul repeat_tuple F.slot_int_index.lookup
      (call_meets F.slot_int_rmul (typeIs_int s 0 t) F.entry_int_rmul (F.args_int_rmul_2 _ _) (int_rmul_tuple 0 t l its.toArray n dd sl)
        ⟨ho, rfl, ⟨_, ho, rfl⟩, call_meets F.slot_tuple_mul ⟨_, ho, rfl⟩ F.entry_tuple_mul (F.args_tuple_mul_2 _ _) (tuple_mul0 l its.toArray n dd sl t) ⟨ho, hi, ?_⟩⟩)
    refine ⟨.ref s.heap.objs.size, _, I.laid (t' := s.toks) (o := .tup []) (fun b ob q => Heap.get?_push_of_some _ q) (Nat.le_refl _) ?_, rfl, q _ (I.hok.fresh (Nat.le_refl _))⟩
    exact ⟨Nat.zero_le _, [], .nil, IsTup.new _ _⟩
def gMulT : D → D → Option Res
  | .tuple (x :: xs), .int j => if j = 1 then some (.d (.tuple (x :: xs))) else if j = 0 then some (.d (.tuple [])) else none
  | _, _ => none
theorem p_mulT {K : PySem.W.Frag} : Prim2 (rRep01 K) gMulT := fun B H u v dx dy res Q s hx hy e k => by
  unfold gMulT at e
  split at e
  · rename_i x xs j
    obtain ⟨p, vs, rfl, h1, r1⟩ := hx.tup s
    have hy := hy.int
    have hne : vs ≠ [] := fun z => by rw [z] at r1; cases r1
    by_cases h : j = 1
    · rw [if_pos h] at e
      cases e
      subst h
      have hB : Rep B (.ref p) (.tuple (x :: xs)) := by
        rcases hx with hx | ⟨a, o, ov, e1, e2, e3, e4, e5⟩
        · exact hx
        · cases ov <;> first | exact False.elim e3 | cases e4
      exact ⟨p, vs, rfl, SqT.of h1, hne, .inl ⟨hy, k (.ref p) B H (Grow.id s) hB⟩⟩
    · rw [if_neg h] at e
      by_cases h0 : j = 0
      · rw [if_pos h0] at e
        cases e
        subst h0
        exact ⟨p, vs, rfl, SqT.of h1, hne, .inr ⟨hy, fun c hc => newT s .nil hc k⟩⟩
      · rw [if_neg h0] at e; cases e
  · cases e
section
variable {P : Program} {w : World} {A : Around} {E : Value → Shared → Prop} {s : Shared}
set_option maxHeartbeats 8000000 in
theorem set_of_tup {l : Addr} {items : Array Value} (ns : List Int) {Q : Value → Shared → Prop} (hh : A.handled = none) (hl : s.heap.IsTuple l items) (hit : IntsAre items.toList ns) (hb : ns.length + 1 < scanBound)
    (h : ∀ (h' : Heap) (tk c : Nat), SetR w h' s.heap.objs.size (fun j => decide (j ∈ ns)) c → c ≤ ns.length → (∀ b o, s.heap.get? b = some o → h'.get? b = some o) → Q (.ref s.heap.objs.size) { s with heap := h', toks := tk }) :
    wpAny (model P w) A (call (.type "set") [.ref l]) Q E s := by
  have hisz : items.size = ns.length := by
    have q := IntsAre.length hit
    rwa [Array.length_toList] at q
  obtain ⟨cc, tl, hmro⟩ := F.called_set.mro
  have hmade := F.called_set.made
  have hsub := F.called_set.sub
  refine wpAny_call (codeAny_of_tree ?_)
  show wpAny _ _ (callAny (.type "set") _) _ _ _
  refine wpAny_pure ⟨Code.quiet_builtin _ (by decide +kernel), codeAny_builtin F.entry_type_call ?_⟩
  rw [Around.under_plain (weight_type_call_type "set" [.ref l] []) rfl]
  have h1 := F.called_set.notType
  have h2 := F.called_set.canCreate
  have hct := F.typeCall_set_1 (.ref l)
  repeat (any_goals (first | assumption | wp_step))
  refine codeAny_mono (code_set_led1 (.ref l) (E := E) (Q₁ := fun ob s₁ => ob = .ref s.heap.objs.size ∧ s₁ = { s with heap := s.heap.push (nset w) }) ⟨rfl, rfl⟩) fun r s₁ hr => ?_
  cases r with
  | error e => exact hr
  | ok fl =>
    cases fl with
    | next => exact False.elim hr
    | brk => exact False.elim hr
    | cont => exact False.elim hr
    | ret ob =>
      obtain ⟨rfl, rfl⟩ := hr
      have hS : (s.heap.push (nset w)).get? s.heap.objs.size = some (nset w) := Heap.get?_push_size _ rfl
      have hT : Shared.TypeIs { s with heap := s.heap.push (nset w) } (.ref s.heap.objs.size) "set" := ⟨_, hS, rfl⟩
      have hli := F.called_set.init.lookup
      have hbi := F.called_set.init.bind (.ref s.heap.objs.size)
      repeat (any_goals (first | assumption | wp_step))
      refine codeAny_mono (codeAny_call_builtin (R := wants (fun r s₂ => r = .none ∧ ∃ h' tk c, s₂ = { s with heap := h', toks := tk } ∧ SetR w h' s.heap.objs.size (fun j => decide (j ∈ ns)) c ∧ c ≤ ns.length ∧ (∀ b o, s.heap.get? b = some o → h'.get? b = some o)) E)
        F.called_set.init.plain F.entry_set_init (check_set_init_1 hT ?_)) fun r₂ s₂ hr₂ => ?_
      · obtain ⟨ol, hol, hcl, nl, hdl⟩ := hl
        obtain ⟨ocls, odict, odata, oslots⟩ := ol
        cases hcl
        cases hdl
        have hol' : (s.heap.push (nset w)).get? l = some { cls := .type "tuple", dict := odict, data := .seq items nl, slots := oslots } := Heap.get?_push_of_some _ hol
        have hsls := F.sub_tuple_set
        have hslf := F.sub_tuple_frozenset
        have hne : (Value.type "tuple" == Value.type "dict") = false := by decide
        have hl1 : (s.heap.push (nset w)).IsTuple l items := ⟨_, hol', rfl, nl, rfl⟩
        unfold Builtin.«set.__init__» noKeywords Builtin.Frozenset.updateFrom
        generalize hPI : pyIter = PI
        wp_walk
        subst hPI
        refine wpAny_pyIter_tuple hl1 ?_
        refine wpAny_bind (wpAny_runValue ?_)
        have hlS : l < s.heap.objs.size := Heap.lt_size hol
        have hh3 : A.in1.in1.in1.handled = none := by simp [hh]
        have hneI : l ≠ (s.heap.push (nset w)).objs.size := by
          rw [Heap.size_push]; exact Nat.ne_of_lt (Nat.lt_succ_of_lt hlS)
        have hSf : s.heap.objs.size ∉ [(s.heap.push (nset w)).objs.size, l] := by
          rw [Heap.size_push]; simp only [List.mem_cons, List.mem_singleton, List.not_mem_nil, or_false, not_or]
          exact ⟨Nat.ne_of_lt (Nat.lt_succ_self _), Nat.ne_of_gt hlS⟩
        have hval : ∀ (i : Nat) (v : Value), items[i]? = some v → ∃ k t, ns[i]? = some k ∧ v = .int k t := fun i v hv => by
          have hi : i < ns.length := by rw [← hisz]; exact (Array.getElem?_eq_some_iff.mp hv).1
          obtain ⟨t, e⟩ := PyProof.Rows.IntsAre.int_at hit i v (by rw [Array.getElem?_toList]; exact hv)
          refine ⟨ns[i], t, List.getElem?_eq_getElem hi, ?_⟩
          rw [e, List.getD_eq_getElem?_getD, List.getElem?_eq_getElem hi] <;> rfl
        refine set_update_ints ((Walks.tuple hh3 _ l hneI items).toS) s.heap.objs.size hSf ns hisz hb hval (items.size - 0) 0 _ (by omega) (Nat.zero_le _) ⟨⟨_, Heap.get?_push_size _ rfl, rfl, rfl⟩, (hl1.push _)⟩ ?hS0 ?hR
        case hS0 => exact ⟨0, Nat.le_refl 0, setR_new_at (Heap.get?_push_of_some _ hS)⟩
        case hR =>
          intro s' c' hm hc' hS'
          obtain ⟨h', g2, d', tk', os'⟩ := s'
          have eg : g2 = s.gens := hm.gens
          have ed : d' = s.drawn := hm.drawn
          have eo : os' = s.os := hm.os
          subst eg; subst ed; subst eo
          show wpAny _ _ _ _ _ _
          refine wpAny_pure ?_
          show wpAny _ _ (ret Value.none) _ _ _
          rw [hisz] at hc'
          refine wpAny_pure ⟨rfl, h', tk', c', rfl, hS', hc', fun b o e => ?_⟩
          have hb0 : b < s.heap.objs.size := Heap.lt_size e
          have hb2 : b ≠ (s.heap.push (nset w)).objs.size := by
            rw [Heap.size_push]; exact Nat.ne_of_lt (Nat.lt_succ_of_lt hb0)
          exact hm.heap b o (by simp only [List.mem_cons, List.mem_singleton, List.not_mem_nil, or_false, not_or]; exact ⟨Nat.ne_of_lt hb0, hb2⟩) (Heap.get?_push_of_some _ (Heap.get?_push_of_some _ e))
      · cases r₂ with
        | error e => exact hr₂
        | ok fl₂ =>
          cases fl₂ with
          | next => exact False.elim hr₂
          | brk => exact False.elim hr₂
          | cont => exact False.elim hr₂
          | ret r =>
            obtain ⟨rfl, h', tk, c', rfl, hS', hc', hk'⟩ := hr₂
            repeat (any_goals (first | assumption | wp_step))
            exact h _ _ _ hS' hc' hk'
end
def rSetT (K : PySem.W.Frag) (w : World) : List V → Hp → VK → Prop := fun xs H Q => ∃ (l : Addr) (ns : List Int), xs = [.ref l] ∧ SqT K H l (ns.map V.int) ∧ ns.length < 4000 ∧ ∀ p c, H p = none → c ≤ ns.length → (∀ h : Heap, SetR w h p (fun j => decide (j ∈ ns)) c → True) → Q (.ref p) (upd H p (SetO w p (fun j => decide (j ∈ ns)) c))
section
variable {X : Cx}
theorem cr_setT (hc : X.calm = true) : CallR X (.type "set") (rSetT X.K X.w) := by
  intro pins s σ H xs us Q I r h
  obtain ⟨l, ns, rfl, hq, hl, q⟩ := h
  obtain ⟨u, rfl, rx⟩ := vals1 r
  cases rx
  obtain ⟨its, rv, pl, hz⟩ := I.tuple hq
  refine set_of_tup ns (I.ok.hd hc) pl (by simpa using rv.ints) (by unfold scanBound; omega) fun h' tk c hS hcl hk => ?_
  have J : Inv X pins σ (upd H s.heap.objs.size (SetO X.w s.heap.objs.size (fun j => decide (j ∈ ns)) c)) { s with heap := h', toks := tk } := I.laid (t' := tk) hk (Nat.le_refl _) (setO_new hS)
  exact ⟨.ref s.heap.objs.size, _, J, rfl, q _ c (I.hok.fresh (Nat.le_refl _)) hcl fun _ _ => trivial⟩
def gSetSortedT : List D → Option Res
  | [.tuple ds] => (intsOf ds).bind fun ns => guardO (decide (ns.length < 64)) (some (.l ((setSort ns).map .int)))
  | _ => none
theorem e_setSortedT {e : Expr} {f : Ev (List Opd)} (h : PE X e (tCB (rSortedSet X.w) (tCons (tCB (rSetT X.K X.w) (tA X.K f)) tNil))) : PE X e (tR X.K (callN gSetSortedT f)) := peImp h fun σ H Q ⟨E, B, env, x, env', rr, ef, k⟩ => by
  obtain ⟨p, e1, ef⟩ := bindS ef
  obtain ⟨ds, e2, ef⟩ := bindS ef
  obtain ⟨rs, e3, ef⟩ := bindS ef
  cases ef
  refine ⟨E, B, env, p.1, p.2, rr, e1, fun us B1 H1 r1 s1 q1 => ?_⟩
  have hr := opRds r1 q1 e2
  unfold gSetSortedT at e3
  split at e3
  · obtain ⟨ns, e4, e3⟩ := bindS e3
    obtain ⟨c, e3⟩ := guardS e3
    cases e3
    have hlen := of_decide_eq_true c
    obtain ⟨u, rfl, hu⟩ := rds1 hr
    obtain ⟨a, vs, rfl, h1, r2⟩ := hu.tup r1.bh
    have := intsV r2 e4
    subst this
    refine ⟨a, ns, rfl, SqT.of h1, by omega, fun q n hq hn _ => ⟨q, fun j => decide (j ∈ ns), n, rfl, upd_same, by omega, fun ms l hs hm hl hl2 => ?_⟩⟩
    have hms : ms = setSort ns := strict_one hs (setSort_lt ns) fun k => by rw [hm k, setSort_mem]; simp
    subst hms
    have g1 : Grow B1 H1 B1 (upd H1 q (SetO X.w q (fun j => decide (j ∈ ns)) n)) := Grow.heap r1.bh hq
    have r3 := r1.grow g1
    refine newL (Q := Q) r3.bh (Reps.ofInts _) hl2 fun w B3 H3 gr nw => k w B3 H3 (r3.grow gr) (s1.tr gr.bb) (nw.res r3)
  · cases e3
end
end NS

set_option Elab.async false
set_option linter.all false
set_option maxRecDepth 100000
set_option maxHeartbeats 4000000
/-! NsV: how evaluators evaluate: a rule each; statements by what holds behind them (Ends). -/
namespace NS
open PySem L2
section
variable {env e1 e2 e3 e4 : Env}
theorem toD_d {x : D} : Res.toD (.d x) = x := rfl
theorem toD_l {xs : List D} : Res.toD (.l xs) = .list xs := rfl
theorem ov_d {x : D} : Res.ov (.d x) = .fz x := rfl
theorem ov_l {xs : List D} : Res.ov (.l xs) = .ol false xs := rfl
theorem opD_v {d : D} : opD env (.v d) = some d := rfl
theorem opD_r {i : Nat} {ov : OV} {d : D} (h : env[i]? = some (some ov)) (h2 : ov.owned = true) (h3 : ov.toD = d) : opD env (.r i) = some d := by
  show ownD env[i]? = _
  rw [h]; unfold ownD; dsimp only; rw [if_pos h2, h3]
theorem opDs_nil : opDs env [] = some [] := rfl
theorem opDs_cons {x : Opd} {xs : List Opd} {d : D} {ds : List D} (h : opD env x = some d) (h2 : opDs env xs = some ds) : opDs env (x :: xs) = some (d :: ds) := by
  unfold opDs; rw [h, h2]; rfl
theorem vals_nil : valsO [] = some [] := rfl
theorem vals_cons {xs : List Opd} {d : D} {ds : List D} (h2 : valsO xs = some ds) : valsO (.v d :: xs) = some (d :: ds) := by
  unfold valsO; rw [h2]; rfl
theorem guard_i {α : Type} {c : Bool} {x : Option α} {b : α} (h : c = true) (k : x = some b) : guardO c x = some b := by rw [h]; exact k
/-! ### expressions -/
theorem E_slotE {i : Nat} {d : D} (h : env[i]? = some (some (.fz d))) : slotE i env = some (d, env) := by
  show (match env[i]? with | some (some (.fz d)) => some (d, env) | some (some ov) => if (ov.owned && !ov.io) = true then some (ov.toD, env.set i (some (.fz ov.toD))) else none | _ => none) = _
  rw [h]
theorem E_slotE_l {i : Nat} {ds : List D} (h : env[i]? = some (some (.ol false ds))) (k : env.set i (some (.fz (.list ds))) = e1) : slotE i env = some (.list ds, e1) := by
  subst k
  show (match env[i]? with | some (some (.fz d)) => some (d, env) | some (some ov) => if (ov.owned && !ov.io) = true then some (ov.toD, env.set i (some (.fz ov.toD))) else none | _ => none) = _
  rw [h]; rfl
theorem E_slotP {i : Nat} {d : D} (h : env[i]? = some (some (.fz d))) : slotP i env = some (.v d, env) := by unfold slotP; rw [h]
theorem E_slotP_s {i : Nat} {d : List Int} (h : env[i]? = some (some (.scr d))) : slotP i env = some (.s d, env) := by unfold slotP; rw [h]
theorem E_slotP_r {i : Nat} {io : Bool} {ds : List D} (h : env[i]? = some (some (.ol io ds))) : slotP i env = some (.r i, env) := by unfold slotP; rw [h]
theorem E_slotF {i : Nat} {d : D} (h : env[i]? = some (some (.fz d))) : slotF i env = some (.v d, env) := by unfold slotF; rw [h]
theorem E_slotF_s {i : Nat} {d : List Int} (h : env[i]? = some (some (.scr d))) : slotF i env = some (.s d, env) := by unfold slotF; rw [h]
theorem E_slotF_l {i : Nat} {ds : List D} (h : env[i]? = some (some (.ol false ds))) (k : env.set i (some (.fz (.list ds))) = e1) : slotF i env = some (.v (.list ds), e1) := by
  subst k; unfold slotF; rw [h]; rfl
theorem E_take {i : Nat} {d : D} (h : env[i]? = some (some (.fz d))) : takeR i env = some (.d d, env) := by unfold takeR; rw [h]
theorem E_take_l {i : Nat} {ds : List D} (h : env[i]? = some (some (.ol false ds))) (k : env.set i none = e1) : takeR i env = some (.l ds, e1) := by
  subst k; unfold takeR; rw [h]
theorem E_cst {d : D} : cstE d env = some (d, env) := rfl
theorem E_opOf {f : Ev D} {d : D} (h : f env = some (d, e1)) : opOf f env = some (.v d, e1) := by unfold opOf; rw [h]; rfl
theorem E_resOf {f : Ev D} {d : D} (h : f env = some (d, e1)) : resOf f env = some (.d d, e1) := by unfold resOf; rw [h]; rfl
theorem E_layOf {f : Ev Res} {r : Res} {d : D} (h : f env = some (r, e1)) (k : r.toD = d) : layOf f env = some (d, e1) := by unfold layOf; rw [h, ← k]; rfl
theorem E_bin2 {g : D → D → Option Res} {fa fb : Ev Opd} {a b : Opd} {x y : D} {r : Res} (h1 : fa env = some (a, e1)) (h2 : fb e1 = some (b, e2)) (h3 : opD e2 a = some x) (h4 : opD e2 b = some y) (h5 : g x y = some r) : bin2 g fa fb env = some (r, e2) := by
  unfold bin2; rw [h1]; dsimp only [Option.bind]; rw [h2]; dsimp only [Option.bind]; rw [h3, h4]; dsimp only [Option.bind]; rw [h5]
theorem E_boolOf {f : Ev Res} {b : Bool} (h : f env = some (.d (.bool b), e1)) : boolOf f env = some (b, e1) := by unfold boolOf; rw [h]; rfl
theorem E_nilA : nilA env = some ([], env) := rfl
theorem E_consA {f : Ev Opd} {g : Ev (List Opd)} {x : Opd} {xs : List Opd} (h1 : f env = some (x, e1)) (h2 : g e1 = some (xs, e2)) : consA f g env = some (x :: xs, e2) := by
  unfold consA; rw [h1]; dsimp only [Option.bind]; rw [h2]
theorem E_tupR {f : Ev (List Opd)} {xs : List Opd} {ds : List D} (h1 : f env = some (xs, e1)) (h2 : valsO xs = some ds) (h3 : ds.length ≤ 100000) : tupR f env = some (.d (.tuple ds), e1) := by
  unfold tupR; rw [h1]; dsimp only [Option.bind]; rw [h2]; exact guard_i (decide_eq_true h3) rfl
theorem E_lstR {f : Ev (List Opd)} {xs : List Opd} {ds : List D} (h1 : f env = some (xs, e1)) (h2 : valsO xs = some ds) (h3 : ds.length ≤ 100000) : lstR f env = some (.l ds, e1) := by
  unfold lstR; rw [h1]; dsimp only [Option.bind]; rw [h2]; exact guard_i (decide_eq_true h3) rfl
theorem E_callN {g : List D → Option Res} {f : Ev (List Opd)} {xs : List Opd} {ds : List D} {r : Res} (h1 : f env = some (xs, e1)) (h2 : opDs e1 xs = some ds) (h3 : g ds = some r) : callN g f env = some (r, e1) := by
  unfold callN; rw [h1]; dsimp only [Option.bind]; rw [h2]; dsimp only [Option.bind]; rw [h3]
theorem E_bound0 : boundO none env = some (none, env) := rfl
theorem E_bound1 {f : Ev D} {i : Int} (h : f env = some (.int i, e1)) : boundO (some f) env = some (some i, e1) := by unfold boundO; dsimp only; rw [h]; rfl
theorem E_sl3 {g : D → Option Int → Option Int → Option Res} {fa : Ev Opd} {fl fh : Ev (Option Int)} {a : Opd} {lo hi : Option Int} {x : D} {r : Res} (h1 : fa env = some (a, e1)) (h2 : fl e1 = some (lo, e2)) (h3 : fh e2 = some (hi, e3)) (h4 : opD e3 a = some x) (h5 : g x lo hi = some r) : sl3 g fa fl fh env = some (r, e3) := by
  unfold sl3; rw [h1]; dsimp only [Option.bind]; rw [h2]; dsimp only [Option.bind]; rw [h3]; dsimp only [Option.bind]; rw [h4]; dsimp only [Option.bind]; rw [h5]
theorem E_slS {fa : Ev Opd} {fl fh : Ev (Option Int)} {ns : List Int} {lo hi : Option Int} (h1 : fa env = some (.s ns, e1)) (h2 : fl e1 = some (lo, e2)) (h3 : fh e2 = some (hi, e3)) : slS fa fl fh env = some (.l ((cutS ns lo hi).map .int), e3) := by
  unfold slS; rw [h1]; dsimp only [Option.bind]; rw [h2]; dsimp only [Option.bind]; rw [h3]
theorem E_revR {f : Ev Opd} {a : Opd} {ds : List D} (h1 : f env = some (a, e1)) (h2 : opD e1 a = some (.list ds)) : revR f env = some (.l ds.reverse, e1) := by
  unfold revR; rw [h1]; dsimp only [Option.bind]; rw [h2]
theorem E_negR {f : Ev D} {i : Int} (h : f env = some (.int i, e1)) : negR f env = some (.d (.int (-i)), e1) := by unfold negR; rw [h]; rfl
theorem E_andT {f g : Ev Bool} {a b : Bool} (h1 : f env = some (a, e1)) (h2 : a = true → g e1 = some (b, e1)) : andT f g env = some (a && b, e1) := by
  unfold andT; rw [h1]; dsimp only [Option.bind]
  cases a with
  | true => rw [h2 rfl]; rfl
  | false => rfl
theorem E_orT {f g : Ev Bool} {a b : Bool} (h1 : f env = some (a, e1)) (h2 : a = false → g e1 = some (b, e1)) : orT f g env = some (a || b, e1) := by
  unfold orT; rw [h1]; dsimp only [Option.bind]
  cases a with
  | false => rw [if_neg (by decide), h2 rfl]; rfl
  | true => rfl
theorem E_notT {f : Ev Bool} {a : Bool} (h1 : f env = some (a, e1)) : notT f env = some (!a, e1) := by unfold notT; rw [h1]; rfl
theorem E_yesT : yesT env = some (true, env) := rfl
theorem E_ofT {f : Ev Bool} {a : Bool} (h1 : f env = some (a, e1)) : ofT f env = some (.d (.bool a), e1) := by unfold ofT; rw [h1]; rfl
theorem E_andV {f g : Ev Res} {a b : Bool} (h1 : f env = some (.d (.bool a), e1)) (h2 : a = true → g e1 = some (.d (.bool b), e1)) : andV f g env = some (.d (.bool (a && b)), e1) := by
  unfold andV; rw [h1]; dsimp only [Option.bind]
  cases a with
  | true => dsimp only; rw [h2 rfl]; rfl
  | false => rfl
theorem E_orV {f g : Ev Res} {a b : Bool} (h1 : f env = some (.d (.bool a), e1)) (h2 : a = false → g e1 = some (.d (.bool b), e1)) : orV f g env = some (.d (.bool (a || b)), e1) := by
  unfold orV; rw [h1]; dsimp only [Option.bind]
  cases a with
  | false => dsimp only; rw [h2 rfl]; rfl
  | true => rfl
theorem E_notV {f : Ev Res} {a : Bool} (h1 : f env = some (.d (.bool a), e1)) : notV f env = some (.d (.bool (!a)), e1) := by unfold notV; rw [h1]; rfl
theorem E_ifR {c : Ev Bool} {f g : Ev Res} {b : Bool} {x y : D} (h1 : c env = some (b, e1)) (h2 : b = true → f e1 = some (.d x, e1)) (h3 : b = false → g e1 = some (.d y, e1)) : ifR c f g env = some (.d (if b = true then x else y), e1) := by
  unfold ifR; rw [h1]; dsimp only [Option.bind]
  cases b with
  | true => rw [if_pos rfl, if_pos rfl]; exact h2 rfl
  | false => rw [if_neg (by decide), if_neg (by decide)]; exact h3 rfl
def pickR (b : Bool) (f g : Ev Res) : Ev Res := fun e => if b = true then f e else g e
theorem E_ifRb {c : Ev Bool} {f g : Ev Res} {b : Bool} {r : Res} (h1 : c env = some (b, e1)) (h2 : pickR b f g e1 = some (r, e2)) : ifR c f g env = some (r, e2) := by
  unfold ifR; rw [h1]; exact h2
theorem pickR_t {f g : Ev Res} {x : Option (Res × Env)} (h : f env = x) : pickR true f g env = x := h
theorem pickR_f {f g : Ev Res} {x : Option (Res × Env)} (h : g env = x) : pickR false f g env = x := h
theorem pickR_d {f g : Ev Res} {b : Bool} {x y : D} (h2 : b = true → f env = some (.d x, env)) (h3 : b = false → g env = some (.d y, env)) : pickR b f g env = some (.d (if b = true then x else y), env) := by
  cases b with
  | true => exact h2 rfl
  | false => exact h3 rfl
theorem E_itSeq_l {f : Ev D} {ds : List D} (h : f env = some (.list ds, e1)) : itSeq f env = some (ds, e1) := by unfold itSeq; rw [h]; rfl
theorem E_itSeq_t {f : Ev D} {ds : List D} (h : f env = some (.tuple ds, e1)) : itSeq f env = some (ds, e1) := by unfold itSeq; rw [h]; rfl
def asSeqD : D → Option (List D)
  | .list ds => some ds
  | .tuple ds => some ds
  | _ => none
theorem sq_l {ds : List D} : asSeqD (.list ds) = some ds := rfl
theorem sq_t {ds : List D} : asSeqD (.tuple ds) = some ds := rfl
theorem E_itSeq {f : Ev D} {d : D} {ds : List D} (h : f env = some (d, e1)) (k : asSeqD d = some ds) : itSeq f env = some (ds, e1) := by
  unfold asSeqD at k
  split at k
  · cases k; exact E_itSeq_l h
  · cases k; exact E_itSeq_t h
  · cases k
theorem E_rg1 {f : Ev (List Opd)} {j : Int} (h : f env = some ([.v (.int j)], e1)) (k1 : -4611686018427387904 ≤ j) (k2 : j < 4611686018427387904) : itRange1 f env = some (rangeD 0 j.toNat, e1) := by
  unfold itRange1; rw [h]; exact guard_i (by rw [decide_eq_true (show -(2 ^ 62) ≤ j by omega), decide_eq_true (show j < 2 ^ 62 by omega)]; rfl) rfl
theorem E_rg2 {f : Ev (List Opd)} {i j : Int} (h : f env = some ([.v (.int i), .v (.int j)], e1)) (k1 : -4611686018427387904 ≤ i) (k2 : i < 4611686018427387904) (k3 : -4611686018427387904 ≤ j) (k4 : j < 4611686018427387904) : itRange2 f env = some (rangeD i (j - i).toNat, e1) := by
  unfold itRange2; rw [h]; exact guard_i (by rw [decide_eq_true (show -(2 ^ 62) ≤ i by omega), decide_eq_true (show i < 2 ^ 62 by omega), decide_eq_true (show -(2 ^ 62) ≤ j by omega), decide_eq_true (show j < 2 ^ 62 by omega)]; rfl) rfl
theorem E_lstRg2 {fa fb : Ev D} {i j : Int} (h1 : fa env = some (.int i, e1)) (h2 : fb e1 = some (.int j, e2)) (k1 : 0 ≤ i) (k2 : i ≤ 1000000) (k3 : 0 ≤ j) (k4 : j ≤ 1000000) : lstRg2 fa fb env = some (.l (rangeD i (j - i).toNat), e2) := by
  unfold lstRg2; rw [h1]; dsimp only [Option.bind]; rw [h2]; exact guard_i (by rw [decide_eq_true k1, decide_eq_true k2, decide_eq_true k3, decide_eq_true k4]; rfl) rfl
theorem E_callT {n : Nat} {g : List Opd → Option Res} {f : Ev (List Opd)} {xs : List Opd} {r : Res} (h1 : f env = some (xs, e1)) (h2 : (noR xs && xs.length == n) = true) (h3 : g xs = some r) : callT n g f env = some (r, e1) := by
  unfold callT; rw [h1]; dsimp only [Option.bind]; refine guard_i h2 ?_; rw [h3]
theorem E_callU {n : Nat} {g : OV → List Opd → Option (Res × OV)} {f : Ev (List Opd)} {i : Nat} {rest : List Opd} {ov ov' ov0 ov2 : OV} {r : Res} (h1 : f env = some (.r i :: rest, e1)) (h2 : e1[i]? = some (some ov)) (h3 : (ov.owned && noR rest && rest.length + 1 == n) = true) (h0 : ov.setIo false = ov0) (h4 : g ov0 rest = some (r, ov')) (h5 : ov'.owned = true) (h7 : ov'.setIo ov.io = ov2) (h6 : e1.set i (some ov2) = e2) : callU n g f env = some (r, e2) := by
  subst h0 h7 h6
  unfold callU; rw [h1]; dsimp only [Option.bind]; rw [h2]; dsimp only; refine guard_i h3 ?_; rw [h4]; exact guard_i h5 rfl
/-! ### list comprehensions: what each element gives -/
/-- one step of a comprehension: from d, at any environment whose slots agree -/
structure LcOk (tg : Tg) (cond : Ev Bool) (elt : Ev D) (own : List Nat) (I : List D → List D → Env → Prop) : Prop where
  step : ∀ d ds acc e, I (d :: ds) acc e → ∃ e1 b e2, tgE tg d e = some e1 ∧ cond e1 = some (b, e2) ∧ (b = true → ∃ x e3, elt e2 = some (x, e3) ∧ acc.length < 1000000 ∧ I ds (acc ++ [x]) (wipeE e3 own)) ∧ (b = false → I ds acc (wipeE e2 own))
theorem LcOk.go {tg : Tg} {cond : Ev Bool} {elt : Ev D} {own : List Nat} {I : List D → List D → Env → Prop} (S : LcOk tg cond elt own I) : ∀ {ds : List D} {acc : List D} {e : Env}, I ds acc e → ∃ acc' e', lcGo tg cond elt own ds e acc = some (acc', e') ∧ I [] acc' e' := by
  intro ds
  induction ds with
  | nil => exact fun {acc e} h => ⟨acc, e, rfl, h⟩
  | cons d ds ih =>
    intro acc e h
    obtain ⟨e1, b, e2, h1, h2, h3, h4⟩ := S.step d ds acc e h
    unfold lcGo
    rw [h1]; dsimp only [Option.bind]; rw [h2]; dsimp only [Option.bind]
    cases b with
    | true =>
      obtain ⟨x, e3, h5, h6, h7⟩ := h3 rfl
      rw [if_pos rfl, h5]; dsimp only [Option.bind]
      obtain ⟨a, e', q, k⟩ := ih h7
      exact ⟨a, e', guard_i (decide_eq_true h6) q, k⟩
    | false =>
      rw [if_neg (by decide)]
      exact ih (h4 rfl)
theorem E_lc {it : Ev (List D)} {tg : Tg} {cond : Ev Bool} {elt : Ev D} {own : List Nat} {ds acc : List D} (h1 : it env = some (ds, e1)) (h2 : (plainAt e1 own && tg.slots.all fun j => own.contains j) = true) (h0 : wipeE e1 own = e4) (h3 : lcGo tg cond elt own ds e4 [] = some (acc, e2)) (h4 : backE e1 e2 own = e3) : lcR it tg cond elt own env = some (.l acc, e3) := by
  subst h4 h0
  unfold lcR; rw [h1]; dsimp only [Option.bind]; refine guard_i h2 ?_; rw [h3]
def Ev1 {α : Type} (x : Option (α × Env)) (Q : α → Env → Prop) : Prop := ∃ a e, x = some (a, e) ∧ Q a e
theorem Ev1.i {α : Type} {x : Option (α × Env)} {Q : α → Env → Prop} {a : α} {e : Env} (h : x = some (a, e)) (q : Q a e) : Ev1 x Q := ⟨a, e, h, q⟩
/-- a comprehension without a condition over a mapped list, its environment kept -/
theorem lc_map {α : Type} {tg : Tg} {elt : Ev D} {own : List Nat} {P : α → Prop} {enc : α → D} {out : α → D} {e : Env} (H : ∀ x, P x → ∃ e1, tgE tg (enc x) e = some e1 ∧ Ev1 (elt e1) fun d e2 => d = out x ∧ wipeE e2 own = e) :
    ∀ (l : List α) (acc : List D), (∀ x ∈ l, P x) → acc.length + l.length ≤ 1000000 → lcGo tg yesT elt own (l.map enc) e acc = some (acc ++ l.map out, e) := by
  intro l
  induction l with
  | nil => intro acc _ _; simp [lcGo]
  | cons x l ih =>
    intro acc hp hl
    obtain ⟨e1, h1, d, e2, h2, hd, h3⟩ := H x (hp x (by simp))
    subst hd
    simp at hl
    rw [List.map_cons]
    unfold lcGo
    rw [h1]; dsimp only [Option.bind]; rw [E_yesT]; dsimp only [Option.bind]; rw [if_pos rfl, h2]; dsimp only [Option.bind]
    refine guard_i (decide_eq_true (by omega)) ?_
    rw [h3, ih (acc ++ [out x]) (fun y hy => hp y (by simp [hy])) (by simp; omega)]
    simp
theorem lc_map0 {α : Type} {tg : Tg} {elt : Ev D} {own : List Nat} (P : α → Prop) {enc : α → D} (out : α → D) {e : Env} (l : List α) (hp : ∀ x ∈ l, P x) (hl : l.length ≤ 1000000) (H : ∀ x, P x → ∃ e1, tgE tg (enc x) e = some e1 ∧ Ev1 (elt e1) fun d e2 => d = out x ∧ wipeE e2 own = e) : lcGo tg yesT elt own (l.map enc) e [] = some (l.map out, e) := by
  rw [lc_map H l [] hp (by simpa using hl), List.nil_append]
/-! ### statements -/
def Ends (x : Option (Fl × Env)) (Q : Fl → Env → Prop) : Prop := ∃ fl e, x = some (fl, e) ∧ Q fl e
theorem Ends.mono {x : Option (Fl × Env)} {Q Q' : Fl → Env → Prop} (h : Ends x Q) (k : ∀ fl e, Q fl e → Q' fl e) : Ends x Q' := by
  obtain ⟨fl, e, a, b⟩ := h; exact ⟨fl, e, a, k _ _ b⟩
variable {Q : Fl → Env → Prop}
def SeqQ (g : Es) (Q : Fl → Env → Prop) : Fl → Env → Prop
  | .nx, e => Ends (g e) Q
  | fl, e => Q fl e
theorem SeqQ.nx {g : Es} (h : Ends (g env) Q) : SeqQ g Q .nx env := h
theorem SeqQ.rt {g : Es} {r : Res} (h : Q (.rt r) env) : SeqQ g Q (.rt r) env := h
theorem SeqQ.bk {g : Es} (h : Q .bk env) : SeqQ g Q .bk env := h
theorem SeqQ.ct {g : Es} (h : Q .ct env) : SeqQ g Q .ct env := h
theorem S_seq {f g : Es} (h : Ends (f env) (SeqQ g Q)) : Ends (seqS f g env) Q := by
  obtain ⟨fl, e, a, b⟩ := h
  unfold seqS
  rw [a]; dsimp only [Option.bind]
  cases fl with
  | nx => exact b
  | bk => exact ⟨_, _, rfl, b⟩
  | ct => exact ⟨_, _, rfl, b⟩
  | rt r => exact ⟨_, _, rfl, b⟩
theorem S_nil (h : Q .nx env) : Ends (nilS env) Q := ⟨_, _, rfl, h⟩
theorem S_brk (h : Q .bk env) : Ends (brkS env) Q := ⟨_, _, rfl, h⟩
theorem S_cnt (h : Q .ct env) : Ends (cntS env) Q := ⟨_, _, rfl, h⟩
theorem S_asg {i : Nat} {f : Ev Res} {r : Res} {ov : OV} (h : f env = some (r, e1)) (k : r.ov = ov) (s : e1.set i (some ov) = e2) (q : Q .nx e2) : Ends (asgS i f env) Q := by
  subst k s; unfold asgS; rw [h]; exact ⟨_, _, rfl, q⟩
theorem S_unp {tg : Tg} {f : Ev D} {d : D} (h : f env = some (d, e1)) (s : tgE tg d e1 = some e2) (q : Q .nx e2) : Ends (unpS tg f env) Q := by
  unfold unpS; rw [h]; dsimp only [Option.bind]; rw [s]; exact ⟨_, _, rfl, q⟩
theorem S_par2 {i j : Nat} {fa fb : Ev Res} {a b : Res} {va vb : OV} (h : fa env = some (a, e1)) (h2 : fb e1 = some (b, e2)) (ka : a.ov = va) (kb : b.ov = vb) (s : (e2.set i (some va)).set j (some vb) = e3) (q : Q .nx e3) : Ends (par2 i j fa fb env) Q := by
  subst ka kb s; unfold par2; rw [h]; dsimp only [Option.bind]; rw [h2]; exact ⟨_, _, rfl, q⟩
theorem S_aug {i : Nat} {op : Int → Int → Int} {f : Ev D} {a b : Int} (h0 : env[i]? = some (some (.fz (.int a)))) (h : f env = some (.int b, e1)) (s : e1.set i (some (.fz (.int (op a b)))) = e2) (q : Q .nx e2) : Ends (augS i op f env) Q := by
  subst s; unfold augS intAt; rw [h0]; dsimp only [Option.bind]; rw [h]; exact ⟨_, _, rfl, q⟩
theorem S_set {i : Nat} {fi fe : Ev D} {v : D} {n : Int} {j : Nat} {io : Bool} {ds : List D} (h : fe env = some (v, e1)) (h0 : ownAt e1 i = true) (h1 : fi e1 = some (.int n, e2)) (h2 : e2[i]? = some (some (.ol io ds))) (h3 : ixN ds.length n = some j) (s : e2.set i (some (.ol io (ds.set j v))) = e3) (q : Q .nx e3) : Ends (setS i fi fe env) Q := by
  subst s
  refine ⟨_, _, ?_, q⟩
  unfold setS; rw [h]; dsimp only [Option.bind]; refine guard_i h0 ?_; rw [h1]; dsimp only [Option.bind]; rw [h2]; dsimp only; rw [h3]
theorem S_augx {i : Nat} {op : Int → Int → Int} {fi fe : Ev D} {n a b : Int} {j : Nat} {io io' : Bool} {ds ds' : List D} (h0 : ownAt env i = true) (h1 : fi env = some (.int n, e1)) (h2 : e1[i]? = some (some (.ol io ds))) (h3 : ixN ds.length n = some j) (h4 : ds[j]? = some (.int a)) (h5 : fe e1 = some (.int b, e2)) (h6 : e2[i]? = some (some (.ol io' ds'))) (h7 : ds'.length = ds.length) (s : e2.set i (some (.ol io' (ds'.set j (.int (op a b))))) = e3) (q : Q .nx e3) : Ends (augxS i op fi fe env) Q := by
  subst s
  refine ⟨_, _, ?_, q⟩
  unfold augxS; refine guard_i h0 ?_; rw [h1]; dsimp only [Option.bind]; rw [h2]; dsimp only; rw [h3]; dsimp only [Option.bind]; rw [h4]; dsimp only; rw [h5]; dsimp only [Option.bind]; rw [h6]; exact guard_i (decide_eq_true h7) rfl
theorem S_app {i : Nat} {f : Ev D} {v : D} {io io' : Bool} {ds ds' : List D} (h0 : env[i]? = some (some (.ol io ds))) (h1 : f env = some (v, e1)) (h2 : e1[i]? = some (some (.ol io' ds'))) (h3 : ds'.length < 1000000) (s : e1.set i (some (.ol io' (ds' ++ [v]))) = e2) (q : Q .nx e2) : Ends (appS i f env) Q := by
  subst s
  refine ⟨_, _, ?_, q⟩
  unfold appS; refine guard_i ?_ ?_
  · unfold ownAt; rw [h0]; rfl
  · rw [h1]; dsimp only [Option.bind]; rw [h0, h2]; exact guard_i (decide_eq_true h3) rfl
theorem S_ext {i : Nat} {f : Ev D} {es : List D} {io io' : Bool} {ds ds' : List D} (h0 : env[i]? = some (some (.ol io ds))) (h1 : f env = some (.list es, e1)) (h2 : e1[i]? = some (some (.ol io' ds'))) (h3 : ds'.length + es.length ≤ 1000000) (s : e1.set i (some (.ol io' (ds' ++ es))) = e2) (q : Q .nx e2) : Ends (extS i f env) Q := by
  subst s
  refine ⟨_, _, ?_, q⟩
  unfold extS; refine guard_i ?_ ?_
  · unfold ownAt; rw [h0]; rfl
  · rw [h1]; dsimp only [Option.bind]; rw [h0, h2]; exact guard_i (decide_eq_true h3) rfl
theorem S_drop {f : Ev Res} {r : Res} (h : f env = some (r, e1)) (q : Q .nx e1) : Ends (dropS f env) Q := by unfold dropS; rw [h]; exact ⟨_, _, rfl, q⟩
theorem S_ret {f : Ev Res} {r : Res} (h : f env = some (r, e1)) (q : Q (.rt r) e1) : Ends (retS f env) Q := by unfold retS; rw [h]; exact ⟨_, _, rfl, q⟩
theorem S_if {c : Ev Bool} {f g : Es} {b : Bool} (h : c env = some (b, e1)) (k1 : b = true → Ends (f e1) Q) (k2 : b = false → Ends (g e1) Q) : Ends (ifS c f g env) Q := by
  unfold ifS; rw [h]; dsimp only [Option.bind]
  cases b with
  | true => rw [if_pos rfl]; exact k1 rfl
  | false => rw [if_neg (by decide)]; exact k2 rfl
theorem S_if_and {f g : Ev Bool} {k h : Es} {a : Bool} (h1 : f env = some (a, e1)) (k1 : a = true → Ends (ifS g k h e1) Q) (k2 : a = false → Ends (h e1) Q) : Ends (ifS (andT f g) k h env) Q := by
  unfold ifS andT; rw [h1]; dsimp only [Option.bind]
  cases a with
  | true => rw [if_pos rfl]; exact k1 rfl
  | false => rw [if_neg (by decide)]; dsimp only; rw [if_neg (by decide)]; exact k2 rfl
theorem S_if_or {f g : Ev Bool} {k h : Es} {a : Bool} (h1 : f env = some (a, e1)) (k1 : a = true → Ends (k e1) Q) (k2 : a = false → Ends (ifS g k h e1) Q) : Ends (ifS (orT f g) k h env) Q := by
  unfold ifS orT; rw [h1]; dsimp only [Option.bind]
  cases a with
  | true => rw [if_pos rfl]; dsimp only; rw [if_pos rfl]; exact k1 rfl
  | false => rw [if_neg (by decide)]; exact k2 rfl
theorem S_if_not {f : Ev Bool} {k h : Es} (k1 : Ends (ifS f h k env) Q) : Ends (ifS (notT f) k h env) Q := by
  unfold ifS notT at *
  cases e : f env with
  | none => rw [e] at k1; obtain ⟨_, _, z, _⟩ := k1; cases z
  | some p =>
    rw [e] at k1
    dsimp only [Option.bind] at *
    cases hp : p.1 with
    | true => rw [hp, if_pos rfl] at k1; rw [Bool.not_true, if_neg (by decide)]; exact k1
    | false => rw [hp, if_neg (by decide)] at k1; rw [Bool.not_false, if_pos rfl]; exact k1
theorem S_for {it : Ev (List D)} {tg : Tg} {body : Es} {ds : List D} (h : it env = some (ds, e1)) (k : Ends (forGo tg body ds e1) Q) : Ends (forS it tg body env) Q := by
  unfold forS; rw [h]; exact k
def LoopQ (P : Env → Prop) (Q : Fl → Env → Prop) : Fl → Env → Prop
  | .nx, e => P e
  | .ct, e => P e
  | .bk, e => Q .nx e
  | .rt r, e => Q (.rt r) e
theorem LoopQ.nx {P : Env → Prop} (h : P env) : LoopQ P Q .nx env := h
theorem LoopQ.ct {P : Env → Prop} (h : P env) : LoopQ P Q .ct env := h
theorem LoopQ.bk {P : Env → Prop} (h : Q .nx env) : LoopQ P Q .bk env := h
theorem LoopQ.rt {P : Env → Prop} {r : Res} (h : Q (.rt r) env) : LoopQ P Q (.rt r) env := h
theorem for_nil {tg : Tg} {body : Es} (h : Q .nx env) : Ends (forGo tg body [] env) Q := ⟨_, _, rfl, h⟩
theorem for_cons {tg : Tg} {body : Es} {d : D} {ds : List D} (h : tgE tg d env = some e1) (k : Ends (body e1) (LoopQ (fun e => Ends (forGo tg body ds e) Q) Q)) : Ends (forGo tg body (d :: ds) env) Q := by
  unfold forGo; rw [h]; dsimp only [Option.bind]
  obtain ⟨fl, e, a, b⟩ := k
  rw [a]; dsimp only [Option.bind]
  cases fl with
  | nx => exact b
  | ct => exact b
  | bk => exact ⟨_, _, rfl, b⟩
  | rt r => exact ⟨_, _, rfl, b⟩
/-- a loop over a mapped list, by what holds ahead of each element -/
theorem for_map {α : Type} {tg : Tg} {body : Es} {enc : α → D} (I : List α → Env → Prop) (H : ∀ x xs e, I (x :: xs) e → ∃ e', tgE tg (enc x) e = some e' ∧ Ends (body e') (LoopQ (fun e => I xs e) Q)) (N : ∀ e, I [] e → Q .nx e) :
    ∀ (l : List α) {e : Env}, I l e → Ends (forGo tg body (l.map enc) e) Q := by
  intro l
  induction l with
  | nil => exact fun {e} h => for_nil (N e h)
  | cons x xs ih =>
    intro e h
    obtain ⟨e', h1, h2⟩ := H x xs e h
    refine for_cons h1 (h2.mono fun fl e k => ?_)
    cases fl with
    | nx => exact ih k
    | ct => exact ih k
    | bk => exact k
    | rt r => exact k
theorem runT_i {n : Nat} {e0 : Env} {body : Es} {avs : List Opd} {r : Res} (h0 : envOf n avs = e0) (h : Ends (body e0) fun fl _ => resOfFl fl = some r) : runT n body avs = some r := by
  subst h0
  obtain ⟨fl, e, a, b⟩ := h
  unfold runT; rw [a]; exact b
theorem runT_x {n : Nat} {e0 : Env} {body : Es} {avs : List Opd} {R : Res → Prop} (h0 : envOf n avs = e0) (h : Ends (body e0) fun fl _ => ∃ r, resOfFl fl = some r ∧ R r) : ∃ r, runT n body avs = some r ∧ R r := by
  subst h0
  obtain ⟨fl, e, a, r, b, c⟩ := h
  exact ⟨r, by unfold runT; rw [a]; exact b, c⟩
theorem runU_x {n : Nat} {e0 : Env} {body : Es} {ov : OV} {avs : List Opd} {R : Res → OV → Prop} (h0 : (some (ov.setIo true) :: envOf (n - 1) avs) = e0) (h : Ends (body e0) fun fl e => ∃ r ov', resOfFl fl = some r ∧ e[0]? = some (some ov') ∧ (ov'.owned && ov'.io) = true ∧ R r (ov'.setIo false)) : ∃ r ov', runU n body ov avs = some (r, ov') ∧ R r ov' := by
  subst h0
  obtain ⟨fl, e, a, r, ov', b, c, d, q⟩ := h
  refine ⟨r, _, ?_, q⟩
  unfold runU; rw [a]; dsimp only [Option.bind]; rw [b]; dsimp only [Option.bind]; rw [c]; exact guard_i d rfl
theorem runU_i {n : Nat} {e0 : Env} {body : Es} {ov ov2 : OV} {avs : List Opd} {r : Res} (h0 : (some (ov.setIo true) :: envOf (n - 1) avs) = e0) (h : Ends (body e0) fun fl e => ∃ ov', resOfFl fl = some r ∧ e[0]? = some (some ov') ∧ (ov'.owned && ov'.io) = true ∧ ov'.setIo false = ov2) : runU n body ov avs = some (r, ov2) := by
  subst h0
  obtain ⟨fl, e, a, ov', b, c, d, q⟩ := h
  subst q
  unfold runU; rw [a]; dsimp only [Option.bind]; rw [b]; dsimp only [Option.bind]; rw [c]; exact guard_i d rfl
/-! ### operations -/
theorem G_addL {a b : List D} (h : a.length + b.length ≤ 1000000) : gAdd (.list a) (.list b) = some (.l (a ++ b)) := guard_i (decide_eq_true h) rfl
theorem G_addT {a b : List D} (h : a.length + b.length ≤ 1000000) : gAdd (.tuple a) (.tuple b) = some (.d (.tuple (a ++ b))) := guard_i (decide_eq_true h) rfl
theorem G_addI {i j : Int} : gAdd (.int i) (.int j) = some (.d (.int (i + j))) := rfl
theorem G_subI {i j : Int} : gSub2 (.int i) (.int j) = some (.d (.int (i - j))) := rfl
theorem G_mulI {i j : Int} (h1 : i.natAbs < BIGN) (h2 : j.natAbs < BIGN) : gMul (.int i) (.int j) = some (.d (.int (i * j))) := guard_i (by rw [decide_eq_true h1, decide_eq_true h2]; rfl) rfl
theorem G_mulL {a : List D} {j : Int} (h1 : -1000000 ≤ j) (h2 : j ≤ 1000000) (h3 : a.length * j.toNat ≤ 1000000) : gMul (.list a) (.int j) = some (.l (List.replicate j.toNat a).flatten) := guard_i (by rw [decide_eq_true h1, decide_eq_true h2, decide_eq_true h3]; rfl) rfl
theorem G_mulL1 {x : D} {j : Int} (h1 : -1000000 ≤ j) (h2 : j ≤ 1000000) : gMul (.list [x]) (.int j) = some (.l (List.replicate j.toNat x)) := by
  rw [G_mulL h1 h2 (by simp; omega)]
  congr 2
  generalize j.toNat = n
  induction n with
  | zero => rfl
  | succ n ih => rw [List.replicate_succ, List.replicate_succ, List.flatten_cons, ih]; rfl
theorem G_fdiv {i j : Int} (h1 : 0 < j) (h2 : j.natAbs < BIGN) : gFdiv (.int i) (.int j) = some (.d (.int (i / j))) := guard_i (by rw [decide_eq_true h1, decide_eq_true h2]; rfl) rfl
theorem G_mod {i j : Int} (h1 : 0 < j) : gMod (.int i) (.int j) = some (.d (.int (i % j))) := guard_i (decide_eq_true h1) rfl
theorem G_pow {i j : Int} (h : (decide (0 ≤ j) && decide (j ≤ 1000) && decide (i.natAbs < 18446744073709551616)) = true) : gPow (.int i) (.int j) = some (.d (.int (i ^ j.toNat))) := guard_i h rfl
theorem G_cmp {p : Int → Int → Bool} {i j : Int} : gCmp p (.int i) (.int j) = some (.d (.bool (p i j))) := rfl
theorem G_eqI {i j : Int} : gEq (.int i) (.int j) = some (.d (.bool (i == j))) := rfl
theorem G_neI {i j : Int} : gNe (.int i) (.int j) = some (.d (.bool (!(i == j)))) := rfl
theorem G_ixL {ds : List D} {i : Int} {d : D} (h : atI ds i = some d) : gIx (.list ds) (.int i) = some (.d d) := by simp [gIx, h]
theorem G_ixT {ds : List D} {i : Int} {d : D} (h : atI ds i = some d) : gIx (.tuple ds) (.int i) = some (.d d) := by simp [gIx, h]
theorem G_min2 {i j : Int} : gMin2 [.int i, .int j] = some (.d (.int (min i j))) := by
  show some (Res.d (PyData.int (if j < i then j else i))) = _
  congr 3; split <;> omega
theorem G_max2 {i j : Int} : gMax2 [.int i, .int j] = some (.d (.int (max i j))) := by
  show some (Res.d (PyData.int (if j > i then j else i))) = _
  congr 3; split <;> omega
theorem G_abs {i : Int} : gAbs [.int i] = some (.d (.int (i.natAbs : Int))) := by
  show some (Res.d (PyData.int (if i < 0 then -i else i))) = _
  congr 3; split <;> omega
theorem G_sum {ns : List Int} : gSum [.list (ns.map .int)] = some (.d (.int ns.sum)) := by
  show (intsOf (ns.map PyData.int)).bind _ = _
  rw [intsOf_map]
  rfl
end
end NS

set_option Elab.async false
set_option linter.all false
/-! NsY: rules for the evaluators of NsX (the plain side). -/
namespace NS
open PySem L2
section
variable {env e1 e2 e3 : Env} {Q : Fl → Env → Prop}
theorem E_isi {T : String} {f : Ev Opd} {a : Opd} {d : D} (h1 : f env = some (a, e1)) (h2 : opD e1 a = some d) : isiR T f env = some (.d (.bool (isiB T d)), e1) := by
  unfold isiR; rw [h1]; dsimp only [Option.bind]; rw [h2]
theorem E_zipL {f : Ev (List Opd)} {a b : List D} (h1 : f env = some ([.v (.list a), .v (.list b)], e1)) : itZip f env = some (zipD a b, e1) := by unfold itZip; rw [h1]; rfl
theorem E_zipT {f : Ev (List Opd)} {a b : List D} (h1 : f env = some ([.v (.tuple a), .v (.tuple b)], e1)) : itZip f env = some (zipD a b, e1) := by unfold itZip; rw [h1]; rfl
theorem E_enum {f : Ev (List Opd)} {a : List D} (h1 : f env = some ([.v (.list a)], e1)) : itEnum f env = some (enumD a, e1) := by unfold itEnum; rw [h1]; rfl
theorem E_dict0 : dict0 env = some (.k [], env) := rfl
theorem E_dict0T : dict0T env = some (.t [], env) := rfl
theorem S_ins {i : Nat} {fi fe : Ev D} {n : Int} {v : D} {io io' : Bool} {ds ds' : List D} (h0 : env[i]? = some (some (.ol io ds))) (h1 : fi env = some (.int n, e1)) (h2 : fe e1 = some (v, e2)) (h3 : e2[i]? = some (some (.ol io' ds'))) (k1 : 0 ≤ n) (k2 : n ≤ 1000000) (k3 : ds'.length < 1000000)
    (s : e2.set i (some (.ol io' (ds'.take n.toNat ++ [v] ++ ds'.drop n.toNat))) = e3) (q : Q .nx e3) : Ends (insS i fi fe env) Q := by
  subst s
  refine ⟨_, _, ?_, q⟩
  unfold insS; refine guard_i ?_ ?_
  · unfold ownAt; rw [h0]; rfl
  · rw [h1]; dsimp only [Option.bind]; rw [h2]; dsimp only [Option.bind]; rw [h0, h3]; exact guard_i (by rw [decide_eq_true k1, decide_eq_true k2, decide_eq_true k3]; rfl) rfl
theorem G_slAL {ds : List D} {lo hi : Option Int} : gSlA (.list ds) lo hi = some (.l (cutD ds lo hi)) := rfl
theorem G_slAT {ds : List D} {lo hi : Option Int} : gSlA (.tuple ds) lo hi = some (.d (.tuple (cutD ds lo hi))) := rfl
theorem G_allL {bs : List Bool} : gAll [.list (bs.map .bool)] = some (.d (.bool (bs.all id))) := by
  show (boolsOf (bs.map PyData.bool)).bind _ = _
  rw [boolsOf_map]; rfl
theorem G_anyL {bs : List Bool} : gAny [.list (bs.map .bool)] = some (.d (.bool (bs.any id))) := by
  show (boolsOf (bs.map PyData.bool)).bind _ = _
  rw [boolsOf_map]; rfl
theorem G_strI {i : Int} (h : i.natAbs < BIGN) : gStr [.int i] = some (.d (.str (toString i : String))) := guard_i (decide_eq_true h) rfl
theorem G_strS {z : Str} : gStr [.str z] = some (.d (.str z)) := rfl
theorem S_setDK {i : Nat} {fi fe : Ev D} {v d : D} {k : Key} {io : Bool} {kvs : List (Key × D)} (h : fe env = some (v, e1)) (h0 : ownAt e1 i = true) (h1 : fi e1 = some (d, e2)) (h2 : e2[i]? = some (some (.od io kvs))) (h3 : asKey d = some k) (h4 : kvs.length < 1000000) (s : e2.set i (some (.od io (putD kvs k v))) = e3) (q : Q .nx e3) : Ends (setDS i fi fe env) Q := by
  subst s
  refine ⟨_, _, ?_, q⟩
  unfold setDS; rw [h]; dsimp only [Option.bind]; refine guard_i h0 ?_; rw [h1]; dsimp only [Option.bind]; rw [h2]; dsimp only; rw [h3]; exact guard_i (decide_eq_true h4) rfl
theorem S_setDT {i : Nat} {fi fe : Ev D} {v : D} {ds : List D} {k : List Key} {io : Bool} {kvs : List (List Key × D)} (h : fe env = some (v, e1)) (h0 : ownAt e1 i = true) (h1 : fi e1 = some (.tuple ds, e2)) (h2 : e2[i]? = some (some (.ot io kvs))) (h3 : asKeys ds = some k) (h4 : kvs.length < 1000000) (s : e2.set i (some (.ot io (putD kvs k v))) = e3) (q : Q .nx e3) : Ends (setDS i fi fe env) Q := by
  subst s
  refine ⟨_, _, ?_, q⟩
  unfold setDS; rw [h]; dsimp only [Option.bind]; refine guard_i h0 ?_; rw [h1]; dsimp only [Option.bind]; rw [h2]; dsimp only; rw [h3]; exact guard_i (decide_eq_true h4) rfl
theorem G_dgetT {ps : List (D × D)} {ds : List D} {k : List Key} {d : D} (h1 : asKeys ds = some k) (h2 : lookT k ps = some d) : gDGet (.dict ps) (.tuple ds) = some (.d d) := by simp [gDGet, h1, h2]
theorem G_dgetI {ps : List (D × D)} {i : Int} {d : D} (h2 : lookK (.inl i) ps = some d) : gDGet (.dict ps) (.int i) = some (.d d) := by simp [gDGet, asKey, h2]
theorem G_dgetS {ps : List (D × D)} {x : Str} {d : D} (h2 : lookK (.inr x) ps = some d) : gDGet (.dict ps) (.str x) = some (.d d) := by simp [gDGet, asKey, h2]
open Classical in
theorem E_callF {i : Nat} {F : FnI} {g : List Opd → Option Res} {fa : Ev (List Opd)} {xs : List Opd} {r : Res} (h0 : env[i]? = some (some (.fn F))) (h1 : fa env = some (xs, e1)) (h2 : e1[i]? = some (some (.fn F))) (h3 : g xs = some r) : callF i F g fa env = some (r, e1) := by
  unfold callF
  rw [if_pos h0, h1]
  show (if e1[i]? = some (some (.fn F)) then (g xs).bind fun r => some (r, e1) else none) = _
  rw [if_pos h2, h3]
  rfl
open Classical in
theorem E_callL {n na : Nat} {body : FnI → (List Opd → Option Res) → Es} {fb : Ev Res} {fa : Ev (List Opd)} {xs : List Opd} {r : Res} (h1 : fa env = some (xs, e1)) (h2 : (noR xs && xs.length == na) = true) (h3 : ∀ F : FnI, F.ds = capsOf e1 → runF n F (body F (lamG fb F.ds)) xs = some r) : callL n na body fb fa env = some (r, e1) := by
  unfold callL
  rw [h1]
  refine guard_i h2 ?_
  have h : ∃ res, ∀ F : FnI, F.ds = capsOf e1 → runF n F (body F (lamG fb F.ds)) xs = some res := ⟨r, h3⟩
  show (if h : ∃ res, ∀ F : FnI, F.ds = capsOf e1 → runF n F (body F (lamG fb F.ds)) xs = some res then some (Classical.choose h, e1) else none) = _
  rw [dif_pos h]
  have q := Classical.choose_spec h ⟨0, 0, "", [], capsOf e1⟩ rfl
  rw [h3 _ rfl] at q
  rw [← Option.some.inj q]
theorem lamG_i {fb : Ev Res} {ds : List (Option D)} {d x : D} {e e2 : Env} (h0 : lamEnvOf ds d = e) (h : fb e = some (.d x, e2)) : lamG fb ds [.v d] = some (.d x) := by
  subst h0
  unfold lamG
  show (fb (lamEnvOf ds d)).bind _ = _
  rw [h]
  rfl
theorem runF_i {n : Nat} {F : FnI} {e0 : Env} {body : Es} {avs : List Opd} {r : Res} (h0 : (some (.fn F) :: envOf (n - 1) avs) = e0) (h : Ends (body e0) fun fl _ => resOfFl fl = some r) : runF n F body avs = some r := by
  subst h0
  obtain ⟨fl, e, a, b⟩ := h
  unfold runF; rw [a]; exact b
/-- a comprehension with a condition over a mapped list, its environment kept -/
theorem lc_fil {α : Type} {tg : Tg} {cond : Ev Bool} {elt : Ev D} {own : List Nat} {P : α → Prop} {enc : α → D} {p : α → Bool} {out : α → D} {e : Env}
    (H : ∀ x, P x → ∃ e1, tgE tg (enc x) e = some e1 ∧ Ev1 (cond e1) fun b e2 => b = p x ∧ (p x = true → Ev1 (elt e2) fun d e3 => d = out x ∧ wipeE e3 own = e) ∧ (p x = false → wipeE e2 own = e)) :
    ∀ (l : List α) (acc : List D), (∀ x ∈ l, P x) → acc.length + l.length ≤ 1000000 → lcGo tg cond elt own (l.map enc) e acc = some (acc ++ (l.filter p).map out, e) := by
  intro l
  induction l with
  | nil => intro acc _ _; simp [lcGo]
  | cons x xs ih =>
    intro acc hp hl
    rw [List.length_cons] at hl
    obtain ⟨e1, h1, b, e2, h2, rfl, h3, h4⟩ := H x (hp x (by simp))
    rw [List.map_cons]
    unfold lcGo
    rw [h1]; dsimp only [Option.bind]; rw [h2]; dsimp only [Option.bind]
    cases hb : p x with
    | true =>
      obtain ⟨d, e3, h5, rfl, h6⟩ := h3 hb
      rw [if_pos rfl, h5]; dsimp only [Option.bind]
      rw [h6]
      refine guard_i (decide_eq_true (by omega)) ?_
      rw [ih _ (fun y hy => hp y (by simp [hy])) (by rw [List.length_append, List.length_singleton]; omega), List.filter_cons_of_pos hb, List.map_cons, List.append_assoc, List.singleton_append]
    | false =>
      rw [if_neg (by decide), h4 hb, ih _ (fun y hy => hp y (by simp [hy])) (by omega), List.filter_cons_of_neg (by rw [hb]; decide)]
theorem G_srtL {ns : List Int} (h : ns.length < 64) : gSortA [.list (ns.map .int)] = some (.l ((sortI ns).map .int)) := by
  show (intsOf (ns.map PyData.int)).bind _ = _
  rw [intsOf_map]
  exact guard_i (decide_eq_true h) rfl
theorem G_srtT {ns : List Int} (h : ns.length < 64) : gSortA [.tuple (ns.map .int)] = some (.l ((sortI ns).map .int)) := by
  show (intsOf (ns.map PyData.int)).bind _ = _
  rw [intsOf_map]
  exact guard_i (decide_eq_true h) rfl
theorem lc_fil0 {α : Type} {tg : Tg} {cond : Ev Bool} {elt : Ev D} {own : List Nat} {enc : α → D} {e : Env} (P : α → Prop) (p : α → Bool) (out : α → D) (l : List α) (hp : ∀ x ∈ l, P x) (hl : l.length ≤ 1000000)
    (H : ∀ x, P x → ∃ e1, tgE tg (enc x) e = some e1 ∧ Ev1 (cond e1) fun b e2 => b = p x ∧ (p x = true → Ev1 (elt e2) fun d e3 => d = out x ∧ wipeE e3 own = e) ∧ (p x = false → wipeE e2 own = e)) :
    lcGo tg cond elt own (l.map enc) e [] = some ((l.filter p).map out, e) := lc_fil H l [] hp (by simp; exact hl)
theorem E_enumAL {f : Ev (List Opd)} {a : List D} (h1 : f env = some ([.v (.list a)], e1)) : itEnumA f env = some (enumD a, e1) := by unfold itEnumA; rw [h1]; rfl
theorem E_enumAT {f : Ev (List Opd)} {a : List D} (h1 : f env = some ([.v (.tuple a)], e1)) : itEnumA f env = some (enumD a, e1) := by unfold itEnumA; rw [h1]; rfl
theorem E_enumA {f : Ev (List Opd)} {d : D} {a : List D} (h1 : f env = some ([.v d], e1)) (h2 : asSeqD d = some a) : itEnumA f env = some (enumD a, e1) := by
  unfold itEnumA; rw [h1]
  cases d with
  | list ds => cases h2; rfl
  | tuple ds => cases h2; rfl
  | _ => cases h2
theorem G_minP {p : Int × Int} {ps : List (Int × Int)} : gMinA [.list ((p :: ps).map pairD)] = some (.d (pairD (PySem.W.minOf p ps))) := by
  show (match intsOf ((p :: ps).map pairD) with
    | some ns => ns.min?.bind fun m => some (Res.d (.int m))
    | none => (pairsOf ((p :: ps).map pairD)).bind fun ps => match ps with
      | p :: ps => some (Res.d (pairD (PySem.W.minOf p ps)))
      | [] => none) = _
  rw [show intsOf ((p :: ps).map pairD) = none from rfl, pairsOf_map]
  rfl
theorem E_chain3 {g g' : D → D → Option Res} {fa fb fc : Ev Opd} {a b c : Opd} {x y z : D} {t u : Bool} (h1 : fa env = some (a, e1)) (h2 : fb e1 = some (b, e2)) (h3 : opD e2 a = some x) (h4 : opD e2 b = some y) (h5 : g x y = some (.d (.bool t))) (h6 : fc e2 = some (c, e2)) (h7 : opD e2 c = some z) (h8 : g' y z = some (.d (.bool u))) :
    chain3 g g' fa fb fc env = some (.d (.bool (t && u)), e2) := by
  unfold chain3; rw [h1]; dsimp only [Option.bind]; rw [h2]; dsimp only [Option.bind]; rw [h3, h4]; dsimp only [Option.bind]; rw [h5]
  cases t with
  | true => dsimp only; rw [h6]; dsimp only [Option.bind]; rw [h4, h7]; dsimp only [Option.bind]; rw [h8]; rfl
  | false => rfl
/-- `x[0][0] if x != () else 0` of a tuple of rows -/
def FirstOf (R : D) (f : Int) : Prop := (gNe R (.tuple []) = some (.d (.bool false)) ∧ f = 0) ∨ (gNe R (.tuple []) = some (.d (.bool true)) ∧ ∃ (a : Int) (b : List D) (l : List D), R = .tuple (.tuple (.int a :: b) :: l) ∧ f = a)
theorem E_first {i : Nat} {R : D} {f : Int} (h1 : env[i]? = some (some (.fz R))) (h2 : FirstOf R f) : ifR (boolOf (bin2 gNe (slotP i) (opOf (layOf (tupR nilA))))) (bin2 gIx (opOf (layOf (bin2 gIx (slotP i) (opOf (cstE (.int 0)))))) (opOf (cstE (.int 0)))) (resOf (cstE (.int 0))) env = some (.d (.int f), env) := by
  have hn : ∀ b, gNe R (.tuple []) = some (.d (.bool b)) → boolOf (bin2 gNe (slotP i) (opOf (layOf (tupR nilA)))) env = some (b, env) := fun b h => E_boolOf (E_bin2 (E_slotP h1) (E_opOf (E_layOf (E_tupR E_nilA rfl (by decide)) rfl)) opD_v opD_v h)
  rcases h2 with ⟨h, rfl⟩ | ⟨h, a, b, l, rfl, rfl⟩
  · exact E_ifRb (hn false h) (pickR_f (E_resOf E_cst))
  · exact E_ifRb (hn true h) (pickR_t (E_bin2 (E_opOf (E_layOf (E_bin2 (E_slotP h1) (E_opOf E_cst) opD_v opD_v (G_ixT (atI_nat (j := 0) rfl))) rfl)) (E_opOf E_cst) opD_v opD_v (G_ixT (atI_nat (j := 0) rfl))))
theorem E_callB2 {g : List Opd → Option Res} {fa fb : Ev (List Opd)} {xs ys : List Opd} {da db : List D} {b : Bool} (h1 : fa env = some (xs, e1)) (h2 : fb e1 = some (ys, e2)) (h3 : opDs e2 xs = some da) (h4 : opDs e2 ys = some db) (h5 : da.length ≤ 100000) (h6 : db.length ≤ 100000) (h7 : g [.v (.list da), .v (.list db)] = some (.d (.bool b))) : callB2 g fa fb env = some (.d (.bool b), e2) := by
  unfold callB2
  rw [h1]; dsimp only [Option.bind]; rw [h2]; dsimp only [Option.bind]; rw [h3]; dsimp only [Option.bind]; rw [h4]; dsimp only [Option.bind]
  refine guard_i (by rw [decide_eq_true h5, decide_eq_true h6]; rfl) ?_
  rw [h7]
theorem E_sortNeg {fa : Ev (List Opd)} {ns : List Int} (h1 : fa env = some ([.v (.list (ns.map .int))], e1)) (h2 : ns.length ≤ 1000000) : sortNegR fa env = some (.l ((sortN ns).map .int), e1) := by
  unfold sortNegR
  rw [h1]
  show (intsOf (ns.map PyData.int)).bind _ = _
  rw [intsOf_map]
  exact guard_i (decide_eq_true h2) rfl
theorem runF2_i {n : Nat} {F : FnI} {e0 : Env} {body : Es} {d : D} {r : Res} (h0 : env2 n F d = e0) (h : Ends (body e0) fun fl _ => resOfFl fl = some r) : runF2 n F body d = some r := by
  subst h0
  obtain ⟨fl, e, a, b⟩ := h
  unfold runF2; rw [a]; exact b
open Classical in
theorem E_callL2 {n : Nat} {body : FnI → (List Opd → Option Res) → Es} {fb : Ev Res} {fe : Ev Opd} {d : D} {r : Res} (h1 : fe env = some (.v d, e1)) (h3 : ∀ F : FnI, F.ds = capsOf e1 → runF2 n F (body F (lamG fb F.ds)) d = some r) : callL2 n body fb fe env = some (r, e1) := by
  unfold callL2
  rw [h1]
  have h : ∃ res, ∀ F : FnI, F.ds = capsOf e1 → runF2 n F (body F (lamG fb F.ds)) d = some res := ⟨r, h3⟩
  show (if h : ∃ res, ∀ F : FnI, F.ds = capsOf e1 → runF2 n F (body F (lamG fb F.ds)) d = some res then some (Classical.choose h, e1) else none) = _
  rw [dif_pos h]
  have q := Classical.choose_spec h ⟨0, 0, "", [], capsOf e1⟩ rfl
  rw [h3 _ rfl] at q
  rw [← Option.some.inj q]
theorem G_maxL {ns : List Int} {m : Int} (h : ns.max? = some m) : gMaxL [.list (ns.map .int)] = some (.d (.int m)) := by
  show (intsOf (ns.map PyData.int)).bind _ = _
  rw [intsOf_map]
  show (ns.max?).bind _ = _
  rw [h]; rfl
theorem S_extA {i : Nat} {f : Ev D} {d : D} {es : List D} {io io' : Bool} {ds ds' : List D} (h0 : env[i]? = some (some (.ol io ds))) (h1 : f env = some (d, e1)) (hd : asSeqD d = some es) (h2 : e1[i]? = some (some (.ol io' ds'))) (h3 : ds'.length + es.length ≤ 1000000) (s : e1.set i (some (.ol io' (ds' ++ es))) = e2) (q : Q .nx e2) : Ends (extS i f env) Q := by
  cases d with
  | list xs => cases hd; exact S_ext h0 h1 h2 h3 s q
  | tuple xs =>
    cases hd
    subst s
    refine ⟨_, _, ?_, q⟩
    unfold extS; refine guard_i ?_ ?_
    · unfold ownAt; rw [h0]; rfl
    · rw [h1]; dsimp only [Option.bind]; rw [h0, h2]; exact guard_i (decide_eq_true h3) rfl
  | _ => cases hd
theorem pickR_k {f g : Ev Res} {b : Bool} {x : Option (Res × Env)} (hb : b = true) (h : f env = x) : pickR b f g env = x := by subst hb; exact h
theorem sh_orV {f g : Ev Res} {x : Option (Res × Env)} (h : orV f g env = x) : orV f g env = x := h
theorem pickR_kf {f g : Ev Res} {b : Bool} {x : Option (Res × Env)} (hb : b = false) (h : g env = x) : pickR b f g env = x := by subst hb; exact h
end
end NS

set_option Elab.async false
set_option linter.all false
set_option maxRecDepth 100000
set_option maxHeartbeats 400000
/-! NsW: the laws' drawing. -/
namespace NS
open PySem L2
abbrev bTake : Es := (seqS (ifS (boolOf (bin2 gEq (opOf (layOf (bin2 gIx (slotP 0) (opOf (cstE (.int 0)))))) (opOf (cstE (.int 0))))) (seqS (asgS 2 (bin2 gIx (opOf (layOf (bin2 gAdd (opOf (layOf (sl3 gSl (opOf (layOf (bin2 gIx (slotP 0) (opOf (cstE (.int 3)))))) (boundO (some (layOf (bin2 gIx (slotP 0) (opOf (cstE (.int 2))))))) (boundO none)))) (opOf (layOf (lstR (consA (opOf (cstE (.int 0))) nilA))))))) (opOf (cstE (.int 0)))))
    (seqS (augxS 0 (fun i j => i + j) (cstE (.int 2)) (cstE (.int 1)))
    (seqS (ifS (boolOf (bin2 (gCmp fun i j => decide (j ≤ i)) (slotP 2) (opOf (layOf (bin2 gPow (opOf (cstE (.int 10))) (opOf (cstE (.int 18)))))))) (setS 0 (cstE (.int 0)) (slotE 2)) nilS)
    (seqS (asgS 3 (bin2 gAdd (opOf (layOf (bin2 gAdd (opOf (layOf (bin2 gMul (opOf (layOf (bin2 gIx (slotP 0) (opOf (cstE (.int 1)))))) (opOf (cstE (.int 48271)))))) (opOf (layOf (bin2 gMod (opOf (layOf (callN gInt (consA (slotP 2) nilA)))) (opOf (cstE (.int 2147483647))))))))) (opOf (layOf (bin2 gMul (opOf (cstE (.int 7919))) (opOf (layOf (bin2 gIx (slotP 0) (opOf (cstE (.int 2)))))))))))
    (setS 0 (cstE (.int 1)) (layOf (bin2 gMod (opOf (layOf (callN gInt (consA (slotP 3) nilA)))) (opOf (cstE (.int 2147483647)))))))))) nilS)
    (seqS (ifS (boolOf (bin2 (gCmp fun i j => decide (j < i)) (opOf (layOf (bin2 gIx (slotP 0) (opOf (cstE (.int 0)))))) (opOf (cstE (.int 0))))) (seqS (asgS 4 (bin2 gMod (opOf (layOf (callN gInt (consA (opOf (layOf (bin2 gIx (slotP 0) (opOf (cstE (.int 0)))))) nilA)))) (slotP 1)))
    (seqS (setS 0 (cstE (.int 0)) (layOf (bin2 gFdiv (opOf (layOf (callN gInt (consA (opOf (layOf (bin2 gIx (slotP 0) (opOf (cstE (.int 0)))))) nilA)))) (slotP 1))))
    (retS (takeR 4)))) nilS)
    (seqS (asgS 5 (bin2 gMod (opOf (layOf (callN gInt (consA (opOf (layOf (bin2 gMul (opOf (layOf (bin2 gAdd (opOf (layOf (bin2 gIx (slotP 0) (opOf (cstE (.int 1)))))) (opOf (cstE (.int 1)))))) (opOf (cstE (.int 39373)))))) nilA)))) (opOf (cstE (.int 1000000007)))))
    (seqS (asgS 6 (bin2 gMod (opOf (layOf (callN gInt (consA (opOf (layOf (bin2 gMul (opOf (layOf (bin2 gMod (opOf (layOf (callN gInt (consA (opOf (layOf (bin2 gMul (slotP 5) (slotP 5)))) nilA)))) (opOf (cstE (.int 998244353)))))) (opOf (cstE (.int 30011)))))) nilA)))) (opOf (cstE (.int 998244353)))))
    (retS (bin2 gMod (opOf (layOf (callN gInt (consA (opOf (layOf (bin2 gFdiv (slotP 6) (opOf (cstE (.int 7)))))) nilA)))) (slotP 1)))))))
def mTake := runU 7 bTake
abbrev bSome : Es := (retS (bin2 gIx (slotP 1) (opOf (layOf (callU 2 mTake (consA (slotP 0) (consA (opOf (layOf (callN gLen (consA (slotP 1) nilA)))) nilA)))))))
def mSome := runU 2 bSome
abbrev bBag : Es := (retS (lstR (consA (opOf (cstE (.int 0))) (consA (opOf (cstE (.int 1234567891))) (consA (opOf (cstE (.int 0))) (consA (opOf (layOf (lcR (itSeq (layOf (slS (slotP 0) (boundO none) (boundO (some (cstE (.int 63))))))) (.nm 1) yesT (layOf (callN gAbs (consA (slotP 1) nilA))) [1]))) nilA))))))
def mBag := runT 2 bBag
abbrev bAlike : Es := (retS (andV (bin2 gEq (slotP 0) (slotP 1)) (bin2 gEq (opOf (layOf (callN gRepr (consA (slotP 0) nilA)))) (opOf (layOf (callN gRepr (consA (slotP 1) nilA)))))))
def mAlike := runT 2 bAlike

theorem G_int {i : Int} : gInt [.int i] = some (.d (.int i)) := rfl
theorem G_lenL {ds : List D} : gLen [.list ds] = some (.d (.int ds.length)) := rfl
theorem G_lenT {ds : List D} : gLen [.tuple ds] = some (.d (.int ds.length)) := rfl
theorem G_tupL {ds : List D} : gTup [.list ds] = some (.d (.tuple ds)) := rfl
theorem G_tupT {ds : List D} : gTup [.tuple ds] = some (.d (.tuple ds)) := rfl
theorem G_lstL {ds : List D} : gList [.list ds] = some (.l ds) := rfl
theorem G_lstT {ds : List D} : gList [.tuple ds] = some (.l ds) := rfl
theorem sh_ix {l : Env} {i : Nat} {x : Option (Option OV)} (h : l[i]? = x) : l[i]? = x := h
theorem sh_ixD {l : List D} {i : Nat} {x : Option D} (h : l[i]? = x) : l[i]? = x := h
theorem sh_io {o x : OV} {b : Bool} (h : o.setIo b = x) : o.setIo b = x := h
theorem sh_ixN {n : Nat} {k : Int} {x : Option Nat} (h : ixN n k = x) : ixN n k = x := h
theorem sh_len {l l' : List D} (h : l.length = l'.length) : l.length = l'.length := h
theorem sh_le {l : List D} {n : Nat} (h : l.length ≤ n) : l.length ≤ n := h
theorem sh_set {l e : Env} {i : Nat} {v : Option OV} (h : l.set i v = e) : l.set i v = e := h
theorem sh_tg {t : Tg} {d : D} {e : Env} {x : Option Env} (h : tgE t d e = x) : tgE t d e = x := h
theorem sh_ift {b : Bool} {P : Prop} (h : b = true → P) : b = true → P := h
theorem sh_iff {b : Bool} {P : Prop} (h : b = false → P) : b = false → P := h
theorem opD_rl {env : Env} {i : Nat} {io : Bool} {ds : List D} (h : env[i]? = some (some (.ol io ds))) : opD env (.r i) = some (.list ds) := opD_r h rfl rfl
theorem sh_call {α : Type} {x y : Option α} (h : x = y) : x = y := h
theorem sh_ends {x : Option (Fl × Env)} {Q : Fl → Env → Prop} (h : Ends x Q) : Ends x Q := h
theorem sh_ev {α : Type} {x : Option (α × Env)} {y : α × Env} (h : x = some y) : x = some y := h
theorem big_of {x : Int} (h : x.natAbs < 2 ^ 256) : x.natAbs < BIGN := by
  have : (2 : Nat) ^ 256 ≤ BIGN := by unfold BIGN; exact Nat.pow_le_pow_right (by decide) (by decide)
  omega
theorem G_slL {ds : List D} {lo hi : Option Int} : gSl (.list ds) lo hi = some (.l (cutD ds lo hi)) := rfl
theorem sh_pos {j : Int} (h : 0 < j) : 0 < j := h
theorem sh_big {j : Int} (h : j.natAbs < BIGN) : j.natAbs < BIGN := h
theorem sh_le2 {a b : List D} {n : Nat} (h : a.length + b.length ≤ n) : a.length + b.length ≤ n := h
theorem sh_lt2 {a : List D} {n : Nat} (h : a.length < n) : a.length < n := h
theorem sh_wipe {l e : Env} {vs : List Nat} (h : wipeE l vs = e) : wipeE l vs = e := h
theorem sh_back {a b e : Env} {vs : List Nat} (h : backE a b vs = e) : backE a b vs = e := h
theorem sh_env {n : Nat} {avs : List Opd} {e : Env} (h : envOf n avs = e) : envOf n avs = e := h
theorem sh_envU {n : Nat} {o : OV} {avs : List Opd} {e : Env} (h : (some (o.setIo true) :: envOf n avs) = e) : (some (o.setIo true) :: envOf n avs) = e := h
def plain2 : Option (Option OV) → Bool
  | some (some ov) => ov.plain
  | _ => true
theorem plain2_map {o : Option D} : plain2 (some (o.map OV.fz)) = true := by cases o <;> rfl
theorem plain2_fz {d : D} : plain2 (some (some (.fz d))) = true := rfl
theorem plain2_no : plain2 (some none) = true := rfl
theorem plain_nil {e : Env} : plainAt e [] = true := rfl
theorem plain_cons {e : Env} {v : Nat} {vs : List Nat} : plainAt e (v :: vs) = (plain2 e[v]? && plainAt e vs) := rfl
theorem sh_leI {a b : Int} (h : a ≤ b) : a ≤ b := h
theorem sh_ltI {a b : Int} (h : a < b) : a < b := h
theorem sh_mulN {a : List D} {n m : Nat} (h : a.length * n ≤ m) : a.length * n ≤ m := h
theorem sh_bool {b : Bool} (h : b = true) : b = true := h
theorem at0 {α : Type} (x : α) (xs : List α) : atI (x :: xs) 0 = some x := atI_nat (j := 0) rfl
theorem at1 {α : Type} (x y : α) (xs : List α) : atI (x :: y :: xs) 1 = some y := atI_nat (j := 1) rfl
theorem at2 {α : Type} (x y z : α) (xs : List α) : atI (x :: y :: z :: xs) 2 = some z := atI_nat (j := 2) rfl
theorem at3 {α : Type} (x y z u : α) (xs : List α) : atI (x :: y :: z :: u :: xs) 3 = some u := atI_nat (j := 3) rfl
local macro_rules | `(tactic| and_intros) => `(tactic| repeat' (first
  | ((with_reducible refine sh_ends ?_); first
    | (with_reducible apply S_seq)
    | (with_reducible apply S_asg)
    | (with_reducible apply S_ret)
    | (with_reducible apply S_if_and)
    | (with_reducible apply S_if_or)
    | (with_reducible apply S_if_not)
    | (with_reducible apply S_if)
    | (with_reducible apply S_nil)
    | (with_reducible apply S_par2)
    | (with_reducible apply S_aug)
    | (with_reducible apply S_unp)
    | (with_reducible apply S_set)
    | (with_reducible apply S_augx)
    | (with_reducible apply S_ins)
    | (with_reducible apply S_app)
    | (with_reducible apply S_extA)
    | (with_reducible apply S_drop)
    | (with_reducible apply S_brk)
    | (with_reducible apply S_cnt)
    | (with_reducible apply S_for))
  | ((with_reducible refine sh_ev ?_); first
    | ((with_reducible apply E_first); (· exact rfl); (· with_reducible assumption))
    | (with_reducible apply E_opOf)
    | (with_reducible apply E_layOf)
    | (with_reducible apply E_consA)
    | with_reducible exact E_cst
    | with_reducible exact E_nilA
    | (with_reducible apply E_bin2)
    | ((with_reducible apply E_slotE); (exact rfl))
    | ((with_reducible apply E_slotE_l); (exact rfl))
    | ((with_reducible apply E_slotP); (exact rfl))
    | ((with_reducible apply E_slotP_s); (exact rfl))
    | ((with_reducible apply E_slotP_r); (exact rfl))
    | ((with_reducible apply E_slotF); (exact rfl))
    | ((with_reducible apply E_slotF_s); (exact rfl))
    | ((with_reducible apply E_slotF_l); (exact rfl))
    | ((with_reducible apply E_take); (exact rfl))
    | ((with_reducible apply E_take_l); (exact rfl))
    | ((with_reducible refine sh_orV ?_); (with_reducible assumption))
    | ((with_reducible apply pickR_kf); (· with_reducible assumption))
    | ((with_reducible apply pickR_k); (· with_reducible assumption))
    | (with_reducible apply E_callN)
    | (with_reducible apply E_boolOf)
    | (with_reducible apply E_callT)
    | (with_reducible apply E_callU)
    | (with_reducible apply E_resOf)
    | (with_reducible apply E_tupR)
    | (with_reducible apply E_lstR)
    | (with_reducible apply E_bound1)
    | (with_reducible apply E_sl3)
    | (with_reducible apply E_slS)
    | (with_reducible apply E_revR)
    | (with_reducible apply E_negR)
    | (with_reducible apply E_andT)
    | (with_reducible apply E_orT)
    | (with_reducible apply E_notT)
    | (with_reducible apply E_ofT)
    | (with_reducible apply E_andV)
    | (with_reducible apply E_orV)
    | (with_reducible apply E_notV)
    | (with_reducible apply E_ifRb)
    | (with_reducible apply pickR_t)
    | (with_reducible apply pickR_f)
    | (with_reducible apply pickR_d)
    | (with_reducible apply E_rg1)
    | (with_reducible apply E_rg2)
    | (with_reducible apply E_lstRg2)
    | (with_reducible apply E_lc)
    | (with_reducible apply E_zipL)
    | (with_reducible apply E_zipT)
    | (with_reducible apply E_enum)
    | (with_reducible apply E_enumA)
    | (with_reducible apply E_chain3)
    | (with_reducible apply E_isi)
    | (with_reducible apply E_callF)
    | (with_reducible apply E_callB2)
    | (with_reducible apply E_sortNeg)
    | (with_reducible apply E_itSeq)
    | with_reducible exact E_bound0
    | with_reducible exact E_yesT)
  | ((with_reducible refine sh_call ?_); first
    | with_reducible assumption
    | with_reducible exact sq_l
    | with_reducible exact sq_t
    | with_reducible exact opD_v
    | with_reducible exact opDs_nil
    | with_reducible exact vals_nil
    | (with_reducible apply opDs_cons)
    | (with_reducible apply vals_cons)
    | ((with_reducible apply opD_rl); (exact rfl))
    | ((with_reducible apply sh_ix); (exact rfl))
    | with_reducible exact G_addI
    | with_reducible exact G_subI
    | with_reducible exact G_cmp
    | with_reducible exact G_eqI
    | with_reducible exact G_neI
    | with_reducible exact G_min2
    | with_reducible exact G_max2
    | with_reducible exact G_abs
    | with_reducible exact G_int
    | with_reducible exact G_lenL
    | with_reducible exact G_lenT
    | with_reducible exact G_tupL
    | with_reducible exact G_tupT
    | with_reducible exact G_lstL
    | with_reducible exact G_lstT
    | with_reducible exact G_slL
    | with_reducible exact G_slAL
    | with_reducible exact G_slAT
    | (with_reducible apply G_addL)
    | (with_reducible apply G_addT)
    | (with_reducible apply G_mulI)
    | (with_reducible apply G_mulL1)
    | (with_reducible apply G_mulL)
    | (with_reducible apply G_fdiv)
    | (with_reducible apply G_mod)
    | (with_reducible apply G_pow)
    | (with_reducible apply G_ixL)
    | (with_reducible apply G_ixT)
    | ((with_reducible refine sh_ixN (x := some 0) ?_); (exact rfl))
    | ((with_reducible refine sh_ixN (x := some 1) ?_); (exact rfl))
    | ((with_reducible refine sh_ixN (x := some 2) ?_); (exact rfl))
    | ((with_reducible refine sh_ixN (x := some 3) ?_); (exact rfl))
    | ((with_reducible refine sh_ixN (x := some 4) ?_); (exact rfl))
    | ((with_reducible refine sh_ixN (x := some 5) ?_); (exact rfl))
    | ((with_reducible refine sh_ixN (x := some 6) ?_); (exact rfl))
    | ((with_reducible refine sh_ixN (x := some 7) ?_); (exact rfl))
    | ((with_reducible apply sh_ixN); (exact rfl))
    | ((with_reducible apply sh_ixD); (exact rfl))
    | ((with_reducible apply sh_tg); (first | (dsimp only [tgE, tgsE, List.set]; done) | (dsimp only [tgE, tgsE, List.set]; exact rfl) | exact rfl))
    | with_reducible exact at0 _ _
    | with_reducible exact at1 _ _ _
    | with_reducible exact at2 _ _ _ _
    | with_reducible exact at3 _ _ _ _ _
    | with_reducible exact G_sum)
  | (with_reducible apply SeqQ.nx)
  | (with_reducible apply SeqQ.rt)
  | (with_reducible apply SeqQ.bk)
  | (with_reducible apply SeqQ.ct)
  | (with_reducible apply LoopQ.nx)
  | (with_reducible apply LoopQ.ct)
  | (with_reducible apply LoopQ.bk)
  | (with_reducible apply LoopQ.rt)
  | with_reducible exact toD_d
  | with_reducible exact toD_l
  | with_reducible exact ov_d
  | with_reducible exact ov_l
  | ((with_reducible apply sh_set); (first | (dsimp only [List.set]; done) | (dsimp only [List.set]; exact rfl) | exact rfl))
  | ((with_reducible apply sh_io); (first | (dsimp only [OV.setIo, OV.io]; done) | (dsimp only [OV.setIo, OV.io]; exact rfl) | exact rfl))
  | ((with_reducible apply sh_len); (exact rfl))
  | ((with_reducible apply sh_le); (exact Nat.le_of_ble_eq_true rfl))
  | ((with_reducible refine sh_ift ?_); intro hb; (try simp only [Bool.false_eq_true, Bool.true_eq_false, Bool.not_eq_true, Bool.not_eq_false, Bool.not_eq_eq_eq_not, Bool.not_true, Bool.not_false, beq_iff_eq, beq_eq_false_iff_ne, ne_eq, decide_eq_true_eq, decide_eq_false_iff_not, Bool.and_eq_true, Bool.or_eq_true, Bool.and_eq_false_iff, Bool.or_eq_false_iff] at hb); (first | (exfalso; omega) | (exfalso; exact hb trivial) | skip))
  | ((with_reducible refine sh_iff ?_); intro hb; (try simp only [Bool.false_eq_true, Bool.true_eq_false, Bool.not_eq_true, Bool.not_eq_false, Bool.not_eq_eq_eq_not, Bool.not_true, Bool.not_false, beq_iff_eq, beq_eq_false_iff_ne, ne_eq, decide_eq_true_eq, decide_eq_false_iff_not, Bool.and_eq_true, Bool.or_eq_true, Bool.and_eq_false_iff, Bool.or_eq_false_iff] at hb); (first | (exfalso; omega) | (exfalso; exact hb trivial) | skip))
  | ((with_reducible apply sh_wipe); (first | (dsimp only [wipeE, List.set]; done) | (dsimp only [wipeE, List.set]; exact rfl) | exact rfl))
  | ((with_reducible apply sh_env); (first | (dsimp only [OV.setIo, envOf, List.map, argOv, List.replicate, List.length_cons, List.length_nil, List.append, List.cons_append, List.nil_append, Nat.reduceAdd, Nat.reduceSub]; done) | (dsimp only [OV.setIo, envOf, List.map, argOv, List.replicate, List.length_cons, List.length_nil, List.append, List.cons_append, List.nil_append, Nat.reduceAdd, Nat.reduceSub]; exact rfl) | exact rfl))
  | ((with_reducible apply sh_envU); (first | (dsimp only [OV.setIo, envOf, List.map, argOv, List.replicate, List.length_cons, List.length_nil, List.append, List.cons_append, List.nil_append, Nat.reduceAdd, Nat.reduceSub]; done) | (dsimp only [OV.setIo, envOf, List.map, argOv, List.replicate, List.length_cons, List.length_nil, List.append, List.cons_append, List.nil_append, Nat.reduceAdd, Nat.reduceSub]; exact rfl) | exact rfl))
  | ((with_reducible apply sh_back); (first | (simp only [backE, List.getElem?_cons_succ, List.getElem?_cons_zero, List.set_cons_succ, List.set_cons_zero]; done) | (simp only [backE, List.getElem?_cons_succ, List.getElem?_cons_zero, List.set_cons_succ, List.set_cons_zero]; exact rfl) | exact rfl))
  | ((with_reducible apply sh_bool); (first | exact rfl | (simp only [plain_cons, plain_nil, List.getElem?_cons_succ, List.getElem?_cons_zero, plain2_map, plain2_fz, plain2_no, Bool.true_and]; exact rfl)))
  | ((with_reducible apply sh_pos); (first | with_reducible assumption | omega | decide))
  | ((with_reducible apply sh_big); (first | with_reducible assumption | (apply big_of; omega)))
  | ((with_reducible apply sh_leI); (first | with_reducible assumption | omega))
  | ((with_reducible apply sh_ltI); (first | with_reducible assumption | omega))
  | ((with_reducible apply sh_mulN); ((try simp only [List.length_append, List.length_cons, List.length_nil, List.length_map, List.length_replicate]); omega))
  | ((with_reducible apply sh_le2); ((try simp only [List.length_append, List.length_cons, List.length_nil, List.length_map, List.length_replicate]); omega))
  | ((with_reducible apply sh_lt2); ((try simp only [List.length_append, List.length_cons, List.length_nil, List.length_map, List.length_replicate]); omega))))
theorem at_mem {α : Type} {ds : List α} {i : Int} (h0 : 0 ≤ i) (h : i < ds.length) : ∃ d, atI ds i = some d ∧ d ∈ ds := by
  obtain ⟨k, rfl⟩ := Int.eq_ofNat_of_zero_le h0
  have hk : k < ds.length := by omega
  exact ⟨ds[k], atI_nat (j := k) (List.getElem?_eq_getElem hk), List.getElem_mem hk⟩
theorem cut_from (ds : List D) (k : Nat) : cutD ds (some (k : Int)) none = ds.drop k := by
  unfold cutD
  rw [HT.sIx_nat]
  show (ds.drop (min k ds.length)).take (ds.length - min k ds.length) = ds.drop k
  by_cases h : k ≤ ds.length
  · rw [Nat.min_eq_left h]
    exact List.take_of_length_le (by rw [List.length_drop]; exact Nat.le_refl _)
  · rw [Nat.min_eq_right (by omega), List.drop_length, List.drop_eq_nil_of_le (by omega)]
    simp
/-- what a bag holds, with room for f more draws -/
structure BagD (f : Nat) (ds : List D) : Prop where
  ex : ∃ (big stir at_ : Int) (cells : List Int), ds = [.int big, .int stir, .int at_, .list (cells.map .int)] ∧ 0 ≤ big ∧ 0 ≤ stir ∧ stir < 2147483647 ∧ 0 ≤ at_ ∧ at_ + f ≤ 1000000 ∧ (∀ c ∈ cells, 0 ≤ c) ∧ cells.length ≤ 63
theorem BagD.down {f f' : Nat} {ds : List D} (h : BagD f ds) (k : f' ≤ f) : BagD f' ds := by
  obtain ⟨b, s, a, c, e, h1, h2, h3, h0, h4, h5, h6⟩ := h.ex
  exact ⟨b, s, a, c, e, h1, h2, h3, h0, by omega, h5, h6⟩
theorem natAbs_mod {x k : Int} (h : 0 < k) : (x % k).natAbs < k.natAbs := by
  have h1 := Int.emod_nonneg x (b := k) (by omega)
  have h2 := Int.emod_lt_of_pos x h
  omega
theorem take_x {f : Nat} {ds : List D} {many : Int} (h : BagD (f + 1) ds) (hm : 0 < many) (hb : many.natAbs < BIGN) : ∃ v ds', mTake (.ol false ds) [.v (.int many)] = some (.d (.int v), .ol false ds') ∧ BagD f ds' ∧ 0 ≤ v ∧ v < many := by
  obtain ⟨big, stir, at_, cells, rfl, h1, h2, h3, h0, h4, h5, h6⟩ := h.ex
  obtain ⟨at_, rfl⟩ := Int.eq_ofNat_of_zero_le h0
  have hc : ∃ cell, atI (cutD (cells.map PyData.int) (some (at_ : Int)) none ++ [PyData.int 0]) 0 = some (.int cell) ∧ 0 ≤ cell := by
    rw [cut_from, ← List.map_drop]
    cases e : cells.drop at_ with
    | nil => exact ⟨0, at0 _ _, Int.le_refl 0⟩
    | cons c l => exact ⟨c, at0 _ _, h5 c (List.mem_of_mem_drop (by rw [e]; simp))⟩
  obtain ⟨cell, hc1, hc2⟩ := hc
  have hcl : (cutD (cells.map PyData.int) (some (at_ : Int)) none).length ≤ 63 := by rw [cut_from, List.length_drop, List.length_map]; omega
  have key : ∃ r ov', mTake (.ol false [.int big, .int stir, .int (at_ : Int), .list (cells.map .int)]) [.v (.int many)] = some (r, ov') ∧ ∃ v ds', r = .d (.int v) ∧ ov' = .ol false ds' ∧ BagD f ds' ∧ 0 ≤ v ∧ v < many := by
    apply runU_x
    all_goals and_intros
    all_goals refine ⟨_, _, rfl, rfl, rfl, _, _, rfl, rfl, ⟨_, _, _, _, rfl, ?_, ?_, ?_, ?_, ?_, h5, h6⟩, ?_, ?_⟩
    all_goals first
      | omega
      | (with_reducible refine Int.emod_nonneg _ ?_; omega)
      | (with_reducible refine Int.emod_lt_of_pos _ ?_; omega)
      | (with_reducible refine Int.ediv_nonneg ?_ ?_ <;> omega)
  obtain ⟨r, ov', e, v, ds', rfl, rfl, k⟩ := key
  exact ⟨v, ds', e, k⟩
theorem some_x {f : Nat} {bs ds : List D} (h : BagD (f + 1) bs) (hl : 0 < ds.length) (hb : ds.length ≤ 1000000) : ∃ d bs', mSome (.ol false bs) [.v (.list ds)] = some (.d d, .ol false bs') ∧ BagD f bs' ∧ d ∈ ds := by
  obtain ⟨v, bs', h1, h2, h3, h4⟩ := take_x (many := ds.length) h (by omega) (big_of (by omega))
  obtain ⟨d, h5, h6⟩ := at_mem h3 h4
  have key : mSome (.ol false bs) [.v (.list ds)] = some (.d d, .ol false bs') := by
    apply runU_i
    all_goals and_intros
    exact ⟨_, rfl, rfl, rfl, rfl⟩
  exact ⟨d, bs', key, h2, h6⟩
theorem some_xt {f : Nat} {bs ds : List D} (h : BagD (f + 1) bs) (hl : 0 < ds.length) (hb : ds.length ≤ 1000000) : ∃ d bs', mSome (.ol false bs) [.v (.tuple ds)] = some (.d d, .ol false bs') ∧ BagD f bs' ∧ d ∈ ds := by
  obtain ⟨v, bs', h1, h2, h3, h4⟩ := take_x (many := ds.length) h (by omega) (big_of (by omega))
  obtain ⟨d, h5, h6⟩ := at_mem h3 h4
  have key : mSome (.ol false bs) [.v (.tuple ds)] = some (.d d, .ol false bs') := by
    apply runU_i
    all_goals and_intros
    exact ⟨_, rfl, rfl, rfl, rfl⟩
  exact ⟨d, bs', key, h2, h6⟩
theorem cutS_63 (ns : List Int) (h : ns.length ≤ 63) : cutS ns none (some 63) = ns := by
  have e : HT.sIx ns.length ns.length (some ((63 : Nat) : Int)) = min 63 ns.length := HT.sIx_nat _ _ _
  have e0 : HT.sIx ns.length 0 none = 0 := rfl
  unfold cutS
  rw [e0, show ((63 : Int)) = ((63 : Nat) : Int) from rfl, e]
  rw [Nat.min_eq_right h]
  simp
theorem bag_x {ns : List Int} (h : ns.length ≤ 63) : ∃ bs, mBag [.s ns] = some (.l bs) ∧ BagD 1000000 bs := by
  have hlc : ∀ l : List Int, l.length ≤ 63 → lcGo (.nm 1) yesT (layOf (callN gAbs (consA (slotP 1) nilA))) [1] (l.map PyData.int) [some (.scr ns), none] [] = some (l.map (fun i => PyData.int (i.natAbs : Int)), [some (.scr ns), none]) := by
    intro l hl
    refine lc_map0 (fun _ => True) _ l (fun _ _ => trivial) (by omega) (fun x _ => ⟨_, rfl, ?_⟩)
    apply Ev1.i
    · and_intros
    · exact ⟨rfl, rfl⟩
  have hc := cutS_63 ns h
  have hlc1 := hlc (cutS ns none (some 63)) (by rw [hc]; exact h)
  have key : mBag [.s ns] = some (.l [.int 0, .int 1234567891, .int 0, .list ((ns.map fun i => (i.natAbs : Int)).map .int)]) := by
    rw [List.map_map]
    apply runT_i
    all_goals and_intros
    rw [hc]
    rfl
  exact ⟨_, key, ⟨0, 1234567891, 0, _, rfl, by omega, by omega, by omega, by omega, by omega, by simp, by simpa using h⟩⟩
/-! ### what can be shown and compared -/
theorem ok_app {a b : Str} (ha : PyData.strOk a = true) (hb : PyData.strOk b = true) : PyData.strOk (a ++ b) = true := by
  show (a.cps ++ b.cps).all _ = true
  rw [Array.all_append]
  exact Bool.and_eq_true_iff.mpr ⟨ha, hb⟩
theorem ok_text (s : String) : PyData.strOk (Str.ofString s) = true := by
  rw [Str.ofString_eq_toList]
  show ((s.toList.map Char.toNat).toArray).all _ = true
  rw [List.all_toArray, List.all_map, List.all_eq_true]
  intro c _
  have h := c.valid
  show decide (c.toNat < 0x110000) = true
  refine decide_eq_true ?_
  rcases h with h | h
  · have : c.toNat < 0xd800 := h
    omega
  · exact h.2
theorem ok_from : ∀ (ts : List Str) (k : Nat) (acc : Str), PyData.strOk acc = true → (∀ t ∈ ts, PyData.strOk t = true) → PyData.strOk (textFrom k acc ts) = true
  | [], _, _, h, _ => h
  | t :: ts, k, acc, h, hs => by
    refine ok_from ts (k + 1) _ (ok_app (ok_app h (ok_text _)) (hs t (by simp))) (fun x hx => hs x (by simp [hx]))
theorem ok_list {ts : List Str} (hs : ∀ t ∈ ts, PyData.strOk t = true) : PyData.strOk (listText ts) = true := ok_app (ok_from ts 0 _ (ok_text _) hs) (ok_text _)
theorem ok_join : ∀ (ts : List Str), (∀ t ∈ ts, PyData.strOk t = true) → PyData.strOk (Str.join ", " ts) = true
  | [], _ => by unfold Str.join; show (#[] : Array Nat).all _ = true; simp
  | [x], h => h x (by simp)
  | x :: y :: r, h => ok_app (ok_app (h x (by simp)) (ok_text _)) (ok_join (y :: r) fun t ht => h t (List.mem_cons_of_mem _ ht))
theorem ok_tup {ts : List Str} (hs : ∀ t ∈ ts, PyData.strOk t = true) : PyData.strOk (tupleText ts) = true := ok_app (ok_app (ok_text _) (ok_join ts hs)) (ok_text _)
structure Fine (n m : Nat) (d : D) : Prop where
  lay : d.canLay0 = true
  sh : d.showable = true
  dp : d.depth ≤ n
  len : d.shown.length ≤ m
  ok : PyData.strOk d.shown = true
theorem Fine.up {n m n' m' : Nat} {d : D} (h : Fine n m d) (hn : n ≤ n') (hm : m ≤ m') : Fine n' m' d := ⟨h.lay, h.sh, Nat.le_trans h.dp hn, Nat.le_trans h.len hm, h.ok⟩
theorem Fine.bool (b : Bool) : Fine 0 5 (.bool b) := ⟨rfl, rfl, Nat.le_refl 0, by cases b <;> decide, by cases b <;> exact ok_text _⟩
theorem Fine.none : Fine 0 4 .none := ⟨rfl, rfl, Nat.le_refl 0, by decide, ok_text _⟩
theorem Fine.int {i : Int} (h : i.natAbs < 10 ^ 400) : Fine 0 401 (.int i) := by
  refine ⟨rfl, ?_, Nat.le_refl 0, ?_, ok_text _⟩
  · have : i.natAbs.log2 < 1920 := by
      by_cases h0 : i.natAbs = 0
      · rw [h0]; decide
      · exact (Nat.log2_lt h0).mpr (Nat.lt_of_lt_of_le h (by decide +kernel))
    simpa only [PyData.showable, decide_eq_true_eq] using this
  · have e := int_text_length_le10 (k := 400) (by decide) h
    show (Str.ofString (toString i)).length ≤ 401
    rw [ofString_length]
    exact e
structure FineAll (n m : Nat) (ds : List D) : Prop where
  lay : PyData.canLayAll0 ds = true
  sh : PyData.showableAll ds = true
  dp : PyData.depthAll ds ≤ n
  len : ((PyData.shownAll ds).map (·.length)).sum ≤ m * ds.length
  ok : ∀ t ∈ PyData.shownAll ds, PyData.strOk t = true
theorem FineAll.of {n m : Nat} : ∀ {ds : List D}, (∀ d ∈ ds, Fine n m d) → FineAll n m ds
  | [], _ => ⟨rfl, rfl, Nat.zero_le _, Nat.zero_le _, fun _ h => nomatch h⟩
  | d :: ds, h => by
    have h1 := h d (by simp)
    have h2 := FineAll.of (ds := ds) (fun x hx => h x (by simp [hx]))
    refine ⟨?_, ?_, ?_, ?_, ?_⟩
    · simp only [PyData.canLayAll0, h1.lay, h2.lay, Bool.and_self]
    · simp only [PyData.showableAll, h1.sh, h2.sh, Bool.and_self]
    · simp only [PyData.depthAll]
      exact Nat.max_le.mpr ⟨h1.dp, h2.dp⟩
    · have a := h1.len
      have b := h2.len
      simp only [PyData.shownAll, List.map_cons, List.sum_cons, List.length_cons, Nat.mul_add, Nat.mul_one]
      omega
    · intro t ht
      simp only [PyData.shownAll, List.mem_cons] at ht
      rcases ht with rfl | ht
      · exact h1.ok
      · exact h2.ok t ht
theorem Fine.list {n m : Nat} {ds : List D} (h : ∀ d ∈ ds, Fine n m d) : Fine (n + 1) ((m + 2) * ds.length + 3) (.list ds) := by
  have k := FineAll.of h
  refine ⟨?_, ?_, ?_, ?_, ok_list k.ok⟩
  · simpa only [PyData.canLay0] using k.lay
  · simpa only [PyData.showable] using k.sh
  · simpa only [PyData.depth] using Nat.succ_le_succ k.dp
  · have a := listText_len_le (PyData.shownAll ds)
    have b := PyData.shownAll_length ds
    have c := k.len
    simp only [PyData.shown, Nat.add_mul]
    omega
theorem Fine.tup {n m : Nat} {ds : List D} (h : ∀ d ∈ ds, Fine n m d) : Fine (n + 1) ((m + 2) * ds.length + 3) (.tuple ds) := by
  have k := FineAll.of h
  refine ⟨?_, ?_, ?_, ?_, ok_tup k.ok⟩
  · simpa only [PyData.canLay0] using k.lay
  · simpa only [PyData.showable] using k.sh
  · simpa only [PyData.depth] using Nat.succ_le_succ k.dp
  · have a := tupleText_len_le (PyData.shownAll ds)
    have b := PyData.shownAll_length ds
    have c := k.len
    simp only [PyData.shown, Nat.add_mul]
    omega
theorem alike_x {n m : Nat} {d : D} (h : Fine n m d) (hn : n ≤ 60) (hm : m ≤ 1000000) : mAlike [.v d, .v d] = some (.d (.bool true)) := by
  have hs : SeqAt.shaped d = true := by
    unfold SeqAt.shaped
    rw [h.lay, decide_eq_true (Nat.le_trans h.dp (by omega))]; rfl
  have h1 : gEq d d = some (.d (.bool true)) := by
    unfold gEq
    rw [hs, SeqAt.eqv_refl d h.lay]; rfl
  have h2 : gRepr [d] = some (.d (.str d.shown)) := by
    unfold gRepr
    refine guard_i ?_ rfl
    rw [h.lay, h.sh, PyData.hasDict_of_canLay d h.lay, decide_eq_true (Nat.le_trans h.dp hn), decide_eq_true (Nat.le_trans h.len hm)]; rfl
  have h3 : gEq (.str d.shown) (.str d.shown) = some (.d (.bool true)) := by
    have hq : SeqAt.shaped (.str d.shown) = true := by
      unfold SeqAt.shaped
      rw [show PyData.canLay0 (.str d.shown) = true from h.ok]; rfl
    unfold gEq
    rw [hq, SeqAt.eqv_refl (.str d.shown) h.ok]; rfl
  apply runT_i
  all_goals and_intros
  all_goals rfl
theorem lc_mapI {α : Type} {tg : Tg} {elt : Ev D} {own : List Nat} (P : α → Prop) {enc : α → D} (out : α → Int) {e : Env} (l : List α) (hp : ∀ x ∈ l, P x) (hl : l.length ≤ 1000000) (H : ∀ x, P x → ∃ e1, tgE tg (enc x) e = some e1 ∧ Ev1 (elt e1) fun d e2 => d = .int (out x) ∧ wipeE e2 own = e) : lcGo tg yesT elt own (l.map enc) e [] = some ((l.map out).map .int, e) := by
  rw [lc_map0 P (fun x => PyData.int (out x)) l hp hl H, List.map_map]; rfl
theorem lc_inv {tg : Tg} {elt : Ev D} {own : List Nat} (I : List D → List D → Env → Prop) (S : ∀ d ds acc e, I (d :: ds) acc e → ∃ e1, tgE tg d e = some e1 ∧ acc.length < 1000000 ∧ Ev1 (elt e1) fun x e3 => I ds (acc ++ [x]) (wipeE e3 own)) {ds : List D} {e : Env} (h : I ds [] e) : ∃ acc e', lcGo tg yesT elt own ds e [] = some (acc, e') ∧ I [] acc e' := by
  refine LcOk.go (I := I) ⟨fun d ds acc e hi => ?_⟩ h
  obtain ⟨e1, h1, h2, x, e3, h3, h4⟩ := S d ds acc e hi
  exact ⟨e1, true, e1, h1, rfl, fun _ => ⟨x, e3, h3, h2, h4⟩, fun z => nomatch z⟩
end NS

set_option Elab.async false
set_option linter.all false
set_option maxRecDepth 100000
set_option maxHeartbeats 4000000
namespace Law
open PySem L2 PyProof.Rows NS
def top (i : Nat) : Stmt := PySem.Challenge.pw_nightstairs_k27_rows_put_together.main.body.getD i (.Pass ⟨0, 0, 0, 0⟩)
theorem bb_abs : bootBuiltins ("abs" : Str) = some (.builtin "abs") := by decide +kernel
theorem bb_int : bootBuiltins ("int" : Str) = some (.type "int") := by decide +kernel
theorem bb_len : bootBuiltins ("len" : Str) = some (.builtin "len") := by decide +kernel
theorem bb_list : bootBuiltins ("list" : Str) = some (.type "list") := by decide +kernel
theorem bb_max : bootBuiltins ("max" : Str) = some (.builtin "max") := by decide +kernel
theorem bb_min : bootBuiltins ("min" : Str) = some (.builtin "min") := by decide +kernel
theorem bb_range : bootBuiltins ("range" : Str) = some (.type "range") := by decide +kernel
theorem bb_repr : bootBuiltins ("repr" : Str) = some (.builtin "repr") := by decide +kernel
theorem bb_set : bootBuiltins ("set" : Str) = some (.type "set") := by decide +kernel
theorem bb_sorted : bootBuiltins ("sorted" : Str) = some (.builtin "sorted") := by decide +kernel
theorem bb_sum : bootBuiltins ("sum" : Str) = some (.builtin "sum") := by decide +kernel
theorem bb_tuple : bootBuiltins ("tuple" : Str) = some (.type "tuple") := by decide +kernel
theorem bb_zip : bootBuiltins ("zip" : Str) = some (.type "zip") := by decide +kernel
structure Tops (mg : Str → Option Value) : Prop where
  b_abs : mg "abs" = none
  b_int : mg "int" = none
  b_len : mg "len" = none
  b_list : mg "list" = none
  b_max : mg "max" = none
  b_min : mg "min" = none
  b_range : mg "range" = none
  b_repr : mg "repr" = none
  b_set : mg "set" = none
  b_sorted : mg "sorted" = none
  b_sum : mg "sum" = none
  b_tuple : mg "tuple" = none
  b_zip : mg "zip" = none
section
variable {P : Program} {w : World} {K : PySem.W.Frag} {mg : Str → Option Value} {base : Heap}
abbrev s_reach_in : Stmt := top 1
abbrev N_reach_in : List Str := ["stairs", "h", "found", "left", "step", "times"]
theorem sc_reach_in : FnScope N_reach_in ["stairs", "h"] (defScope s_reach_in) := ⟨rfl, rfl, rfl, by decide +kernel, rfl, by decide +kernel, by decide +kernel⟩
noncomputable abbrev b_reach_in : Es := (seqS (par2 2 3 (resOf (cstE (.int 0))) (resOf (slotE 1)))
    (seqS (forS (itSeq (slotE 0)) (.tp [(.nm 4), (.nm 5)]) (seqS (augS 2 (fun i j => i + j) (layOf (bin2 gMul (slotP 4) (opOf (layOf (callN gMin2 (consA (slotP 5) (consA (slotP 3) nilA))))))))
    (augS 3 (fun i j => i - j) (layOf (callN gMin2 (consA (slotP 5) (consA (slotP 3) nilA)))))))
    (retS (takeR 2))))
noncomputable def m_reach_in := runT 6 b_reach_in
theorem ok_reach_in (T : Tops mg) (D : DefAt K mg "reach_in" s_reach_in ["stairs", "h"]) : Callee P w K mg base "reach_in" 1 ["stairs", "h"] (spT K 2 m_reach_in) :=
  D.t (N := N_reach_in) sc_reach_in (by decide) fun f cdv A outer s H E hg hr =>
    (ss_cons (s_par2 (i := 2) (j := 3) (by rfl) sc_reach_in.nd (by rfl) (by rfl) (by decide) (by rfl) (by rfl) (pE_R (e_cst pe_int (fun _ => .int _))) (pE_R (e_slotE (pv 1))) (by rfl))
    (ss_cons (s_for (tg := (.tp [(.nm 4), (.nm 5)])) PassesOwn.never (by rfl) (i_seq (e_slotE (pv 0))) (pg_tup (by rfl) (pgs_cons (g_nm (i := 4) sc_reach_in.nd (by rfl) (Or.inl (by rfl))) (pgs_cons (g_nm (i := 5) sc_reach_in.nd (by rfl) (Or.inl (by rfl))) pgs_nil))) (ss_cons (s_aug (i := 2) ip_add sc_reach_in.nd (by rfl) (Or.inl (by rfl)) (pR_E (e_bin o_mul p_mul (e_slotP (pv 4)) (pE_P (pR_E (e_callB (call_min2 (by rfl)) p_min2 (by rfl) T.b_min bb_min (a_cons (e_slotP (pv 5)) (a_cons (e_slotP (pv 3)) a_nil))))))))
    (ss_one (s_aug (i := 3) ip_sub sc_reach_in.nd (by rfl) (Or.inl (by rfl)) (pR_E (e_callB (call_min2 (by rfl)) p_min2 (by rfl) T.b_min bb_min (a_cons (e_slotP (pv 5)) (a_cons (e_slotP (pv 3)) a_nil))))))))
    (ss_one (s_ret (e_take (pv 2))))))
abbrev s_step_in : Stmt := top 2
abbrev N_step_in : List Str := ["stairs", "h"]
theorem sc_step_in : FnScope N_step_in ["stairs", "h"] (defScope s_step_in) := ⟨rfl, rfl, rfl, by decide +kernel, rfl, by decide +kernel, by decide +kernel⟩
noncomputable abbrev b_step_in : Es := (retS (bin2 gSub2 (opOf (layOf (callT 2 m_reach_in (consA (slotF 0) (consA (slotF 1) nilA))))) (opOf (layOf (callT 2 m_reach_in (consA (slotF 0) (consA (opOf (layOf (bin2 gSub2 (slotP 1) (opOf (cstE (.int 1)))))) nilA)))))))
noncomputable def m_step_in := runT 2 b_step_in
theorem ok_step_in (T : Tops mg) (D : DefAt K mg "step_in" s_step_in ["stairs", "h"]) (C_reach_in : Callee P w K mg base "reach_in" 1 ["stairs", "h"] (spT K 2 m_reach_in)) : Callee P w K mg base "step_in" 2 ["stairs", "h"] (spT K 2 m_step_in) :=
  D.t (N := N_step_in) sc_step_in (by decide) fun f cdv A outer s H E hg hr =>
    (ss_one (s_ret (e_bin op_sub p_sub (pE_P (pR_E (e_fun C_reach_in hg hr (by decide) (by rfl) (a_cons (e_slotF (pv 0)) (a_cons (e_slotF (pv 1)) a_nil))))) (pE_P (pR_E (e_fun C_reach_in hg hr (by decide) (by rfl) (a_cons (e_slotF (pv 0)) (a_cons (pE_P (pR_E (e_bin op_sub p_sub (e_slotP (pv 1)) (pE_P (e_cst pe_int (fun _ => .int _)))))) a_nil))))))))
abbrev s_ends_of : Stmt := top 3
abbrev N_ends_of : List Str := ["stairs", "found", "here", "step", "times"]
theorem sc_ends_of : FnScope N_ends_of ["stairs"] (defScope s_ends_of) := ⟨rfl, rfl, rfl, by decide +kernel, rfl, by decide +kernel, by decide +kernel⟩
noncomputable abbrev b_ends_of : Es := (seqS (par2 1 2 (lstR nilA) (resOf (cstE (.int 0))))
    (seqS (forS (itSeq (slotE 0)) (.tp [(.nm 3), (.nm 4)]) (seqS (augS 2 (fun i j => i + j) (slotE 4))
    (appS 1 (slotE 2))))
    (retS (callN gTup (consA (slotP 1) nilA)))))
noncomputable def m_ends_of := runT 5 b_ends_of
theorem ok_ends_of (T : Tops mg) (D : DefAt K mg "ends_of" s_ends_of ["stairs"]) : Callee P w K mg base "ends_of" 1 ["stairs"] (spT K 1 m_ends_of) :=
  D.t (N := N_ends_of) sc_ends_of (by decide) fun f cdv A outer s H E hg hr =>
    (ss_cons (s_par2 (i := 1) (j := 2) (by rfl) sc_ends_of.nd (by rfl) (by rfl) (by decide) (by rfl) (by rfl) (e_lst a_nil) (pE_R (e_cst pe_int (fun _ => .int _))) (by rfl))
    (ss_cons (s_for (tg := (.tp [(.nm 3), (.nm 4)])) PassesOwn.never (by rfl) (i_seq (e_slotE (pv 0))) (pg_tup (by rfl) (pgs_cons (g_nm (i := 3) sc_ends_of.nd (by rfl) (Or.inl (by rfl))) (pgs_cons (g_nm (i := 4) sc_ends_of.nd (by rfl) (Or.inl (by rfl))) pgs_nil))) (ss_cons (s_aug (i := 2) ip_add sc_ends_of.nd (by rfl) (Or.inl (by rfl)) (e_slotE (pv 4)))
    (ss_one (s_app (pv 1) (e_slotE (pv 2))))))
    (ss_one (s_ret (e_callTy call_tuple_of p_tup (by rfl) T.b_tuple bb_tuple (a_cons (e_slotP (pv 1)) a_nil))))))
abbrev s_joined_runs : Stmt := top 4
abbrev N_joined_runs : List Str := ["runs", "found", "step", "times"]
theorem sc_joined_runs : FnScope N_joined_runs ["runs"] (defScope s_joined_runs) := ⟨rfl, rfl, rfl, by decide +kernel, rfl, by decide +kernel, by decide +kernel⟩
noncomputable abbrev b_joined_runs : Es := (seqS (asgS 1 (lstR nilA))
    (seqS (forS (itSeq (slotE 0)) (.tp [(.nm 2), (.nm 3)]) (ifS (andT (boolOf (bin2 (gCmp fun i j => decide (j < i)) (slotP 2) (opOf (cstE (.int 0))))) (boolOf (bin2 (gCmp fun i j => decide (j < i)) (slotP 3) (opOf (cstE (.int 0)))))) (ifS (andT (boolOf (bin2 gNe (slotP 1) (opOf (layOf (lstR nilA))))) (boolOf (bin2 gEq (opOf (layOf (bin2 gIx (opOf (layOf (bin2 gIx (slotP 1) (opOf (layOf (negR (cstE (.int 1)))))))) (opOf (cstE (.int 0)))))) (slotP 2)))) (setS 1 (layOf (negR (cstE (.int 1)))) (layOf (tupR (consA (opOf (slotE 2)) (consA (opOf (layOf (bin2 gAdd (opOf (layOf (bin2 gIx (opOf (layOf (bin2 gIx (slotP 1) (opOf (layOf (negR (cstE (.int 1)))))))) (opOf (cstE (.int 1)))))) (slotP 3)))) nilA))))) (appS 1 (layOf (tupR (consA (opOf (slotE 2)) (consA (opOf (slotE 3)) nilA)))))) nilS))
    (retS (callN gTup (consA (slotP 1) nilA)))))
noncomputable def m_joined_runs := runT 4 b_joined_runs
theorem ok_joined_runs (T : Tops mg) (D : DefAt K mg "joined_runs" s_joined_runs ["runs"]) : Callee P w K mg base "joined_runs" 1 ["runs"] (spT K 1 m_joined_runs) :=
  D.t (N := N_joined_runs) sc_joined_runs (by decide) fun f cdv A outer s H E hg hr =>
    (ss_cons (s_asg (i := 1) sc_joined_runs.nd (by rfl) (Or.inl (by rfl)) (e_lst a_nil))
    (ss_cons (s_for (tg := (.tp [(.nm 2), (.nm 3)])) PassesOwn.never (by rfl) (i_seq (e_slotE (pv 0))) (pg_tup (by rfl) (pgs_cons (g_nm (i := 2) sc_joined_runs.nd (by rfl) (Or.inl (by rfl))) (pgs_cons (g_nm (i := 3) sc_joined_runs.nd (by rfl) (Or.inl (by rfl))) pgs_nil))) (ss_one (s_if ((w_and (t_cmp op_gt p_cmp (nomark _) (e_slotP (pv 2)) (pE_P (e_cst pe_int (fun _ => .int _)))) (w_and1 (t_cmp op_gt p_cmp (nomark _) (e_slotP (pv 3)) (pE_P (e_cst pe_int (fun _ => .int _))))))).pt (ss_one (s_if ((w_and (t_cmp (op_neD hr.units) p_ne (nomark _) (e_slotP (pv 1)) (pE_P (pR_E (e_lst a_nil)))) (w_and1 (t_cmp (op_eqD hr.units) p_eq (nomark _) (pE_P (pR_E (e_ix ix_seq p_ix (pE_P (pR_E (e_ix ix_seq p_ix (e_slotP (pv 1)) (pE_P (pR_E (e_neg (e_cst pe_int (fun _ => .int _)))))))) (pE_P (e_cst pe_int (fun _ => .int _)))))) (e_slotP (pv 2)))))).pt (ss_one (s_set (ps_asg (pR_E (e_tup (a_cons (pE_P (e_slotE (pv 2))) (a_cons (pE_P (pR_E (e_bin o_add p_add (pE_P (pR_E (e_ix ix_seq p_ix (pE_P (pR_E (e_ix ix_seq p_ix (e_slotP (pv 1)) (pE_P (pR_E (e_neg (e_cst pe_int (fun _ => .int _)))))))) (pE_P (e_cst pe_int (fun _ => .int _)))))) (e_slotP (pv 3))))) a_nil)))) (pg_sub (pv 1) (pR_E (e_neg (e_cst pe_int (fun _ => .int _)))) set_list)))) (ss_one (s_app (pv 1) (pR_E (e_tup (a_cons (pE_P (e_slotE (pv 2))) (a_cons (pE_P (e_slotE (pv 3))) a_nil)))))))) ss_nil)))
    (ss_one (s_ret (e_callTy call_tuple_of p_tup (by rfl) T.b_tuple bb_tuple (a_cons (e_slotP (pv 1)) a_nil))))))
abbrev s_runs_behind : Stmt := top 5
abbrev N_runs_behind : List Str := ["stairs", "h", "found", "left", "step", "times"]
theorem sc_runs_behind : FnScope N_runs_behind ["stairs", "h"] (defScope s_runs_behind) := ⟨rfl, rfl, rfl, by decide +kernel, rfl, by decide +kernel, by decide +kernel⟩
noncomputable abbrev b_runs_behind : Es := (seqS (par2 2 3 (lstR nilA) (resOf (slotE 1)))
    (seqS (forS (itSeq (slotE 0)) (.tp [(.nm 4), (.nm 5)]) (seqS (appS 2 (layOf (tupR (consA (opOf (slotE 4)) (consA (opOf (layOf (bin2 gSub2 (slotP 5) (opOf (layOf (callN gMin2 (consA (slotP 5) (consA (slotP 3) nilA)))))))) nilA)))))
    (augS 3 (fun i j => i - j) (layOf (callN gMin2 (consA (slotP 5) (consA (slotP 3) nilA)))))))
    (retS (takeR 2))))
noncomputable def m_runs_behind := runT 6 b_runs_behind
theorem ok_runs_behind (T : Tops mg) (D : DefAt K mg "runs_behind" s_runs_behind ["stairs", "h"]) : Callee P w K mg base "runs_behind" 1 ["stairs", "h"] (spT K 2 m_runs_behind) :=
  D.t (N := N_runs_behind) sc_runs_behind (by decide) fun f cdv A outer s H E hg hr =>
    (ss_cons (s_par2 (i := 2) (j := 3) (by rfl) sc_runs_behind.nd (by rfl) (by rfl) (by decide) (by rfl) (by rfl) (e_lst a_nil) (pE_R (e_slotE (pv 1))) (by rfl))
    (ss_cons (s_for (tg := (.tp [(.nm 4), (.nm 5)])) PassesOwn.never (by rfl) (i_seq (e_slotE (pv 0))) (pg_tup (by rfl) (pgs_cons (g_nm (i := 4) sc_runs_behind.nd (by rfl) (Or.inl (by rfl))) (pgs_cons (g_nm (i := 5) sc_runs_behind.nd (by rfl) (Or.inl (by rfl))) pgs_nil))) (ss_cons (s_app (pv 2) (pR_E (e_tup (a_cons (pE_P (e_slotE (pv 4))) (a_cons (pE_P (pR_E (e_bin op_sub p_sub (e_slotP (pv 5)) (pE_P (pR_E (e_callB (call_min2 (by rfl)) p_min2 (by rfl) T.b_min bb_min (a_cons (e_slotP (pv 5)) (a_cons (e_slotP (pv 3)) a_nil)))))))) a_nil)))))
    (ss_one (s_aug (i := 3) ip_sub sc_runs_behind.nd (by rfl) (Or.inl (by rfl)) (pR_E (e_callB (call_min2 (by rfl)) p_min2 (by rfl) T.b_min bb_min (a_cons (e_slotP (pv 5)) (a_cons (e_slotP (pv 3)) a_nil))))))))
    (ss_one (s_ret (e_take (pv 2))))))
abbrev s_added : Stmt := top 6
abbrev N_added : List Str := ["rows", "ends", "row", "runs", "here", "end"]
theorem sc_added : FnScope N_added ["rows"] (defScope s_added) := ⟨rfl, rfl, rfl, by decide +kernel, rfl, by decide +kernel, by decide +kernel⟩
noncomputable abbrev b_added : Es := (seqS (asgS 1 (lstR nilA))
    (seqS (forS (itSeq (slotE 0)) (.nm 2) (extS 1 (layOf (callT 1 m_ends_of (consA (slotF 2) nilA)))))
    (seqS (par2 3 4 (lstR nilA) (resOf (cstE (.int 0))))
    (seqS (forS (itSeq (layOf (callN gSortA (consA (slotP 1) nilA)))) (.nm 5) (seqS (appS 3 (layOf (tupR (consA (opOf (layOf (callN gSum (consA (opOf (layOf (lcR (itSeq (slotE 0)) (.nm 2) yesT (layOf (callT 2 m_step_in (consA (slotF 2) (consA (opOf (layOf (bin2 gAdd (slotP 4) (opOf (cstE (.int 1)))))) nilA)))) [2]))) nilA)))) (consA (opOf (layOf (bin2 gSub2 (slotP 5) (slotP 4)))) nilA)))))
    (asgS 4 (resOf (slotE 5)))))
    (retS (callT 1 m_joined_runs (consA (slotF 3) nilA)))))))
noncomputable def m_added := runT 6 b_added
theorem ok_added (T : Tops mg) (D : DefAt K mg "added" s_added ["rows"]) (C_joined_runs : Callee P w K mg base "joined_runs" 1 ["runs"] (spT K 1 m_joined_runs)) (C_step_in : Callee P w K mg base "step_in" 2 ["stairs", "h"] (spT K 2 m_step_in)) (C_ends_of : Callee P w K mg base "ends_of" 1 ["stairs"] (spT K 1 m_ends_of)) : Callee P w K mg base "added" 3 ["rows"] (spT K 1 m_added) :=
  D.t (N := N_added) sc_added (by decide) fun f cdv A outer s H E hg hr =>
    (ss_cons (s_asg (i := 1) sc_added.nd (by rfl) (Or.inl (by rfl)) (e_lst a_nil))
    (ss_cons (s_for (tg := (.nm 2)) PassesOwn.never (by rfl) (i_seq (e_slotE (pv 0))) (g_nm (i := 2) sc_added.nd (by rfl) (Or.inl (by rfl))) (ss_one (s_ext (ps_expr (pe_bm PySem.F.plainAttrs_list PySem.F.slot_list_extend PySem.F.type_list_extend mt_ext (pv 1) (pa_cons (pR_E (e_fun C_ends_of hg hr (by decide) (by rfl) (a_cons (e_slotF (pv 2)) a_nil))) pa_nil))))))
    (ss_cons (s_unp2 (i := 3) (j := 4) (by decide) (ps_asg (pe_tup (pa_cons (e_lst a_nil) (pa_cons (pE_R (e_cst pe_int (fun _ => .int _))) pa_nil))) (pg_tup (by rfl) (pgs_cons (g_nm (i := 3) sc_added.nd (by rfl) (Or.inl (by rfl))) (pgs_cons (g_nm (i := 4) sc_added.nd (by rfl) (Or.inr (by rfl))) pgs_nil)))) ta_two)
    (ss_cons (s_for (tg := (.nm 5)) PassesOwn.never (by rfl) (i_seq (pR_E (e_callB cr_sortA p_sortA (by rfl) T.b_sorted bb_sorted (a_cons (e_slotP (pv 1)) a_nil)))) (g_nm (i := 5) sc_added.nd (by rfl) (Or.inl (by rfl))) (ss_cons (s_app (pv 3) (pR_E (e_tup (a_cons (pE_P (pR_E (e_callB (cr_sum (by rfl)) p_sum (by rfl) T.b_sum bb_sum (a_cons (pE_P (pR_E (e_lc (by rfl) sc_added.nd (own := [("row", 2)]) (tgt := (.nm 2)) (it := (itSeq (slotE 0))) (fc := yesT) (fe := (layOf (callT 2 m_step_in (consA (slotF 2) (consA (opOf (layOf (bin2 gAdd (slotP 4) (opOf (cstE (.int 1)))))) nilA))))) (i_seq (e_slotE (pv 0))) (blkOk_by (N := N_added) (sc := defScope s_added) (by decide +kernel)) (fun _ _ _ _ _ => (g_nm (i := 2) sc_added.nd (by rfl) (Or.inl (by rfl)))) (fun _ _ _ _ _ => ts_nil) (fun _ _ _ _ _ => (pR_E (e_fun C_step_in hg hr (by decide) (by rfl) (a_cons (e_slotF (pv 2)) (a_cons (pE_P (pR_E (e_bin o_add p_add (e_slotP (pv 4)) (pE_P (e_cst pe_int (fun _ => .int _)))))) a_nil)))))))) a_nil)))) (a_cons (pE_P (pR_E (e_bin op_sub p_sub (e_slotP (pv 5)) (e_slotP (pv 4))))) a_nil)))))
    (ss_one (s_asg (i := 4) sc_added.nd (by rfl) (Or.inr (by rfl)) (pE_R (e_slotE (pv 5)))))))
    (ss_one (s_ret (e_fun C_joined_runs hg hr (by decide) (by rfl) (a_cons (e_slotF (pv 3)) a_nil))))))))
abbrev s_hours_capped : Stmt := top 7
abbrev N_hours_capped : List Str := ["stairs", "cap", "here", "value", "step", "times"]
theorem sc_hours_capped : FnScope N_hours_capped ["stairs", "cap"] (defScope s_hours_capped) := ⟨rfl, rfl, rfl, by decide +kernel, rfl, by decide +kernel, by decide +kernel⟩
noncomputable abbrev b_hours_capped : Es := (seqS (unpS (.tp [(.nm 2), (.nm 3)]) (layOf (tupR (consA (opOf (cstE (.int 0))) (consA (opOf (cstE (.int 0))) nilA)))))
    (seqS (forS (itSeq (slotE 0)) (.tp [(.nm 4), (.nm 5)]) (seqS (ifS (andT (boolOf (bin2 (gCmp fun i j => decide (i < j)) (slotP 4) (slotP 1))) (boolOf (bin2 (gCmp fun i j => decide (i < j)) (opOf (layOf (bin2 gFdiv (opOf (layOf (bin2 gSub2 (slotP 3) (opOf (layOf (bin2 gMul (slotP 1) (slotP 2))))))) (opOf (layOf (bin2 gSub2 (slotP 1) (slotP 4))))))) (slotP 5)))) (retS (bin2 gAdd (slotP 2) (opOf (layOf (bin2 gFdiv (opOf (layOf (bin2 gSub2 (slotP 3) (opOf (layOf (bin2 gMul (slotP 1) (slotP 2))))))) (opOf (layOf (bin2 gSub2 (slotP 1) (slotP 4))))))))) nilS)
    (par2 2 3 (bin2 gAdd (slotP 2) (slotP 5)) (bin2 gAdd (slotP 3) (opOf (layOf (bin2 gMul (slotP 4) (slotP 5))))))))
    (retS (bin2 gFdiv (slotP 3) (slotP 1)))))
noncomputable def m_hours_capped := runT 6 b_hours_capped
theorem ok_hours_capped (T : Tops mg) (D : DefAt K mg "hours_capped" s_hours_capped ["stairs", "cap"]) : Callee P w K mg base "hours_capped" 1 ["stairs", "cap"] (spT K 2 m_hours_capped) :=
  D.t (N := N_hours_capped) sc_hours_capped (by decide) fun f cdv A outer s H E hg hr =>
    (ss_cons (s_unp (tg := (.tp [(.nm 2), (.nm 3)])) (f := (layOf (tupR (consA (opOf (cstE (.int 0))) (consA (opOf (cstE (.int 0))) nilA))))) (ps_asg (pR_E (e_tup (a_cons (pE_P (e_cst pe_int (fun _ => .int _))) (a_cons (pE_P (e_cst pe_int (fun _ => .int _))) a_nil)))) (pg_tup (by rfl) (pgs_cons (g_nm (i := 2) sc_hours_capped.nd (by rfl) (Or.inl (by rfl))) (pgs_cons (g_nm (i := 3) sc_hours_capped.nd (by rfl) (Or.inl (by rfl))) pgs_nil)))))
    (ss_cons (s_for (tg := (.tp [(.nm 4), (.nm 5)])) PassesOwn.never (by rfl) (i_seq (e_slotE (pv 0))) (pg_tup (by rfl) (pgs_cons (g_nm (i := 4) sc_hours_capped.nd (by rfl) (Or.inl (by rfl))) (pgs_cons (g_nm (i := 5) sc_hours_capped.nd (by rfl) (Or.inl (by rfl))) pgs_nil))) (ss_cons (s_if ((w_and (t_cmp op_lt p_cmp (nomark _) (e_slotP (pv 4)) (e_slotP (pv 1))) (w_and1 (t_cmp op_lt p_cmp (nomark _) (pE_P (pR_E (e_bin op_fdivW p_fdiv (pE_P (pR_E (e_bin op_sub p_sub (e_slotP (pv 3)) (pE_P (pR_E (e_bin o_mul p_mul (e_slotP (pv 1)) (e_slotP (pv 2)))))))) (pE_P (pR_E (e_bin op_sub p_sub (e_slotP (pv 1)) (e_slotP (pv 4)))))))) (e_slotP (pv 5)))))).pt (ss_one (s_ret (e_bin o_add p_add (e_slotP (pv 2)) (pE_P (pR_E (e_bin op_fdivW p_fdiv (pE_P (pR_E (e_bin op_sub p_sub (e_slotP (pv 3)) (pE_P (pR_E (e_bin o_mul p_mul (e_slotP (pv 1)) (e_slotP (pv 2)))))))) (pE_P (pR_E (e_bin op_sub p_sub (e_slotP (pv 1)) (e_slotP (pv 4))))))))))) ss_nil)
    (ss_one (s_par2 (i := 2) (j := 3) (by rfl) sc_hours_capped.nd (by rfl) (by rfl) (by decide) (by rfl) (by rfl) (e_bin o_add p_add (e_slotP (pv 2)) (e_slotP (pv 5))) (e_bin o_add p_add (e_slotP (pv 3)) (pE_P (pR_E (e_bin o_mul p_mul (e_slotP (pv 4)) (e_slotP (pv 5)))))) (by rfl)))))
    (ss_one (s_ret (e_bin op_fdivW p_fdiv (e_slotP (pv 3)) (e_slotP (pv 1)))))))
abbrev s_capped : Stmt := top 8
abbrev N_capped : List Str := ["stairs", "cap", "h", "middle"]
theorem sc_capped : FnScope N_capped ["stairs", "cap"] (defScope s_capped) := ⟨rfl, rfl, rfl, by decide +kernel, rfl, by decide +kernel, by decide +kernel⟩
noncomputable abbrev b_capped : Es := (seqS (ifS (boolOf (bin2 gEq (slotP 1) (opOf (cstE (.int 0))))) (retS (tupR nilA)) nilS)
    (seqS (asgS 2 (callT 2 m_hours_capped (consA (slotF 0) (consA (slotF 1) nilA))))
    (seqS (asgS 3 (bin2 gSub2 (opOf (layOf (callT 2 m_reach_in (consA (slotF 0) (consA (opOf (layOf (bin2 gAdd (slotP 2) (opOf (cstE (.int 1)))))) nilA))))) (opOf (layOf (bin2 gMul (slotP 1) (slotP 2))))))
    (retS (callT 1 m_joined_runs (consA (opOf (layOf (bin2 gAdd (opOf (layOf (lstR (consA (opOf (layOf (tupR (consA (opOf (slotE 1)) (consA (opOf (slotE 2)) nilA))))) (consA (opOf (layOf (tupR (consA (opOf (slotE 3)) (consA (opOf (cstE (.int 1))) nilA))))) nilA))))) (opOf (layOf (callT 2 m_runs_behind (consA (slotF 0) (consA (opOf (layOf (bin2 gAdd (slotP 2) (opOf (cstE (.int 1)))))) nilA)))))))) nilA))))))
noncomputable def m_capped := runT 4 b_capped
theorem ok_capped (T : Tops mg) (D : DefAt K mg "capped" s_capped ["stairs", "cap"]) (C_joined_runs : Callee P w K mg base "joined_runs" 1 ["runs"] (spT K 1 m_joined_runs)) (C_runs_behind : Callee P w K mg base "runs_behind" 1 ["stairs", "h"] (spT K 2 m_runs_behind)) (C_reach_in : Callee P w K mg base "reach_in" 1 ["stairs", "h"] (spT K 2 m_reach_in)) (C_hours_capped : Callee P w K mg base "hours_capped" 1 ["stairs", "cap"] (spT K 2 m_hours_capped)) : Callee P w K mg base "capped" 2 ["stairs", "cap"] (spT K 2 m_capped) :=
  D.t (N := N_capped) sc_capped (by decide) fun f cdv A outer s H E hg hr =>
    (ss_cons (s_if (t_cmp (op_eqD hr.units) p_eq (nomark _) (e_slotP (pv 1)) (pE_P (e_cst pe_int (fun _ => .int _)))) (ss_one (s_ret (e_tup a_nil))) ss_nil)
    (ss_cons (s_asg (i := 2) sc_capped.nd (by rfl) (Or.inl (by rfl)) (e_fun C_hours_capped hg hr (by decide) (by rfl) (a_cons (e_slotF (pv 0)) (a_cons (e_slotF (pv 1)) a_nil))))
    (ss_cons (s_asg (i := 3) sc_capped.nd (by rfl) (Or.inl (by rfl)) (e_bin op_sub p_sub (pE_P (pR_E (e_fun C_reach_in hg hr (by decide) (by rfl) (a_cons (e_slotF (pv 0)) (a_cons (pE_P (pR_E (e_bin o_add p_add (e_slotP (pv 2)) (pE_P (e_cst pe_int (fun _ => .int _)))))) a_nil))))) (pE_P (pR_E (e_bin o_mul p_mul (e_slotP (pv 1)) (e_slotP (pv 2)))))))
    (ss_one (s_ret (e_fun C_joined_runs hg hr (by decide) (by rfl) (a_cons (pE_P (pR_E (e_bin o_add p_add (pE_P (pR_E (e_lst (a_cons (pE_P (pR_E (e_tup (a_cons (pE_P (e_slotE (pv 1))) (a_cons (pE_P (e_slotE (pv 2))) a_nil))))) (a_cons (pE_P (pR_E (e_tup (a_cons (pE_P (e_slotE (pv 3))) (a_cons (pE_P (e_cst pe_int (fun _ => .int _))) a_nil))))) a_nil))))) (pE_P (pR_E (e_fun C_runs_behind hg hr (by decide) (by rfl) (a_cons (e_slotF (pv 0)) (a_cons (pE_P (pR_E (e_bin o_add p_add (e_slotP (pv 2)) (pE_P (e_cst pe_int (fun _ => .int _)))))) a_nil)))))))) a_nil)))))))
abbrev s_first_unlike : Stmt := top 9
abbrev N_first_unlike : List Str := ["one", "other", "here", "end"]
theorem sc_first_unlike : FnScope N_first_unlike ["one", "other"] (defScope s_first_unlike) := ⟨rfl, rfl, rfl, by decide +kernel, rfl, by decide +kernel, by decide +kernel⟩
noncomputable abbrev b_first_unlike : Es := (seqS (asgS 2 (resOf (cstE (.int 0))))
    (seqS (forS (itSeq (layOf (callN gSetSortedT (consA (opOf (layOf (bin2 gAdd (opOf (layOf (callT 1 m_ends_of (consA (slotF 0) nilA)))) (opOf (layOf (callT 1 m_ends_of (consA (slotF 1) nilA))))))) nilA)))) (.nm 3) (seqS (ifS (boolOf (bin2 gNe (opOf (layOf (callT 2 m_step_in (consA (slotF 0) (consA (opOf (layOf (bin2 gAdd (slotP 2) (opOf (cstE (.int 1)))))) nilA))))) (opOf (layOf (callT 2 m_step_in (consA (slotF 1) (consA (opOf (layOf (bin2 gAdd (slotP 2) (opOf (cstE (.int 1)))))) nilA))))))) (retS (bin2 gAdd (slotP 2) (opOf (cstE (.int 1))))) nilS)
    (asgS 2 (resOf (slotE 3)))))
    (retS (resOf (cstE .none)))))
noncomputable def m_first_unlike := runT 4 b_first_unlike
theorem ok_first_unlike (T : Tops mg) (D : DefAt K mg "first_unlike" s_first_unlike ["one", "other"]) (C_ends_of : Callee P w K mg base "ends_of" 1 ["stairs"] (spT K 1 m_ends_of)) (C_step_in : Callee P w K mg base "step_in" 2 ["stairs", "h"] (spT K 2 m_step_in)) : Callee P w K mg base "first_unlike" 3 ["one", "other"] (spT K 2 m_first_unlike) :=
  D.t (N := N_first_unlike) sc_first_unlike (by decide) fun f cdv A outer s H E hg hr =>
    (ss_cons (s_asg (i := 2) sc_first_unlike.nd (by rfl) (Or.inl (by rfl)) (pE_R (e_cst pe_int (fun _ => .int _))))
    (ss_cons (s_for (tg := (.nm 3)) PassesOwn.never (by rfl) (i_seq (pR_E (e_setSortedT (pe_callB (cr_sortedSet (by rfl)) (by rfl) T.b_sorted bb_sorted (pa_cons (pe_callTy (cr_setT (by rfl)) (by rfl) T.b_set bb_set (a_cons (pE_P (pR_E (e_bin o_add p_add (pE_P (pR_E (e_fun C_ends_of hg hr (by decide) (by rfl) (a_cons (e_slotF (pv 0)) a_nil)))) (pE_P (pR_E (e_fun C_ends_of hg hr (by decide) (by rfl) (a_cons (e_slotF (pv 1)) a_nil))))))) a_nil)) pa_nil))))) (g_nm (i := 3) sc_first_unlike.nd (by rfl) (Or.inl (by rfl))) (ss_cons (s_if (t_cmp (op_neD hr.units) p_ne (nomark _) (pE_P (pR_E (e_fun C_step_in hg hr (by decide) (by rfl) (a_cons (e_slotF (pv 0)) (a_cons (pE_P (pR_E (e_bin o_add p_add (e_slotP (pv 2)) (pE_P (e_cst pe_int (fun _ => .int _)))))) a_nil))))) (pE_P (pR_E (e_fun C_step_in hg hr (by decide) (by rfl) (a_cons (e_slotF (pv 1)) (a_cons (pE_P (pR_E (e_bin o_add p_add (e_slotP (pv 2)) (pE_P (e_cst pe_int (fun _ => .int _)))))) a_nil)))))) (ss_one (s_ret (e_bin o_add p_add (e_slotP (pv 2)) (pE_P (e_cst pe_int (fun _ => .int _)))))) ss_nil)
    (ss_one (s_asg (i := 2) sc_first_unlike.nd (by rfl) (Or.inl (by rfl)) (pE_R (e_slotE (pv 3)))))))
    (ss_one (s_ret (pE_R (e_cst pe_non (fun _ => .non)))))))
abbrev s_law_bag : Stmt := top 11
abbrev N_law_bag : List Str := ["script", "cell"]
theorem sc_law_bag : FnScope N_law_bag ["script"] (defScope s_law_bag) := ⟨rfl, rfl, rfl, by decide +kernel, rfl, by decide +kernel, by decide +kernel⟩
noncomputable abbrev b_law_bag : Es := (retS (lstR (consA (opOf (cstE (.int 0))) (consA (opOf (cstE (.int 1234567891))) (consA (opOf (cstE (.int 0))) (consA (opOf (layOf (lcR (itSeq (layOf (slS (slotP 0) (boundO none) (boundO (some (cstE (.int 63))))))) (.nm 1) yesT (layOf (callN gAbs (consA (slotP 1) nilA))) [1]))) nilA))))))
noncomputable def m_law_bag := runT 2 b_law_bag
theorem ok_law_bag (T : Tops mg) (D : DefAt K mg "_law_bag" s_law_bag ["script"]) : Callee P w K mg base "_law_bag" 1 ["script"] (spT K 1 m_law_bag) :=
  D.t (N := N_law_bag) sc_law_bag (by decide) fun f cdv A outer s H E hg hr =>
    (ss_one (s_ret (e_lst (a_cons (pE_P (e_cst pe_int (fun _ => .int _))) (a_cons (pE_P (e_cst pe_int (fun _ => .int _))) (a_cons (pE_P (e_cst pe_int (fun _ => .int _))) (a_cons (pE_P (pR_E (e_lc (by rfl) sc_law_bag.nd (own := [("cell", 1)]) (tgt := (.nm 1)) (it := (itSeq (layOf (slS (slotP 0) (boundO none) (boundO (some (cstE (.int 63)))))))) (fc := yesT) (fe := (layOf (callN gAbs (consA (slotP 1) nilA)))) (i_seq (pR_E (e_sliceS (e_slotP (pv 0)) o_none (o_some (e_cst pe_int (fun _ => .int _)))))) (blkOk_by (N := N_law_bag) (sc := defScope s_law_bag) (by decide +kernel)) (fun _ _ _ _ _ => (g_nm (i := 1) sc_law_bag.nd (by rfl) (Or.inl (by rfl)))) (fun _ _ _ _ _ => ts_nil) (fun _ _ _ _ _ => (pR_E (e_callB call_abs p_abs (by rfl) T.b_abs bb_abs (a_cons (e_slotP (pv 1)) a_nil))))))) a_nil)))))))
abbrev s_law_take : Stmt := top 12
abbrev N_law_take : List Str := ["bag", "many", "cell", "stirred", "value", "begin", "second"]
theorem sc_law_take : FnScope N_law_take ["bag", "many"] (defScope s_law_take) := ⟨rfl, rfl, rfl, by decide +kernel, rfl, by decide +kernel, by decide +kernel⟩
noncomputable abbrev b_law_take : Es := (seqS (ifS (boolOf (bin2 gEq (opOf (layOf (bin2 gIx (slotP 0) (opOf (cstE (.int 0)))))) (opOf (cstE (.int 0))))) (seqS (asgS 2 (bin2 gIx (opOf (layOf (bin2 gAdd (opOf (layOf (sl3 gSl (opOf (layOf (bin2 gIx (slotP 0) (opOf (cstE (.int 3)))))) (boundO (some (layOf (bin2 gIx (slotP 0) (opOf (cstE (.int 2))))))) (boundO none)))) (opOf (layOf (lstR (consA (opOf (cstE (.int 0))) nilA))))))) (opOf (cstE (.int 0)))))
    (seqS (augxS 0 (fun i j => i + j) (cstE (.int 2)) (cstE (.int 1)))
    (seqS (ifS (boolOf (bin2 (gCmp fun i j => decide (j ≤ i)) (slotP 2) (opOf (layOf (bin2 gPow (opOf (cstE (.int 10))) (opOf (cstE (.int 18)))))))) (setS 0 (cstE (.int 0)) (slotE 2)) nilS)
    (seqS (asgS 3 (bin2 gAdd (opOf (layOf (bin2 gAdd (opOf (layOf (bin2 gMul (opOf (layOf (bin2 gIx (slotP 0) (opOf (cstE (.int 1)))))) (opOf (cstE (.int 48271)))))) (opOf (layOf (bin2 gMod (opOf (layOf (callN gInt (consA (slotP 2) nilA)))) (opOf (cstE (.int 2147483647))))))))) (opOf (layOf (bin2 gMul (opOf (cstE (.int 7919))) (opOf (layOf (bin2 gIx (slotP 0) (opOf (cstE (.int 2)))))))))))
    (setS 0 (cstE (.int 1)) (layOf (bin2 gMod (opOf (layOf (callN gInt (consA (slotP 3) nilA)))) (opOf (cstE (.int 2147483647)))))))))) nilS)
    (seqS (ifS (boolOf (bin2 (gCmp fun i j => decide (j < i)) (opOf (layOf (bin2 gIx (slotP 0) (opOf (cstE (.int 0)))))) (opOf (cstE (.int 0))))) (seqS (asgS 4 (bin2 gMod (opOf (layOf (callN gInt (consA (opOf (layOf (bin2 gIx (slotP 0) (opOf (cstE (.int 0)))))) nilA)))) (slotP 1)))
    (seqS (setS 0 (cstE (.int 0)) (layOf (bin2 gFdiv (opOf (layOf (callN gInt (consA (opOf (layOf (bin2 gIx (slotP 0) (opOf (cstE (.int 0)))))) nilA)))) (slotP 1))))
    (retS (takeR 4)))) nilS)
    (seqS (asgS 5 (bin2 gMod (opOf (layOf (callN gInt (consA (opOf (layOf (bin2 gMul (opOf (layOf (bin2 gAdd (opOf (layOf (bin2 gIx (slotP 0) (opOf (cstE (.int 1)))))) (opOf (cstE (.int 1)))))) (opOf (cstE (.int 39373)))))) nilA)))) (opOf (cstE (.int 1000000007)))))
    (seqS (asgS 6 (bin2 gMod (opOf (layOf (callN gInt (consA (opOf (layOf (bin2 gMul (opOf (layOf (bin2 gMod (opOf (layOf (callN gInt (consA (opOf (layOf (bin2 gMul (slotP 5) (slotP 5)))) nilA)))) (opOf (cstE (.int 998244353)))))) (opOf (cstE (.int 30011)))))) nilA)))) (opOf (cstE (.int 998244353)))))
    (retS (bin2 gMod (opOf (layOf (callN gInt (consA (opOf (layOf (bin2 gFdiv (slotP 6) (opOf (cstE (.int 7)))))) nilA)))) (slotP 1)))))))
noncomputable def m_law_take := runU 7 b_law_take
theorem ok_law_take (T : Tops mg) (D : DefAt K mg "_law_take" s_law_take ["bag", "many"]) : Callee P w K mg base "_law_take" 1 ["bag", "many"] (spU K 2 m_law_take) :=
  D.u (N := N_law_take) sc_law_take (by decide) fun f cdv A outer s H E hg hr =>
    (ss_cons (s_if (t_cmp (op_eqD hr.units) p_eq (nomark _) (pE_P (pR_E (e_ix ix_seq p_ix (e_slotP (pv 0)) (pE_P (e_cst pe_int (fun _ => .int _)))))) (pE_P (e_cst pe_int (fun _ => .int _)))) (ss_cons (s_asg (i := 2) sc_law_take.nd (by rfl) (Or.inl (by rfl)) (e_ix ix_seq p_ix (pE_P (pR_E (e_bin o_add p_add (pE_P (pR_E (e_slice sl_list p_sl (pE_P (pR_E (e_ix ix_seq p_ix (e_slotP (pv 0)) (pE_P (e_cst pe_int (fun _ => .int _)))))) (o_some (pR_E (e_ix ix_seq p_ix (e_slotP (pv 0)) (pE_P (e_cst pe_int (fun _ => .int _)))))) o_none))) (pE_P (pR_E (e_lst (a_cons (pE_P (e_cst pe_int (fun _ => .int _))) a_nil))))))) (pE_P (e_cst pe_int (fun _ => .int _)))))
    (ss_cons (s_augx ip_add (pv 0) (e_cst pe_int (fun _ => .int _)) (e_cst pe_int (fun _ => .int _)))
    (ss_cons (s_if (t_cmp op_ge p_cmp (nomark _) (e_slotP (pv 2)) (pE_P (pR_E (e_bin op_pow p_pow (pE_P (e_cst pe_int (fun _ => .int _))) (pE_P (e_cst pe_int (fun _ => .int _))))))) (ss_one (s_set (ps_asg (e_slotE (pv 2)) (pg_sub (pv 0) (e_cst pe_int (fun _ => .int _)) set_list)))) ss_nil)
    (ss_cons (s_asg (i := 3) sc_law_take.nd (by rfl) (Or.inl (by rfl)) (e_bin o_add p_add (pE_P (pR_E (e_bin o_add p_add (pE_P (pR_E (e_bin o_mul p_mul (pE_P (pR_E (e_ix ix_seq p_ix (e_slotP (pv 0)) (pE_P (e_cst pe_int (fun _ => .int _)))))) (pE_P (e_cst pe_int (fun _ => .int _)))))) (pE_P (pR_E (e_bin op_mod p_mod (pE_P (pR_E (e_callTy call_int1 p_int (by rfl) T.b_int bb_int (a_cons (e_slotP (pv 2)) a_nil)))) (pE_P (e_cst pe_int (fun _ => .int _))))))))) (pE_P (pR_E (e_bin o_mul p_mul (pE_P (e_cst pe_int (fun _ => .int _))) (pE_P (pR_E (e_ix ix_seq p_ix (e_slotP (pv 0)) (pE_P (e_cst pe_int (fun _ => .int _)))))))))))
    (ss_one (s_set (ps_asg (pR_E (e_bin op_mod p_mod (pE_P (pR_E (e_callTy call_int1 p_int (by rfl) T.b_int bb_int (a_cons (e_slotP (pv 3)) a_nil)))) (pE_P (e_cst pe_int (fun _ => .int _))))) (pg_sub (pv 0) (e_cst pe_int (fun _ => .int _)) set_list)))))))) ss_nil)
    (ss_cons (s_if (t_cmp op_gt p_cmp (nomark _) (pE_P (pR_E (e_ix ix_seq p_ix (e_slotP (pv 0)) (pE_P (e_cst pe_int (fun _ => .int _)))))) (pE_P (e_cst pe_int (fun _ => .int _)))) (ss_cons (s_asg (i := 4) sc_law_take.nd (by rfl) (Or.inl (by rfl)) (e_bin op_mod p_mod (pE_P (pR_E (e_callTy call_int1 p_int (by rfl) T.b_int bb_int (a_cons (pE_P (pR_E (e_ix ix_seq p_ix (e_slotP (pv 0)) (pE_P (e_cst pe_int (fun _ => .int _)))))) a_nil)))) (e_slotP (pv 1))))
    (ss_cons (s_set (ps_asg (pR_E (e_bin op_fdivW p_fdiv (pE_P (pR_E (e_callTy call_int1 p_int (by rfl) T.b_int bb_int (a_cons (pE_P (pR_E (e_ix ix_seq p_ix (e_slotP (pv 0)) (pE_P (e_cst pe_int (fun _ => .int _)))))) a_nil)))) (e_slotP (pv 1)))) (pg_sub (pv 0) (e_cst pe_int (fun _ => .int _)) set_list)))
    (ss_one (s_ret (e_take (pv 4)))))) ss_nil)
    (ss_cons (s_asg (i := 5) sc_law_take.nd (by rfl) (Or.inl (by rfl)) (e_bin op_mod p_mod (pE_P (pR_E (e_callTy call_int1 p_int (by rfl) T.b_int bb_int (a_cons (pE_P (pR_E (e_bin o_mul p_mul (pE_P (pR_E (e_bin o_add p_add (pE_P (pR_E (e_ix ix_seq p_ix (e_slotP (pv 0)) (pE_P (e_cst pe_int (fun _ => .int _)))))) (pE_P (e_cst pe_int (fun _ => .int _)))))) (pE_P (e_cst pe_int (fun _ => .int _)))))) a_nil)))) (pE_P (e_cst pe_int (fun _ => .int _)))))
    (ss_cons (s_asg (i := 6) sc_law_take.nd (by rfl) (Or.inl (by rfl)) (e_bin op_mod p_mod (pE_P (pR_E (e_callTy call_int1 p_int (by rfl) T.b_int bb_int (a_cons (pE_P (pR_E (e_bin o_mul p_mul (pE_P (pR_E (e_bin op_mod p_mod (pE_P (pR_E (e_callTy call_int1 p_int (by rfl) T.b_int bb_int (a_cons (pE_P (pR_E (e_bin o_mul p_mul (e_slotP (pv 5)) (e_slotP (pv 5))))) a_nil)))) (pE_P (e_cst pe_int (fun _ => .int _)))))) (pE_P (e_cst pe_int (fun _ => .int _)))))) a_nil)))) (pE_P (e_cst pe_int (fun _ => .int _)))))
    (ss_one (s_ret (e_bin op_mod p_mod (pE_P (pR_E (e_callTy call_int1 p_int (by rfl) T.b_int bb_int (a_cons (pE_P (pR_E (e_bin op_fdivW p_fdiv (e_slotP (pv 6)) (pE_P (e_cst pe_int (fun _ => .int _)))))) a_nil)))) (e_slotP (pv 1)))))))))
abbrev s_law_some : Stmt := top 13
abbrev N_law_some : List Str := ["bag", "things"]
theorem sc_law_some : FnScope N_law_some ["bag", "things"] (defScope s_law_some) := ⟨rfl, rfl, rfl, by decide +kernel, rfl, by decide +kernel, by decide +kernel⟩
noncomputable abbrev b_law_some : Es := (retS (bin2 gIx (slotP 1) (opOf (layOf (callU 2 m_law_take (consA (slotP 0) (consA (opOf (layOf (callN gLen (consA (slotP 1) nilA)))) nilA)))))))
noncomputable def m_law_some := runU 2 b_law_some
theorem ok_law_some (T : Tops mg) (D : DefAt K mg "_law_some" s_law_some ["bag", "things"]) (C_law_take : Callee P w K mg base "_law_take" 1 ["bag", "many"] (spU K 2 m_law_take)) : Callee P w K mg base "_law_some" 2 ["bag", "things"] (spU K 2 m_law_some) :=
  D.u (N := N_law_some) sc_law_some (by decide) fun f cdv A outer s H E hg hr =>
    (ss_one (s_ret (e_ix ix_seq p_ix (e_slotP (pv 1)) (pE_P (pR_E (e_funU C_law_take hg hr (by decide) (by rfl) (a_cons (e_slotP (pv 0)) (a_cons (pE_P (pR_E (e_callB c_len p_len (by rfl) T.b_len bb_len (a_cons (e_slotP (pv 1)) a_nil)))) a_nil))))))))
abbrev s_law_alike : Stmt := top 14
abbrev N_law_alike : List Str := ["found", "due"]
theorem sc_law_alike : FnScope N_law_alike ["found", "due"] (defScope s_law_alike) := ⟨rfl, rfl, rfl, by decide +kernel, rfl, by decide +kernel, by decide +kernel⟩
noncomputable abbrev b_law_alike : Es := (retS (andV (bin2 gEq (slotP 0) (slotP 1)) (bin2 gEq (opOf (layOf (callN gRepr (consA (slotP 0) nilA)))) (opOf (layOf (callN gRepr (consA (slotP 1) nilA)))))))
noncomputable def m_law_alike := runT 2 b_law_alike
theorem ok_law_alike (T : Tops mg) (D : DefAt K mg "_law_alike" s_law_alike ["found", "due"]) : Callee P w K mg base "_law_alike" 1 ["found", "due"] (spT K 2 m_law_alike) :=
  D.t (N := N_law_alike) sc_law_alike (by decide) fun f cdv A outer s H E hg hr =>
    (ss_one (s_ret (e_and (e_cmp (op_eqD hr.units) p_eq (nomark _) (e_slotP (pv 0)) (e_slotP (pv 1))) (e_one (e_cmp (op_eqD hr.units) p_eq (nomark _) (pE_P (pR_E (e_callB (c_repr hg hr.units) p_repr (by rfl) T.b_repr bb_repr (a_cons (e_slotP (pv 0)) a_nil)))) (pE_P (pR_E (e_callB (c_repr hg hr.units) p_repr (by rfl) T.b_repr bb_repr (a_cons (e_slotP (pv 1)) a_nil)))))))))
abbrev s_law_run : Stmt := top 15
abbrev N_law_run : List Str := ["found", "step", "many"]
theorem sc_law_run : FnScope N_law_run ["found", "step", "many"] (defScope s_law_run) := ⟨rfl, rfl, rfl, by decide +kernel, rfl, by decide +kernel, by decide +kernel⟩
noncomputable abbrev b_law_run : Es := (seqS (ifS (andT (boolOf (bin2 gNe (slotP 0) (opOf (layOf (lstR nilA))))) (boolOf (bin2 gEq (opOf (layOf (bin2 gIx (opOf (layOf (bin2 gIx (slotP 0) (opOf (layOf (negR (cstE (.int 1)))))))) (opOf (cstE (.int 0)))))) (slotP 1)))) (retS (bin2 gAdd (opOf (layOf (sl3 gSlA (slotP 0) (boundO none) (boundO (some (layOf (negR (cstE (.int 1))))))))) (opOf (layOf (lstR (consA (opOf (layOf (tupR (consA (opOf (slotE 1)) (consA (opOf (layOf (bin2 gAdd (opOf (layOf (bin2 gIx (opOf (layOf (bin2 gIx (slotP 0) (opOf (layOf (negR (cstE (.int 1)))))))) (opOf (cstE (.int 1)))))) (slotP 2)))) nilA))))) nilA)))))) nilS)
    (retS (bin2 gAdd (slotP 0) (opOf (layOf (lstR (consA (opOf (layOf (tupR (consA (opOf (slotE 1)) (consA (opOf (slotE 2)) nilA))))) nilA)))))))
noncomputable def m_law_run := runT 3 b_law_run
theorem ok_law_run (T : Tops mg) (D : DefAt K mg "_law_run" s_law_run ["found", "step", "many"]) : Callee P w K mg base "_law_run" 1 ["found", "step", "many"] (spT K 3 m_law_run) :=
  D.t (N := N_law_run) sc_law_run (by decide) fun f cdv A outer s H E hg hr =>
    (ss_cons (s_if ((w_and (t_cmp (op_neD hr.units) p_ne (nomark _) (e_slotP (pv 0)) (pE_P (pR_E (e_lst a_nil)))) (w_and1 (t_cmp (op_eqD hr.units) p_eq (nomark _) (pE_P (pR_E (e_ix ix_seq p_ix (pE_P (pR_E (e_ix ix_seq p_ix (e_slotP (pv 0)) (pE_P (pR_E (e_neg (e_cst pe_int (fun _ => .int _)))))))) (pE_P (e_cst pe_int (fun _ => .int _)))))) (e_slotP (pv 1)))))).pt (ss_one (s_ret (e_bin o_add p_add (pE_P (pR_E (e_slice sl_all p_slA (e_slotP (pv 0)) o_none (o_some (pR_E (e_neg (e_cst pe_int (fun _ => .int _)))))))) (pE_P (pR_E (e_lst (a_cons (pE_P (pR_E (e_tup (a_cons (pE_P (e_slotE (pv 1))) (a_cons (pE_P (pR_E (e_bin o_add p_add (pE_P (pR_E (e_ix ix_seq p_ix (pE_P (pR_E (e_ix ix_seq p_ix (e_slotP (pv 0)) (pE_P (pR_E (e_neg (e_cst pe_int (fun _ => .int _)))))))) (pE_P (e_cst pe_int (fun _ => .int _)))))) (e_slotP (pv 2))))) a_nil))))) a_nil))))))) ss_nil)
    (ss_one (s_ret (e_bin o_add p_add (e_slotP (pv 0)) (pE_P (pR_E (e_lst (a_cons (pE_P (pR_E (e_tup (a_cons (pE_P (e_slotE (pv 1))) (a_cons (pE_P (e_slotE (pv 2))) a_nil))))) a_nil))))))))
abbrev s_law_row_reach : Stmt := top 16
abbrev N_law_row_reach : List Str := ["row", "hours", "total", "step", "many"]
theorem sc_law_row_reach : FnScope N_law_row_reach ["row", "hours"] (defScope s_law_row_reach) := ⟨rfl, rfl, rfl, by decide +kernel, rfl, by decide +kernel, by decide +kernel⟩
noncomputable abbrev b_law_row_reach : Es := (seqS (asgS 2 (resOf (cstE (.int 0))))
    (seqS (forS (itSeq (slotE 0)) (.tp [(.nm 3), (.nm 4)]) (seqS (augS 2 (fun i j => i + j) (layOf (bin2 gMul (slotP 3) (opOf (layOf (callN gMin2 (consA (slotP 4) (consA (opOf (layOf (callN gMax2 (consA (opOf (cstE (.int 0))) (consA (slotP 1) nilA))))) nilA))))))))
    (augS 1 (fun i j => i - j) (slotE 4))))
    (retS (takeR 2))))
noncomputable def m_law_row_reach := runT 5 b_law_row_reach
theorem ok_law_row_reach (T : Tops mg) (D : DefAt K mg "_law_row_reach" s_law_row_reach ["row", "hours"]) : Callee P w K mg base "_law_row_reach" 1 ["row", "hours"] (spT K 2 m_law_row_reach) :=
  D.t (N := N_law_row_reach) sc_law_row_reach (by decide) fun f cdv A outer s H E hg hr =>
    (ss_cons (s_asg (i := 2) sc_law_row_reach.nd (by rfl) (Or.inl (by rfl)) (pE_R (e_cst pe_int (fun _ => .int _))))
    (ss_cons (s_for (tg := (.tp [(.nm 3), (.nm 4)])) PassesOwn.never (by rfl) (i_seq (e_slotE (pv 0))) (pg_tup (by rfl) (pgs_cons (g_nm (i := 3) sc_law_row_reach.nd (by rfl) (Or.inl (by rfl))) (pgs_cons (g_nm (i := 4) sc_law_row_reach.nd (by rfl) (Or.inl (by rfl))) pgs_nil))) (ss_cons (s_aug (i := 2) ip_add sc_law_row_reach.nd (by rfl) (Or.inl (by rfl)) (pR_E (e_bin o_mul p_mul (e_slotP (pv 3)) (pE_P (pR_E (e_callB (call_min2 (by rfl)) p_min2 (by rfl) T.b_min bb_min (a_cons (e_slotP (pv 4)) (a_cons (pE_P (pR_E (e_callB (call_max2 (by rfl)) p_max2 (by rfl) T.b_max bb_max (a_cons (pE_P (e_cst pe_int (fun _ => .int _))) (a_cons (e_slotP (pv 1)) a_nil))))) a_nil))))))))
    (ss_one (s_aug (i := 1) ip_sub sc_law_row_reach.nd (by rfl) (Or.inl (by rfl)) (e_slotE (pv 4))))))
    (ss_one (s_ret (e_take (pv 2))))))
abbrev s_law_steps_many : Stmt := top 17
abbrev N_law_steps_many : List Str := ["row", "step", "many"]
theorem sc_law_steps_many : FnScope N_law_steps_many ["row"] (defScope s_law_steps_many) := ⟨rfl, rfl, rfl, by decide +kernel, rfl, by decide +kernel, by decide +kernel⟩
noncomputable abbrev b_law_steps_many : Es := (retS (callN gSum (consA (opOf (layOf (lcR (itSeq (slotE 0)) (.tp [(.nm 1), (.nm 2)]) yesT (slotE 2) [1, 2]))) nilA)))
noncomputable def m_law_steps_many := runT 3 b_law_steps_many
theorem ok_law_steps_many (T : Tops mg) (D : DefAt K mg "_law_steps_many" s_law_steps_many ["row"]) : Callee P w K mg base "_law_steps_many" 1 ["row"] (spT K 1 m_law_steps_many) :=
  D.t (N := N_law_steps_many) sc_law_steps_many (by decide) fun f cdv A outer s H E hg hr =>
    (ss_one (s_ret (e_callB (cr_sum (by rfl)) p_sum (by rfl) T.b_sum bb_sum (a_cons (pE_P (pR_E (e_lc (by rfl) sc_law_steps_many.nd (own := [("step", 1), ("many", 2)]) (tgt := (.tp [(.nm 1), (.nm 2)])) (it := (itSeq (slotE 0))) (fc := yesT) (fe := (slotE 2)) (i_seq (e_slotE (pv 0))) (blkOk_by (N := N_law_steps_many) (sc := defScope s_law_steps_many) (by decide +kernel)) (fun _ _ _ _ _ => (pg_tup (by rfl) (pgs_cons (g_nm (i := 1) sc_law_steps_many.nd (by rfl) (Or.inl (by rfl))) (pgs_cons (g_nm (i := 2) sc_law_steps_many.nd (by rfl) (Or.inl (by rfl))) pgs_nil)))) (fun _ _ _ _ _ => ts_nil) (fun _ _ _ _ _ => (e_slotE (pv 2)))))) a_nil))))
abbrev s_law_row_of : Stmt := top 18
abbrev N_law_row_of : List Str := ["bends", "rule", "found", "marks", "low", "high", "step", "hour", "many"]
theorem sc_law_row_of : FnScope N_law_row_of ["bends", "rule"] (defScope s_law_row_of) := ⟨rfl, rfl, rfl, by decide +kernel, rfl, by decide +kernel, by decide +kernel⟩
noncomputable abbrev b_law_row_of (F : FnI) (g : List Opd → Option Res) : Es := (seqS (par2 2 3 (lstR nilA) (callN gSetSorted (consA (opOf (layOf (bin2 gAdd (opOf (layOf (lstR (consA (opOf (cstE (.int 0))) nilA)))) (opOf (layOf (lcR (itSeq (slotE 0)) (.nm 7) (boolOf (bin2 (gCmp fun i j => decide (j ≤ i)) (slotP 7) (opOf (cstE (.int 0))))) (slotE 7) [7])))))) nilA)))
    (seqS (forS (itZip (consA (opOf (slotE 3)) (consA (opOf (layOf (bin2 gAdd (opOf (layOf (sl3 gSlA (slotP 3) (boundO (some (cstE (.int 1)))) (boundO none)))) (opOf (layOf (lstR (consA (opOf (layOf (bin2 gAdd (opOf (layOf (bin2 gIx (slotP 3) (opOf (layOf (negR (cstE (.int 1)))))))) (opOf (cstE (.int 1)))))) nilA))))))) nilA))) (.tp [(.nm 4), (.nm 5)]) (seqS (asgS 6 (bin2 gSub2 (opOf (layOf (callF 1 F g (consA (opOf (layOf (bin2 gAdd (slotP 4) (opOf (cstE (.int 1)))))) nilA)))) (opOf (layOf (callF 1 F g (consA (slotF 4) nilA))))))
    (asgS 2 (callT 3 m_law_run (consA (slotF 2) (consA (slotF 6) (consA (opOf (layOf (bin2 gSub2 (slotP 5) (slotP 4)))) nilA)))))))
    (retS (callN gTup (consA (opOf (layOf (lcR (itSeq (slotE 2)) (.tp [(.nm 6), (.nm 8)]) (boolOf (bin2 (gCmp fun i j => decide (j < i)) (slotP 6) (opOf (cstE (.int 0))))) (layOf (tupR (consA (opOf (slotE 6)) (consA (opOf (slotE 8)) nilA)))) [6, 8]))) nilA)))))
theorem ok_law_row_of (T : Tops mg) (D : DefAt K mg "_law_row_of" s_law_row_of ["bends", "rule"]) (C_law_run : Callee P w K mg base "_law_run" 1 ["found", "step", "many"] (spT K 3 m_law_run)) : CalleeF2 P w K mg base "_law_row_of" 2 "bends" "rule" 9 b_law_row_of :=
  D.f2 (N := N_law_row_of) sc_law_row_of (by first | exact Or.inl rfl | exact Or.inr (Or.inl rfl)) rfl (by decide) fun f cdv F g A outer s H hg hr act =>
    (ss_cons (s_par2 (i := 2) (j := 3) (by rfl) sc_law_row_of.nd (by rfl) (by rfl) (by decide) (by rfl) (by rfl) (e_lst a_nil) (e_setSorted (pe_callB (cr_sortedSet (by rfl)) (by rfl) T.b_sorted bb_sorted (pa_cons (pe_callTy (cr_setL (by rfl)) (by rfl) T.b_set bb_set (a_cons (pE_P (pR_E (e_bin o_add p_add (pE_P (pR_E (e_lst (a_cons (pE_P (e_cst pe_int (fun _ => .int _))) a_nil)))) (pE_P (pR_E (e_lc (by rfl) sc_law_row_of.nd (own := [("hour", 7)]) (tgt := (.nm 7)) (it := (itSeq (slotE 0))) (fc := (boolOf (bin2 (gCmp fun i j => decide (j ≤ i)) (slotP 7) (opOf (cstE (.int 0)))))) (fe := (slotE 7)) (i_seq (e_slotE (pv 0))) (blkOk_by (N := N_law_row_of) (sc := defScope s_law_row_of) (by decide +kernel)) (fun _ _ _ _ _ => (g_nm (i := 7) sc_law_row_of.nd (by rfl) (Or.inl (by rfl)))) (fun _ _ _ _ _ => (ts_one (t_cmp op_ge p_cmp (nomark _) (e_slotP (pv 7)) (pE_P (e_cst pe_int (fun _ => .int _)))))) (fun _ _ _ _ _ => (e_slotE (pv 7))))))))) a_nil)) pa_nil))) (by rfl))
    (ss_cons (s_for (tg := (.tp [(.nm 4), (.nm 5)])) PassesOwn.never (by rfl) (i_zip (by rfl) T.b_zip (a_cons (pE_P (e_slotE (pv 3))) (a_cons (pE_P (pR_E (e_bin o_add p_add (pE_P (pR_E (e_slice sl_all p_slA (e_slotP (pv 3)) (o_some (e_cst pe_int (fun _ => .int _))) o_none))) (pE_P (pR_E (e_lst (a_cons (pE_P (pR_E (e_bin o_add p_add (pE_P (pR_E (e_ix ix_seq p_ix (e_slotP (pv 3)) (pE_P (pR_E (e_neg (e_cst pe_int (fun _ => .int _)))))))) (pE_P (e_cst pe_int (fun _ => .int _)))))) a_nil))))))) a_nil))) (pg_tup (by rfl) (pgs_cons (g_nm (i := 4) sc_law_row_of.nd (by rfl) (Or.inl (by rfl))) (pgs_cons (g_nm (i := 5) sc_law_row_of.nd (by rfl) (Or.inl (by rfl))) pgs_nil))) (ss_cons (s_asg (i := 6) sc_law_row_of.nd (by rfl) (Or.inl (by rfl)) (e_bin op_sub p_sub (pE_P (pR_E (act (a_cons (pE_P (pR_E (e_bin o_add p_add (e_slotP (pv 4)) (pE_P (e_cst pe_int (fun _ => .int _)))))) a_nil) (by rfl)))) (pE_P (pR_E (act (a_cons (e_slotF (pv 4)) a_nil) (by rfl))))))
    (ss_one (s_asg (i := 2) sc_law_row_of.nd (by rfl) (Or.inl (by rfl)) (e_fun C_law_run hg hr (by decide) (by rfl) (a_cons (e_slotF (pv 2)) (a_cons (e_slotF (pv 6)) (a_cons (pE_P (pR_E (e_bin op_sub p_sub (e_slotP (pv 5)) (e_slotP (pv 4))))) a_nil))))))))
    (ss_one (s_ret (e_callTy call_tuple_of p_tup (by rfl) T.b_tuple bb_tuple (a_cons (pE_P (pR_E (e_lc (by rfl) sc_law_row_of.nd (own := [("step", 6), ("many", 8)]) (tgt := (.tp [(.nm 6), (.nm 8)])) (it := (itSeq (slotE 2))) (fc := (boolOf (bin2 (gCmp fun i j => decide (j < i)) (slotP 6) (opOf (cstE (.int 0)))))) (fe := (layOf (tupR (consA (opOf (slotE 6)) (consA (opOf (slotE 8)) nilA))))) (i_seq (e_slotE (pv 2))) (blkOk_by (N := N_law_row_of) (sc := defScope s_law_row_of) (by decide +kernel)) (fun _ _ _ _ _ => (pg_tup (by rfl) (pgs_cons (g_nm (i := 6) sc_law_row_of.nd (by rfl) (Or.inl (by rfl))) (pgs_cons (g_nm (i := 8) sc_law_row_of.nd (by rfl) (Or.inl (by rfl))) pgs_nil)))) (fun _ _ _ _ _ => (ts_one (t_cmp op_gt p_cmp (nomark _) (e_slotP (pv 6)) (pE_P (e_cst pe_int (fun _ => .int _)))))) (fun _ _ _ _ _ => (pR_E (e_tup (a_cons (pE_P (e_slotE (pv 6))) (a_cons (pE_P (e_slotE (pv 8))) a_nil)))))))) a_nil))))))
abbrev s_law_added : Stmt := top 19
abbrev N_law_added : List Str := ["rows", "bends", "row", "hour", "step", "many"]
theorem sc_law_added : FnScope N_law_added ["rows"] (defScope s_law_added) := ⟨rfl, rfl, rfl, by decide +kernel, rfl, by decide +kernel, by decide +kernel⟩
theorem nl_law_added_0 : (["rows", "bends", "row", "", "step", "many", "hour"] : List Str).Nodup := by decide +kernel
theorem hid_nl_law_added_0 : Hid N_law_added ["rows", "bends", "row", "", "step", "many"] "hour" := hid_by (by decide +kernel)
noncomputable abbrev b_law_added : Es := (seqS (asgS 1 (lstR (consA (opOf (cstE (.int 0))) nilA)))
    (seqS (forS (itSeq (slotE 0)) (.nm 2) (seqS (asgS 3 (resOf (cstE (.int 0))))
    (forS (itSeq (slotE 2)) (.tp [(.nm 4), (.nm 5)]) (seqS (augS 3 (fun i j => i + j) (slotE 5))
    (appS 1 (slotE 3))))))
    (retS (callL2 9 b_law_row_of (callN gSum (consA (opOf (layOf (lcR (itSeq (slotE 0)) (.nm 2) yesT (layOf (callT 2 m_law_row_reach (consA (slotF 2) (consA (slotF 6) nilA)))) [2]))) nilA)) (slotF 1)))))
noncomputable def m_law_added := runT 6 b_law_added
theorem ok_law_added (T : Tops mg) (M : MakersOk K mg base) {c Pt : Addr} (D : DefAtM K mg "_law_added" s_law_added ["rows"] c Pt) (C_law_row_of : CalleeF2 P w K mg base "_law_row_of" 2 "bends" "rule" 9 b_law_row_of) (C_law_row_reach : Callee P w K mg base "_law_row_reach" 1 ["row", "hours"] (spT K 2 m_law_row_reach)) : Callee P w K mg base "_law_added" 4 ["rows"] (spT K 1 m_law_added) :=
  have ht := D.tab
  D.t (N := N_law_added) sc_law_added (by decide) fun f A outer s H E hg hr =>
    (ss_cons (s_asg (i := 1) sc_law_added.nd (by rfl) (Or.inl (by rfl)) (e_lst (a_cons (pE_P (e_cst pe_int (fun _ => .int _))) a_nil)))
    (ss_cons (s_for (tg := (.nm 2)) PassesOwn.never (by rfl) (i_seq (e_slotE (pv 0))) (g_nm (i := 2) sc_law_added.nd (by rfl) (Or.inl (by rfl))) (ss_cons (s_asg (i := 3) sc_law_added.nd (by rfl) (Or.inl (by rfl)) (pE_R (e_cst pe_int (fun _ => .int _))))
    (ss_one (s_for (tg := (.tp [(.nm 4), (.nm 5)])) PassesOwn.never (by rfl) (i_seq (e_slotE (pv 2))) (pg_tup (by rfl) (pgs_cons (g_nm (i := 4) sc_law_added.nd (by rfl) (Or.inl (by rfl))) (pgs_cons (g_nm (i := 5) sc_law_added.nd (by rfl) (Or.inl (by rfl))) pgs_nil))) (ss_cons (s_aug (i := 3) ip_add sc_law_added.nd (by rfl) (Or.inl (by rfl)) (e_slotE (pv 5)))
    (ss_one (s_app (pv 1) (e_slotE (pv 3)))))))))
    (ss_one (s_ret (e_lam3 (y := "_law_added") (j := 1) C_law_row_of M (by decide) ht rfl rfl hg hr (by decide) (by decide) (by rfl) (lamP2_by (sc := defScope s_law_added) (by decide +kernel)) hid_nl_law_added_0 (by rfl) (fun _ _ _ _ _ _ => rfl) (fun _ _ _ _ _ _ hg hr => (e_callB (cr_sum (by rfl)) p_sum (by rfl) T.b_sum bb_sum (a_cons (pE_P (pR_E (e_lcL nl_law_added_0 (own := [("row", 2)]) (tgt := (.nm 2)) (it := (itSeq (slotE 0))) (fc := yesT) (fe := (layOf (callT 2 m_law_row_reach (consA (slotF 2) (consA (slotF 6) nilA))))) (i_seq (e_slotE (pv 0))) (blkOk_by (by decide +kernel)) (fun _ _ _ _ _ => (g_nm (i := 2) nl_law_added_0 (by rfl) (Or.inl (by rfl)))) (fun _ _ _ _ _ => ts_nil) (fun _ _ _ _ _ => (pR_E (e_fun C_law_row_reach hg hr (by decide) (by rfl) (a_cons (e_slotF (pv 2)) (a_cons (e_slotF (pv 6)) a_nil)))))))) a_nil))) (e_slotF (pv 1)))))))
abbrev s_law_capped : Stmt := top 20
abbrev N_law_capped : List Str := ["row", "cap", "bends", "hour", "step", "many", "low", "high", "base", "meet", "spot"]
theorem sc_law_capped : FnScope N_law_capped ["row", "cap"] (defScope s_law_capped) := ⟨rfl, rfl, rfl, by decide +kernel, rfl, by decide +kernel, by decide +kernel⟩
noncomputable abbrev b_law_capped : Es := (seqS (par2 2 3 (lstR (consA (opOf (cstE (.int 0))) nilA)) (resOf (cstE (.int 0))))
    (seqS (forS (itSeq (slotE 0)) (.tp [(.nm 4), (.nm 5)]) (seqS (unpS (.tp [(.nm 6), (.nm 7), (.nm 8)]) (layOf (tupR (consA (opOf (slotE 3)) (consA (opOf (layOf (bin2 gAdd (slotP 3) (slotP 5)))) (consA (opOf (layOf (callT 2 m_law_row_reach (consA (slotF 0) (consA (slotF 3) nilA))))) nilA))))))
    (seqS (ifS (boolOf (bin2 (gCmp fun i j => decide (i < j)) (slotP 4) (slotP 1))) (seqS (asgS 9 (bin2 gAdd (slotP 3) (opOf (layOf (bin2 gFdiv (opOf (layOf (callN gInt (consA (opOf (layOf (bin2 gSub2 (slotP 8) (opOf (layOf (bin2 gMul (slotP 1) (slotP 3))))))) nilA)))) (opOf (layOf (bin2 gSub2 (slotP 1) (slotP 4)))))))))
    (extS 2 (layOf (lcR (itSeq (layOf (tupR (consA (opOf (slotE 9)) (consA (opOf (layOf (bin2 gAdd (slotP 9) (opOf (cstE (.int 1)))))) nilA))))) (.nm 10) (boolOf (chain3 (gCmp fun i j => decide (i ≤ j)) (gCmp fun i j => decide (i ≤ j)) (slotP 6) (slotP 10) (opOf (layOf (bin2 gAdd (slotP 7) (opOf (cstE (.int 1)))))))) (slotE 10) [10])))) nilS)
    (seqS (asgS 3 (resOf (slotE 7)))
    (appS 2 (slotE 3))))))
    (seqS (ifS (boolOf (bin2 (gCmp fun i j => decide (j < i)) (slotP 1) (opOf (cstE (.int 0))))) (seqS (asgS 9 (bin2 gFdiv (opOf (layOf (callN gInt (consA (opOf (layOf (callT 2 m_law_row_reach (consA (slotF 0) (consA (slotF 3) nilA))))) nilA)))) (slotP 1)))
    (extS 2 (layOf (lstR (consA (opOf (slotE 9)) (consA (opOf (layOf (bin2 gAdd (slotP 9) (opOf (cstE (.int 1)))))) nilA)))))) nilS)
    (retS (ifR (boolOf (bin2 (gCmp fun i j => decide (j < i)) (slotP 1) (opOf (cstE (.int 0))))) (callL2 9 b_law_row_of (callN gMin2 (consA (opOf (layOf (callT 2 m_law_row_reach (consA (slotF 0) (consA (slotF 11) nilA))))) (consA (opOf (layOf (bin2 gMul (slotP 1) (slotP 11)))) nilA))) (slotF 2)) (tupR nilA))))))
noncomputable def m_law_capped := runT 11 b_law_capped
theorem ok_law_capped (T : Tops mg) (M : MakersOk K mg base) {c Pt : Addr} (D : DefAtM K mg "_law_capped" s_law_capped ["row", "cap"] c Pt) (C_law_row_of : CalleeF2 P w K mg base "_law_row_of" 2 "bends" "rule" 9 b_law_row_of) (C_law_row_reach : Callee P w K mg base "_law_row_reach" 1 ["row", "hours"] (spT K 2 m_law_row_reach)) : Callee P w K mg base "_law_capped" 4 ["row", "cap"] (spT K 2 m_law_capped) :=
  have ht := D.tab
  D.t (N := N_law_capped) sc_law_capped (by decide) fun f A outer s H E hg hr =>
    (ss_cons (s_par2 (i := 2) (j := 3) (by rfl) sc_law_capped.nd (by rfl) (by rfl) (by decide) (by rfl) (by rfl) (e_lst (a_cons (pE_P (e_cst pe_int (fun _ => .int _))) a_nil)) (pE_R (e_cst pe_int (fun _ => .int _))) (by rfl))
    (ss_cons (s_for (tg := (.tp [(.nm 4), (.nm 5)])) PassesOwn.never (by rfl) (i_seq (e_slotE (pv 0))) (pg_tup (by rfl) (pgs_cons (g_nm (i := 4) sc_law_capped.nd (by rfl) (Or.inl (by rfl))) (pgs_cons (g_nm (i := 5) sc_law_capped.nd (by rfl) (Or.inl (by rfl))) pgs_nil))) (ss_cons (s_unp (tg := (.tp [(.nm 6), (.nm 7), (.nm 8)])) (f := (layOf (tupR (consA (opOf (slotE 3)) (consA (opOf (layOf (bin2 gAdd (slotP 3) (slotP 5)))) (consA (opOf (layOf (callT 2 m_law_row_reach (consA (slotF 0) (consA (slotF 3) nilA))))) nilA)))))) (ps_asg (pR_E (e_tup (a_cons (pE_P (e_slotE (pv 3))) (a_cons (pE_P (pR_E (e_bin o_add p_add (e_slotP (pv 3)) (e_slotP (pv 5))))) (a_cons (pE_P (pR_E (e_fun C_law_row_reach hg hr (by decide) (by rfl) (a_cons (e_slotF (pv 0)) (a_cons (e_slotF (pv 3)) a_nil))))) a_nil))))) (pg_tup (by rfl) (pgs_cons (g_nm (i := 6) sc_law_capped.nd (by rfl) (Or.inr (by rfl))) (pgs_cons (g_nm (i := 7) sc_law_capped.nd (by rfl) (Or.inr (by rfl))) (pgs_cons (g_nm (i := 8) sc_law_capped.nd (by rfl) (Or.inl (by rfl))) pgs_nil))))))
    (ss_cons (s_if (t_cmp op_lt p_cmp (nomark _) (e_slotP (pv 4)) (e_slotP (pv 1))) (ss_cons (s_asg (i := 9) sc_law_capped.nd (by rfl) (Or.inl (by rfl)) (e_bin o_add p_add (e_slotP (pv 3)) (pE_P (pR_E (e_bin op_fdivW p_fdiv (pE_P (pR_E (e_callTy call_int1 p_int (by rfl) T.b_int bb_int (a_cons (pE_P (pR_E (e_bin op_sub p_sub (e_slotP (pv 8)) (pE_P (pR_E (e_bin o_mul p_mul (e_slotP (pv 1)) (e_slotP (pv 3)))))))) a_nil)))) (pE_P (pR_E (e_bin op_sub p_sub (e_slotP (pv 1)) (e_slotP (pv 4))))))))))
    (ss_one (s_ext (ps_expr (pe_bm PySem.F.plainAttrs_list PySem.F.slot_list_extend PySem.F.type_list_extend mt_ext (pv 2) (pa_cons (pR_E (e_lc (by rfl) sc_law_capped.nd (own := [("spot", 10)]) (tgt := (.nm 10)) (it := (itSeq (layOf (tupR (consA (opOf (slotE 9)) (consA (opOf (layOf (bin2 gAdd (slotP 9) (opOf (cstE (.int 1)))))) nilA)))))) (fc := (boolOf (chain3 (gCmp fun i j => decide (i ≤ j)) (gCmp fun i j => decide (i ≤ j)) (slotP 6) (slotP 10) (opOf (layOf (bin2 gAdd (slotP 7) (opOf (cstE (.int 1))))))))) (fe := (slotE 10)) (i_seq (pR_E (e_tup (a_cons (pE_P (e_slotE (pv 9))) (a_cons (pE_P (pR_E (e_bin o_add p_add (e_slotP (pv 9)) (pE_P (e_cst pe_int (fun _ => .int _)))))) a_nil))))) (blkOk_by (N := N_law_capped) (sc := defScope s_law_capped) (by decide +kernel)) (fun _ _ _ _ _ => (g_nm (i := 10) sc_law_capped.nd (by rfl) (Or.inl (by rfl)))) (fun _ _ _ _ _ => (ts_one (t_chain op_le op_le p_cmp p_cmp (e_slotP (pv 6)) (e_slotP (pv 10)) (pE_P (pR_E (e_bin o_add p_add (e_slotP (pv 7)) (pE_P (e_cst pe_int (fun _ => .int _))))))))) (fun _ _ _ _ _ => (e_slotE (pv 10))))) pa_nil)))))) ss_nil)
    (ss_cons (s_asg (i := 3) sc_law_capped.nd (by rfl) (Or.inl (by rfl)) (pE_R (e_slotE (pv 7))))
    (ss_one (s_app (pv 2) (e_slotE (pv 3))))))))
    (ss_cons (s_if (t_cmp op_gt p_cmp (nomark _) (e_slotP (pv 1)) (pE_P (e_cst pe_int (fun _ => .int _)))) (ss_cons (s_asg (i := 9) sc_law_capped.nd (by rfl) (Or.inl (by rfl)) (e_bin op_fdivW p_fdiv (pE_P (pR_E (e_callTy call_int1 p_int (by rfl) T.b_int bb_int (a_cons (pE_P (pR_E (e_fun C_law_row_reach hg hr (by decide) (by rfl) (a_cons (e_slotF (pv 0)) (a_cons (e_slotF (pv 3)) a_nil))))) a_nil)))) (e_slotP (pv 1))))
    (ss_one (s_ext (ps_expr (pe_bm PySem.F.plainAttrs_list PySem.F.slot_list_extend PySem.F.type_list_extend mt_ext (pv 2) (pa_cons (pR_E (e_lst (a_cons (pE_P (e_slotE (pv 9))) (a_cons (pE_P (pR_E (e_bin o_add p_add (e_slotP (pv 9)) (pE_P (e_cst pe_int (fun _ => .int _)))))) a_nil)))) pa_nil)))))) ss_nil)
    (ss_one (s_ret (e_if (t_cmp op_gt p_cmp (nomark _) (e_slotP (pv 1)) (pE_P (e_cst pe_int (fun _ => .int _)))) (e_lam2 (y := "_law_capped") (j := 1) C_law_row_of M (by decide) ht rfl rfl hg hr (by decide) (by decide) (by rfl) (lamP_by (sc := defScope s_law_capped) (by decide +kernel)) (show ("hours" : Str) ∉ N_law_capped by decide) (by rfl) (fun _ _ _ _ _ _ => rfl) (fun _ _ _ _ _ _ hg hr => (e_callB (call_min2 (by rfl)) p_min2 (by rfl) T.b_min bb_min (a_cons (pE_P (pR_E (e_fun C_law_row_reach hg hr (by decide) (by rfl) (a_cons (e_slotF (pv 0)) (a_cons (e_slotF (pv 11)) a_nil))))) (a_cons (pE_P (pR_E (e_bin o_mul p_mul (e_slotP (pv 1)) (e_slotP (pv 11))))) a_nil)))) (e_slotF (pv 2))) (e_tup a_nil)))))))
abbrev s_law_some_row : Stmt := top 21
abbrev N_law_some_row : List Str := ["bag", "times", "steps", "chosen", "turn", "step"]
theorem sc_law_some_row : FnScope N_law_some_row ["bag"] (defScope s_law_some_row) := ⟨rfl, rfl, rfl, by decide +kernel, rfl, by decide +kernel, by decide +kernel⟩
noncomputable abbrev b_law_some_row : Es := (seqS (asgS 1 (callU 2 m_law_some (consA (slotP 0) (consA (opOf (layOf (lstR (consA (opOf (layOf (lstR (consA (opOf (cstE (.int 1))) (consA (opOf (cstE (.int 2))) (consA (opOf (cstE (.int 3))) nilA)))))) (consA (opOf (layOf (lstR (consA (opOf (cstE (.int 1))) (consA (opOf (cstE (.int 1))) (consA (opOf (cstE (.int 2))) nilA)))))) (consA (opOf (layOf (lstR (consA (opOf (cstE (.int 1))) (consA (opOf (layOf (bin2 gPow (opOf (cstE (.int 10))) (opOf (cstE (.int 6)))))) (consA (opOf (layOf (bin2 gPow (opOf (cstE (.int 10))) (opOf (cstE (.int 14)))))) (consA (opOf (cstE (.int 3))) nilA))))))) nilA)))))) nilA))))
    (seqS (asgS 2 (callU 2 m_law_some (consA (slotP 0) (consA (opOf (layOf (lstR (consA (opOf (layOf (lstRg2 (cstE (.int 1)) (cstE (.int 9))))) (consA (opOf (layOf (lstRg2 (cstE (.int 1)) (cstE (.int 30))))) (consA (opOf (layOf (lstR (consA (opOf (cstE (.int 1))) (consA (opOf (cstE (.int 2))) (consA (opOf (layOf (bin2 gPow (opOf (cstE (.int 10))) (opOf (cstE (.int 6)))))) (consA (opOf (layOf (bin2 gSub2 (opOf (layOf (bin2 gPow (opOf (cstE (.int 10))) (opOf (cstE (.int 12)))))) (opOf (cstE (.int 1)))))) (consA (opOf (layOf (bin2 gPow (opOf (cstE (.int 10))) (opOf (cstE (.int 11)))))) (consA (opOf (cstE (.int 7))) (consA (opOf (cstE (.int 8))) nilA)))))))))) nilA)))))) nilA))))
    (seqS (asgS 3 (callN gSetSorted (consA (opOf (layOf (lcR (itRange1 (consA (opOf (layOf (callU 2 m_law_take (consA (slotP 0) (consA (opOf (cstE (.int 5))) nilA))))) nilA)) (.nm 4) yesT (layOf (callU 2 m_law_some (consA (slotP 0) (consA (slotF 2) nilA)))) [4]))) nilA)))
    (retS (callN gTup (consA (opOf (layOf (lcR (itSeq (layOf (revR (slotP 3)))) (.nm 5) yesT (layOf (tupR (consA (opOf (slotE 5)) (consA (opOf (layOf (callU 2 m_law_some (consA (slotP 0) (consA (slotF 1) nilA))))) nilA)))) [5]))) nilA))))))
noncomputable def m_law_some_row := runU 6 b_law_some_row
theorem ok_law_some_row (T : Tops mg) (D : DefAt K mg "_law_some_row" s_law_some_row ["bag"]) (C_law_some : Callee P w K mg base "_law_some" 2 ["bag", "things"] (spU K 2 m_law_some)) (C_law_take : Callee P w K mg base "_law_take" 1 ["bag", "many"] (spU K 2 m_law_take)) : Callee P w K mg base "_law_some_row" 3 ["bag"] (spU K 1 m_law_some_row) :=
  D.u (N := N_law_some_row) sc_law_some_row (by decide) fun f cdv A outer s H E hg hr =>
    (ss_cons (s_asg (i := 1) sc_law_some_row.nd (by rfl) (Or.inr (by rfl)) (e_funU C_law_some hg hr (by decide) (by rfl) (a_cons (e_slotP (pv 0)) (a_cons (pE_P (pR_E (e_lst (a_cons (pE_P (pR_E (e_lst (a_cons (pE_P (e_cst pe_int (fun _ => .int _))) (a_cons (pE_P (e_cst pe_int (fun _ => .int _))) (a_cons (pE_P (e_cst pe_int (fun _ => .int _))) a_nil)))))) (a_cons (pE_P (pR_E (e_lst (a_cons (pE_P (e_cst pe_int (fun _ => .int _))) (a_cons (pE_P (e_cst pe_int (fun _ => .int _))) (a_cons (pE_P (e_cst pe_int (fun _ => .int _))) a_nil)))))) (a_cons (pE_P (pR_E (e_lst (a_cons (pE_P (e_cst pe_int (fun _ => .int _))) (a_cons (pE_P (pR_E (e_bin op_pow p_pow (pE_P (e_cst pe_int (fun _ => .int _))) (pE_P (e_cst pe_int (fun _ => .int _)))))) (a_cons (pE_P (pR_E (e_bin op_pow p_pow (pE_P (e_cst pe_int (fun _ => .int _))) (pE_P (e_cst pe_int (fun _ => .int _)))))) (a_cons (pE_P (e_cst pe_int (fun _ => .int _))) a_nil))))))) a_nil)))))) a_nil))))
    (ss_cons (s_asg (i := 2) sc_law_some_row.nd (by rfl) (Or.inr (by rfl)) (e_funU C_law_some hg hr (by decide) (by rfl) (a_cons (e_slotP (pv 0)) (a_cons (pE_P (pR_E (e_lst (a_cons (pE_P (pR_E (e_lstRg2 (pe_listRg (by rfl) (by rfl) T.b_list (prg_2 (by rfl) T.b_range (e_cst pe_int (fun _ => .int _)) (e_cst pe_int (fun _ => .int _))))))) (a_cons (pE_P (pR_E (e_lstRg2 (pe_listRg (by rfl) (by rfl) T.b_list (prg_2 (by rfl) T.b_range (e_cst pe_int (fun _ => .int _)) (e_cst pe_int (fun _ => .int _))))))) (a_cons (pE_P (pR_E (e_lst (a_cons (pE_P (e_cst pe_int (fun _ => .int _))) (a_cons (pE_P (e_cst pe_int (fun _ => .int _))) (a_cons (pE_P (pR_E (e_bin op_pow p_pow (pE_P (e_cst pe_int (fun _ => .int _))) (pE_P (e_cst pe_int (fun _ => .int _)))))) (a_cons (pE_P (pR_E (e_bin op_sub p_sub (pE_P (pR_E (e_bin op_pow p_pow (pE_P (e_cst pe_int (fun _ => .int _))) (pE_P (e_cst pe_int (fun _ => .int _)))))) (pE_P (e_cst pe_int (fun _ => .int _)))))) (a_cons (pE_P (pR_E (e_bin op_pow p_pow (pE_P (e_cst pe_int (fun _ => .int _))) (pE_P (e_cst pe_int (fun _ => .int _)))))) (a_cons (pE_P (e_cst pe_int (fun _ => .int _))) (a_cons (pE_P (e_cst pe_int (fun _ => .int _))) a_nil)))))))))) a_nil)))))) a_nil))))
    (ss_cons (s_asg (i := 3) sc_law_some_row.nd (by rfl) (Or.inl (by rfl)) (e_setSorted (pe_callB (cr_sortedSet (by rfl)) (by rfl) T.b_sorted bb_sorted (pa_cons (pe_callTy (cr_setL (by rfl)) (by rfl) T.b_set bb_set (a_cons (pE_P (pR_E (e_lc (by rfl) sc_law_some_row.nd (own := [("turn", 4)]) (tgt := (.nm 4)) (it := (itRange1 (consA (opOf (layOf (callU 2 m_law_take (consA (slotP 0) (consA (opOf (cstE (.int 5))) nilA))))) nilA))) (fc := yesT) (fe := (layOf (callU 2 m_law_some (consA (slotP 0) (consA (slotF 2) nilA))))) (i_range1 (by rfl) T.b_range (a_cons (pE_P (pR_E (e_funU C_law_take hg hr (by decide) (by rfl) (a_cons (e_slotP (pv 0)) (a_cons (pE_P (e_cst pe_int (fun _ => .int _))) a_nil))))) a_nil)) (blkOk_by (N := N_law_some_row) (sc := defScope s_law_some_row) (by decide +kernel)) (fun _ _ _ _ _ => (g_nm (i := 4) sc_law_some_row.nd (by rfl) (Or.inl (by rfl)))) (fun _ _ _ _ _ => ts_nil) (fun _ _ _ _ _ => (pR_E (e_funU C_law_some hg hr (by decide) (by rfl) (a_cons (e_slotP (pv 0)) (a_cons (e_slotF (pv 2)) a_nil)))))))) a_nil)) pa_nil))))
    (ss_one (s_ret (e_callTy call_tuple_of p_tup (by rfl) T.b_tuple bb_tuple (a_cons (pE_P (pR_E (e_lc (by rfl) sc_law_some_row.nd (own := [("step", 5)]) (tgt := (.nm 5)) (it := (itSeq (layOf (revR (slotP 3))))) (fc := yesT) (fe := (layOf (tupR (consA (opOf (slotE 5)) (consA (opOf (layOf (callU 2 m_law_some (consA (slotP 0) (consA (slotF 1) nilA))))) nilA))))) (i_seq (pR_E (e_rev (e_slotP (pv 3))))) (blkOk_by (N := N_law_some_row) (sc := defScope s_law_some_row) (by decide +kernel)) (fun _ _ _ _ _ => (g_nm (i := 5) sc_law_some_row.nd (by rfl) (Or.inl (by rfl)))) (fun _ _ _ _ _ => ts_nil) (fun _ _ _ _ _ => (pR_E (e_tup (a_cons (pE_P (e_slotE (pv 5))) (a_cons (pE_P (pR_E (e_funU C_law_some hg hr (by decide) (by rfl) (a_cons (e_slotP (pv 0)) (a_cons (e_slotF (pv 1)) a_nil))))) a_nil)))))))) a_nil)))))))
abbrev s_law_laid : Stmt := top 22
abbrev N_law_laid : List Str := ["row", "found", "step", "many"]
theorem sc_law_laid : FnScope N_law_laid ["row"] (defScope s_law_laid) := ⟨rfl, rfl, rfl, by decide +kernel, rfl, by decide +kernel, by decide +kernel⟩
noncomputable abbrev b_law_laid : Es := (seqS (asgS 1 (lstR nilA))
    (seqS (forS (itSeq (slotE 0)) (.tp [(.nm 2), (.nm 3)]) (extS 1 (layOf (bin2 gMul (opOf (layOf (lstR (consA (opOf (slotE 2)) nilA)))) (opOf (layOf (callN gMin2 (consA (slotP 3) (consA (opOf (cstE (.int 200))) nilA)))))))))
    (retS (sl3 gSlA (slotP 1) (boundO none) (boundO (some (cstE (.int 200))))))))
noncomputable def m_law_laid := runT 4 b_law_laid
theorem ok_law_laid (T : Tops mg) (D : DefAt K mg "_law_laid" s_law_laid ["row"]) : Callee P w K mg base "_law_laid" 1 ["row"] (spT K 1 m_law_laid) :=
  D.t (N := N_law_laid) sc_law_laid (by decide) fun f cdv A outer s H E hg hr =>
    (ss_cons (s_asg (i := 1) sc_law_laid.nd (by rfl) (Or.inl (by rfl)) (e_lst a_nil))
    (ss_cons (s_for (tg := (.tp [(.nm 2), (.nm 3)])) PassesOwn.never (by rfl) (i_seq (e_slotE (pv 0))) (pg_tup (by rfl) (pgs_cons (g_nm (i := 2) sc_law_laid.nd (by rfl) (Or.inl (by rfl))) (pgs_cons (g_nm (i := 3) sc_law_laid.nd (by rfl) (Or.inl (by rfl))) pgs_nil))) (ss_one (s_ext (ps_expr (pe_bm PySem.F.plainAttrs_list PySem.F.slot_list_extend PySem.F.type_list_extend mt_ext (pv 1) (pa_cons (pR_E (e_bin o_mul p_mul (pE_P (pR_E (e_lst (a_cons (pE_P (e_slotE (pv 2))) a_nil)))) (pE_P (pR_E (e_callB (call_min2 (by rfl)) p_min2 (by rfl) T.b_min bb_min (a_cons (e_slotP (pv 3)) (a_cons (pE_P (e_cst pe_int (fun _ => .int _))) a_nil))))))) pa_nil))))))
    (ss_one (s_ret (e_slice sl_all p_slA (e_slotP (pv 1)) o_none (o_some (e_cst pe_int (fun _ => .int _))))))))
abbrev s_law_run_up : Stmt := top 23
abbrev N_law_run_up : List Str := ["steps", "found", "step", "many"]
theorem sc_law_run_up : FnScope N_law_run_up ["steps"] (defScope s_law_run_up) := ⟨rfl, rfl, rfl, by decide +kernel, rfl, by decide +kernel, by decide +kernel⟩
noncomputable abbrev b_law_run_up : Es := (seqS (asgS 1 (lstR nilA))
    (seqS (forS (itSeq (layOf (sortNegR (consA (slotF 0) nilA)))) (.nm 2) (asgS 1 (callT 3 m_law_run (consA (slotF 1) (consA (slotF 2) (consA (opOf (cstE (.int 1))) nilA))))))
    (retS (callN gTup (consA (opOf (layOf (lcR (itSeq (slotE 1)) (.tp [(.nm 2), (.nm 3)]) (boolOf (bin2 (gCmp fun i j => decide (j < i)) (slotP 2) (opOf (cstE (.int 0))))) (layOf (tupR (consA (opOf (slotE 2)) (consA (opOf (slotE 3)) nilA)))) [2, 3]))) nilA)))))
noncomputable def m_law_run_up := runT 4 b_law_run_up
theorem ok_law_run_up (T : Tops mg) (M : MakersOk K mg base) {c Pt : Addr} (D : DefAtM K mg "_law_run_up" s_law_run_up ["steps"] c Pt) (C_law_run : Callee P w K mg base "_law_run" 1 ["found", "step", "many"] (spT K 3 m_law_run)) : Callee P w K mg base "_law_run_up" 2 ["steps"] (spT K 1 m_law_run_up) :=
  have ht := D.tab
  D.t (N := N_law_run_up) sc_law_run_up (by decide) fun f A outer s H E hg hr =>
    (ss_cons (s_asg (i := 1) sc_law_run_up.nd (by rfl) (Or.inl (by rfl)) (e_lst a_nil))
    (ss_cons (s_for (tg := (.nm 2)) PassesOwn.never (by rfl) (i_seq (pR_E (e_sortNeg (y := "_law_run_up") M (by decide) ht rfl rfl hg hr (by rfl) T.b_sorted bb_sorted (lamP_by (sc := defScope s_law_run_up) (by decide +kernel)) (by rfl) (fun _ _ _ _ _ _ => rfl) (a_cons (e_slotF (pv 0)) a_nil)))) (g_nm (i := 2) sc_law_run_up.nd (by rfl) (Or.inl (by rfl))) (ss_one (s_asg (i := 1) sc_law_run_up.nd (by rfl) (Or.inl (by rfl)) (e_fun C_law_run hg hr (by decide) (by rfl) (a_cons (e_slotF (pv 1)) (a_cons (e_slotF (pv 2)) (a_cons (pE_P (e_cst pe_int (fun _ => .int _))) a_nil)))))))
    (ss_one (s_ret (e_callTy call_tuple_of p_tup (by rfl) T.b_tuple bb_tuple (a_cons (pE_P (pR_E (e_lc (by rfl) sc_law_run_up.nd (own := [("step", 2), ("many", 3)]) (tgt := (.tp [(.nm 2), (.nm 3)])) (it := (itSeq (slotE 1))) (fc := (boolOf (bin2 (gCmp fun i j => decide (j < i)) (slotP 2) (opOf (cstE (.int 0)))))) (fe := (layOf (tupR (consA (opOf (slotE 2)) (consA (opOf (slotE 3)) nilA))))) (i_seq (e_slotE (pv 1))) (blkOk_by (N := N_law_run_up) (sc := defScope s_law_run_up) (by decide +kernel)) (fun _ _ _ _ _ => (pg_tup (by rfl) (pgs_cons (g_nm (i := 2) sc_law_run_up.nd (by rfl) (Or.inl (by rfl))) (pgs_cons (g_nm (i := 3) sc_law_run_up.nd (by rfl) (Or.inl (by rfl))) pgs_nil)))) (fun _ _ _ _ _ => (ts_one (t_cmp op_gt p_cmp (nomark _) (e_slotP (pv 2)) (pE_P (e_cst pe_int (fun _ => .int _)))))) (fun _ _ _ _ _ => (pR_E (e_tup (a_cons (pE_P (e_slotE (pv 2))) (a_cons (pE_P (e_slotE (pv 3))) a_nil)))))))) a_nil))))))
abbrev s_law_first_apart : Stmt := top 24
abbrev N_law_first_apart : List Str := ["one", "other", "hour", "left", "right", "turn", "first", "second", "many", "step", "times"]
theorem sc_law_first_apart : FnScope N_law_first_apart ["one", "other"] (defScope s_law_first_apart) := ⟨rfl, rfl, rfl, by decide +kernel, rfl, by decide +kernel, by decide +kernel⟩
noncomputable abbrev b_law_first_apart : Es := (seqS (unpS (.tp [.nm 2, .nm 3, .nm 4]) (layOf (tupR (consA (opOf (cstE (.int 0))) (consA (opOf (layOf (callN gList (consA (slotP 0) nilA)))) (consA (opOf (layOf (callN gList (consA (slotP 1) nilA)))) nilA))))))
    (seqS (forS (itRange1 (consA (opOf (cstE (.int 40))) nilA)) (.nm 5) (seqS (ifS (andT (boolOf (bin2 gEq (slotP 3) (opOf (layOf (lstR nilA))))) (boolOf (bin2 gEq (slotP 4) (opOf (layOf (lstR nilA)))))) (retS (resOf (cstE .none))) nilS)
    (seqS (par2 6 7 (bin2 gAdd (opOf (layOf (sl3 gSlA (slotP 3) (boundO none) (boundO (some (cstE (.int 1))))))) (opOf (layOf (lstR (consA (opOf (layOf (tupR (consA (opOf (cstE (.int 0))) (consA (opOf (layOf (bin2 gPow (opOf (cstE (.int 10))) (opOf (cstE (.int 30)))))) nilA))))) nilA))))) (bin2 gAdd (opOf (layOf (sl3 gSlA (slotP 4) (boundO none) (boundO (some (cstE (.int 1))))))) (opOf (layOf (lstR (consA (opOf (layOf (tupR (consA (opOf (cstE (.int 0))) (consA (opOf (layOf (bin2 gPow (opOf (cstE (.int 10))) (opOf (cstE (.int 30)))))) nilA))))) nilA))))))
    (seqS (ifS (boolOf (bin2 gNe (opOf (layOf (bin2 gIx (opOf (layOf (bin2 gIx (slotP 6) (opOf (cstE (.int 0)))))) (opOf (cstE (.int 0)))))) (opOf (layOf (bin2 gIx (opOf (layOf (bin2 gIx (slotP 7) (opOf (cstE (.int 0)))))) (opOf (cstE (.int 0)))))))) (retS (bin2 gAdd (slotP 2) (opOf (cstE (.int 1))))) nilS)
    (seqS (asgS 8 (callN gMin2 (consA (opOf (layOf (bin2 gIx (opOf (layOf (bin2 gIx (slotP 6) (opOf (cstE (.int 0)))))) (opOf (cstE (.int 1)))))) (consA (opOf (layOf (bin2 gIx (opOf (layOf (bin2 gIx (slotP 7) (opOf (cstE (.int 0)))))) (opOf (cstE (.int 1)))))) nilA))))
    (seqS (augS 2 (fun i j => i + j) (slotE 8))
    (seqS (asgS 3 (bin2 gAdd (opOf (layOf (lcR (itSeq (layOf (sl3 gSlA (slotP 3) (boundO none) (boundO (some (cstE (.int 1))))))) (.tp [(.nm 9), (.nm 10)]) (boolOf (bin2 (gCmp fun i j => decide (j < i)) (slotP 10) (slotP 8))) (layOf (tupR (consA (opOf (slotE 9)) (consA (opOf (layOf (bin2 gSub2 (slotP 10) (slotP 8)))) nilA)))) [9, 10]))) (opOf (layOf (sl3 gSlA (slotP 3) (boundO (some (cstE (.int 1)))) (boundO none))))))
    (asgS 4 (bin2 gAdd (opOf (layOf (lcR (itSeq (layOf (sl3 gSlA (slotP 4) (boundO none) (boundO (some (cstE (.int 1))))))) (.tp [(.nm 9), (.nm 10)]) (boolOf (bin2 (gCmp fun i j => decide (j < i)) (slotP 10) (slotP 8))) (layOf (tupR (consA (opOf (slotE 9)) (consA (opOf (layOf (bin2 gSub2 (slotP 10) (slotP 8)))) nilA)))) [9, 10]))) (opOf (layOf (sl3 gSlA (slotP 4) (boundO (some (cstE (.int 1)))) (boundO none)))))))))))))
    (retS (resOf (cstE .none)))))
noncomputable def m_law_first_apart := runT 11 b_law_first_apart
theorem ok_law_first_apart (T : Tops mg) (D : DefAt K mg "_law_first_apart" s_law_first_apart ["one", "other"]) : Callee P w K mg base "_law_first_apart" 1 ["one", "other"] (spT K 2 m_law_first_apart) :=
  D.t (N := N_law_first_apart) sc_law_first_apart (by decide) fun f cdv A outer s H E hg hr =>
    (ss_cons (s_unp3 (i := 2) (j := 3) (l := 4) (by rfl) sc_law_first_apart.nd (by rfl) (by rfl) (by rfl) (by decide) (by decide) (by decide) (by rfl) (by rfl) (by rfl) (a_cons (pE_P (e_cst pe_int (fun _ => .int _))) (a_cons (pE_P (pR_E (e_callTy call_list_of p_list (by rfl) T.b_list bb_list (a_cons (e_slotP (pv 0)) a_nil)))) (a_cons (pE_P (pR_E (e_callTy call_list_of p_list (by rfl) T.b_list bb_list (a_cons (e_slotP (pv 1)) a_nil)))) a_nil))) (by rfl))
    (ss_cons (s_for (tg := (.nm 5)) PassesOwn.never (by rfl) (i_range1 (by rfl) T.b_range (a_cons (pE_P (e_cst pe_int (fun _ => .int _))) a_nil)) (g_nm (i := 5) sc_law_first_apart.nd (by rfl) (Or.inl (by rfl))) (ss_cons (s_if ((w_and (t_cmp (op_eqD hr.units) p_eq (nomark _) (e_slotP (pv 3)) (pE_P (pR_E (e_lst a_nil)))) (w_and1 (t_cmp (op_eqD hr.units) p_eq (nomark _) (e_slotP (pv 4)) (pE_P (pR_E (e_lst a_nil))))))).pt (ss_one (s_ret (pE_R (e_cst pe_non (fun _ => .non))))) ss_nil)
    (ss_cons (s_par2 (i := 6) (j := 7) (by rfl) sc_law_first_apart.nd (by rfl) (by rfl) (by decide) (by rfl) (by rfl) (e_bin o_add p_add (pE_P (pR_E (e_slice sl_all p_slA (e_slotP (pv 3)) o_none (o_some (e_cst pe_int (fun _ => .int _)))))) (pE_P (pR_E (e_lst (a_cons (pE_P (pR_E (e_tup (a_cons (pE_P (e_cst pe_int (fun _ => .int _))) (a_cons (pE_P (pR_E (e_bin op_pow p_pow (pE_P (e_cst pe_int (fun _ => .int _))) (pE_P (e_cst pe_int (fun _ => .int _)))))) a_nil))))) a_nil))))) (e_bin o_add p_add (pE_P (pR_E (e_slice sl_all p_slA (e_slotP (pv 4)) o_none (o_some (e_cst pe_int (fun _ => .int _)))))) (pE_P (pR_E (e_lst (a_cons (pE_P (pR_E (e_tup (a_cons (pE_P (e_cst pe_int (fun _ => .int _))) (a_cons (pE_P (pR_E (e_bin op_pow p_pow (pE_P (e_cst pe_int (fun _ => .int _))) (pE_P (e_cst pe_int (fun _ => .int _)))))) a_nil))))) a_nil))))) (by rfl))
    (ss_cons (s_if (t_cmp (op_neD hr.units) p_ne (nomark _) (pE_P (pR_E (e_ix ix_seq p_ix (pE_P (pR_E (e_ix ix_seq p_ix (e_slotP (pv 6)) (pE_P (e_cst pe_int (fun _ => .int _)))))) (pE_P (e_cst pe_int (fun _ => .int _)))))) (pE_P (pR_E (e_ix ix_seq p_ix (pE_P (pR_E (e_ix ix_seq p_ix (e_slotP (pv 7)) (pE_P (e_cst pe_int (fun _ => .int _)))))) (pE_P (e_cst pe_int (fun _ => .int _))))))) (ss_one (s_ret (e_bin o_add p_add (e_slotP (pv 2)) (pE_P (e_cst pe_int (fun _ => .int _)))))) ss_nil)
    (ss_cons (s_asg (i := 8) sc_law_first_apart.nd (by rfl) (Or.inr (by rfl)) (e_callB (call_min2 (by rfl)) p_min2 (by rfl) T.b_min bb_min (a_cons (pE_P (pR_E (e_ix ix_seq p_ix (pE_P (pR_E (e_ix ix_seq p_ix (e_slotP (pv 6)) (pE_P (e_cst pe_int (fun _ => .int _)))))) (pE_P (e_cst pe_int (fun _ => .int _)))))) (a_cons (pE_P (pR_E (e_ix ix_seq p_ix (pE_P (pR_E (e_ix ix_seq p_ix (e_slotP (pv 7)) (pE_P (e_cst pe_int (fun _ => .int _)))))) (pE_P (e_cst pe_int (fun _ => .int _)))))) a_nil))))
    (ss_cons (s_aug (i := 2) ip_add sc_law_first_apart.nd (by rfl) (Or.inl (by rfl)) (e_slotE (pv 8)))
    (ss_cons (s_asg (i := 3) sc_law_first_apart.nd (by rfl) (Or.inl (by rfl)) (e_bin o_add p_add (pE_P (pR_E (e_lc (by rfl) sc_law_first_apart.nd (own := [("step", 9), ("times", 10)]) (tgt := (.tp [(.nm 9), (.nm 10)])) (it := (itSeq (layOf (sl3 gSlA (slotP 3) (boundO none) (boundO (some (cstE (.int 1)))))))) (fc := (boolOf (bin2 (gCmp fun i j => decide (j < i)) (slotP 10) (slotP 8)))) (fe := (layOf (tupR (consA (opOf (slotE 9)) (consA (opOf (layOf (bin2 gSub2 (slotP 10) (slotP 8)))) nilA))))) (i_seq (pR_E (e_slice sl_all p_slA (e_slotP (pv 3)) o_none (o_some (e_cst pe_int (fun _ => .int _)))))) (blkOk_by (N := N_law_first_apart) (sc := defScope s_law_first_apart) (by decide +kernel)) (fun _ _ _ _ _ => (pg_tup (by rfl) (pgs_cons (g_nm (i := 9) sc_law_first_apart.nd (by rfl) (Or.inl (by rfl))) (pgs_cons (g_nm (i := 10) sc_law_first_apart.nd (by rfl) (Or.inl (by rfl))) pgs_nil)))) (fun _ _ _ _ _ => (ts_one (t_cmp op_gt p_cmp (nomark _) (e_slotP (pv 10)) (e_slotP (pv 8))))) (fun _ _ _ _ _ => (pR_E (e_tup (a_cons (pE_P (e_slotE (pv 9))) (a_cons (pE_P (pR_E (e_bin op_sub p_sub (e_slotP (pv 10)) (e_slotP (pv 8))))) a_nil)))))))) (pE_P (pR_E (e_slice sl_all p_slA (e_slotP (pv 3)) (o_some (e_cst pe_int (fun _ => .int _))) o_none)))))
    (ss_one (s_asg (i := 4) sc_law_first_apart.nd (by rfl) (Or.inl (by rfl)) (e_bin o_add p_add (pE_P (pR_E (e_lc (by rfl) sc_law_first_apart.nd (own := [("step", 9), ("times", 10)]) (tgt := (.tp [(.nm 9), (.nm 10)])) (it := (itSeq (layOf (sl3 gSlA (slotP 4) (boundO none) (boundO (some (cstE (.int 1)))))))) (fc := (boolOf (bin2 (gCmp fun i j => decide (j < i)) (slotP 10) (slotP 8)))) (fe := (layOf (tupR (consA (opOf (slotE 9)) (consA (opOf (layOf (bin2 gSub2 (slotP 10) (slotP 8)))) nilA))))) (i_seq (pR_E (e_slice sl_all p_slA (e_slotP (pv 4)) o_none (o_some (e_cst pe_int (fun _ => .int _)))))) (blkOk_by (N := N_law_first_apart) (sc := defScope s_law_first_apart) (by decide +kernel)) (fun _ _ _ _ _ => (pg_tup (by rfl) (pgs_cons (g_nm (i := 9) sc_law_first_apart.nd (by rfl) (Or.inl (by rfl))) (pgs_cons (g_nm (i := 10) sc_law_first_apart.nd (by rfl) (Or.inl (by rfl))) pgs_nil)))) (fun _ _ _ _ _ => (ts_one (t_cmp op_gt p_cmp (nomark _) (e_slotP (pv 10)) (e_slotP (pv 8))))) (fun _ _ _ _ _ => (pR_E (e_tup (a_cons (pE_P (e_slotE (pv 9))) (a_cons (pE_P (pR_E (e_bin op_sub p_sub (e_slotP (pv 10)) (e_slotP (pv 8))))) a_nil)))))))) (pE_P (pR_E (e_slice sl_all p_slA (e_slotP (pv 4)) (o_some (e_cst pe_int (fun _ => .int _))) o_none)))))))))))))
    (ss_one (s_ret (pE_R (e_cst pe_non (fun _ => .non)))))))
abbrev s_law : Stmt := top 25
abbrev N_law : List Str := ["script", "bag", "turn", "rows", "row", "steps", "cap", "told", "laid", "near", "other", "k", "step", "many", "hour", "one"]
theorem sc_law : FnScope N_law ["script"] (defScope s_law) := ⟨rfl, rfl, rfl, by decide +kernel, rfl, by decide +kernel, by decide +kernel⟩
noncomputable abbrev b_law : Es := (seqS (asgS 1 (callT 1 m_law_bag (consA (slotF 0) nilA)))
    (seqS (forS (itRange1 (consA (opOf (cstE (.int 4))) nilA)) (.nm 2) (seqS (asgS 3 (lcR (itRange1 (consA (opOf (layOf (callU 2 m_law_take (consA (slotP 1) (consA (opOf (cstE (.int 5))) nilA))))) nilA)) (.nm 11) yesT (layOf (callU 1 m_law_some_row (consA (slotP 1) nilA))) [11]))
    (seqS (ifS (notT (boolOf (callT 2 m_law_alike (consA (opOf (layOf (lstR (consA (opOf (layOf (callT 1 m_added (consA (slotF 3) nilA)))) (consA (opOf (layOf (callT 1 m_added (consA (opOf (layOf (callN gTup (consA (slotP 3) nilA)))) nilA)))) nilA))))) (consA (opOf (layOf (bin2 gMul (opOf (layOf (lstR (consA (opOf (layOf (callT 1 m_law_added (consA (slotF 3) nilA)))) nilA)))) (opOf (cstE (.int 2)))))) nilA))))) (retS (resOf (cstE (.bool false)))) nilS)
    (seqS (asgS 4 (callU 1 m_law_some_row (consA (slotP 1) nilA)))
    (seqS (asgS 5 (bin2 gAdd (opOf (layOf (lcR (itSeq (slotE 4)) (.tp [(.nm 12), (.nm 13)]) yesT (slotE 12) [12, 13]))) (opOf (layOf (lstR (consA (opOf (cstE (.int 0))) nilA))))))
    (seqS (forS (itSeq (layOf (lstR (consA (opOf (cstE (.int 0))) (consA (opOf (layOf (callU 2 m_law_some (consA (slotP 1) (consA (slotF 5) nilA))))) (consA (opOf (layOf (callN gMin2 (consA (opOf (layOf (bin2 gSub2 (opOf (layOf (bin2 gPow (opOf (cstE (.int 10))) (opOf (cstE (.int 12)))))) (opOf (cstE (.int 1)))))) (consA (opOf (layOf (bin2 gAdd (opOf (layOf (callU 2 m_law_some (consA (slotP 1) (consA (slotF 5) nilA))))) (opOf (cstE (.int 1)))))) nilA))))) (consA (opOf (layOf (callN gMax2 (consA (opOf (cstE (.int 0))) (consA (opOf (layOf (bin2 gSub2 (opOf (layOf (callU 2 m_law_some (consA (slotP 1) (consA (slotF 5) nilA))))) (opOf (cstE (.int 1)))))) nilA))))) (consA (opOf (layOf (callU 2 m_law_take (consA (slotP 1) (consA (opOf (layOf (callN gMin2 (consA (opOf (layOf (bin2 gAdd (opOf (layOf (bin2 gIx (slotP 5) (opOf (cstE (.int 0)))))) (opOf (cstE (.int 2)))))) (consA (opOf (layOf (bin2 gPow (opOf (cstE (.int 10))) (opOf (cstE (.int 12)))))) nilA))))) nilA))))) nilA)))))))) (.nm 6) (seqS (asgS 7 (callT 2 m_capped (consA (slotF 4) (consA (slotF 6) nilA))))
    (seqS (ifS (notT (boolOf (callT 2 m_law_alike (consA (slotF 7) (consA (opOf (layOf (callT 2 m_law_capped (consA (slotF 4) (consA (slotF 6) nilA))))) nilA))))) (retS (resOf (cstE (.bool false)))) nilS)
    (ifS (andT (boolOf (bin2 (gCmp fun i j => decide (i ≤ j)) (opOf (layOf (callT 1 m_law_steps_many (consA (slotF 4) nilA)))) (opOf (cstE (.int 60))))) (boolOf (bin2 (gCmp fun i j => decide (i ≤ j)) (opOf (layOf (callN gSum (consA (opOf (layOf (callT 1 m_law_laid (consA (slotF 4) nilA)))) nilA)))) (opOf (cstE (.int 200)))))) (seqS (asgS 8 (lcR (itRange1 (consA (opOf (cstE (.int 202))) nilA)) (.nm 14) yesT (layOf (callN gMin2 (consA (opOf (layOf (callT 2 m_law_row_reach (consA (slotF 4) (consA (slotF 14) nilA))))) (consA (opOf (layOf (bin2 gMul (slotP 6) (slotP 14)))) nilA)))) [14]))
    (ifS (notT (boolOf (callT 2 m_law_alike (consA (slotF 7) (consA (opOf (layOf (callT 1 m_law_run_up (consA (opOf (layOf (lcR (itZip (consA (opOf (slotE 8)) (consA (opOf (layOf (sl3 gSlA (slotP 8) (boundO (some (cstE (.int 1)))) (boundO none)))) nilA))) (.tp [(.nm 15), (.nm 10)]) yesT (layOf (bin2 gSub2 (slotP 10) (slotP 15))) [15, 10]))) nilA)))) nilA))))) (retS (resOf (cstE (.bool false)))) nilS)) nilS))))
    (seqS (asgS 9 (bin2 gAdd (opOf (layOf (sl3 gSlA (slotP 4) (boundO none) (boundO (some (layOf (negR (cstE (.int 1))))))))) (opOf (layOf (callN gTup (consA (opOf (layOf (lcR (itSeq (layOf (sl3 gSlA (slotP 4) (boundO (some (layOf (negR (cstE (.int 1)))))) (boundO none)))) (.tp [(.nm 12), (.nm 13)]) yesT (layOf (tupR (consA (opOf (slotE 12)) (consA (opOf (layOf (bin2 gAdd (slotP 13) (opOf (cstE (.int 1)))))) nilA)))) [12, 13]))) nilA))))))
    (forS (itSeq (layOf (lstR (consA (opOf (slotE 4)) (consA (opOf (slotE 9)) (consA (opOf (layOf (callU 1 m_law_some_row (consA (slotP 1) nilA)))) (consA (opOf (layOf (sl3 gSlA (slotP 4) (boundO none) (boundO (some (layOf (negR (cstE (.int 1))))))))) (consA (opOf (layOf (bin2 gAdd (slotP 4) (opOf (layOf (bin2 gMulT (opOf (layOf (tupR (consA (opOf (layOf (tupR (consA (opOf (cstE (.int 1))) (consA (opOf (cstE (.int 3))) nilA))))) nilA)))) (opOf (layOf (callN gInt (consA (opOf (layOf (orV (bin2 gEq (slotP 4) (opOf (layOf (tupR nilA)))) (bin2 (gCmp fun i j => decide (j < i)) (opOf (layOf (bin2 gIx (opOf (layOf (bin2 gIx (slotP 4) (opOf (layOf (negR (cstE (.int 1)))))))) (opOf (cstE (.int 0)))))) (opOf (cstE (.int 1))))))) nilA)))))))))) nilA)))))))) (.nm 10) (ifS (notT (boolOf (callT 2 m_law_alike (consA (opOf (layOf (lstR (consA (opOf (layOf (callT 2 m_first_unlike (consA (slotF 4) (consA (slotF 10) nilA))))) (consA (opOf (layOf (callT 2 m_first_unlike (consA (slotF 10) (consA (slotF 4) nilA))))) nilA))))) (consA (opOf (layOf (bin2 gMul (opOf (layOf (lstR (consA (opOf (layOf (callT 2 m_law_first_apart (consA (slotF 4) (consA (slotF 10) nilA))))) nilA)))) (opOf (cstE (.int 2)))))) nilA))))) (retS (resOf (cstE (.bool false)))) nilS)))))))))
    (retS (resOf (cstE (.bool true))))))
noncomputable def m_law := runT 16 b_law
theorem ok_law {fa : Addr} {fd : FuncData} (T : Tops mg) (F : L2.Fun K "law" "law" s_law fa fd) (C_law_some_row : Callee P w K mg base "_law_some_row" 3 ["bag"] (spU K 1 m_law_some_row)) (C_law_alike : Callee P w K mg base "_law_alike" 1 ["found", "due"] (spT K 2 m_law_alike)) (C_law_first_apart : Callee P w K mg base "_law_first_apart" 1 ["one", "other"] (spT K 2 m_law_first_apart)) (C_first_unlike : Callee P w K mg base "first_unlike" 3 ["one", "other"] (spT K 2 m_first_unlike)) (C_law_take : Callee P w K mg base "_law_take" 1 ["bag", "many"] (spU K 2 m_law_take)) (C_law_some : Callee P w K mg base "_law_some" 2 ["bag", "things"] (spU K 2 m_law_some)) (C_law_steps_many : Callee P w K mg base "_law_steps_many" 1 ["row"] (spT K 1 m_law_steps_many)) (C_law_laid : Callee P w K mg base "_law_laid" 1 ["row"] (spT K 1 m_law_laid)) (C_law_run_up : Callee P w K mg base "_law_run_up" 2 ["steps"] (spT K 1 m_law_run_up)) (C_law_row_reach : Callee P w K mg base "_law_row_reach" 1 ["row", "hours"] (spT K 2 m_law_row_reach)) (C_law_capped : Callee P w K mg base "_law_capped" 4 ["row", "cap"] (spT K 2 m_law_capped)) (C_capped : Callee P w K mg base "capped" 2 ["stairs", "cap"] (spT K 2 m_capped)) (C_law_added : Callee P w K mg base "_law_added" 4 ["rows"] (spT K 1 m_law_added)) (C_added : Callee P w K mg base "added" 3 ["rows"] (spT K 1 m_added)) (C_law_bag : Callee P w K mg base "_law_bag" 1 ["script"] (spT K 1 m_law_bag)) : FnG P w K mg base CX0 5 fa fd ["script"] (spT K 1 m_law) :=
  okT (N := N_law) F sc_law (by decide) fun cdv A outer s H E hg hr =>
    (ss_cons (s_asg (i := 1) sc_law.nd (by rfl) (Or.inr (by rfl)) (e_fun C_law_bag hg hr (by decide) (by rfl) (a_cons (e_slotF (pv 0)) a_nil)))
    (ss_cons (s_for (tg := (.nm 2)) PassesOwn.never (by rfl) (i_range1 (by rfl) T.b_range (a_cons (pE_P (e_cst pe_int (fun _ => .int _))) a_nil)) (g_nm (i := 2) sc_law.nd (by rfl) (Or.inl (by rfl))) (ss_cons (s_asgLc (i := 3) (by rfl) sc_law.nd (by rfl) (by rfl) (sw_true (by rfl) (by rfl) (by rfl) (by decide +kernel)) (own := [("k", 11)]) (tgt := (.nm 11)) (it := (itRange1 (consA (opOf (layOf (callU 2 m_law_take (consA (slotP 1) (consA (opOf (cstE (.int 5))) nilA))))) nilA))) (fc := yesT) (fe := (layOf (callU 1 m_law_some_row (consA (slotP 1) nilA)))) (i_range1 (by rfl) T.b_range (a_cons (pE_P (pR_E (e_funU C_law_take hg hr (by decide) (by rfl) (a_cons (e_slotP (pv 1)) (a_cons (pE_P (e_cst pe_int (fun _ => .int _))) a_nil))))) a_nil)) (blkOk_by (N := N_law) (sc := defScope s_law) (by decide +kernel)) (fun _ _ _ _ _ => (g_nm (i := 11) sc_law.nd (by rfl) (Or.inl (by rfl)))) (fun _ _ _ _ _ => ts_nil) (fun _ _ _ _ _ => (pR_E (e_funU C_law_some_row hg hr (by decide) (by rfl) (a_cons (e_slotP (pv 1)) a_nil)))))
    (ss_cons (s_if (t_not (t_val (e_fun C_law_alike hg hr (by decide) (by rfl) (a_cons (pE_P (pR_E (e_lst (a_cons (pE_P (pR_E (e_fun C_added hg hr (by decide) (by rfl) (a_cons (e_slotF (pv 3)) a_nil)))) (a_cons (pE_P (pR_E (e_fun C_added hg hr (by decide) (by rfl) (a_cons (pE_P (pR_E (e_callTy call_tuple_of p_tup (by rfl) T.b_tuple bb_tuple (a_cons (e_slotP (pv 3)) a_nil)))) a_nil)))) a_nil))))) (a_cons (pE_P (pR_E (e_bin o_mul p_mul (pE_P (pR_E (e_lst (a_cons (pE_P (pR_E (e_fun C_law_added hg hr (by decide) (by rfl) (a_cons (e_slotF (pv 3)) a_nil)))) a_nil)))) (pE_P (e_cst pe_int (fun _ => .int _)))))) a_nil))) (by intro _; rfl))) (ss_one (s_ret (pE_R (e_cst pe_bl (fun _ => .bl _))))) ss_nil)
    (ss_cons (s_asg (i := 4) sc_law.nd (by rfl) (Or.inr (by rfl)) (e_funU C_law_some_row hg hr (by decide) (by rfl) (a_cons (e_slotP (pv 1)) a_nil)))
    (ss_cons (s_asg (i := 5) sc_law.nd (by rfl) (Or.inl (by rfl)) (e_bin o_add p_add (pE_P (pR_E (e_lc (by rfl) sc_law.nd (own := [("step", 12), ("many", 13)]) (tgt := (.tp [(.nm 12), (.nm 13)])) (it := (itSeq (slotE 4))) (fc := yesT) (fe := (slotE 12)) (i_seq (e_slotE (pv 4))) (blkOk_by (N := N_law) (sc := defScope s_law) (by decide +kernel)) (fun _ _ _ _ _ => (pg_tup (by rfl) (pgs_cons (g_nm (i := 12) sc_law.nd (by rfl) (Or.inl (by rfl))) (pgs_cons (g_nm (i := 13) sc_law.nd (by rfl) (Or.inl (by rfl))) pgs_nil)))) (fun _ _ _ _ _ => ts_nil) (fun _ _ _ _ _ => (e_slotE (pv 12)))))) (pE_P (pR_E (e_lst (a_cons (pE_P (e_cst pe_int (fun _ => .int _))) a_nil))))))
    (ss_cons (s_for (tg := (.nm 6)) PassesOwn.never (by rfl) (i_seq (pR_E (e_lst (a_cons (pE_P (e_cst pe_int (fun _ => .int _))) (a_cons (pE_P (pR_E (e_funU C_law_some hg hr (by decide) (by rfl) (a_cons (e_slotP (pv 1)) (a_cons (e_slotF (pv 5)) a_nil))))) (a_cons (pE_P (pR_E (e_callB (call_min2 (by rfl)) p_min2 (by rfl) T.b_min bb_min (a_cons (pE_P (pR_E (e_bin op_sub p_sub (pE_P (pR_E (e_bin op_pow p_pow (pE_P (e_cst pe_int (fun _ => .int _))) (pE_P (e_cst pe_int (fun _ => .int _)))))) (pE_P (e_cst pe_int (fun _ => .int _)))))) (a_cons (pE_P (pR_E (e_bin o_add p_add (pE_P (pR_E (e_funU C_law_some hg hr (by decide) (by rfl) (a_cons (e_slotP (pv 1)) (a_cons (e_slotF (pv 5)) a_nil))))) (pE_P (e_cst pe_int (fun _ => .int _)))))) a_nil))))) (a_cons (pE_P (pR_E (e_callB (call_max2 (by rfl)) p_max2 (by rfl) T.b_max bb_max (a_cons (pE_P (e_cst pe_int (fun _ => .int _))) (a_cons (pE_P (pR_E (e_bin op_sub p_sub (pE_P (pR_E (e_funU C_law_some hg hr (by decide) (by rfl) (a_cons (e_slotP (pv 1)) (a_cons (e_slotF (pv 5)) a_nil))))) (pE_P (e_cst pe_int (fun _ => .int _)))))) a_nil))))) (a_cons (pE_P (pR_E (e_funU C_law_take hg hr (by decide) (by rfl) (a_cons (e_slotP (pv 1)) (a_cons (pE_P (pR_E (e_callB (call_min2 (by rfl)) p_min2 (by rfl) T.b_min bb_min (a_cons (pE_P (pR_E (e_bin o_add p_add (pE_P (pR_E (e_ix ix_seq p_ix (e_slotP (pv 5)) (pE_P (e_cst pe_int (fun _ => .int _)))))) (pE_P (e_cst pe_int (fun _ => .int _)))))) (a_cons (pE_P (pR_E (e_bin op_pow p_pow (pE_P (e_cst pe_int (fun _ => .int _))) (pE_P (e_cst pe_int (fun _ => .int _)))))) a_nil))))) a_nil))))) a_nil)))))))) (g_nm (i := 6) sc_law.nd (by rfl) (Or.inr (by rfl))) (ss_cons (s_asg (i := 7) sc_law.nd (by rfl) (Or.inl (by rfl)) (e_fun C_capped hg hr (by decide) (by rfl) (a_cons (e_slotF (pv 4)) (a_cons (e_slotF (pv 6)) a_nil))))
    (ss_cons (s_if (t_not (t_val (e_fun C_law_alike hg hr (by decide) (by rfl) (a_cons (e_slotF (pv 7)) (a_cons (pE_P (pR_E (e_fun C_law_capped hg hr (by decide) (by rfl) (a_cons (e_slotF (pv 4)) (a_cons (e_slotF (pv 6)) a_nil))))) a_nil))) (by intro _; rfl))) (ss_one (s_ret (pE_R (e_cst pe_bl (fun _ => .bl _))))) ss_nil)
    (ss_one (s_if ((w_and (t_cmp op_le p_cmp (nomark _) (pE_P (pR_E (e_fun C_law_steps_many hg hr (by decide) (by rfl) (a_cons (e_slotF (pv 4)) a_nil)))) (pE_P (e_cst pe_int (fun _ => .int _)))) (w_and1 (t_cmp op_le p_cmp (nomark _) (pE_P (pR_E (e_callB (cr_sum (by rfl)) p_sum (by rfl) T.b_sum bb_sum (a_cons (pE_P (pR_E (e_fun C_law_laid hg hr (by decide) (by rfl) (a_cons (e_slotF (pv 4)) a_nil)))) a_nil)))) (pE_P (e_cst pe_int (fun _ => .int _))))))).pt (ss_cons (s_asgLc (i := 8) (by rfl) sc_law.nd (by rfl) (by rfl) (sw_true (by rfl) (by rfl) (by rfl) (by decide +kernel)) (own := [("hour", 14)]) (tgt := (.nm 14)) (it := (itRange1 (consA (opOf (cstE (.int 202))) nilA))) (fc := yesT) (fe := (layOf (callN gMin2 (consA (opOf (layOf (callT 2 m_law_row_reach (consA (slotF 4) (consA (slotF 14) nilA))))) (consA (opOf (layOf (bin2 gMul (slotP 6) (slotP 14)))) nilA))))) (i_range1 (by rfl) T.b_range (a_cons (pE_P (e_cst pe_int (fun _ => .int _))) a_nil)) (blkOk_by (N := N_law) (sc := defScope s_law) (by decide +kernel)) (fun _ _ _ _ _ => (g_nm (i := 14) sc_law.nd (by rfl) (Or.inl (by rfl)))) (fun _ _ _ _ _ => ts_nil) (fun _ _ _ _ _ => (pR_E (e_callB (call_min2 (by rfl)) p_min2 (by rfl) T.b_min bb_min (a_cons (pE_P (pR_E (e_fun C_law_row_reach hg hr (by decide) (by rfl) (a_cons (e_slotF (pv 4)) (a_cons (e_slotF (pv 14)) a_nil))))) (a_cons (pE_P (pR_E (e_bin o_mul p_mul (e_slotP (pv 6)) (e_slotP (pv 14))))) a_nil))))))
    (ss_one (s_if (t_not (t_val (e_fun C_law_alike hg hr (by decide) (by rfl) (a_cons (e_slotF (pv 7)) (a_cons (pE_P (pR_E (e_fun C_law_run_up hg hr (by decide) (by rfl) (a_cons (pE_P (pR_E (e_lc (by rfl) sc_law.nd (own := [("one", 15), ("other", 10)]) (tgt := (.tp [(.nm 15), (.nm 10)])) (it := (itZip (consA (opOf (slotE 8)) (consA (opOf (layOf (sl3 gSlA (slotP 8) (boundO (some (cstE (.int 1)))) (boundO none)))) nilA)))) (fc := yesT) (fe := (layOf (bin2 gSub2 (slotP 10) (slotP 15)))) (i_zip (by rfl) T.b_zip (a_cons (pE_P (e_slotE (pv 8))) (a_cons (pE_P (pR_E (e_slice sl_all p_slA (e_slotP (pv 8)) (o_some (e_cst pe_int (fun _ => .int _))) o_none))) a_nil))) (blkOk_by (N := N_law) (sc := defScope s_law) (by decide +kernel)) (fun _ _ _ _ _ => (pg_tup (by rfl) (pgs_cons (g_nm (i := 15) sc_law.nd (by rfl) (Or.inl (by rfl))) (pgs_cons (g_nm (i := 10) sc_law.nd (by rfl) (Or.inl (by rfl))) pgs_nil)))) (fun _ _ _ _ _ => ts_nil) (fun _ _ _ _ _ => (pR_E (e_bin op_sub p_sub (e_slotP (pv 10)) (e_slotP (pv 15)))))))) a_nil)))) a_nil))) (by intro _; rfl))) (ss_one (s_ret (pE_R (e_cst pe_bl (fun _ => .bl _))))) ss_nil))) ss_nil)))))
    (ss_cons (s_asg (i := 9) sc_law.nd (by rfl) (Or.inl (by rfl)) (e_bin o_add p_add (pE_P (pR_E (e_slice sl_all p_slA (e_slotP (pv 4)) o_none (o_some (pR_E (e_neg (e_cst pe_int (fun _ => .int _)))))))) (pE_P (pR_E (e_callTy call_tuple_of p_tup (by rfl) T.b_tuple bb_tuple (a_cons (pE_P (pR_E (e_lc (by rfl) sc_law.nd (own := [("step", 12), ("many", 13)]) (tgt := (.tp [(.nm 12), (.nm 13)])) (it := (itSeq (layOf (sl3 gSlA (slotP 4) (boundO (some (layOf (negR (cstE (.int 1)))))) (boundO none))))) (fc := yesT) (fe := (layOf (tupR (consA (opOf (slotE 12)) (consA (opOf (layOf (bin2 gAdd (slotP 13) (opOf (cstE (.int 1)))))) nilA))))) (i_seq (pR_E (e_slice sl_all p_slA (e_slotP (pv 4)) (o_some (pR_E (e_neg (e_cst pe_int (fun _ => .int _))))) o_none))) (blkOk_by (N := N_law) (sc := defScope s_law) (by decide +kernel)) (fun _ _ _ _ _ => (pg_tup (by rfl) (pgs_cons (g_nm (i := 12) sc_law.nd (by rfl) (Or.inl (by rfl))) (pgs_cons (g_nm (i := 13) sc_law.nd (by rfl) (Or.inl (by rfl))) pgs_nil)))) (fun _ _ _ _ _ => ts_nil) (fun _ _ _ _ _ => (pR_E (e_tup (a_cons (pE_P (e_slotE (pv 12))) (a_cons (pE_P (pR_E (e_bin o_add p_add (e_slotP (pv 13)) (pE_P (e_cst pe_int (fun _ => .int _)))))) a_nil)))))))) a_nil))))))
    (ss_one (s_for (tg := (.nm 10)) PassesOwn.never (by rfl) (i_seq (pR_E (e_lst (a_cons (pE_P (e_slotE (pv 4))) (a_cons (pE_P (e_slotE (pv 9))) (a_cons (pE_P (pR_E (e_funU C_law_some_row hg hr (by decide) (by rfl) (a_cons (e_slotP (pv 1)) a_nil)))) (a_cons (pE_P (pR_E (e_slice sl_all p_slA (e_slotP (pv 4)) o_none (o_some (pR_E (e_neg (e_cst pe_int (fun _ => .int _)))))))) (a_cons (pE_P (pR_E (e_bin o_add p_add (e_slotP (pv 4)) (pE_P (pR_E (e_bin op_rep01 p_mulT (pE_P (pR_E (e_tup (a_cons (pE_P (pR_E (e_tup (a_cons (pE_P (e_cst pe_int (fun _ => .int _))) (a_cons (pE_P (e_cst pe_int (fun _ => .int _))) a_nil))))) a_nil)))) (pE_P (pR_E (e_callTy call_int1 p_int (by rfl) T.b_int bb_int (a_cons (pE_P (pR_E (e_or (e_cmp (op_eqD hr.units) p_eq (nomark _) (e_slotP (pv 4)) (pE_P (pR_E (e_tup a_nil)))) (e_one (e_cmp op_gt p_cmp (nomark _) (pE_P (pR_E (e_ix ix_seq p_ix (pE_P (pR_E (e_ix ix_seq p_ix (e_slotP (pv 4)) (pE_P (pR_E (e_neg (e_cst pe_int (fun _ => .int _)))))))) (pE_P (e_cst pe_int (fun _ => .int _)))))) (pE_P (e_cst pe_int (fun _ => .int _)))))))) a_nil)))))))))) a_nil)))))))) (g_nm (i := 10) sc_law.nd (by rfl) (Or.inl (by rfl))) (ss_one (s_if (t_not (t_val (e_fun C_law_alike hg hr (by decide) (by rfl) (a_cons (pE_P (pR_E (e_lst (a_cons (pE_P (pR_E (e_fun C_first_unlike hg hr (by decide) (by rfl) (a_cons (e_slotF (pv 4)) (a_cons (e_slotF (pv 10)) a_nil))))) (a_cons (pE_P (pR_E (e_fun C_first_unlike hg hr (by decide) (by rfl) (a_cons (e_slotF (pv 10)) (a_cons (e_slotF (pv 4)) a_nil))))) a_nil))))) (a_cons (pE_P (pR_E (e_bin o_mul p_mul (pE_P (pR_E (e_lst (a_cons (pE_P (pR_E (e_fun C_law_first_apart hg hr (by decide) (by rfl) (a_cons (e_slotF (pv 4)) (a_cons (e_slotF (pv 10)) a_nil))))) a_nil)))) (pE_P (e_cst pe_int (fun _ => .int _)))))) a_nil))) (by intro _; rfl))) (ss_one (s_ret (pE_R (e_cst pe_bl (fun _ => .bl _))))) ss_nil)))))))))))
    (ss_one (s_ret (pE_R (e_cst pe_bl (fun _ => .bl _)))))))
end
theorem all_mk {l : PySem.W.OpenLaw} {w : World} {K : PySem.W.Frag} {h : Heap} {mg : Str → Option Value} {fa : Addr} (X : K.In h) (G : h.Ns mainGlobals mg) (hfa : mg "law" = some (.ref fa))
    {f0 : Addr} {oc0 kV0 dc0 pm0 cd0 ct0 : Value} {od0 an0 : Option Addr} {sl0 : Array (Option Value)}
    (a0 : PySem.W.nsIn K mainGlobals "reach_in" = some (some (.ref f0))) (l0 : K.lookup f0 = some ⟨oc0, od0, .func (PySem.W.fnOf "reach_in" "reach_in" (defArgs s_reach_in) (defBody s_reach_in) (defScope s_reach_in) .none kV0 dc0 pm0 an0 cd0 ct0), sl0⟩) (c0 : PySem.W.codeIn K cd0 "reach_in" = true) (k0 : PySem.W.keepIn K (.ref f0) = true)
    {f1 : Addr} {oc1 kV1 dc1 pm1 cd1 ct1 : Value} {od1 an1 : Option Addr} {sl1 : Array (Option Value)}
    (a1 : PySem.W.nsIn K mainGlobals "step_in" = some (some (.ref f1))) (l1 : K.lookup f1 = some ⟨oc1, od1, .func (PySem.W.fnOf "step_in" "step_in" (defArgs s_step_in) (defBody s_step_in) (defScope s_step_in) .none kV1 dc1 pm1 an1 cd1 ct1), sl1⟩) (c1 : PySem.W.codeIn K cd1 "step_in" = true) (k1 : PySem.W.keepIn K (.ref f1) = true)
    {f2 : Addr} {oc2 kV2 dc2 pm2 cd2 ct2 : Value} {od2 an2 : Option Addr} {sl2 : Array (Option Value)}
    (a2 : PySem.W.nsIn K mainGlobals "ends_of" = some (some (.ref f2))) (l2 : K.lookup f2 = some ⟨oc2, od2, .func (PySem.W.fnOf "ends_of" "ends_of" (defArgs s_ends_of) (defBody s_ends_of) (defScope s_ends_of) .none kV2 dc2 pm2 an2 cd2 ct2), sl2⟩) (c2 : PySem.W.codeIn K cd2 "ends_of" = true) (k2 : PySem.W.keepIn K (.ref f2) = true)
    {f3 : Addr} {oc3 kV3 dc3 pm3 cd3 ct3 : Value} {od3 an3 : Option Addr} {sl3 : Array (Option Value)}
    (a3 : PySem.W.nsIn K mainGlobals "joined_runs" = some (some (.ref f3))) (l3 : K.lookup f3 = some ⟨oc3, od3, .func (PySem.W.fnOf "joined_runs" "joined_runs" (defArgs s_joined_runs) (defBody s_joined_runs) (defScope s_joined_runs) .none kV3 dc3 pm3 an3 cd3 ct3), sl3⟩) (c3 : PySem.W.codeIn K cd3 "joined_runs" = true) (k3 : PySem.W.keepIn K (.ref f3) = true)
    {f4 : Addr} {oc4 kV4 dc4 pm4 cd4 ct4 : Value} {od4 an4 : Option Addr} {sl4 : Array (Option Value)}
    (a4 : PySem.W.nsIn K mainGlobals "runs_behind" = some (some (.ref f4))) (l4 : K.lookup f4 = some ⟨oc4, od4, .func (PySem.W.fnOf "runs_behind" "runs_behind" (defArgs s_runs_behind) (defBody s_runs_behind) (defScope s_runs_behind) .none kV4 dc4 pm4 an4 cd4 ct4), sl4⟩) (c4 : PySem.W.codeIn K cd4 "runs_behind" = true) (k4 : PySem.W.keepIn K (.ref f4) = true)
    {f5 : Addr} {oc5 kV5 dc5 pm5 cd5 ct5 : Value} {od5 an5 : Option Addr} {sl5 : Array (Option Value)}
    (a5 : PySem.W.nsIn K mainGlobals "added" = some (some (.ref f5))) (l5 : K.lookup f5 = some ⟨oc5, od5, .func (PySem.W.fnOf "added" "added" (defArgs s_added) (defBody s_added) (defScope s_added) .none kV5 dc5 pm5 an5 cd5 ct5), sl5⟩) (c5 : PySem.W.codeIn K cd5 "added" = true) (k5 : PySem.W.keepIn K (.ref f5) = true)
    {f6 : Addr} {oc6 kV6 dc6 pm6 cd6 ct6 : Value} {od6 an6 : Option Addr} {sl6 : Array (Option Value)}
    (a6 : PySem.W.nsIn K mainGlobals "hours_capped" = some (some (.ref f6))) (l6 : K.lookup f6 = some ⟨oc6, od6, .func (PySem.W.fnOf "hours_capped" "hours_capped" (defArgs s_hours_capped) (defBody s_hours_capped) (defScope s_hours_capped) .none kV6 dc6 pm6 an6 cd6 ct6), sl6⟩) (c6 : PySem.W.codeIn K cd6 "hours_capped" = true) (k6 : PySem.W.keepIn K (.ref f6) = true)
    {f7 : Addr} {oc7 kV7 dc7 pm7 cd7 ct7 : Value} {od7 an7 : Option Addr} {sl7 : Array (Option Value)}
    (a7 : PySem.W.nsIn K mainGlobals "capped" = some (some (.ref f7))) (l7 : K.lookup f7 = some ⟨oc7, od7, .func (PySem.W.fnOf "capped" "capped" (defArgs s_capped) (defBody s_capped) (defScope s_capped) .none kV7 dc7 pm7 an7 cd7 ct7), sl7⟩) (c7 : PySem.W.codeIn K cd7 "capped" = true) (k7 : PySem.W.keepIn K (.ref f7) = true)
    {f8 : Addr} {oc8 kV8 dc8 pm8 cd8 ct8 : Value} {od8 an8 : Option Addr} {sl8 : Array (Option Value)}
    (a8 : PySem.W.nsIn K mainGlobals "first_unlike" = some (some (.ref f8))) (l8 : K.lookup f8 = some ⟨oc8, od8, .func (PySem.W.fnOf "first_unlike" "first_unlike" (defArgs s_first_unlike) (defBody s_first_unlike) (defScope s_first_unlike) .none kV8 dc8 pm8 an8 cd8 ct8), sl8⟩) (c8 : PySem.W.codeIn K cd8 "first_unlike" = true) (k8 : PySem.W.keepIn K (.ref f8) = true)
    {f9 : Addr} {oc9 kV9 dc9 pm9 cd9 ct9 : Value} {od9 an9 : Option Addr} {sl9 : Array (Option Value)}
    (a9 : PySem.W.nsIn K mainGlobals "_law_bag" = some (some (.ref f9))) (l9 : K.lookup f9 = some ⟨oc9, od9, .func (PySem.W.fnOf "_law_bag" "_law_bag" (defArgs s_law_bag) (defBody s_law_bag) (defScope s_law_bag) .none kV9 dc9 pm9 an9 cd9 ct9), sl9⟩) (c9 : PySem.W.codeIn K cd9 "_law_bag" = true) (k9 : PySem.W.keepIn K (.ref f9) = true)
    {f10 : Addr} {oc10 kV10 dc10 pm10 cd10 ct10 : Value} {od10 an10 : Option Addr} {sl10 : Array (Option Value)}
    (a10 : PySem.W.nsIn K mainGlobals "_law_take" = some (some (.ref f10))) (l10 : K.lookup f10 = some ⟨oc10, od10, .func (PySem.W.fnOf "_law_take" "_law_take" (defArgs s_law_take) (defBody s_law_take) (defScope s_law_take) .none kV10 dc10 pm10 an10 cd10 ct10), sl10⟩) (c10 : PySem.W.codeIn K cd10 "_law_take" = true) (k10 : PySem.W.keepIn K (.ref f10) = true)
    {f11 : Addr} {oc11 kV11 dc11 pm11 cd11 ct11 : Value} {od11 an11 : Option Addr} {sl11 : Array (Option Value)}
    (a11 : PySem.W.nsIn K mainGlobals "_law_some" = some (some (.ref f11))) (l11 : K.lookup f11 = some ⟨oc11, od11, .func (PySem.W.fnOf "_law_some" "_law_some" (defArgs s_law_some) (defBody s_law_some) (defScope s_law_some) .none kV11 dc11 pm11 an11 cd11 ct11), sl11⟩) (c11 : PySem.W.codeIn K cd11 "_law_some" = true) (k11 : PySem.W.keepIn K (.ref f11) = true)
    {f12 : Addr} {oc12 kV12 dc12 pm12 cd12 ct12 : Value} {od12 an12 : Option Addr} {sl12 : Array (Option Value)}
    (a12 : PySem.W.nsIn K mainGlobals "_law_alike" = some (some (.ref f12))) (l12 : K.lookup f12 = some ⟨oc12, od12, .func (PySem.W.fnOf "_law_alike" "_law_alike" (defArgs s_law_alike) (defBody s_law_alike) (defScope s_law_alike) .none kV12 dc12 pm12 an12 cd12 ct12), sl12⟩) (c12 : PySem.W.codeIn K cd12 "_law_alike" = true) (k12 : PySem.W.keepIn K (.ref f12) = true)
    {f13 : Addr} {oc13 kV13 dc13 pm13 cd13 ct13 : Value} {od13 an13 : Option Addr} {sl13 : Array (Option Value)}
    (a13 : PySem.W.nsIn K mainGlobals "_law_run" = some (some (.ref f13))) (l13 : K.lookup f13 = some ⟨oc13, od13, .func (PySem.W.fnOf "_law_run" "_law_run" (defArgs s_law_run) (defBody s_law_run) (defScope s_law_run) .none kV13 dc13 pm13 an13 cd13 ct13), sl13⟩) (c13 : PySem.W.codeIn K cd13 "_law_run" = true) (k13 : PySem.W.keepIn K (.ref f13) = true)
    {f14 : Addr} {oc14 kV14 dc14 pm14 cd14 ct14 : Value} {od14 an14 : Option Addr} {sl14 : Array (Option Value)}
    (a14 : PySem.W.nsIn K mainGlobals "_law_row_reach" = some (some (.ref f14))) (l14 : K.lookup f14 = some ⟨oc14, od14, .func (PySem.W.fnOf "_law_row_reach" "_law_row_reach" (defArgs s_law_row_reach) (defBody s_law_row_reach) (defScope s_law_row_reach) .none kV14 dc14 pm14 an14 cd14 ct14), sl14⟩) (c14 : PySem.W.codeIn K cd14 "_law_row_reach" = true) (k14 : PySem.W.keepIn K (.ref f14) = true)
    {f15 : Addr} {oc15 kV15 dc15 pm15 cd15 ct15 : Value} {od15 an15 : Option Addr} {sl15 : Array (Option Value)}
    (a15 : PySem.W.nsIn K mainGlobals "_law_steps_many" = some (some (.ref f15))) (l15 : K.lookup f15 = some ⟨oc15, od15, .func (PySem.W.fnOf "_law_steps_many" "_law_steps_many" (defArgs s_law_steps_many) (defBody s_law_steps_many) (defScope s_law_steps_many) .none kV15 dc15 pm15 an15 cd15 ct15), sl15⟩) (c15 : PySem.W.codeIn K cd15 "_law_steps_many" = true) (k15 : PySem.W.keepIn K (.ref f15) = true)
    {f16 : Addr} {oc16 kV16 dc16 pm16 cd16 ct16 : Value} {od16 an16 : Option Addr} {sl16 : Array (Option Value)}
    (a16 : PySem.W.nsIn K mainGlobals "_law_row_of" = some (some (.ref f16))) (l16 : K.lookup f16 = some ⟨oc16, od16, .func (PySem.W.fnOf "_law_row_of" "_law_row_of" (defArgs s_law_row_of) (defBody s_law_row_of) (defScope s_law_row_of) .none kV16 dc16 pm16 an16 cd16 ct16), sl16⟩) (c16 : PySem.W.codeIn K cd16 "_law_row_of" = true) (k16 : PySem.W.keepIn K (.ref f16) = true)
    {f17 : Addr} {oc17 kV17 dc17 pm17 cd17 ct17 : Value} {od17 an17 : Option Addr} {sl17 : Array (Option Value)}
    (a17 : PySem.W.nsIn K mainGlobals "_law_added" = some (some (.ref f17))) (l17 : K.lookup f17 = some ⟨oc17, od17, .func (PySem.W.fnOf "_law_added" "_law_added" (defArgs s_law_added) (defBody s_law_added) (defScope s_law_added) .none kV17 dc17 pm17 an17 cd17 ct17), sl17⟩) (c17 : PySem.W.codeIn K cd17 "_law_added" = true) (k17 : PySem.W.keepIn K (.ref f17) = true)
    (m17 : (PySem.W.tabIn K "_law_added").isSome = true)
    {f18 : Addr} {oc18 kV18 dc18 pm18 cd18 ct18 : Value} {od18 an18 : Option Addr} {sl18 : Array (Option Value)}
    (a18 : PySem.W.nsIn K mainGlobals "_law_capped" = some (some (.ref f18))) (l18 : K.lookup f18 = some ⟨oc18, od18, .func (PySem.W.fnOf "_law_capped" "_law_capped" (defArgs s_law_capped) (defBody s_law_capped) (defScope s_law_capped) .none kV18 dc18 pm18 an18 cd18 ct18), sl18⟩) (c18 : PySem.W.codeIn K cd18 "_law_capped" = true) (k18 : PySem.W.keepIn K (.ref f18) = true)
    (m18 : (PySem.W.tabIn K "_law_capped").isSome = true)
    {f19 : Addr} {oc19 kV19 dc19 pm19 cd19 ct19 : Value} {od19 an19 : Option Addr} {sl19 : Array (Option Value)}
    (a19 : PySem.W.nsIn K mainGlobals "_law_some_row" = some (some (.ref f19))) (l19 : K.lookup f19 = some ⟨oc19, od19, .func (PySem.W.fnOf "_law_some_row" "_law_some_row" (defArgs s_law_some_row) (defBody s_law_some_row) (defScope s_law_some_row) .none kV19 dc19 pm19 an19 cd19 ct19), sl19⟩) (c19 : PySem.W.codeIn K cd19 "_law_some_row" = true) (k19 : PySem.W.keepIn K (.ref f19) = true)
    {f20 : Addr} {oc20 kV20 dc20 pm20 cd20 ct20 : Value} {od20 an20 : Option Addr} {sl20 : Array (Option Value)}
    (a20 : PySem.W.nsIn K mainGlobals "_law_laid" = some (some (.ref f20))) (l20 : K.lookup f20 = some ⟨oc20, od20, .func (PySem.W.fnOf "_law_laid" "_law_laid" (defArgs s_law_laid) (defBody s_law_laid) (defScope s_law_laid) .none kV20 dc20 pm20 an20 cd20 ct20), sl20⟩) (c20 : PySem.W.codeIn K cd20 "_law_laid" = true) (k20 : PySem.W.keepIn K (.ref f20) = true)
    {f21 : Addr} {oc21 kV21 dc21 pm21 cd21 ct21 : Value} {od21 an21 : Option Addr} {sl21 : Array (Option Value)}
    (a21 : PySem.W.nsIn K mainGlobals "_law_run_up" = some (some (.ref f21))) (l21 : K.lookup f21 = some ⟨oc21, od21, .func (PySem.W.fnOf "_law_run_up" "_law_run_up" (defArgs s_law_run_up) (defBody s_law_run_up) (defScope s_law_run_up) .none kV21 dc21 pm21 an21 cd21 ct21), sl21⟩) (c21 : PySem.W.codeIn K cd21 "_law_run_up" = true) (k21 : PySem.W.keepIn K (.ref f21) = true)
    (m21 : (PySem.W.tabIn K "_law_run_up").isSome = true)
    {f22 : Addr} {oc22 kV22 dc22 pm22 cd22 ct22 : Value} {od22 an22 : Option Addr} {sl22 : Array (Option Value)}
    (a22 : PySem.W.nsIn K mainGlobals "_law_first_apart" = some (some (.ref f22))) (l22 : K.lookup f22 = some ⟨oc22, od22, .func (PySem.W.fnOf "_law_first_apart" "_law_first_apart" (defArgs s_law_first_apart) (defBody s_law_first_apart) (defScope s_law_first_apart) .none kV22 dc22 pm22 an22 cd22 ct22), sl22⟩) (c22 : PySem.W.codeIn K cd22 "_law_first_apart" = true) (k22 : PySem.W.keepIn K (.ref f22) = true)
    {f23 : Addr} {oc23 kV23 dc23 pm23 cd23 ct23 : Value} {od23 an23 : Option Addr} {sl23 : Array (Option Value)}
    (a23 : PySem.W.nsIn K mainGlobals "law" = some (some (.ref f23))) (l23 : K.lookup f23 = some ⟨oc23, od23, .func (PySem.W.fnOf "law" "law" (defArgs s_law) (defBody s_law) (defScope s_law) .none kV23 dc23 pm23 an23 cd23 ct23), sl23⟩) (c23 : PySem.W.codeIn K cd23 "law" = true) (k23 : PySem.W.keepIn K (.ref f23) = true)
    (z_abs : PySem.W.nsIn K mainGlobals "abs" = some none)
    (z_int : PySem.W.nsIn K mainGlobals "int" = some none)
    (z_len : PySem.W.nsIn K mainGlobals "len" = some none)
    (z_list : PySem.W.nsIn K mainGlobals "list" = some none)
    (z_max : PySem.W.nsIn K mainGlobals "max" = some none)
    (z_min : PySem.W.nsIn K mainGlobals "min" = some none)
    (z_range : PySem.W.nsIn K mainGlobals "range" = some none)
    (z_repr : PySem.W.nsIn K mainGlobals "repr" = some none)
    (z_set : PySem.W.nsIn K mainGlobals "set" = some none)
    (z_sorted : PySem.W.nsIn K mainGlobals "sorted" = some none)
    (z_sum : PySem.W.nsIn K mainGlobals "sum" = some none)
    (z_tuple : PySem.W.nsIn K mainGlobals "tuple" = some none)
    (z_zip : PySem.W.nsIn K mainGlobals "zip" = some none)
    : ∃ fd : FuncData, (∀ (s : Shared) (v : Value), BindsTo s fd ⟨[v], []⟩ [("script", v)]) ∧ ∀ base : Heap, K.In base → base.Ns mainGlobals mg → MakersOk K mg base → FnG l.prog w K mg base CX0 5 fa fd ["script"] (spT K 1 m_law) := by
  have e := hfa.symm.trans (PySem.W.mg_of X G a23)
  cases e
  have T : Tops mg := ⟨PySem.W.mg_none_of X G z_abs, PySem.W.mg_none_of X G z_int, PySem.W.mg_none_of X G z_len, PySem.W.mg_none_of X G z_list, PySem.W.mg_none_of X G z_max, PySem.W.mg_none_of X G z_min, PySem.W.mg_none_of X G z_range, PySem.W.mg_none_of X G z_repr, PySem.W.mg_none_of X G z_set, PySem.W.mg_none_of X G z_sorted, PySem.W.mg_none_of X G z_sum, PySem.W.mg_none_of X G z_tuple, PySem.W.mg_none_of X G z_zip⟩
  have F := fun_mk (st := s_law) l23 c23 k23
  refine ⟨PySem.W.fnOf "law" "law" (defArgs s_law) (defBody s_law) (defScope s_law) .none kV23 dc23 pm23 an23 cd23 ct23, fun s v => .of_eq rfl, fun base _ _ M => ?_⟩
  have D_reach_in : DefAt K mg "reach_in" s_reach_in ["stairs", "h"] := defAt (l := l) X G a0 l0 c0 k0 fun _ _ _ _ _ _ us hl => match us, hl with | [_, _], _ => rfl
  have C_reach_in := ok_reach_in (P := l.prog) (w := w) (base := base) T D_reach_in
  have D_step_in : DefAt K mg "step_in" s_step_in ["stairs", "h"] := defAt (l := l) X G a1 l1 c1 k1 fun _ _ _ _ _ _ us hl => match us, hl with | [_, _], _ => rfl
  have C_step_in := ok_step_in (P := l.prog) (w := w) (base := base) T D_step_in C_reach_in
  have D_ends_of : DefAt K mg "ends_of" s_ends_of ["stairs"] := defAt (l := l) X G a2 l2 c2 k2 fun _ _ _ _ _ _ us hl => match us, hl with | [_], _ => rfl
  have C_ends_of := ok_ends_of (P := l.prog) (w := w) (base := base) T D_ends_of
  have D_joined_runs : DefAt K mg "joined_runs" s_joined_runs ["runs"] := defAt (l := l) X G a3 l3 c3 k3 fun _ _ _ _ _ _ us hl => match us, hl with | [_], _ => rfl
  have C_joined_runs := ok_joined_runs (P := l.prog) (w := w) (base := base) T D_joined_runs
  have D_runs_behind : DefAt K mg "runs_behind" s_runs_behind ["stairs", "h"] := defAt (l := l) X G a4 l4 c4 k4 fun _ _ _ _ _ _ us hl => match us, hl with | [_, _], _ => rfl
  have C_runs_behind := ok_runs_behind (P := l.prog) (w := w) (base := base) T D_runs_behind
  have D_added : DefAt K mg "added" s_added ["rows"] := defAt (l := l) X G a5 l5 c5 k5 fun _ _ _ _ _ _ us hl => match us, hl with | [_], _ => rfl
  have C_added := ok_added (P := l.prog) (w := w) (base := base) T D_added C_joined_runs C_step_in C_ends_of
  have D_hours_capped : DefAt K mg "hours_capped" s_hours_capped ["stairs", "cap"] := defAt (l := l) X G a6 l6 c6 k6 fun _ _ _ _ _ _ us hl => match us, hl with | [_, _], _ => rfl
  have C_hours_capped := ok_hours_capped (P := l.prog) (w := w) (base := base) T D_hours_capped
  have D_capped : DefAt K mg "capped" s_capped ["stairs", "cap"] := defAt (l := l) X G a7 l7 c7 k7 fun _ _ _ _ _ _ us hl => match us, hl with | [_, _], _ => rfl
  have C_capped := ok_capped (P := l.prog) (w := w) (base := base) T D_capped C_joined_runs C_runs_behind C_reach_in C_hours_capped
  have D_first_unlike : DefAt K mg "first_unlike" s_first_unlike ["one", "other"] := defAt (l := l) X G a8 l8 c8 k8 fun _ _ _ _ _ _ us hl => match us, hl with | [_, _], _ => rfl
  have C_first_unlike := ok_first_unlike (P := l.prog) (w := w) (base := base) T D_first_unlike C_ends_of C_step_in
  have D_law_bag : DefAt K mg "_law_bag" s_law_bag ["script"] := defAt (l := l) X G a9 l9 c9 k9 fun _ _ _ _ _ _ us hl => match us, hl with | [_], _ => rfl
  have C_law_bag := ok_law_bag (P := l.prog) (w := w) (base := base) T D_law_bag
  have D_law_take : DefAt K mg "_law_take" s_law_take ["bag", "many"] := defAt (l := l) X G a10 l10 c10 k10 fun _ _ _ _ _ _ us hl => match us, hl with | [_, _], _ => rfl
  have C_law_take := ok_law_take (P := l.prog) (w := w) (base := base) T D_law_take
  have D_law_some : DefAt K mg "_law_some" s_law_some ["bag", "things"] := defAt (l := l) X G a11 l11 c11 k11 fun _ _ _ _ _ _ us hl => match us, hl with | [_, _], _ => rfl
  have C_law_some := ok_law_some (P := l.prog) (w := w) (base := base) T D_law_some C_law_take
  have D_law_alike : DefAt K mg "_law_alike" s_law_alike ["found", "due"] := defAt (l := l) X G a12 l12 c12 k12 fun _ _ _ _ _ _ us hl => match us, hl with | [_, _], _ => rfl
  have C_law_alike := ok_law_alike (P := l.prog) (w := w) (base := base) T D_law_alike
  have D_law_run : DefAt K mg "_law_run" s_law_run ["found", "step", "many"] := defAt (l := l) X G a13 l13 c13 k13 fun _ _ _ _ _ _ us hl => match us, hl with | [_, _, _], _ => rfl
  have C_law_run := ok_law_run (P := l.prog) (w := w) (base := base) T D_law_run
  have D_law_row_reach : DefAt K mg "_law_row_reach" s_law_row_reach ["row", "hours"] := defAt (l := l) X G a14 l14 c14 k14 fun _ _ _ _ _ _ us hl => match us, hl with | [_, _], _ => rfl
  have C_law_row_reach := ok_law_row_reach (P := l.prog) (w := w) (base := base) T D_law_row_reach
  have D_law_steps_many : DefAt K mg "_law_steps_many" s_law_steps_many ["row"] := defAt (l := l) X G a15 l15 c15 k15 fun _ _ _ _ _ _ us hl => match us, hl with | [_], _ => rfl
  have C_law_steps_many := ok_law_steps_many (P := l.prog) (w := w) (base := base) T D_law_steps_many
  have D_law_row_of : DefAt K mg "_law_row_of" s_law_row_of ["bends", "rule"] := defAt (l := l) X G a16 l16 c16 k16 fun _ _ _ _ _ _ us hl => match us, hl with | [_, _], _ => rfl
  have C_law_row_of := ok_law_row_of (P := l.prog) (w := w) (base := base) T D_law_row_of C_law_run
  obtain ⟨c_law_added, P_law_added, D_law_added⟩ := defAtM (x := "_law_added") (st := s_law_added) (ps := ["rows"]) (l := l) X G a17 l17 c17 k17 m17 fun _ _ _ _ _ _ us hl => match us, hl with | [_], _ => rfl
  have C_law_added := ok_law_added (P := l.prog) (w := w) (base := base) T M D_law_added C_law_row_of C_law_row_reach
  obtain ⟨c_law_capped, P_law_capped, D_law_capped⟩ := defAtM (x := "_law_capped") (st := s_law_capped) (ps := ["row", "cap"]) (l := l) X G a18 l18 c18 k18 m18 fun _ _ _ _ _ _ us hl => match us, hl with | [_, _], _ => rfl
  have C_law_capped := ok_law_capped (P := l.prog) (w := w) (base := base) T M D_law_capped C_law_row_of C_law_row_reach
  have D_law_some_row : DefAt K mg "_law_some_row" s_law_some_row ["bag"] := defAt (l := l) X G a19 l19 c19 k19 fun _ _ _ _ _ _ us hl => match us, hl with | [_], _ => rfl
  have C_law_some_row := ok_law_some_row (P := l.prog) (w := w) (base := base) T D_law_some_row C_law_some C_law_take
  have D_law_laid : DefAt K mg "_law_laid" s_law_laid ["row"] := defAt (l := l) X G a20 l20 c20 k20 fun _ _ _ _ _ _ us hl => match us, hl with | [_], _ => rfl
  have C_law_laid := ok_law_laid (P := l.prog) (w := w) (base := base) T D_law_laid
  obtain ⟨c_law_run_up, P_law_run_up, D_law_run_up⟩ := defAtM (x := "_law_run_up") (st := s_law_run_up) (ps := ["steps"]) (l := l) X G a21 l21 c21 k21 m21 fun _ _ _ _ _ _ us hl => match us, hl with | [_], _ => rfl
  have C_law_run_up := ok_law_run_up (P := l.prog) (w := w) (base := base) T M D_law_run_up C_law_run
  have D_law_first_apart : DefAt K mg "_law_first_apart" s_law_first_apart ["one", "other"] := defAt (l := l) X G a22 l22 c22 k22 fun _ _ _ _ _ _ us hl => match us, hl with | [_, _], _ => rfl
  have C_law_first_apart := ok_law_first_apart (P := l.prog) (w := w) (base := base) T D_law_first_apart
  exact ok_law T F C_law_some_row C_law_alike C_law_first_apart C_first_unlike C_law_take C_law_some C_law_steps_many C_law_laid C_law_run_up C_law_row_reach C_law_capped C_capped C_law_added C_added C_law_bag
end Law

open NS PySem L2
local macro_rules | `(tactic| and_intros) => `(tactic| repeat' (first
  | ((with_reducible refine sh_ends ?_); first
    | (with_reducible apply S_seq)
    | (with_reducible apply S_asg)
    | (with_reducible apply S_ret)
    | (with_reducible apply S_if_and)
    | (with_reducible apply S_if_or)
    | (with_reducible apply S_if_not)
    | (with_reducible apply S_if)
    | (with_reducible apply S_nil)
    | (with_reducible apply S_par2)
    | (with_reducible apply S_aug)
    | (with_reducible apply S_unp)
    | (with_reducible apply S_set)
    | (with_reducible apply S_augx)
    | (with_reducible apply S_ins)
    | (with_reducible apply S_app)
    | (with_reducible apply S_extA)
    | (with_reducible apply S_drop)
    | (with_reducible apply S_brk)
    | (with_reducible apply S_cnt)
    | (with_reducible apply S_for))
  | ((with_reducible refine sh_ev ?_); first
    | ((with_reducible apply E_first); (· exact rfl); (· with_reducible assumption))
    | (with_reducible apply E_opOf)
    | (with_reducible apply E_layOf)
    | (with_reducible apply E_consA)
    | with_reducible exact E_cst
    | with_reducible exact E_nilA
    | (with_reducible apply E_bin2)
    | ((with_reducible apply E_slotE); (exact rfl))
    | ((with_reducible apply E_slotE_l); (exact rfl))
    | ((with_reducible apply E_slotP); (exact rfl))
    | ((with_reducible apply E_slotP_s); (exact rfl))
    | ((with_reducible apply E_slotP_r); (exact rfl))
    | ((with_reducible apply E_slotF); (exact rfl))
    | ((with_reducible apply E_slotF_s); (exact rfl))
    | ((with_reducible apply E_slotF_l); (exact rfl))
    | ((with_reducible apply E_take); (exact rfl))
    | ((with_reducible apply E_take_l); (exact rfl))
    | ((with_reducible refine sh_orV ?_); (with_reducible assumption))
    | ((with_reducible apply pickR_kf); (· with_reducible assumption))
    | ((with_reducible apply pickR_k); (· with_reducible assumption))
    | (with_reducible apply E_callN)
    | (with_reducible apply E_boolOf)
    | (with_reducible apply E_callT)
    | (with_reducible apply E_callU)
    | (with_reducible apply E_resOf)
    | (with_reducible apply E_tupR)
    | (with_reducible apply E_lstR)
    | (with_reducible apply E_bound1)
    | (with_reducible apply E_sl3)
    | (with_reducible apply E_slS)
    | (with_reducible apply E_revR)
    | (with_reducible apply E_negR)
    | (with_reducible apply E_andT)
    | (with_reducible apply E_orT)
    | (with_reducible apply E_notT)
    | (with_reducible apply E_ofT)
    | (with_reducible apply E_andV)
    | (with_reducible apply E_orV)
    | (with_reducible apply E_notV)
    | (with_reducible apply E_ifRb)
    | (with_reducible apply pickR_t)
    | (with_reducible apply pickR_f)
    | (with_reducible apply pickR_d)
    | (with_reducible apply E_rg1)
    | (with_reducible apply E_rg2)
    | (with_reducible apply E_lstRg2)
    | (with_reducible apply E_lc)
    | (with_reducible apply E_zipL)
    | (with_reducible apply E_zipT)
    | (with_reducible apply E_enum)
    | (with_reducible apply E_enumA)
    | (with_reducible apply E_chain3)
    | (with_reducible apply E_isi)
    | (with_reducible apply E_callF)
    | (with_reducible apply E_callB2)
    | (with_reducible apply E_sortNeg)
    | (with_reducible apply E_itSeq)
    | with_reducible exact E_bound0
    | with_reducible exact E_yesT)
  | ((with_reducible refine sh_call ?_); first
    | with_reducible assumption
    | with_reducible exact sq_l
    | with_reducible exact sq_t
    | with_reducible exact opD_v
    | with_reducible exact opDs_nil
    | with_reducible exact vals_nil
    | (with_reducible apply opDs_cons)
    | (with_reducible apply vals_cons)
    | ((with_reducible apply opD_rl); (exact rfl))
    | ((with_reducible apply sh_ix); (exact rfl))
    | with_reducible exact G_addI
    | with_reducible exact G_subI
    | with_reducible exact G_cmp
    | with_reducible exact G_eqI
    | with_reducible exact G_neI
    | with_reducible exact G_min2
    | with_reducible exact G_max2
    | with_reducible exact G_abs
    | with_reducible exact G_int
    | with_reducible exact G_lenL
    | with_reducible exact G_lenT
    | with_reducible exact G_tupL
    | with_reducible exact G_tupT
    | with_reducible exact G_lstL
    | with_reducible exact G_lstT
    | with_reducible exact G_slL
    | with_reducible exact G_slAL
    | with_reducible exact G_slAT
    | (with_reducible apply G_addL)
    | (with_reducible apply G_addT)
    | (with_reducible apply G_mulI)
    | (with_reducible apply G_mulL1)
    | (with_reducible apply G_mulL)
    | (with_reducible apply G_fdiv)
    | (with_reducible apply G_mod)
    | (with_reducible apply G_pow)
    | (with_reducible apply G_ixL)
    | (with_reducible apply G_ixT)
    | ((with_reducible refine sh_ixN (x := some 0) ?_); (exact rfl))
    | ((with_reducible refine sh_ixN (x := some 1) ?_); (exact rfl))
    | ((with_reducible refine sh_ixN (x := some 2) ?_); (exact rfl))
    | ((with_reducible refine sh_ixN (x := some 3) ?_); (exact rfl))
    | ((with_reducible refine sh_ixN (x := some 4) ?_); (exact rfl))
    | ((with_reducible refine sh_ixN (x := some 5) ?_); (exact rfl))
    | ((with_reducible refine sh_ixN (x := some 6) ?_); (exact rfl))
    | ((with_reducible refine sh_ixN (x := some 7) ?_); (exact rfl))
    | ((with_reducible apply sh_ixN); (exact rfl))
    | ((with_reducible apply sh_ixD); (exact rfl))
    | ((with_reducible apply sh_tg); (first | (dsimp only [tgE, tgsE, List.set]; done) | (dsimp only [tgE, tgsE, List.set]; exact rfl) | exact rfl))
    | with_reducible exact at0 _ _
    | with_reducible exact at1 _ _ _
    | with_reducible exact at2 _ _ _ _
    | with_reducible exact at3 _ _ _ _ _
    | with_reducible exact G_sum)
  | (with_reducible apply SeqQ.nx)
  | (with_reducible apply SeqQ.rt)
  | (with_reducible apply SeqQ.bk)
  | (with_reducible apply SeqQ.ct)
  | (with_reducible apply LoopQ.nx)
  | (with_reducible apply LoopQ.ct)
  | (with_reducible apply LoopQ.bk)
  | (with_reducible apply LoopQ.rt)
  | with_reducible exact toD_d
  | with_reducible exact toD_l
  | with_reducible exact ov_d
  | with_reducible exact ov_l
  | ((with_reducible apply sh_set); (first | (dsimp only [List.set]; done) | (dsimp only [List.set]; exact rfl) | exact rfl))
  | ((with_reducible apply sh_io); (first | (dsimp only [OV.setIo, OV.io]; done) | (dsimp only [OV.setIo, OV.io]; exact rfl) | exact rfl))
  | ((with_reducible apply sh_len); (exact rfl))
  | ((with_reducible apply sh_le); (exact Nat.le_of_ble_eq_true rfl))
  | ((with_reducible refine sh_ift ?_); intro hb; (try simp only [Bool.false_eq_true, Bool.true_eq_false, Bool.not_eq_true, Bool.not_eq_false, Bool.not_eq_eq_eq_not, Bool.not_true, Bool.not_false, beq_iff_eq, beq_eq_false_iff_ne, ne_eq, decide_eq_true_eq, decide_eq_false_iff_not, Bool.and_eq_true, Bool.or_eq_true, Bool.and_eq_false_iff, Bool.or_eq_false_iff] at hb); (first | (exfalso; omega) | (exfalso; exact hb trivial) | skip))
  | ((with_reducible refine sh_iff ?_); intro hb; (try simp only [Bool.false_eq_true, Bool.true_eq_false, Bool.not_eq_true, Bool.not_eq_false, Bool.not_eq_eq_eq_not, Bool.not_true, Bool.not_false, beq_iff_eq, beq_eq_false_iff_ne, ne_eq, decide_eq_true_eq, decide_eq_false_iff_not, Bool.and_eq_true, Bool.or_eq_true, Bool.and_eq_false_iff, Bool.or_eq_false_iff] at hb); (first | (exfalso; omega) | (exfalso; exact hb trivial) | skip))
  | ((with_reducible apply sh_wipe); (first | (dsimp only [wipeE, List.set]; done) | (dsimp only [wipeE, List.set]; exact rfl) | exact rfl))
  | ((with_reducible apply sh_env); (first | (dsimp only [OV.setIo, envOf, List.map, argOv, List.replicate, List.length_cons, List.length_nil, List.append, List.cons_append, List.nil_append, Nat.reduceAdd, Nat.reduceSub]; done) | (dsimp only [OV.setIo, envOf, List.map, argOv, List.replicate, List.length_cons, List.length_nil, List.append, List.cons_append, List.nil_append, Nat.reduceAdd, Nat.reduceSub]; exact rfl) | exact rfl))
  | ((with_reducible apply sh_envU); (first | (dsimp only [OV.setIo, envOf, List.map, argOv, List.replicate, List.length_cons, List.length_nil, List.append, List.cons_append, List.nil_append, Nat.reduceAdd, Nat.reduceSub]; done) | (dsimp only [OV.setIo, envOf, List.map, argOv, List.replicate, List.length_cons, List.length_nil, List.append, List.cons_append, List.nil_append, Nat.reduceAdd, Nat.reduceSub]; exact rfl) | exact rfl))
  | ((with_reducible apply sh_back); (first | (simp only [backE, List.getElem?_cons_succ, List.getElem?_cons_zero, List.set_cons_succ, List.set_cons_zero]; done) | (simp only [backE, List.getElem?_cons_succ, List.getElem?_cons_zero, List.set_cons_succ, List.set_cons_zero]; exact rfl) | exact rfl))
  | ((with_reducible apply sh_bool); (first | exact rfl | (simp only [plain_cons, plain_nil, List.getElem?_cons_succ, List.getElem?_cons_zero, plain2_map, plain2_fz, plain2_no, Bool.true_and]; exact rfl)))
  | ((with_reducible apply sh_pos); (first | with_reducible assumption | omega | decide))
  | ((with_reducible apply sh_big); (first | with_reducible assumption | (apply big_of; omega)))
  | ((with_reducible apply sh_leI); (first | with_reducible assumption | omega))
  | ((with_reducible apply sh_ltI); (first | with_reducible assumption | omega))
  | ((with_reducible apply sh_mulN); ((try simp only [List.length_append, List.length_cons, List.length_nil, List.length_map, List.length_replicate]); omega))
  | ((with_reducible apply sh_le2); ((try simp only [List.length_append, List.length_cons, List.length_nil, List.length_map, List.length_replicate]); omega))
  | ((with_reducible apply sh_lt2); ((try simp only [List.length_append, List.length_cons, List.length_nil, List.length_map, List.length_replicate]); omega))))

namespace Law
open PySem L2 NS
/-! ### rows: plain mathematics -/
abbrev Row := List (Int × Int)
def rch : Row → Int → Int
  | [], _ => 0
  | p :: r, l => p.1 * min p.2 l + rch r (l - min p.2 l)
def hrs : Row → Int
  | [] => 0
  | p :: r => p.2 + hrs r
def whl : Row → Int
  | [] => 0
  | p :: r => p.1 * p.2 + whl r
def fst0 : Row → Int
  | [] => 0
  | p :: _ => p.1
theorem rch_cons (p : Int × Int) (r : Row) (l : Int) : rch (p :: r) l = p.1 * min p.2 l + rch r (l - min p.2 l) := rfl
theorem hrs_cons (p : Int × Int) (r : Row) : hrs (p :: r) = p.2 + hrs r := rfl
def Nng (r : Row) : Prop := ∀ p ∈ r, 0 ≤ p.2
structure Canon (r : Row) : Prop where
  dec : r.Pairwise fun a b => b.1 < a.1
  pos : ∀ p ∈ r, 0 < p.1 ∧ 0 < p.2
theorem Canon.nng {r : Row} (h : Canon r) : Nng r := fun p hp => Int.le_of_lt (h.pos p hp).2
theorem Canon.tail {p : Int × Int} {r : Row} (h : Canon (p :: r)) : Canon r := ⟨(List.pairwise_cons.mp h.dec).2, fun q hq => h.pos q (by simp [hq])⟩
theorem Canon.head {p : Int × Int} {r : Row} (h : Canon (p :: r)) : ∀ q ∈ r, q.1 < p.1 := (List.pairwise_cons.mp h.dec).1
theorem Canon.nil : Canon [] := ⟨.nil, by simp⟩
theorem Nng.tail {p : Int × Int} {r : Row} (h : Nng (p :: r)) : Nng r := fun q hq => h q (by simp [hq])
theorem rch_lo {p : Int × Int} {r : Row} {l : Int} (h : l ≤ p.2) : rch (p :: r) l = p.1 * l + rch r 0 := by
  rw [rch_cons, Int.min_eq_right h, Int.sub_self]
theorem rch_hi {p : Int × Int} {r : Row} {l : Int} (h : p.2 ≤ l) : rch (p :: r) l = p.1 * p.2 + rch r (l - p.2) := by
  rw [rch_cons, Int.min_eq_left h]
theorem rch_zero : ∀ {r : Row}, Nng r → rch r 0 = 0
  | [], _ => rfl
  | p :: r, h => by rw [rch_lo (h p (by simp)), rch_zero h.tail, Int.mul_zero]; rfl
theorem rch_one {p : Int × Int} {r : Row} (h : Nng r) (h1 : 1 ≤ p.2) : rch (p :: r) 1 = p.1 := by
  rw [rch_lo h1, rch_zero h]; omega
theorem rch_inc : ∀ {r : Row} {X j : Int}, 0 ≤ X → 0 ≤ j → (∀ q ∈ r, 0 ≤ q.1 ∧ q.1 ≤ X ∧ 0 ≤ q.2) → rch r j ≤ rch r (j + 1) ∧ rch r (j + 1) ≤ rch r j + X
  | [], X, j, h0, _, _ => by simp [rch]; exact h0
  | p :: r, X, j, h0, hj, h => by
    obtain ⟨a, b, c⟩ := h p (by simp)
    by_cases hl : j < p.2
    · rw [rch_lo (show j + 1 ≤ p.2 by omega), rch_lo (show j ≤ p.2 by omega), Int.mul_add, Int.mul_one]
      omega
    · rw [rch_hi (show p.2 ≤ j + 1 by omega), rch_hi (show p.2 ≤ j by omega), show j + 1 - p.2 = (j - p.2) + 1 by omega]
      have := rch_inc (r := r) (j := j - p.2) h0 (by omega) (fun q hq => h q (by simp [hq]))
      omega
theorem Canon.le {r : Row} (h : Canon r) : ∀ q ∈ r, 0 ≤ q.1 ∧ q.1 ≤ fst0 r ∧ 0 ≤ q.2 := fun q hq => by
  have := h.pos q hq
  refine ⟨by omega, ?_, by omega⟩
  cases r with
  | nil => cases hq
  | cons p r =>
    rcases List.mem_cons.mp hq with rfl | hq
    · exact Int.le_refl _
    · exact Int.le_of_lt (h.head q hq)
theorem Canon.fst {r : Row} (h : Canon r) : 0 ≤ fst0 r := by
  cases r with
  | nil => exact Int.le_refl _
  | cons p r => exact Int.le_of_lt (h.pos p (by simp)).1
theorem Canon.inc {r : Row} {j : Int} (h : Canon r) (hj : 0 ≤ j) : rch r j ≤ rch r (j + 1) ∧ rch r (j + 1) ≤ rch r j + fst0 r := rch_inc h.fst hj h.le
theorem Canon.one {r : Row} (h : Canon r) : rch r 1 = fst0 r := by
  cases r with
  | nil => rfl
  | cons p r => exact rch_one h.tail.nng (by have := (h.pos p (by simp)).2; omega)
/-- a row is told by its reach -/
theorem canon_eq : ∀ {a b : Row}, Canon a → Canon b → (∀ h, 0 ≤ h → rch a h = rch b h) → a = b
  | [], [], _, _, _ => rfl
  | [], q :: b, _, hb, h => by
    have e := h 1 (by omega)
    rw [hb.one] at e
    have := (hb.pos q (by simp)).1
    simp [rch, fst0] at e; omega
  | p :: a, [], ha, _, h => by
    have e := h 1 (by omega)
    rw [ha.one] at e
    have := (ha.pos p (by simp)).1
    simp [rch, fst0] at e; omega
  | p :: a, q :: b, ha, hb, h => by
    have p2 := (ha.pos p (by simp)).2
    have q2 := (hb.pos q (by simp)).2
    have e1 : p.1 = q.1 := by have e := h 1 (by omega); rw [ha.one, hb.one] at e; exact e
    -- a shorter first run shows
    have short : ∀ {p q : Int × Int} {a b : Row}, Canon (p :: a) → Canon (q :: b) → p.1 = q.1 → (∀ h, 0 ≤ h → rch (p :: a) h = rch (q :: b) h) → ¬ p.2 < q.2 := fun {p q a b} ha hb e1 h hl => by
      have p2 := (ha.pos p (by simp)).2
      have h1 := h p.2 (by omega)
      have h2 := h (p.2 + 1) (by omega)
      rw [rch_lo (show p.2 ≤ p.2 by omega), rch_lo (show p.2 ≤ q.2 by omega), rch_zero ha.tail.nng, rch_zero hb.tail.nng, e1] at h1
      rw [rch_hi (show p.2 ≤ p.2 + 1 by omega), rch_lo (show p.2 + 1 ≤ q.2 by omega), rch_zero hb.tail.nng, show p.2 + 1 - p.2 = 1 by omega, ha.tail.one, e1, Int.mul_add, Int.mul_one] at h2
      have p1 := (ha.pos p (by simp)).1
      have : fst0 a < p.1 := by
        cases a with
        | nil => exact p1
        | cons c a => exact ha.head c (by simp)
      omega
    have e2 : p.2 = q.2 := by
      have s1 := short ha hb e1 h
      have s2 := short hb ha e1.symm (fun x hx => (h x hx).symm)
      omega
    have ep : p = q := Prod.ext e1 e2
    subst ep
    rw [canon_eq ha.tail hb.tail fun x hx => ?_]
    have e := h (x + p.2) (by omega)
    rw [rch_hi (show p.2 ≤ x + p.2 by omega), rch_hi (show p.2 ≤ x + p.2 by omega), show x + p.2 - p.2 = x by omega] at e
    omega
theorem hrs_nng : ∀ {r : Row}, Nng r → 0 ≤ hrs r
  | [], _ => Int.le_refl _
  | p :: r, h => by unfold hrs; have := h p (by simp); have := hrs_nng h.tail; omega
theorem rch_whl : ∀ {r : Row} {l : Int}, Nng r → hrs r ≤ l → rch r l = whl r
  | [], _, _, _ => rfl
  | p :: r, l, h, hl => by
    unfold hrs at hl
    have := hrs_nng h.tail
    rw [rch_hi (by omega), rch_whl h.tail (by omega)]; rfl
theorem hrs_app : ∀ (a b : Row), hrs (a ++ b) = hrs a + hrs b
  | [], b => by simp [hrs]
  | p :: a, b => by simp only [List.cons_append, hrs, hrs_app a b]; omega
theorem rch_app : ∀ {a b : Row} {l : Int}, Nng a → 0 ≤ l → rch (a ++ b) l = rch a l + rch b (l - min (hrs a) l)
  | [], b, l, _, hl => by simp only [List.nil_append, rch, hrs, Int.zero_add]; congr 1; omega
  | p :: a, b, l, h, hl => by
    have p2 := h p (by simp)
    have := hrs_nng h.tail
    rw [List.cons_append, rch_cons, rch_cons, rch_app h.tail (by omega), Int.add_assoc, hrs_cons]
    congr 3
    omega
theorem rch_merge {s m n l : Int} {r : Row} (hm : 0 ≤ m) (hn : 0 ≤ n) (hl : 0 ≤ l) : rch ((s, m) :: (s, n) :: r) l = rch ((s, m + n) :: r) l := by
  show s * min m l + (s * min n (l - min m l) + rch r (l - min m l - min n (l - min m l))) = s * min (m + n) l + rch r (l - min (m + n) l)
  rw [show min (m + n) l = min m l + min n (l - min m l) by omega, Int.mul_add, Int.add_assoc]
  congr 3
  omega
/-! ### joining -/
def Weak : Int → Row → Prop
  | _, [] => True
  | M, p :: r => 0 ≤ p.1 ∧ p.1 ≤ M ∧ 0 ≤ p.2 ∧ Weak p.1 r
theorem Weak.nng : ∀ {r : Row} {M : Int}, Weak M r → Nng r
  | [], _, _ => by intro p hp; cases hp
  | p :: r, M, h => by
    intro q hq
    rcases List.mem_cons.mp hq with rfl | hq
    · exact h.2.2.1
    · exact Weak.nng h.2.2.2 q hq
theorem Weak.up : ∀ {r : Row} {M N : Int}, M ≤ N → Weak M r → Weak N r
  | [], _, _, _, _ => trivial
  | p :: r, M, N, hh, h => ⟨h.1, Int.le_trans h.2.1 hh, h.2.2⟩
theorem Weak.zero : ∀ {r : Row} {l : Int}, Weak 0 r → rch r l = 0
  | [], _, _ => rfl
  | p :: r, l, h => by
    have e : p.1 = 0 := by have := h.1; have := h.2.1; omega
    unfold rch
    have := h.2.2.2
    rw [e] at this
    rw [Weak.zero this, e]; simp
theorem Weak.all : ∀ {r : Row} {M : Int}, Weak M r → ∀ p ∈ r, 0 ≤ p.1 ∧ p.1 ≤ M ∧ 0 ≤ p.2
  | [], _, _ => by intro p hp; cases hp
  | p :: r, M, h => by
    intro q hq
    rcases List.mem_cons.mp hq with rfl | hq
    · exact ⟨h.1, h.2.1, h.2.2.1⟩
    · have := Weak.all h.2.2.2 q hq
      exact ⟨this.1, Int.le_trans this.2.1 h.2.1, this.2.2⟩
/-- one run put behind others -/
def put1 (acc : Row) (p : Int × Int) : Row :=
  if 0 < p.1 ∧ 0 < p.2 then (match acc.getLast? with
    | some q => if q.1 = p.1 then acc.dropLast ++ [(p.1, q.2 + p.2)] else acc ++ [p]
    | none => acc ++ [p]) else acc
def jn : Row → Row → Row
  | acc, [] => acc
  | acc, p :: r => jn (put1 acc p) r
structure Acc (acc : Row) (M : Int) : Prop where
  can : Canon acc
  low : ∀ q ∈ acc, M ≤ q.1
theorem put1_ok {acc r : Row} {p : Int × Int} {M : Int} (h : Acc acc M) (w : Weak M (p :: r)) :
    Acc (put1 acc p) p.1 ∧ hrs (put1 acc p) ≤ hrs acc + p.2 ∧ (put1 acc p).length ≤ acc.length + 1 ∧ (∀ q ∈ put1 acc p, q.1 = p.1 ∨ ∃ a ∈ acc, q.1 = a.1) ∧ ∀ l, 0 ≤ l → rch (put1 acc p ++ r) l = rch (acc ++ p :: r) l := by
  obtain ⟨w1, w2, w3, w4⟩ := w
  by_cases hp : 0 < p.1 ∧ 0 < p.2
  · unfold put1
    rw [if_pos hp]
    rcases List.eq_nil_or_concat acc with rfl | ⟨b, q, rfl⟩
    · refine ⟨⟨⟨by simp, by simpa using hp⟩, by simp⟩, by simp [hrs], by simp, by simp, fun l hl => rfl⟩
    · rw [List.concat_eq_append] at *
      have hq := h.can.pos q (by simp)
      have hq1 := h.low q (by simp)
      have hb := List.pairwise_append.mp h.can.dec
      have nb : Nng b := fun x hx => Int.le_of_lt (h.can.pos x (by simp [hx])).2
      rw [List.getLast?_append, List.getLast?_singleton]
      show Acc (if q.1 = p.1 then (b ++ [q]).dropLast ++ [(p.1, q.2 + p.2)] else b ++ [q] ++ [p]) p.1 ∧ hrs (if q.1 = p.1 then (b ++ [q]).dropLast ++ [(p.1, q.2 + p.2)] else b ++ [q] ++ [p]) ≤ hrs (b ++ [q]) + p.2 ∧ (if q.1 = p.1 then (b ++ [q]).dropLast ++ [(p.1, q.2 + p.2)] else b ++ [q] ++ [p]).length ≤ (b ++ [q]).length + 1 ∧ (∀ z ∈ (if q.1 = p.1 then (b ++ [q]).dropLast ++ [(p.1, q.2 + p.2)] else b ++ [q] ++ [p]), z.1 = p.1 ∨ ∃ a ∈ b ++ [q], z.1 = a.1) ∧ ∀ l, 0 ≤ l → rch ((if q.1 = p.1 then (b ++ [q]).dropLast ++ [(p.1, q.2 + p.2)] else b ++ [q] ++ [p]) ++ r) l = rch (b ++ [q] ++ p :: r) l
      by_cases e : q.1 = p.1
      · rw [if_pos e, List.dropLast_concat]
        refine ⟨⟨⟨List.pairwise_append.mpr ⟨hb.1, by simp, fun x hx y hy => ?_⟩, fun x hx => ?_⟩, fun x hx => ?_⟩, ?_, by simp, fun x hx => ?_, fun l hl => ?_⟩
        · rw [List.mem_singleton.mp hy]
          have := hb.2.2 x hx q (by simp)
          simp only
          omega
        · rcases List.mem_append.mp hx with hx | hx
          · exact h.can.pos x (by simp [hx])
          · rw [List.mem_singleton.mp hx]; simp only; omega
        · rcases List.mem_append.mp hx with hx | hx
          · have := h.low x (by simp [hx]); omega
          · rw [List.mem_singleton.mp hx]; exact Int.le_refl _
        · rw [hrs_app, hrs_app]; simp only [hrs]; omega
        · rcases List.mem_append.mp hx with hx | hx
          · exact .inr ⟨x, by simp [hx], rfl⟩
          · rw [List.mem_singleton.mp hx]; exact .inl rfl
        · rw [List.append_assoc, List.append_assoc, rch_app nb hl, rch_app nb hl]
          congr 1
          show rch ((p.1, q.2 + p.2) :: r) _ = rch (q :: p :: r) _
          have eq' : q = (p.1, q.2) := Prod.ext e rfl
          rw [eq']
          have := hrs_nng nb
          exact (rch_merge (s := p.1) (m := q.2) (n := p.2) (by omega) (by omega) (by omega)).symm
      · rw [if_neg e]
        refine ⟨⟨⟨List.pairwise_append.mpr ⟨h.can.dec, by simp, fun x hx y hy => ?_⟩, fun x hx => ?_⟩, fun x hx => ?_⟩, ?_, by simp, fun x hx => ?_, fun l hl => by simp⟩
        · rw [List.mem_singleton.mp hy]
          rcases List.mem_append.mp hx with hx | hx
          · have := hb.2.2 x hx q (by simp); omega
          · rw [List.mem_singleton.mp hx]; omega
        · rcases List.mem_append.mp hx with hx | hx
          · exact h.can.pos x hx
          · rw [List.mem_singleton.mp hx]; exact hp
        · rcases List.mem_append.mp hx with hx | hx
          · have := h.low x hx; omega
          · rw [List.mem_singleton.mp hx]; exact Int.le_refl _
        · rw [hrs_app]; simp [hrs]
        · rcases List.mem_append.mp hx with hx | hx
          · exact .inr ⟨x, hx, rfl⟩
          · rw [List.mem_singleton.mp hx]; exact .inl rfl
  · unfold put1
    rw [if_neg hp]
    refine ⟨⟨h.can, fun q hq => by have := h.low q hq; omega⟩, by omega, by omega, fun q hq => .inr ⟨q, hq, rfl⟩, fun l hl => ?_⟩
    rw [rch_app h.can.nng hl, rch_app h.can.nng hl]
    congr 1
    have := hrs_nng h.can.nng
    by_cases h2 : p.2 = 0
    · rw [rch_hi (by omega), h2]; simp
    · have h1 : p.1 = 0 := by omega
      rw [h1] at w4
      rw [w4.zero, Weak.zero (r := p :: r) ⟨by omega, by omega, w3, by rw [h1]; exact w4⟩]
theorem jn_ok : ∀ {r acc : Row} {M : Int}, Acc acc M → Weak M r → Canon (jn acc r) ∧ hrs (jn acc r) ≤ hrs acc + hrs r ∧ (jn acc r).length ≤ acc.length + r.length ∧ (∀ q ∈ jn acc r, ∃ a ∈ acc ++ r, q.1 = a.1) ∧ ∀ l, 0 ≤ l → rch (jn acc r) l = rch (acc ++ r) l
  | [], acc, M, h, _ => ⟨h.can, by simp [jn, hrs], by simp [jn], fun q hq => ⟨q, by simpa [jn] using hq, rfl⟩, fun l hl => by simp [jn]⟩
  | p :: r, acc, M, h, w => by
    obtain ⟨a1, a2, a3, a4, a5⟩ := put1_ok h w
    obtain ⟨b1, b2, b3, b4, b5⟩ := jn_ok (r := r) a1 w.2.2.2
    unfold jn
    refine ⟨b1, by rw [hrs_cons]; omega, by rw [List.length_cons]; omega, fun q hq => ?_, fun l hl => by rw [b5 l hl, a5 l hl]⟩
    obtain ⟨a, ha, e⟩ := b4 q hq
    rcases List.mem_append.mp ha with ha | ha
    · rcases a4 a ha with e2 | ⟨c, hc, e2⟩
      · exact ⟨p, by simp, e.trans e2⟩
      · exact ⟨c, by simp [hc], e.trans e2⟩
    · exact ⟨a, by simp [ha], e⟩
end Law

namespace Law
open PySem L2 NS
/-! ### what is left behind an hour -/
def rbG : Int → Row → Row
  | _, [] => []
  | h, p :: r => (p.1, p.2 - min p.2 h) :: rbG (h - min p.2 h) r
theorem rbG_zero : ∀ {r : Row}, Nng r → rbG 0 r = r
  | [], _ => rfl
  | p :: r, h => by
    have h2 := h p (by simp)
    show (p.1, p.2 - min p.2 0) :: rbG (0 - min p.2 0) r = p :: r
    rw [show min p.2 0 = 0 by omega, Int.sub_zero, Int.sub_zero, rbG_zero h.tail]
theorem rbG_one {p : Int × Int} {r : Row} (h : Nng r) (h1 : 1 ≤ p.2) : rbG 1 (p :: r) = (p.1, p.2 - 1) :: r := by
  show (p.1, p.2 - min p.2 1) :: rbG (1 - min p.2 1) r = _
  rw [show min p.2 1 = 1 by omega, Int.sub_self, rbG_zero h]
def tkA : Row → Row → Int → Row
  | [], _, _ => []
  | [q], B, x => (q.1, q.2 - 1) :: (q.1 + fst0 B - x, 1) :: rbG 1 B
  | p :: p' :: A, B, x => p :: tkA (p' :: A) B x
theorem canon_app {A B : Row} (h : Canon (A ++ B)) : Canon A ∧ Canon B := by
  have q := List.pairwise_append.mp h.dec
  exact ⟨⟨q.1, fun p hp => h.pos p (by simp [hp])⟩, ⟨q.2.1, fun p hp => h.pos p (by simp [hp])⟩⟩
theorem rb_reach {B : Row} {j : Int} (h : Canon B) (hj : 0 ≤ j) : fst0 B + rch (rbG 1 B) j = rch B (j + 1) := by
  cases B with
  | nil => rfl
  | cons p r =>
    have p2 := (h.pos p (by simp)).2
    rw [rbG_one h.tail.nng (by omega)]
    show p.1 + (p.1 * min (p.2 - 1) j + rch r (j - min (p.2 - 1) j)) = p.1 * min p.2 (j + 1) + rch r (j + 1 - min p.2 (j + 1))
    rw [show min p.2 (j + 1) = min (p.2 - 1) j + 1 by omega, Int.mul_add, Int.mul_one, show j + 1 - (min (p.2 - 1) j + 1) = j - min (p.2 - 1) j by omega]
    omega
theorem tkA_reach : ∀ {A B : Row} {x h : Int}, A ≠ [] → Canon (A ++ B) → 0 < x → (∀ p ∈ A, x ≤ p.1) → (∀ p ∈ B, p.1 < x) → 0 ≤ h → rch (tkA A B x) h = min (rch (A ++ B) h) (rch (A ++ B) (h + 1) - x)
  | [], _, _, _, h0, _, _, _, _, _ => absurd rfl h0
  | [q], B, x, h, _, hc, hx, hA, hB, hh => by
    have cB := (canon_app hc).2
    have q2 := (hc.pos q (by simp)).2
    have q1 := hA q (by simp)
    have inc := rch_inc (r := B) (X := x) (j := h - q.2) (by omega)
    have hBx : ∀ p ∈ B, 0 ≤ p.1 ∧ p.1 ≤ x ∧ 0 ≤ p.2 := fun p hp => by have := cB.pos p hp; have := hB p hp; omega
    show q.1 * min (q.2 - 1) h + ((q.1 + fst0 B - x) * min 1 (h - min (q.2 - 1) h) + rch (rbG 1 B) (h - min (q.2 - 1) h - min 1 (h - min (q.2 - 1) h))) = _
    show _ = min (rch (q :: B) h) (rch (q :: B) (h + 1) - x)
    by_cases hl : h ≤ q.2 - 1
    · have nz : Nng (rbG 1 B) := by
        cases B with
        | nil => intro p hp; cases hp
        | cons p r =>
          have p2 := (cB.pos p (by simp)).2
          rw [rbG_one cB.tail.nng (by omega)]
          intro y hy
          rcases List.mem_cons.mp hy with rfl | hy
          · simp only; omega
          · exact cB.tail.nng y hy
      rw [show min (q.2 - 1) h = h by omega, Int.sub_self, show min (1 : Int) 0 = 0 by omega, Int.mul_zero, Int.sub_zero, rch_zero nz, rch_lo (show h ≤ q.2 by omega), rch_lo (show h + 1 ≤ q.2 by omega), rch_zero cB.nng, Int.mul_add, Int.mul_one]
      omega
    · have rb := rb_reach (j := h - q.2) cB (by omega)
      have i := inc (by omega) hBx
      rw [show min (q.2 - 1) h = q.2 - 1 by omega, show min 1 (h - (q.2 - 1)) = 1 by omega, Int.mul_one, rch_hi (show q.2 ≤ h by omega), rch_hi (show q.2 ≤ h + 1 by omega), show h - (q.2 - 1) - 1 = h - q.2 by omega, show h + 1 - q.2 = h - q.2 + 1 by omega, Int.mul_sub, Int.mul_one]
      omega
  | p :: p' :: A, B, x, h, _, hc, hx, hA, hB, hh => by
    have ih := fun k hk => tkA_reach (A := p' :: A) (B := B) (x := x) (h := k) (by simp) hc.tail hx (fun y hy => hA y (by simp [hy])) hB hk
    have p2 := (hc.pos p (by simp)).2
    have p1 := hA p (by simp)
    have p1' := hA p' (by simp)
    show p.1 * min p.2 h + rch (tkA (p' :: A) B x) (h - min p.2 h) = min (rch (p :: (p' :: A ++ B)) h) (rch (p :: (p' :: A ++ B)) (h + 1) - x)
    rw [ih _ (by omega)]
    by_cases hl : h < p.2
    · have z' : rch (p' :: A ++ B) 0 = 0 := rch_zero hc.tail.nng
      have o' : rch (p' :: A ++ B) (0 + 1) = p'.1 := hc.tail.one
      rw [show min p.2 h = h by omega, Int.sub_self, z', o', rch_lo (show h ≤ p.2 by omega), rch_lo (show h + 1 ≤ p.2 by omega), z', Int.mul_add, Int.mul_one]
      omega
    · rw [show min p.2 h = p.2 by omega, rch_hi (show p.2 ≤ h by omega), rch_hi (show p.2 ≤ h + 1 by omega), show h + 1 - p.2 = h - p.2 + 1 by omega]
      omega
theorem canon_weak : ∀ {r : Row} {M : Int}, Canon r → (∀ p ∈ r, p.1 ≤ M) → Weak M r
  | [], _, _, _ => trivial
  | p :: r, M, h, hM => by
    have := h.pos p (by simp)
    exact ⟨by omega, hM p (by simp), by omega, canon_weak h.tail fun q hq => Int.le_of_lt (h.head q hq)⟩
theorem tkA_weak : ∀ {A B : Row} {x M : Int}, Canon (A ++ B) → 0 < x → (∀ p ∈ A, x ≤ p.1) → (∀ p ∈ B, p.1 < x) → (∀ p ∈ A, p.1 ≤ M) → Weak M (tkA A B x)
  | [], _, _, _, _, _, _, _, _ => trivial
  | [q], B, x, M, hc, hx, hA, hB, hM => by
    have cB := (canon_app hc).2
    have q2 := hc.pos q (by simp)
    have q1 := hA q (by simp)
    have qM := hM q (by simp)
    have fB : 0 ≤ fst0 B ∧ fst0 B < x := by
      cases B with
      | nil => exact ⟨Int.le_refl _, hx⟩
      | cons p r => exact ⟨Int.le_of_lt (cB.pos p (by simp)).1, hB p (by simp)⟩
    refine ⟨by show 0 ≤ q.1; omega, by show q.1 ≤ M; omega, by show 0 ≤ q.2 - 1; omega, by show 0 ≤ q.1 + fst0 B - x; omega, by show q.1 + fst0 B - x ≤ q.1; omega, by show (0 : Int) ≤ 1; omega, ?_⟩
    show Weak (q.1 + fst0 B - x) (rbG 1 B)
    cases B with
    | nil => trivial
    | cons p r =>
      have p2 := cB.pos p (by simp)
      rw [rbG_one cB.tail.nng (by omega)]
      refine ⟨by show 0 ≤ p.1; omega, ?_, by show 0 ≤ p.2 - 1; omega, canon_weak cB.tail fun y hy => Int.le_of_lt (cB.head y hy)⟩
      show p.1 ≤ q.1 + p.1 - x
      omega
  | p :: p' :: A, B, x, M, hc, hx, hA, hB, hM => by
    have := hc.pos p (by simp)
    refine ⟨by show 0 ≤ p.1; omega, hM p (by simp), by show 0 ≤ p.2; omega, ?_⟩
    exact tkA_weak hc.tail hx (fun y hy => hA y (by simp [hy])) hB fun y hy => Int.le_of_lt (hc.head y (List.mem_append_left _ hy))
theorem tkA_hrs : ∀ {A B : Row} {x : Int}, A ≠ [] → Canon B → hrs (tkA A B x) ≤ hrs (A ++ B) ∧ (tkA A B x).length = A.length + B.length + 1
  | [], _, _, h, _ => absurd rfl h
  | [q], B, x, _, cB => by
    have h1 : hrs (rbG 1 B) ≤ hrs B ∧ (rbG 1 B).length = B.length := by
      cases B with
      | nil => exact ⟨Int.le_refl _, rfl⟩
      | cons p r =>
        have p2 := cB.pos p (by simp)
        rw [rbG_one cB.tail.nng (by omega)]
        refine ⟨?_, rfl⟩
        show p.2 - 1 + hrs r ≤ p.2 + hrs r
        omega
    refine ⟨?_, by show ((rbG 1 B).length + 1) + 1 = _; rw [h1.2]; simp; omega⟩
    show q.2 - 1 + (1 + hrs (rbG 1 B)) ≤ q.2 + hrs B
    omega
  | p :: p' :: A, B, x, _, cB => by
    have ih := tkA_hrs (A := p' :: A) (B := B) (x := x) (by simp) cB
    refine ⟨?_, by show (tkA (p' :: A) B x).length + 1 = _; rw [ih.2]; simp; omega⟩
    show p.2 + hrs (tkA (p' :: A) B x) ≤ p.2 + hrs (p' :: A ++ B)
    omega
theorem tkA_steps : ∀ {A B : Row} {x M : Int}, Canon (A ++ B) → 0 < x → (∀ p ∈ A, x ≤ p.1) → (∀ p ∈ B, p.1 < x) → (∀ p ∈ A, p.1 ≤ M) → ∀ q ∈ tkA A B x, q.1 ≤ M := fun {A B x M} a b c d e q hq => ((tkA_weak a b c d e).all q hq).2.1
/-- the row behind an hour with the sum x -/
def taken (r : Row) (x : Int) : Row := if x = 0 then r else jn [] (tkA (r.filter fun p => decide (x ≤ p.1)) (r.filter fun p => decide (p.1 < x)) x)
theorem split_at : ∀ {r : Row} {x : Int}, Canon r → (r.filter fun p => decide (x ≤ p.1)) ++ (r.filter fun p => decide (p.1 < x)) = r
  | [], _, _ => rfl
  | p :: r, x, h => by
    by_cases hp : x ≤ p.1
    · rw [List.filter_cons_of_pos (by simpa using hp), List.filter_cons_of_neg (by simpa using hp), List.cons_append, split_at h.tail]
    · have e : (r.filter fun p => decide (x ≤ p.1)) = [] := List.filter_eq_nil_iff.mpr fun q hq => by have := h.head q hq; simp; omega
      have e2 : (r.filter fun p => decide (p.1 < x)) = r := List.filter_eq_self.mpr fun q hq => by have := h.head q hq; simp; omega
      rw [List.filter_cons_of_neg (by simpa using hp), List.filter_cons_of_pos (by simp; omega), e, e2, List.nil_append]
structure Lim (M T : Int) (n : Nat) (r : Row) : Prop where
  can : Canon r
  top : ∀ p ∈ r, p.1 ≤ M
  hr : hrs r ≤ T
  len : r.length ≤ n
theorem taken_ok {r : Row} {x M T : Int} {n : Nat} (h : Lim M T n r) (h0 : 0 ≤ x) (h1 : x ≤ fst0 r) : Lim M T (n + 1) (taken r x) ∧ hrs (taken r x) ≤ hrs r ∧ ∀ l, 0 ≤ l → rch (taken r x) l = min (rch r l) (rch r (l + 1) - x) := by
  unfold taken
  by_cases hx : x = 0
  · rw [if_pos hx]
    refine ⟨⟨h.can, h.top, h.hr, by have := h.len; omega⟩, Int.le_refl _, fun l hl => ?_⟩
    have := h.can.inc hl
    omega
  · rw [if_neg hx]
    have sp := split_at (x := x) h.can
    have hA : ∀ p ∈ r.filter (fun p => decide (x ≤ p.1)), x ≤ p.1 := fun p hp => by simpa using (List.mem_filter.mp hp).2
    have hB : ∀ p ∈ r.filter (fun p => decide (p.1 < x)), p.1 < x := fun p hp => by simpa using (List.mem_filter.mp hp).2
    have hM : ∀ p ∈ r.filter (fun p => decide (x ≤ p.1)), p.1 ≤ M := fun p hp => h.top p (List.mem_filter.mp hp).1
    have hne : r.filter (fun p => decide (x ≤ p.1)) ≠ [] := by
      cases r with
      | nil => simp [fst0] at h1; omega
      | cons p r =>
        have h1 : x ≤ p.1 := h1
        rw [List.filter_cons_of_pos (by simpa using h1)]
        simp
    generalize r.filter (fun p => decide (x ≤ p.1)) = A at *
    generalize r.filter (fun p => decide (p.1 < x)) = B at *
    subst sp
    have hx' : 0 < x := by omega
    have w := tkA_weak h.can hx' hA hB hM
    obtain ⟨j1, j2, j3, j4, j5⟩ := jn_ok (acc := []) (M := M) ⟨Canon.nil, by simp⟩ w
    have th := tkA_hrs (x := x) hne (canon_app h.can).2
    refine ⟨⟨j1, fun p hp => ?_, ?_, ?_⟩, ?_, fun l hl => ?_⟩
    · obtain ⟨a, ha, e⟩ := j4 p hp
      rw [e]
      exact (w.all a (by simpa using ha)).2.1
    · have := h.hr; have := th.1; simp only [hrs] at j2; omega
    · have := h.len; have := th.2; simp only [List.length_append, List.length_nil] at *; omega
    · have := th.1; simp only [hrs] at j2; omega
    · rw [j5 l hl, List.nil_append, tkA_reach hne h.can hx' hA hB hl]
theorem taken_whl {r : Row} {x M T : Int} {n : Nat} (h : Lim M T n r) (h0 : 0 ≤ x) (h1 : x ≤ fst0 r) : whl (taken r x) = whl r - x := by
  obtain ⟨a, b, c⟩ := taken_ok h h0 h1
  have n0 := hrs_nng h.can.nng
  have e := c (hrs r) n0
  rw [rch_whl a.can.nng b, rch_whl h.can.nng (Int.le_refl _), rch_whl h.can.nng (by omega)] at e
  omega
/-! ### hour by hour -/
/-- what could be: the reach behind an hour with a supply, what was charged added -/
def hourA (s : Int) (G : Nat → Int) : Nat → Int := fun n => min (G n + s) (G (n + 1))
def goG (l : List Int) (G : Nat → Int) : Nat → Int := l.foldl (fun G s => hourA s G) G
theorem hour_comm (s t : Int) (G : Nat → Int) : hourA s (hourA t G) = hourA t (hourA s G) := by
  funext n
  unfold hourA
  omega
theorem goG_perm {l l' : List Int} (h : l.Perm l') (G : Nat → Int) : goG l G = goG l' G := by
  unfold goG
  exact h.foldl_eq' (fun x _ y _ z => hour_comm y x z) G
theorem goG_app (a b : List Int) (G : Nat → Int) : goG (a ++ b) G = goG b (goG a G) := List.foldl_append
def stepR (r : Row) (s : Int) : Row := taken r (min s (fst0 r))
def goR (r : Row) (l : List Int) : Row := l.foldl stepR r
theorem goR_app (r : Row) (a b : List Int) : goR r (a ++ b) = goR (goR r a) b := List.foldl_append
def Rf (r : Row) : Nat → Int := fun n => rch r n
theorem step_ok {r : Row} {s M T : Int} {n : Nat} (h : Lim M T n r) (hs : 0 ≤ s) : Lim M T (n + 1) (stepR r s) ∧ hrs (stepR r s) ≤ hrs r ∧ whl (stepR r s) = whl r - min s (fst0 r) ∧ fst0 (stepR r s) ≤ fst0 r ∧ ∀ c, hourA s (fun n => c + Rf r n) = fun n => c + min s (fst0 r) + Rf (stepR r s) n := by
  have f0 := h.can.fst
  have x0 : 0 ≤ min s (fst0 r) := by omega
  have x1 : min s (fst0 r) ≤ fst0 r := by omega
  obtain ⟨a, b, c⟩ := taken_ok h x0 x1
  refine ⟨a, b, taken_whl h x0 x1, ?_, fun c0 => ?_⟩
  · have e := c 1 (by omega)
    rw [h.can.one] at e
    have e2 : rch (stepR r s) 1 = fst0 (stepR r s) := a.can.one
    have e3 : rch (taken r (min s (fst0 r))) 1 = rch (stepR r s) 1 := rfl
    omega
  · funext k
    have e := c (k : Int) (by omega)
    have i := h.can.inc (j := (k : Int)) (by omega)
    show min (c0 + rch r (k : Int) + s) (c0 + rch r ((k + 1 : Nat) : Int)) = c0 + min s (fst0 r) + rch (taken r (min s (fst0 r))) (k : Int)
    rw [e, show ((k + 1 : Nat) : Int) = (k : Int) + 1 by omega]
    omega
theorem goR_ok : ∀ {l : List Int} {r : Row} {M T : Int} {n : Nat}, Lim M T n r → (∀ s ∈ l, 0 ≤ s) → Lim M T (n + l.length) (goR r l) ∧ hrs (goR r l) ≤ hrs r ∧ fst0 (goR r l) ≤ fst0 r ∧ ∀ c, goG l (fun n => c + Rf r n) = fun n => c + (whl r - whl (goR r l)) + Rf (goR r l) n
  | [], r, M, T, n, h, _ => ⟨h, Int.le_refl _, Int.le_refl _, fun c => by funext k; show c + Rf r k = c + (whl r - whl r) + Rf r k; omega⟩
  | s :: l, r, M, T, n, h, hs => by
    obtain ⟨a, b, c, d, e⟩ := step_ok h (hs s (by simp))
    obtain ⟨a', b', d', e'⟩ := goR_ok (l := l) a (fun x hx => hs x (by simp [hx]))
    refine ⟨?_, ?_, ?_, fun c0 => ?_⟩
    · have := a'
      rw [show n + 1 + l.length = n + (s :: l).length by simp; omega] at this
      exact this
    · exact Int.le_trans b' b
    · exact Int.le_trans d' d
    · show goG l (hourA s fun n => c0 + Rf r n) = _
      rw [e c0, e' (c0 + min s (fst0 r)), c]
      funext k
      show c0 + min s (fst0 r) + (whl r - min s (fst0 r) - whl (goR (stepR r s) l)) + Rf (goR (stepR r s) l) k = c0 + (whl r - whl (goR (stepR r s) l)) + Rf (goR (stepR r s) l) k
      omega
/-- what is charged in a night -/
def sumN (r : Row) (l : List Int) : Int := whl r - whl (goR r l)
theorem goG_sum {l : List Int} {r : Row} {M T : Int} {n : Nat} (h : Lim M T n r) (hs : ∀ s ∈ l, 0 ≤ s) : (∀ k, goG l (Rf r) k = sumN r l + Rf (goR r l) k) ∧ goG l (Rf r) 0 = sumN r l := by
  obtain ⟨a, _, _, e⟩ := goR_ok h hs
  have e0 := e 0
  have hf : (fun n => (0 : Int) + Rf r n) = Rf r := by funext k; omega
  rw [hf] at e0
  have all : ∀ k, goG l (Rf r) k = sumN r l + Rf (goR r l) k := fun k => by
    rw [e0]
    show 0 + (whl r - whl (goR r l)) + _ = _
    rw [Int.zero_add]; rfl
  refine ⟨all, ?_⟩
  rw [all 0]
  have : Rf (goR r l) 0 = 0 := rch_zero a.can.nng
  omega
/-- the order of the hours means nothing -/
theorem goR_perm {l l' : List Int} {r : Row} {M T : Int} {n : Nat} (h : Lim M T n r) (hs : ∀ s ∈ l, 0 ≤ s) (hp : l.Perm l') : goR r l = goR r l' ∧ sumN r l = sumN r l' := by
  have hs' : ∀ s ∈ l', 0 ≤ s := fun s h' => hs s (hp.mem_iff.mpr h')
  obtain ⟨a, a0⟩ := goG_sum h hs
  obtain ⟨b, b0⟩ := goG_sum h hs'
  have e := goG_perm hp (Rf r)
  have es : sumN r l = sumN r l' := by rw [← a0, ← b0, e]
  refine ⟨canon_eq (goR_ok h hs).1.can (goR_ok h hs').1.can fun x hx => ?_, es⟩
  obtain ⟨k, rfl⟩ := Int.eq_ofNat_of_zero_le hx
  have h1 := a k
  have h2 := b k
  rw [e, h2, es] at h1
  have : Rf (goR r l') k = Rf (goR r l) k := by omega
  exact this.symm
inductive LeAll : List Int → List Int → Prop
  | nil : LeAll [] []
  | cons {a b : Int} {l l' : List Int} : a ≤ b → LeAll l l' → LeAll (a :: l) (b :: l')
/-- more in an hour is no less behind -/
theorem goG_mono : ∀ {l l' : List Int} {G G' : Nat → Int}, LeAll l l' → (∀ n, G n ≤ G' n) → ∀ n, goG l G n ≤ goG l' G' n
  | [], [], _, _, _, h => h
  | a :: l, b :: l', G, G', .cons h hl, hg => by
    show ∀ n, goG l (hourA a G) n ≤ goG l' (hourA b G') n
    refine goG_mono hl fun n => ?_
    have := hg n
    have := hg (n + 1)
    unfold hourA
    omega
/-- hours of plenty -/
theorem goG_plenty {r : Row} {s : Int} (hc : Canon r) (hs : fst0 r ≤ s) : ∀ (k : Nat) (n : Nat), goG (List.replicate k s) (Rf r) n = Rf r (n + k) := by
  have shift : ∀ (j : Nat), hourA s (fun n => Rf r (n + j)) = fun n => Rf r (n + (j + 1)) := fun j => by
    funext n
    have i := hc.inc (j := ((n + j : Nat) : Int)) (by omega)
    show min (rch r ((n + j : Nat) : Int) + s) (rch r ((n + 1 + j : Nat) : Int)) = rch r ((n + (j + 1) : Nat) : Int)
    rw [show ((n + 1 + j : Nat) : Int) = ((n + j : Nat) : Int) + 1 by omega, show ((n + (j + 1) : Nat) : Int) = ((n + j : Nat) : Int) + 1 by omega]
    omega
  have gen : ∀ (k j : Nat), goG (List.replicate k s) (fun n => Rf r (n + j)) = fun n => Rf r (n + (j + k)) := fun k => by
    induction k with
    | zero => intro j; rfl
    | succ k ih =>
      intro j
      rw [List.replicate_succ]
      show goG (List.replicate k s) (hourA s fun n => Rf r (n + j)) = _
      rw [shift, ih]
      funext n
      rw [show j + 1 + k = j + (k + 1) by omega]
  intro k n
  have := congrFun (gen k 0) n
  rw [show (0 : Nat) + k = k by omega] at this
  exact this
/-! ### the formula -/
def mnF (f : Nat → Int) : Nat → Int
  | 0 => f 0
  | k + 1 => min (mnF f k) (f (k + 1))
theorem mnF_le (f : Nat → Int) : ∀ (k h : Nat), h ≤ k → mnF f k ≤ f h
  | 0, h, e => by rw [show h = 0 by omega]; exact Int.le_refl _
  | k + 1, h, e => by
    by_cases h' : h = k + 1
    · rw [h']; unfold mnF; omega
    · have := mnF_le f k h (by omega); unfold mnF; omega
theorem mnF_ex (f : Nat → Int) : ∀ k, ∃ h, h ≤ k ∧ mnF f k = f h
  | 0 => ⟨0, Nat.le_refl _, rfl⟩
  | k + 1 => by
    by_cases h : mnF f k ≤ f (k + 1)
    · obtain ⟨j, h1, h2⟩ := mnF_ex f k
      exact ⟨j, by omega, by unfold mnF; omega⟩
    · exact ⟨k + 1, Nat.le_refl _, by unfold mnF; omega⟩
def cF (R : Nat → Int) (l : List Int) (n : Nat) : Nat → Int := fun h => R (n + h) + (l.take (l.length - h)).sum
theorem formula (R : Nat → Int) : ∀ (k : Nat) (l : List Int), l.length = k → l.Pairwise (fun a b => a ≤ b) → ∀ n, goG l R n = mnF (cF R l n) l.length
  | 0, l, hk, _, n => by
    have e : l = [] := List.eq_nil_of_length_eq_zero hk
    subst e
    show R n = R (n + 0) + 0
    rw [Int.add_zero]; rfl
  | k + 1, l, hk, hs, n => by
    rcases List.eq_nil_or_concat l with e | ⟨l', s, e⟩
    · rw [e] at hk; cases hk
    · rw [List.concat_eq_append] at e
      subst e
      have hl : l'.length = k := by simpa using hk
      obtain ⟨s1, _, s3⟩ := List.pairwise_append.mp hs
      have ih := formula R k l' hl s1
      have e1 : goG (l' ++ [s]) R n = min (mnF (cF R l' n) k + s) (mnF (cF R l' (n + 1)) k) := by
        rw [goG_app]
        show hourA s (goG l' R) n = _
        unfold hourA
        rw [ih n, ih (n + 1), hl]
      have hlen : (l' ++ [s]).length = k + 1 := hk
      have tk : ∀ j, j ≤ k → ((l' ++ [s]).take j).sum = (l'.take j).sum := fun j hj => by rw [List.take_append_of_le_length (by omega)]
      have tk1 : ((l' ++ [s]).take (k + 1)).sum = (l'.take k).sum + s := by
        rw [List.take_of_length_le (by omega), List.sum_append, List.take_of_length_le (by omega)]
        simp
      have c0 : cF R (l' ++ [s]) n 0 = cF R l' n 0 + s := by
        unfold cF
        rw [hlen, hl, Nat.sub_zero, Nat.sub_zero, tk1]
        omega
      have c1 : ∀ j, j ≤ k → cF R (l' ++ [s]) n (j + 1) = cF R l' (n + 1) j := fun j hj => by
        unfold cF
        rw [hlen, hl, show k + 1 - (j + 1) = k - j by omega, tk _ (by omega), show n + (j + 1) = n + 1 + j by omega]
      have c2 : ∀ j, 1 ≤ j → j ≤ k → cF R (l' ++ [s]) n j ≤ cF R l' n j + s := fun j h1 hj => by
        unfold cF
        rw [hlen, hl, tk _ (by omega), show k + 1 - j = (k - j) + 1 by omega, List.take_succ_eq_append_getElem (by omega), List.sum_append]
        have := s3 l'[k - j] (List.getElem_mem _) s (by simp)
        simp only [List.sum_cons, List.sum_nil]
        omega
      rw [e1, hlen]
      apply Int.le_antisymm
      · obtain ⟨h, h1, h2⟩ := mnF_ex (cF R (l' ++ [s]) n) (k + 1)
        rw [h2]
        cases h with
        | zero => rw [c0]; have := mnF_le (cF R l' n) k 0 (by omega); omega
        | succ j => rw [c1 j (by omega)]; have := mnF_le (cF R l' (n + 1)) k j (by omega); omega
      · obtain ⟨a, a1, a2⟩ := mnF_ex (cF R l' n) k
        obtain ⟨b, b1, b2⟩ := mnF_ex (cF R l' (n + 1)) k
        have z1 := mnF_le (cF R (l' ++ [s]) n) (k + 1) (b + 1) (by omega)
        rw [c1 b b1] at z1
        have z2 := mnF_le (cF R (l' ++ [s]) n) (k + 1) a (by omega)
        have z3 : cF R (l' ++ [s]) n a ≤ cF R l' n a + s := by
          by_cases h0 : a = 0
          · rw [h0, c0]; exact Int.le_refl _
          · exact c2 a (by omega) a1
        omega
end Law

namespace Law
open PySem L2 NS
abbrev encP (p : Int × Int) : D := .tuple [.int p.1, .int p.2]
abbrev encR (row : Row) : D := .tuple (row.map encP)
abbrev encL (row : Row) : D := .list (row.map encP)
/-- numbers of a row that are small enough for all that is reckoned -/
def Sml (p : Int × Int) : Prop := 0 ≤ p.1 ∧ p.1 ≤ 1000000000000 ∧ 0 ≤ p.2 ∧ p.2 ≤ 10000000000000000
/-! ### lists that are not empty, their last items -/
theorem rows_lay : ∀ l : Row, PyData.canLayAll0 (l.map encP) = true
  | [] => rfl
  | x :: l => by simp only [List.map_cons, PyData.canLayAll0, PyData.canLay0, rows_lay l, Bool.and_self]
theorem rows_dep : ∀ l : Row, PyData.depthAll (l.map encP) ≤ 1
  | [] => by simp [PyData.depthAll]
  | x :: l => by have := rows_dep l; simp only [List.map_cons, PyData.depthAll, PyData.depth]; omega
theorem rows_shL (l : Row) : SeqAt.shaped (.list (l.map encP)) = true := by
  have h := rows_dep l
  unfold SeqAt.shaped
  rw [show PyData.canLay0 (.list (l.map encP)) = true from rows_lay l, Bool.true_and]
  exact decide_eq_true (Nat.le_trans (show PyData.depth (.list (l.map encP)) ≤ 2 by simp only [PyData.depth]; omega) (by decide))
theorem rows_shT (l : Row) : SeqAt.shaped (.tuple (l.map encP)) = true := by
  have h := rows_dep l
  unfold SeqAt.shaped
  rw [show PyData.canLay0 (.tuple (l.map encP)) = true from rows_lay l, Bool.true_and]
  exact decide_eq_true (Nat.le_trans (show PyData.depth (.tuple (l.map encP)) ≤ 2 by simp only [PyData.depth]; omega) (by decide))
theorem ne_rowsL {l : Row} (h : l ≠ []) : gNe (.list (l.map encP)) (.list []) = some (.d (.bool true)) := by
  cases l with
  | nil => exact absurd rfl h
  | cons x l =>
    unfold gNe
    rw [rows_shL]
    show some (Res.d (PyData.bool (!PyData.eqv (.list ((x :: l).map encP)) (.list [])))) = _
    simp [PyData.eqv, PyData.eqvAll]
theorem ne_rowsT {l : Row} (h : l ≠ []) : gNe (.tuple (l.map encP)) (.tuple []) = some (.d (.bool true)) := by
  cases l with
  | nil => exact absurd rfl h
  | cons x l =>
    unfold gNe
    rw [rows_shT]
    show some (Res.d (PyData.bool (!PyData.eqv (.tuple ((x :: l).map encP)) (.tuple [])))) = _
    simp [PyData.eqv, PyData.eqvAll]
theorem atI_last {b : List D} {d : D} : atI (b ++ [d]) (-1) = some d := by
  unfold atI
  have e : ixN (b ++ [d]).length (-1) = some b.length := by
    rw [List.length_append, List.length_singleton]
    simp only [ixN]
    split <;> rename_i hh <;> simp at hh ⊢ <;> omega
  rw [e]
  show (b ++ [d])[b.length]? = _
  rw [List.getElem?_append_right (Nat.le_refl _), Nat.sub_self]; rfl
theorem ixN_last (n : Nat) : ixN (n + 1) (-1) = some n := by
  simp only [ixN]
  split <;> rename_i hh <;> simp at hh ⊢ <;> omega
theorem cut_butlast (b : List D) (d : D) : cutD (b ++ [d]) none (some (-1)) = b := by
  unfold cutD
  have e : HT.sIx (b ++ [d]).length (b ++ [d]).length (some (-1)) = b.length := by
    rw [List.length_append, List.length_singleton]
    unfold HT.sIx
    simp only
    split <;> omega
  rw [e]
  show ((b ++ [d]).drop 0).take (b.length - 0) = b
  rw [List.drop_zero, Nat.sub_zero, List.take_left']
  rfl
theorem cut_to (ds : List D) {h : Int} (h0 : 0 ≤ h) : cutD ds none (some h) = ds.take h.toNat := by
  obtain ⟨k, rfl⟩ := Int.eq_ofNat_of_zero_le h0
  unfold cutD
  rw [HT.sIx_nat]
  show (ds.drop 0).take (min k ds.length - 0) = ds.take k
  rw [List.drop_zero, Nat.sub_zero]
  by_cases h : k ≤ ds.length
  · rw [Nat.min_eq_left h]
  · rw [Nat.min_eq_right (by omega), List.take_of_length_le (Nat.le_refl _), List.take_of_length_le (by omega)]
/-! ### reckoning with rows -/
theorem whl_sum : ∀ row : Row, (row.map fun p => p.1 * p.2).sum = whl row
  | [] => rfl
  | p :: r => by simp only [List.map_cons, List.sum_cons, whl_sum r]; rfl
theorem put1_no {acc : Row} {p : Int × Int} (h : ¬ (0 < p.1 ∧ 0 < p.2)) : put1 acc p = acc := by unfold put1; rw [if_neg h]
theorem put1_nil {p : Int × Int} (h : 0 < p.1 ∧ 0 < p.2) : put1 [] p = [p] := by unfold put1; rw [if_pos h]; rfl
theorem put1_last {b : Row} {p q : Int × Int} (h : 0 < p.1 ∧ 0 < p.2) : put1 (b ++ [q]) p = if q.1 = p.1 then b ++ [(p.1, q.2 + p.2)] else b ++ [q] ++ [p] := by
  unfold put1
  rw [if_pos h, List.getLast?_append, List.getLast?_singleton, List.dropLast_concat]
  rfl
theorem put1_len {acc : Row} {p : Int × Int} : (put1 acc p).length ≤ acc.length + 1 := by
  by_cases h : 0 < p.1 ∧ 0 < p.2
  · rcases List.eq_nil_or_concat acc with rfl | ⟨b, q, rfl⟩
    · rw [put1_nil h]; simp
    · rw [List.concat_eq_append, put1_last h]
      split <;> simp
  · rw [put1_no h]; omega
theorem joined_x {runs : Row} (hl : runs.length ≤ 100) : m_joined_runs [.v (encL runs)] = some (.d (encR (jn [] runs))) := by
  apply runT_i
  all_goals and_intros
  refine for_map (fun xs e => ∃ (acc : Row) (s t : Option OV), e = [some (.fz (encL runs)), some (.ol false (acc.map encP)), s, t] ∧ jn acc xs = jn [] runs ∧ acc.length + xs.length ≤ 100) ?_ ?_ runs ?_
  · intro p xs e ⟨acc, s, t, he, hr, hx⟩
    subst he
    rw [List.length_cons] at hx
    have hpl := put1_len (acc := acc) (p := p)
    have fin : ∀ acc' : Row, put1 acc p = acc' → ∃ (a : Row) (s t : Option OV), [some (OV.fz (encL runs)), some (OV.ol false (List.map encP acc')), some (OV.fz (PyData.int p.fst)), some (OV.fz (PyData.int p.snd))] = [some (OV.fz (encL runs)), some (OV.ol false (List.map encP a)), s, t] ∧ jn a xs = jn [] runs ∧ a.length + xs.length ≤ 100 := fun acc' h => ⟨acc', _, _, rfl, by rw [← hr, ← h]; rfl, by rw [← h]; omega⟩
    refine ⟨_, rfl, ?_⟩
    dsimp only [List.set]
    rcases List.eq_nil_or_concat acc with rfl | ⟨b, q, rfl⟩
    · have hne : gNe (.list (List.map encP [])) (.list []) = some (.d (.bool false)) := rfl
      all_goals and_intros
      · exact fin [p] (put1_nil ⟨by omega, by omega⟩)
      · exact fin [] (put1_no (by omega))
      · exact fin [] (put1_no (by omega))
    · rw [List.concat_eq_append] at *
      have hne := ne_rowsL (l := b ++ [q]) (by simp)
      have hla : atI (List.map encP (b ++ [q])) (-1) = some (.tuple [.int q.1, .int q.2]) := by rw [List.map_append]; exact atI_last
      have hix : ixN (List.map encP (b ++ [q])).length (-1) = some b.length := by rw [List.length_map, List.length_append, List.length_singleton]; exact ixN_last _
      have hset : (List.map encP (b ++ [q])).set b.length (.tuple [.int p.1, .int (q.2 + p.2)]) = List.map encP (b ++ [(p.1, q.2 + p.2)]) := by
        rw [List.map_append, List.map_append, List.set_append_right _ _ (by rw [List.length_map]; exact Nat.le_refl _), List.length_map, Nat.sub_self]; rfl
      have hlb : (List.map encP (b ++ [q])).length ≤ 100 := by rw [List.length_map]; omega
      have k1 : 0 < p.1 ∧ 0 < p.2 → q.1 = p.1 → put1 (b ++ [q]) p = b ++ [(p.1, q.2 + p.2)] := fun h e => by rw [put1_last h, if_pos e]
      have k2 : 0 < p.1 ∧ 0 < p.2 → ¬ q.1 = p.1 → put1 (b ++ [q]) p = b ++ [q] ++ [p] := fun h e => by rw [put1_last h, if_neg e]
      generalize hL : List.map encP (b ++ [q]) = L at *
      all_goals and_intros
      · rw [hset]; exact fin _ (k1 ⟨by omega, by omega⟩ (by omega))
      · subst hL
        have z := fin (b ++ [q] ++ [p]) (k2 ⟨by omega, by omega⟩ (by omega))
        rw [List.map_append] at z
        exact z
      · subst hL; exact fin _ (put1_no (by omega))
      · subst hL; exact fin _ (put1_no (by omega))
  · intro e ⟨acc, s, t, he, hr, hx⟩
    subst he
    all_goals and_intros
    rw [← hr]; rfl
  · exact ⟨[], none, none, rfl, rfl, by simpa using hl⟩
theorem rbG_len : ∀ (h : Int) (r : Row), (rbG h r).length = r.length
  | _, [] => rfl
  | h, p :: r => by show (rbG _ r).length + 1 = _; rw [rbG_len]; rfl
theorem behind_runs_x {r : Row} {h : Int} (hl : r.length ≤ 100) : m_runs_behind [.v (encL r), .v (.int h)] = some (.l ((rbG h r).map encP)) := by
  apply runT_i
  all_goals and_intros
  refine for_map (fun xs e => ∃ (f : Row) (l : Int) (s t : Option OV), e = [some (.fz (encL r)), some (.fz (.int h)), some (.ol false (f.map encP)), some (.fz (.int l)), s, t] ∧ f ++ rbG l xs = rbG h r ∧ f.length + xs.length ≤ 100) ?_ ?_ r ?_
  · intro p xs e ⟨f, l, s, t, he, hr, hx⟩
    subst he
    rw [List.length_cons] at hx
    refine ⟨_, rfl, ?_⟩
    dsimp only [List.set]
    all_goals and_intros
    exact ⟨f ++ [(p.1, p.2 - min p.2 l)], _, _, _, by rw [List.map_append]; rfl, by rw [← hr]; simp [rbG], by simp; omega⟩
  · intro e ⟨f, l, s, t, he, hr, hx⟩
    subst he
    all_goals and_intros
    rw [← hr]; simp [rbG]; rfl
  · exact ⟨[], _, _, _, rfl, rfl, by simpa using hl⟩
theorem tkA_form : ∀ (A' : Row) (q : Int × Int) (B : Row) (x : Int), tkA (A' ++ [q]) B x = A' ++ [(q.1, q.2 - 1), (q.1 + fst0 B - x, 1)] ++ rbG 1 B
  | [], _, _, _ => rfl
  | [p], q, B, x => rfl
  | p :: p' :: A', q, B, x => by
    show p :: tkA ((p' :: A') ++ [q]) B x = _
    rw [tkA_form (p' :: A') q B x]; rfl
def rowsL (r : Row) : List Int → List Row
  | [] => [r]
  | s :: l => r :: rowsL (stepR r s) l
theorem rowsL_len : ∀ (l : List Int) (r : Row), (rowsL r l).length = l.length + 1
  | [], _ => rfl
  | s :: l, r => by show (rowsL _ l).length + 1 = _; rw [rowsL_len l]; rfl
theorem rowsL_last : ∀ (l : List Int) (r : Row), ∃ a, rowsL r l = a ++ [goR r l]
  | [], r => ⟨[], rfl⟩
  | s :: l, r => by
    obtain ⟨a, h⟩ := rowsL_last l (stepR r s)
    exact ⟨r :: a, by show r :: rowsL (stepR r s) l = _; rw [h]; rfl⟩
theorem rowsL_lim : ∀ {l : List Int} {r : Row} {M T : Int} {n : Nat}, Lim M T n r → (∀ s ∈ l, 0 ≤ s) → ∀ q ∈ rowsL r l, Lim M T (n + l.length) q
  | [], r, M, T, n, h, _, q, hq => by rw [List.mem_singleton.mp hq]; exact h
  | s :: l, r, M, T, n, h, hs, q, hq => by
    have hq : q ∈ r :: rowsL (stepR r s) l := hq
    rcases List.mem_cons.mp hq with rfl | hq
    · exact ⟨h.can, h.top, h.hr, by have := h.len; simp; omega⟩
    · have := rowsL_lim (l := l) (step_ok h (hs s (by simp))).1 (fun y hy => hs y (by simp [hy])) q hq
      rw [show n + (s :: l).length = n + 1 + l.length by simp; omega]
      exact this
def sumsL (r : Row) (l : List Int) : List Int := (rowsL r l).map fun q => whl r - whl q
theorem Lim.sml {M T : Int} {n : Nat} {r : Row} (h : Lim M T n r) (hM : M ≤ 1000000000000) (hT : T ≤ 10000000000000000) : ∀ p ∈ r, Sml p := fun p hp => by
  have := h.can.pos p hp
  have := h.top p hp
  have hh : p.2 ≤ hrs r := by
    have gen : ∀ r : Row, Nng r → ∀ p ∈ r, p.2 ≤ hrs r := fun r => by
      induction r with
      | nil => intro _ p hp; cases hp
      | cons a r ih =>
        intro hn p hp
        have := hrs_nng hn.tail
        have := hn a (by simp)
        rw [hrs_cons]
        rcases List.mem_cons.mp hp with rfl | hp
        · omega
        · have := ih hn.tail p hp; omega
    exact gen r h.can.nng p hp
  have := h.hr
  exact ⟨by omega, by omega, by omega, by omega⟩
end Law

namespace Law
open PySem L2 NS
theorem dedup_len : ∀ (k : Nat) (l : List Int), l.length ≤ k → l.eraseDups.length ≤ l.length
  | _, [], _ => by simp
  | k + 1, a :: l, h => by
    rw [List.eraseDups_cons, List.length_cons, List.length_cons]
    have h1 : (l.filter fun b => !b == a).length ≤ l.length := List.length_filter_le _ _
    have h2 := dedup_len k (l.filter fun b => !b == a) (by simp at h; omega)
    omega
theorem setSort_len (ns : List Int) : (setSort ns).length ≤ ns.length := by
  unfold setSort
  rw [(sortI_perm _).length_eq]
  exact dedup_len _ ns (Nat.le_refl _)
theorem fine_int {i : Int} (h0 : -10000000000000000000000000000000000000000 ≤ i) (h1 : i ≤ 10000000000000000000000000000000000000000) : Fine 0 401 (.int i) := Fine.int (Nat.lt_of_lt_of_le (show i.natAbs < 10 ^ 41 by omega) (Nat.pow_le_pow_right (by decide) (by decide)))
theorem take_l {f : Nat} {ds : List D} {many : Int} (h : BagD (f + 1) ds) (hm : 0 < many) (hb : many.natAbs < BIGN) : ∃ v ds', m_law_take (.ol false ds) [.v (.int many)] = some (.d (.int v), .ol false ds') ∧ BagD f ds' ∧ 0 ≤ v ∧ v < many := take_x h hm hb
theorem some_l {f : Nat} {bs ds : List D} (h : BagD (f + 1) bs) (hl : 0 < ds.length) (hb : ds.length ≤ 1000000) : ∃ d bs', m_law_some (.ol false bs) [.v (.list ds)] = some (.d d, .ol false bs') ∧ BagD f bs' ∧ d ∈ ds := some_x h hl hb
theorem alike_l {n m : Nat} {d : D} (h : Fine n m d) (hn : n ≤ 60) (hm : m ≤ 1000000) : m_law_alike [.v d, .v d] = some (.d (.bool true)) := alike_x h hn hm
theorem bag_l {ns : List Int} (h : ns.length ≤ 63) : ∃ bs, m_law_bag [.s ns] = some (.l bs) ∧ BagD 1000000 bs := bag_x h
theorem rowreach_x {row : Row} {h : Int} (hs : ∀ p ∈ row, Sml p) (h0 : 0 ≤ h) : m_law_row_reach [.v (encR row), .v (.int h)] = some (.d (.int (rch row h))) := by
  apply runT_i
  all_goals and_intros
  refine for_map (fun xs e => ∃ f l s t, e = [some (.fz (encR row)), some (.fz (.int l)), some (.fz (.int f)), s, t] ∧ f + rch xs (max 0 l) = rch row h ∧ ∀ p ∈ xs, Sml p) ?_ ?_ row ?_
  · intro p xs e ⟨f, l, s, t, he, hr, hp⟩
    subst he
    obtain ⟨q1, q2, q3, q4⟩ := hp p (by simp)
    refine ⟨_, rfl, ?_⟩
    dsimp only [List.set]
    all_goals and_intros
    exact ⟨_, _, _, _, rfl, by rw [← hr, rch_cons, show max 0 (l - p.2) = max 0 l - min p.2 (max 0 l) by omega]; omega, fun y hy => hp y (by simp [hy])⟩
  · intro e ⟨f, l, s, t, he, hr, hp⟩
    subst he
    all_goals and_intros
    show some (Res.d (PyData.int f)) = _
    rw [← hr]; simp [rch]
  · exact ⟨_, _, _, _, rfl, by rw [show max 0 h = h by omega]; omega, hs⟩
theorem ins_perm (f' xs : List Int) (x : Int) (n : Nat) : ((f'.take n ++ [x] ++ f'.drop n) ++ xs).Perm (f' ++ x :: xs) := by
  have e : f' ++ x :: xs = (f'.take n ++ f'.drop n) ++ x :: xs := by rw [List.take_append_drop]
  rw [e, List.append_assoc, List.append_assoc, List.append_assoc]
  refine List.Perm.append_left _ ?_
  show (x :: (f'.drop n ++ xs)).Perm _
  exact List.perm_middle.symm
theorem range_step {x k N : Nat} {xs : List Nat} (h : x :: xs = List.range' k (N - k)) : k = x ∧ k < N ∧ xs = List.range' (k + 1) (N - (k + 1)) := by
  cases hn : N - k with
  | zero => rw [hn] at h; cases h
  | succ n =>
    rw [hn, List.range'_succ] at h
    have h1 := List.cons.inj h
    exact ⟨h1.1.symm, by omega, by rw [h1.2, show N - (k + 1) = n by omega]⟩
theorem range_end {k N : Nat} (h : [] = List.range' k (N - k)) : N ≤ k := by
  cases hn : N - k with
  | zero => omega
  | succ n => rw [hn, List.range'_succ] at h; cases h
/-! ### the formula, as the law reckons it -/
def couldL (R : Nat → Int) (l : List Int) : List Int := (List.range (l.length + 1)).map fun m => mnF (fun h => R h + ((sortI (l.take m)).take (m - h)).sum) m
end Law

namespace Law
open PySem L2 NS
theorem reach_x {row : Row} {h : Int} (hs : ∀ p ∈ row, Sml p) (h0 : 0 ≤ h) : m_reach_in [.v (encR row), .v (.int h)] = some (.d (.int (rch row h))) := by
  apply runT_i
  all_goals and_intros
  refine for_map (fun xs e => ∃ f l s t, e = [some (.fz (encR row)), some (.fz (.int h)), some (.fz (.int f)), some (.fz (.int l)), s, t] ∧ f + rch xs l = rch row h ∧ 0 ≤ l ∧ ∀ p ∈ xs, Sml p) ?_ ?_ row ?_
  · intro p xs e ⟨f, l, s, t, he, hr, hl, hp⟩
    subst he
    obtain ⟨q1, q2, q3, q4⟩ := hp p (by simp)
    refine ⟨_, rfl, ?_⟩
    dsimp only [List.set]
    all_goals and_intros
    exact ⟨_, _, _, _, rfl, by rw [← hr, rch_cons]; omega, by omega, fun y hy => hp y (by simp [hy])⟩
  · intro e ⟨f, l, s, t, he, hr, hl, hp⟩
    subst he
    all_goals and_intros
    show some (Res.d (PyData.int f)) = _
    rw [← hr]; simp [rch]
  · exact ⟨_, _, _, _, rfl, by omega, h0, hs⟩
end Law

namespace Law
open PySem L2 NS
/-! ### what the law asks, of rows -/
theorem rowsL_eq : ∀ (l : List Int) (r : Row), rowsL r l = (List.range (l.length + 1)).map fun m => goR r (l.take m)
  | [], r => rfl
  | s :: l, r => by
    show r :: rowsL (stepR r s) l = _
    rw [rowsL_eq l (stepR r s), List.length_cons, List.range_succ_eq_map (n := l.length + 1), List.map_cons, List.map_map]
    rfl
theorem sumsL_eq (l : List Int) (r : Row) : sumsL r l = (List.range (l.length + 1)).map fun m => sumN r (l.take m) := by
  unfold sumsL
  rw [rowsL_eq, List.map_map]
  rfl
theorem sumsL_goG {l : List Int} {r : Row} {M T : Int} {n : Nat} (h : Lim M T n r) (hs : ∀ s ∈ l, 0 ≤ s) : sumsL r l = (List.range (l.length + 1)).map fun m => goG (l.take m) (Rf r) 0 := by
  rw [sumsL_eq]
  refine List.map_congr_left fun m _ => ?_
  exact (goG_sum h fun s hs' => hs s (List.mem_of_mem_take hs')).2.symm
theorem could_is {l : List Int} {r : Row} {M T : Int} {n : Nat} (h : Lim M T n r) (hs : ∀ s ∈ l, 0 ≤ s) : couldL (Rf r) l = sumsL r l := by
  rw [sumsL_goG h hs]
  unfold couldL
  refine List.map_congr_left fun m hm => ?_
  have hm : m < l.length + 1 := List.mem_range.mp hm
  have hlen : (sortI (l.take m)).length = m := by rw [(sortI_perm _).length_eq, List.length_take]; omega
  have f := formula (Rf r) m (sortI (l.take m)) hlen (sortI_le _) 0
  rw [goG_perm (sortI_perm (l.take m)), hlen] at f
  rw [f]
  congr 1
  funext h
  unfold cF
  rw [hlen, Nat.zero_add]
theorem sumsL_last (l : List Int) (r : Row) : ∃ a, sumsL r l = a ++ [sumN r l] := by
  obtain ⟨a, ha⟩ := rowsL_last l r
  exact ⟨a.map fun q => whl r - whl q, by unfold sumsL; rw [ha, List.map_append]; rfl⟩
theorem last_sum (l : List Int) (r : Row) : atI ((sumsL r l).map PyData.int) (-1) = some (.int (sumN r l)) := by
  obtain ⟨a, ha⟩ := sumsL_last l r
  rw [ha, List.map_append]
  exact atI_last
theorem rowsL_app : ∀ (a b : List Int) (r : Row), rowsL r (a ++ b) = rowsL r a ++ (rowsL (goR r a) b).drop 1
  | [], b, r => by
    show rowsL r b = [r] ++ (rowsL r b).drop 1
    cases b <;> rfl
  | s :: a, b, r => by
    show r :: rowsL (stepR r s) (a ++ b) = r :: (rowsL (stepR r s) a ++ (rowsL (goR (stepR r s) a) b).drop 1)
    rw [rowsL_app a b]
theorem sumsL_app (a b : List Int) (r : Row) : sumsL r (a ++ b) = sumsL r a ++ ((sumsL (goR r a) b).drop 1).map fun x => sumN r a + x := by
  unfold sumsL
  rw [rowsL_app, List.map_append, ← List.map_drop, List.map_map]
  congr 1
  refine List.map_congr_left fun q _ => ?_
  show whl r - whl q = whl r - whl (goR r a) + (whl (goR r a) - whl q)
  omega
theorem sumsL_len (l : List Int) (r : Row) : (sumsL r l).length = l.length + 1 := by unfold sumsL; rw [List.length_map, rowsL_len]
theorem halves_is (l : List Int) (r : Row) (k : Nat) (hk : k ≤ l.length) : (sumsL r l).take (k + 1) ++ ((sumsL (goR r (l.take k)) (l.drop k)).drop 1).map (fun x => sumN r (l.take k) + x) = sumsL r l ∧ (sumsL r l)[k]? = some (sumN r (l.take k)) := by
  have e := sumsL_app (l.take k) (l.drop k) r
  rw [List.take_append_drop] at e
  have hlen : (sumsL r (l.take k)).length = k + 1 := by rw [sumsL_len, List.length_take]; omega
  refine ⟨?_, ?_⟩
  · rw [e, List.take_left' hlen]
  · rw [e, List.getElem?_append_left (by omega)]
    obtain ⟨a, ha⟩ := sumsL_last (l.take k) r
    have hl := congrArg List.length ha
    rw [hlen, List.length_append, List.length_singleton] at hl
    rw [ha, List.getElem?_append_right (by omega), show k - a.length = 0 by omega]; rfl
theorem LeAll.refl : ∀ l : List Int, LeAll l l
  | [] => .nil
  | _ :: l => .cons (Int.le_refl _) (LeAll.refl l)
theorem LeAll.app : ∀ {a b c d : List Int}, LeAll a b → LeAll c d → LeAll (a ++ c) (b ++ d)
  | _, _, _, _, .nil, h => h
  | _, _, _, _, .cons h k, g => .cons h (LeAll.app k g)
theorem LeAll.len : ∀ {a b : List Int}, LeAll a b → a.length = b.length
  | _, _, .nil => rfl
  | _, _, .cons _ k => by simp [LeAll.len k]
theorem LeAll.tak : ∀ {a b : List Int} (n : Nat), LeAll a b → LeAll (a.take n) (b.take n)
  | _, _, 0, _ => by simp; exact .nil
  | _, _, _ + 1, .nil => .nil
  | _, _, n + 1, .cons h k => .cons h (LeAll.tak n k)
theorem LeAll.map {g : Int → Int} : ∀ {a : List Int}, (∀ x ∈ a, x ≤ g x) → LeAll a (a.map g)
  | [], _ => .nil
  | x :: a, h => .cons (h x (by simp)) (LeAll.map fun y hy => h y (by simp [hy]))
def moreL (l : List Int) (k : Nat) : List Int := l.take k ++ ((l.drop k).take 1).map (fun s => min (s + 1) 999999999999) ++ l.drop (k + 1)
theorem more_is (l : List Int) (k : Nat) (hs : ∀ s ∈ l, 0 ≤ s ∧ s ≤ 999999999999) : LeAll l (moreL l k) := by
  have e : l = l.take k ++ (l.drop k).take 1 ++ l.drop (k + 1) := by
    rw [List.append_assoc, ← List.drop_drop, List.take_append_drop, List.take_append_drop]
  unfold moreL
  rw (occs := .pos [1]) [e]
  refine ((LeAll.refl _).app (LeAll.map fun x hx => ?_)).app (LeAll.refl _)
  have := hs x (List.mem_of_mem_drop (List.mem_of_mem_take hx))
  omega
theorem LeAll.pos : ∀ {a b : List Int}, LeAll a b → (∀ s ∈ a, 0 ≤ s) → ∀ s ∈ b, 0 ≤ s
  | _, _, .nil, _ => by simp
  | a :: l, b :: l', .cons h k, g => fun s hs => by
    rcases List.mem_cons.mp hs with rfl | hs
    · have := g a (by simp); omega
    · exact LeAll.pos k (fun y hy => g y (by simp [hy])) s hs
theorem more_sums {l l' : List Int} {r : Row} {M T : Int} {n : Nat} (h : Lim M T n r) (hs : ∀ s ∈ l, 0 ≤ s) (hm : LeAll l l') : ((sumsL r l').zip (sumsL r l)).filter (fun q => decide (q.1 < q.2)) = [] := by
  have hs' := hm.pos hs
  rw [sumsL_goG h hs, sumsL_goG h hs', hm.len, List.zip_map', List.filter_eq_nil_iff]
  intro q hq
  obtain ⟨m, _, rfl⟩ := List.mem_map.mp hq
  have := goG_mono (hm.tak m) (G := Rf r) (G' := Rf r) (fun n => Int.le_refl _) 0
  simp only [decide_eq_true_eq]
  omega
theorem plenty_is {r : Row} {s M T : Int} {n : Nat} (h : Lim M T n r) (hs : fst0 r ≤ s) (k : Nat) : sumN r (List.replicate k s) = rch r (k : Int) := by
  have f0 := h.can.fst
  have e := goG_plenty h.can hs k 0
  rw [(goG_sum h (l := List.replicate k s) (fun x hx => by rw [List.eq_of_mem_replicate hx]; omega)).2, Nat.zero_add] at e
  exact e
/-! ### what can be shown -/
theorem fine_row {r : Row} (hs : ∀ p ∈ r, Sml p) (hl : r.length ≤ 100) : Fine 2 90000 (encR r) := by
  refine (Fine.tup (n := 1) (m := 809) (fun d hd => ?_)).up (by omega) (by rw [List.length_map]; omega)
  obtain ⟨p, hp, rfl⟩ := List.mem_map.mp hd
  obtain ⟨a, b, c, e⟩ := hs p hp
  refine (Fine.tup (n := 0) (m := 401) (fun d hd => ?_)).up (by omega) (by simp)
  simp only [List.mem_cons, List.mem_nil_iff, or_false] at hd
  rcases hd with rfl | rfl
  · exact fine_int (by omega) (by omega)
  · exact fine_int (by omega) (by omega)
theorem fine_ints {l : List Int} (hs : ∀ x ∈ l, -10000000000000000000000000000000000000000 ≤ x ∧ x ≤ 10000000000000000000000000000000000000000) (hl : l.length ≤ 100) : Fine 1 50000 (.list (l.map .int)) := by
  refine (Fine.list (n := 0) (m := 401) (fun d hd => ?_)).up (by omega) (by rw [List.length_map]; omega)
  obtain ⟨x, hx, rfl⟩ := List.mem_map.mp hd
  exact fine_int (hs x hx).1 (hs x hx).2
theorem whl_le : ∀ {r : Row}, (∀ p ∈ r, Sml p) → 0 ≤ whl r ∧ whl r ≤ 10000000000000000000000000000 * r.length
  | [], _ => ⟨by simp [whl], by simp [whl]⟩
  | p :: r, h => by
    obtain ⟨a, b, c, d⟩ := h p (by simp)
    have ih := whl_le (r := r) fun q hq => h q (by simp [hq])
    have u : 0 ≤ p.1 * p.2 := Int.mul_nonneg a c
    have v : p.1 * p.2 ≤ 1000000000000 * 10000000000000000 := Int.mul_le_mul b d c (by omega)
    rw [List.length_cons]
    show 0 ≤ p.1 * p.2 + whl r ∧ p.1 * p.2 + whl r ≤ _
    omega
theorem ne_ints (l : List Int) : gNe (.list (l.map .int)) (.list (l.map .int)) = some (.d (.bool false)) := by
  have lay : ∀ l : List Int, PyData.canLayAll0 (l.map PyData.int) = true := fun l => by
    induction l with
    | nil => rfl
    | cons x l ih => simp only [List.map_cons, PyData.canLayAll0, PyData.canLay0, ih, Bool.and_self]
  have dep : ∀ l : List Int, PyData.depthAll (l.map PyData.int) = 0 := fun l => by
    induction l with
    | nil => rfl
    | cons x l ih => simp only [List.map_cons, PyData.depthAll, PyData.depth, ih, Nat.max_self]
  have hs : SeqAt.shaped (.list (l.map PyData.int)) = true := by
    unfold SeqAt.shaped
    rw [show PyData.canLay0 (.list (l.map PyData.int)) = true from lay l, Bool.true_and]
    exact decide_eq_true (Nat.le_trans (show PyData.depth (.list (l.map PyData.int)) ≤ 2 by simp only [PyData.depth, dep]; omega) (by decide))
  unfold gNe
  rw [hs, SeqAt.eqv_refl _ (show PyData.canLay0 (.list (l.map PyData.int)) = true from lay l)]
  rfl
end Law

namespace Law
open PySem L2 NS
theorem some_row_x {f : Nat} {bs : List D} (h : BagD (f + 20) bs) : ∃ row bs', m_law_some_row (.ol false bs) [] = some (.d (encR row), .ol false bs') ∧ BagD f bs' ∧ Lim 1000000000000 1000000000000000 4 row := by
  obtain ⟨d1, b1, h1, k1, m1⟩ := some_l (ds := [.list [.int 1, .int 2, .int 3], .list [.int 1, .int 1, .int 2], .list [.int 1, .int (10 ^ Int.toNat 6), .int (10 ^ Int.toNat 14), .int 3]]) h (by simp) (by simp)
  have hT : ∃ T : List Int, d1 = .list (T.map .int) ∧ 0 < T.length ∧ T.length ≤ 100 ∧ ∀ t ∈ T, 1 ≤ t ∧ t ≤ 100000000000000 := by
    simp only [List.mem_cons, List.mem_nil_iff, or_false] at m1
    rcases m1 with rfl | rfl | rfl
    · exact ⟨[1, 2, 3], rfl, by decide, by decide, by decide⟩
    · exact ⟨[1, 1, 2], rfl, by decide, by decide, by decide⟩
    · exact ⟨[1, 10 ^ Int.toNat 6, 10 ^ Int.toNat 14, 3], rfl, by decide, by decide, by decide⟩
  obtain ⟨T, rfl, T1, T3, T2⟩ := hT
  obtain ⟨d2, b2, h2, k2, m2⟩ := some_l (ds := [.list (rangeD 1 (Int.toNat (9 - 1))), .list (rangeD 1 (Int.toNat (30 - 1))), .list [.int 1, .int 2, .int (10 ^ Int.toNat 6), .int (10 ^ Int.toNat 12 - 1), .int (10 ^ Int.toNat 11), .int 7, .int 8]]) k1 (by simp) (by simp)
  have hS : ∃ S : List Int, d2 = .list (S.map .int) ∧ 0 < S.length ∧ S.length ≤ 100 ∧ ∀ t ∈ S, 1 ≤ t ∧ t ≤ 1000000000000 := by
    simp only [List.mem_cons, List.mem_nil_iff, or_false] at m2
    rcases m2 with rfl | rfl | rfl
    · exact ⟨[1, 2, 3, 4, 5, 6, 7, 8], rfl, by decide, by decide, by decide⟩
    · exact ⟨(List.range 29).map fun i => (1 + (i : Nat) : Int), rfl, by decide, by decide, by decide⟩
    · exact ⟨[1, 2, 10 ^ Int.toNat 6, 10 ^ Int.toNat 12 - 1, 10 ^ Int.toNat 11, 7, 8], rfl, by decide, by decide, by decide⟩
  obtain ⟨S, rfl, S1, S3, S2⟩ := hS
  obtain ⟨v, b3, h3, k3, v0, v1⟩ := take_l (many := 5) k2 (by decide) (big_of (by decide))
  have go1 : ∃ acc e', lcGo (.nm 4) yesT (layOf (callU 2 m_law_some (consA (slotP 0) (consA (slotF 2) nilA)))) [4] (rangeD 0 v.toNat) [some (.ol true b3), some (.fz (.list (T.map .int))), some (.fz (.list (S.map .int))), none, none, none] [] = some (acc, e') ∧ ∃ b4 ns, e' = [some (.ol true b4), some (.fz (.list (T.map .int))), some (.fz (.list (S.map .int))), none, none, none] ∧ BagD (f + 10) b4 ∧ acc = List.map PyData.int ns ∧ (∀ n ∈ ns, 1 ≤ n ∧ n ≤ 1000000000000) ∧ ns.length ≤ 4 := by
    obtain ⟨acc, e', q1, b4, ns, q2, q3, q4, q5, q6⟩ := lc_inv (tg := .nm 4) (elt := layOf (callU 2 m_law_some (consA (slotP 0) (consA (slotF 2) nilA)))) (own := [4]) (fun ds acc e => ∃ b4 ns, e = [some (.ol true b4), some (.fz (.list (T.map .int))), some (.fz (.list (S.map .int))), none, none, none] ∧ BagD (f + 10 + ds.length) b4 ∧ acc = List.map PyData.int ns ∧ (∀ n ∈ ns, 1 ≤ n ∧ n ≤ 1000000000000) ∧ ns.length + ds.length ≤ 4) (fun d ds acc e ⟨b4, ns, he, hb, ha, hn, hl⟩ => by
      subst he ha
      obtain ⟨d5, b5, h5, k5, m5⟩ := some_l (ds := S.map .int) hb (by simpa using S1) (by simp; omega)
      simp only [List.mem_map] at m5
      obtain ⟨n, hn1, rfl⟩ := m5
      simp only [List.length_cons] at hl
      refine ⟨_, rfl, by simp; omega, ?_⟩
      dsimp only [List.set]
      apply Ev1.i
      · and_intros
      · exact ⟨b5, ns ++ [n], rfl, k5, by simp, fun x hx => by
          rcases List.mem_append.mp hx with hx | hx
          · exact hn x hx
          · rw [List.mem_singleton.mp hx]; exact S2 n hn1, by simp; omega⟩) (ds := rangeD 0 v.toNat) (e := [some (.ol true b3), some (.fz (.list (T.map .int))), some (.fz (.list (S.map .int))), none, none, none]) ⟨b3, [], rfl, k3.down (by unfold rangeD; simp; omega), rfl, by simp, by unfold rangeD; simp; omega⟩
    exact ⟨acc, e', q1, b4, ns, q2, q3, q4, q5, by simpa using q6⟩
  obtain ⟨acc, e', g1, b4, ns, rfl, k4, rfl, n1, n2⟩ := go1
  have hset : gSetSorted [.list (ns.map .int)] = some (.l ((setSort ns).map .int)) := by
    show (intsOf (ns.map PyData.int)).bind _ = _
    rw [intsOf_map]
    exact guard_i (decide_eq_true (by omega)) rfl
  have hsl : (setSort ns).length ≤ 4 := Nat.le_trans (setSort_len ns) n2
  have hlt := setSort_lt ns
  obtain ⟨acc2, e2, g2, b6, row, rest, rfl, k6, rfl, hd0, r1, r2, r3, r4⟩ := lc_inv (tg := .nm 5) (elt := layOf (tupR (consA (opOf (slotE 5)) (consA (opOf (layOf (callU 2 m_law_some (consA (slotP 0) (consA (slotF 1) nilA))))) nilA)))) (own := [5]) (fun ds acc e => ∃ b4 row rest, e = [some (.ol true b4), some (.fz (.list (T.map .int))), some (.fz (.list (S.map .int))), some (.ol false ((setSort ns).map .int)), none, none] ∧ BagD (f + ds.length) b4 ∧ acc = List.map encP row ∧ ds = List.map PyData.int rest ∧ (row.map (fun p => p.1) ++ rest).Pairwise (fun a b => b < a) ∧ (∀ p ∈ row, 1 ≤ p.1 ∧ p.1 ≤ 1000000000000 ∧ 1 ≤ p.2 ∧ p.2 ≤ 100000000000000) ∧ row.length + ds.length ≤ 4 ∧ ∀ n ∈ rest, 1 ≤ n ∧ n ≤ 1000000000000) (fun d ds acc e ⟨b4, row, rest, he, hb, ha, hd, hp, hr, hl, hn⟩ => by
      subst he ha
      cases rest with
      | nil => cases hd
      | cons n rest =>
      obtain ⟨rfl, rfl⟩ := List.cons.inj hd
      obtain ⟨z0, z1⟩ := hn n (by simp)
      obtain ⟨d5, b5, h5, k5, m5⟩ := some_l (ds := T.map .int) hb (by simpa using T1) (by simp; omega)
      simp only [List.mem_map] at m5
      obtain ⟨t, ht, rfl⟩ := m5
      simp only [List.length_cons] at hl
      refine ⟨_, rfl, by simp; omega, ?_⟩
      dsimp only [List.set]
      apply Ev1.i
      · and_intros
      · exact ⟨b5, row ++ [(n, t)], rest, rfl, k5, by simp, rfl, by simpa using hp, fun x hx => by
          rcases List.mem_append.mp hx with hx | hx
          · exact hr x hx
          · rw [List.mem_singleton.mp hx]; exact ⟨z0, z1, (T2 t ht).1, (T2 t ht).2⟩, by simp at hl ⊢; omega, fun d hd' => hn d (by simp [hd'])⟩) (ds := ((setSort ns).map PyData.int).reverse) (e := [some (.ol true b4), some (.fz (.list (T.map .int))), some (.fz (.list (S.map .int))), some (.ol false ((setSort ns).map .int)), none, none])
    ⟨b4, [], (setSort ns).reverse, rfl, k4.down (by simp; omega), rfl, by rw [List.map_reverse], by simpa [List.pairwise_reverse] using hlt, by simp, by simpa using hsl, fun n hn => n1 n ((setSort_mem ns n).mp (by simpa using hn))⟩
  have key : m_law_some_row (.ol false bs) [] = some (.d (encR row), .ol false b6) := by
    apply runU_i
    all_goals and_intros
    exact ⟨_, rfl, rfl, rfl, rfl⟩
  have hr0 : rest = [] := by cases rest with | nil => rfl | cons a b => cases hd0
  subst hr0
  rw [List.append_nil, List.pairwise_map] at r1
  have hlen : row.length ≤ 4 := by simpa using r3
  have hh : ∀ r : Row, (∀ p ∈ r, 1 ≤ p.1 ∧ p.1 ≤ 1000000000000 ∧ 1 ≤ p.2 ∧ p.2 ≤ 100000000000000) → hrs r ≤ 100000000000000 * r.length := fun r => by
    induction r with
    | nil => intro _; simp [hrs]
    | cons p r ih =>
      intro hp
      have := ih fun q hq => hp q (by simp [hq])
      have := hp p (by simp)
      rw [hrs_cons, List.length_cons]
      omega
  exact ⟨row, b6, key, k6.down (by simp), ⟨r1, fun p hp => by have := r2 p hp; omega⟩, fun p hp => (r2 p hp).2.1, by have := hh row r2; omega, hlen⟩
end Law

namespace Law
open PySem L2 NS
/-! ### runs put one behind the other -/
def runA (acc : Row) (p : Int × Int) : Row := match acc.getLast? with
  | some q => if q.1 = p.1 then acc.dropLast ++ [(p.1, q.2 + p.2)] else acc ++ [p]
  | none => acc ++ [p]
theorem runA_nil (p : Int × Int) : runA [] p = [p] := rfl
theorem runA_last {b : Row} {p q : Int × Int} : runA (b ++ [q]) p = if q.1 = p.1 then b ++ [(p.1, q.2 + p.2)] else b ++ [q] ++ [p] := by
  unfold runA
  rw [List.getLast?_append, List.getLast?_singleton, List.dropLast_concat]; rfl
theorem runA_len {acc : Row} {p : Int × Int} : (runA acc p).length ≤ acc.length + 1 := by
  rcases List.eq_nil_or_concat acc with rfl | ⟨b, q, rfl⟩
  · rw [runA_nil]; simp
  · rw [List.concat_eq_append, runA_last]
    split <;> simp
theorem rch_single (s n l : Int) : rch [(s, n)] l = s * min n l := by rw [rch_cons]; show s * min n l + 0 = _; omega
theorem runA_rch {F : Row} {s n l : Int} (hF : Nng F) (hn : 0 ≤ n) (hl : 0 ≤ l) : rch (runA F (s, n)) l = rch F l + s * min n (l - min (hrs F) l) := by
  rcases List.eq_nil_or_concat F with rfl | ⟨b, q, rfl⟩
  · rw [runA_nil, rch_single]
    show _ = 0 + s * min n (l - min 0 l)
    rw [show l - min 0 l = l by omega, Int.zero_add]
  · rw [List.concat_eq_append] at *
    have nb : Nng b := fun p hp => hF p (by simp [hp])
    have hb := hrs_nng nb
    have q2 := hF q (by simp)
    rw [runA_last]
    by_cases e : q.1 = s
    · rw [if_pos e, rch_app nb hl, rch_app nb hl, hrs_app, Int.add_assoc]
      congr 1
      have eq : q = (s, q.2) := Prod.ext e rfl
      show rch [(s, q.2 + n)] _ = rch [q] _ + _
      rw [eq, rch_single, rch_single]
      show s * min (q.2 + n) (l - min (hrs b) l) = s * min q.2 (l - min (hrs b) l) + s * min n (l - min (hrs b + hrs [(s, q.2)]) l)
      rw [show hrs [(s, q.2)] = q.2 by simp [hrs], ← Int.mul_add]
      congr 1
      omega
    · rw [if_neg e, rch_app hF hl, rch_single]
theorem runA_hrs {F : Row} {s n : Int} : hrs (runA F (s, n)) = hrs F + n := by
  rcases List.eq_nil_or_concat F with rfl | ⟨b, q, rfl⟩
  · rw [runA_nil]; simp [hrs]
  · rw [List.concat_eq_append, runA_last]
    split
    · rw [hrs_app, hrs_app]; simp only [hrs]; omega
    · rw [hrs_app]; simp [hrs]
structure WD (F : Row) : Prop where
  dec : F.Pairwise fun a b => b.1 < a.1
  pos : ∀ p ∈ F, 0 ≤ p.1 ∧ 0 < p.2
theorem WD.nng {F : Row} (h : WD F) : Nng F := fun p hp => Int.le_of_lt (h.pos p hp).2
theorem runA_wd {F : Row} {s n : Int} (h : WD F) (hs : 0 ≤ s) (hn : 0 < n) (hlast : ∀ q, F.getLast? = some q → s ≤ q.1) : WD (runA F (s, n)) ∧ ∃ q, (runA F (s, n)).getLast? = some q ∧ q.1 = s := by
  rcases List.eq_nil_or_concat F with rfl | ⟨b, q, rfl⟩
  · rw [runA_nil]
    exact ⟨⟨by simp, by simpa using ⟨hs, hn⟩⟩, (s, n), rfl, rfl⟩
  · rw [List.concat_eq_append] at *
    have hl := hlast q (by rw [List.getLast?_append, List.getLast?_singleton]; rfl)
    have hd := List.pairwise_append.mp h.dec
    have hq := h.pos q (by simp)
    rw [runA_last]
    by_cases e : q.1 = s
    · rw [if_pos e]
      refine ⟨⟨List.pairwise_append.mpr ⟨hd.1, by simp, fun x hx y hy => ?_⟩, fun x hx => ?_⟩, (s, q.2 + n), by rw [List.getLast?_append, List.getLast?_singleton]; rfl, rfl⟩
      · rw [List.mem_singleton.mp hy]
        have := hd.2.2 x hx q (by simp)
        simp only; omega
      · rcases List.mem_append.mp hx with hx | hx
        · exact h.pos x (by simp [hx])
        · rw [List.mem_singleton.mp hx]; simp only; omega
    · rw [if_neg e]
      refine ⟨⟨List.pairwise_append.mpr ⟨h.dec, by simp, fun x hx y hy => ?_⟩, fun x hx => ?_⟩, (s, n), by rw [List.getLast?_append, List.getLast?_singleton]; rfl, rfl⟩
      · rw [List.mem_singleton.mp hy]
        rcases List.mem_append.mp hx with hx | hx
        · have := hd.2.2 x hx q (by simp); simp only; omega
        · rw [List.mem_singleton.mp hx]; simp only; omega
      · rcases List.mem_append.mp hx with hx | hx
        · exact h.pos x hx
        · rw [List.mem_singleton.mp hx]; exact ⟨hs, hn⟩
def posF (F : Row) : Row := F.filter fun p => decide (0 < p.1)
theorem wd_canon {F : Row} (h : WD F) : Canon (posF F) := ⟨h.dec.filter _, fun p hp => by
  obtain ⟨h1, h2⟩ := List.mem_filter.mp hp
  exact ⟨by simpa using h2, (h.pos p h1).2⟩⟩
theorem wd_rch : ∀ {F : Row} {l : Int}, WD F → 0 ≤ l → rch (posF F) l = rch F l
  | [], _, _, _ => rfl
  | p :: r, l, h, hl => by
    have hp := h.pos p (by simp)
    have hd := List.pairwise_cons.mp h.dec
    by_cases h0 : 0 < p.1
    · have e : posF (p :: r) = p :: posF r := List.filter_cons_of_pos (by simpa using h0)
      rw [e, rch_cons, rch_cons, wd_rch (F := r) ⟨hd.2, fun q hq => h.pos q (by simp [hq])⟩ (by omega)]
    · have e0 : p.1 = 0 := by omega
      cases r with
      | nil =>
        have e : posF [p] = [] := List.filter_cons_of_neg (by simpa using h0)
        rw [e, rch_cons, e0]; simp [rch]
      | cons q r =>
        have := hd.1 q (by simp)
        have := h.pos q (by simp)
        omega
/-! ### reaches that bend downwards -/
theorem rch_conc : ∀ {r : Row} {j : Int}, Canon r → 0 ≤ j → rch r (j + 2) - rch r (j + 1) ≤ rch r (j + 1) - rch r j
  | [], _, _, _ => by simp [rch]
  | p :: r, j, h, hj => by
    have p2 := (h.pos p (by simp))
    by_cases h1 : j + 2 ≤ p.2
    · rw [rch_lo h1, rch_lo (show j + 1 ≤ p.2 by omega), rch_lo (show j ≤ p.2 by omega), Int.mul_add, Int.mul_add]
      omega
    · by_cases h2 : j + 1 ≤ p.2
      · rw [rch_hi (show p.2 ≤ j + 2 by omega), rch_lo h2, rch_lo (show j ≤ p.2 by omega), show j + 2 - p.2 = 1 by omega, h.tail.one, rch_zero h.tail.nng, show p.2 = j + 1 by omega, Int.mul_add]
        have : fst0 r ≤ p.1 := by
          cases r with
          | nil => exact Int.le_of_lt p2.1
          | cons c a => exact Int.le_of_lt (h.head c (by simp))
        omega
      · rw [rch_hi (show p.2 ≤ j + 2 by omega), rch_hi (show p.2 ≤ j + 1 by omega), rch_hi (show p.2 ≤ j by omega), show j + 2 - p.2 = (j - p.2) + 2 by omega, show j + 1 - p.2 = (j - p.2) + 1 by omega]
        have := rch_conc (j := j - p.2) h.tail (by omega)
        omega
structure Bent (f : Int → Int) (mk : Int → Prop) : Prop where
  zero : f 0 = 0
  mono : ∀ h, 0 ≤ h → f h ≤ f (h + 1)
  conc : ∀ h, 0 ≤ h → f (h + 2) - f (h + 1) ≤ f (h + 1) - f h
  flat : ∀ h, 1 ≤ h → ¬ mk h → f (h + 1) - f h = f h - f (h - 1)
theorem Bent.lin {f : Int → Int} {mk : Int → Prop} (b : Bent f mk) {a : Int} (ha : 0 ≤ a) : ∀ j : Nat, (∀ h, a < h → h < a + (j : Int) → ¬ mk h) → f (a + (j : Int)) = f a + (f (a + 1) - f a) * (j : Int) ∧ (0 < j → f (a + (j : Int)) - f (a + (j : Int) - 1) = f (a + 1) - f a)
  | 0, _ => by
    refine ⟨?_, fun h => absurd h (by omega)⟩
    show f (a + 0) = f a + (f (a + 1) - f a) * 0
    rw [Int.add_zero, Int.mul_zero, Int.add_zero]
  | j + 1, hn => by
    obtain ⟨i1, i2⟩ := b.lin ha j fun h h1 h2 => hn h h1 (by omega)
    have key : f (a + ((j + 1 : Nat) : Int)) - f (a + ((j + 1 : Nat) : Int) - 1) = f (a + 1) - f a := by
      cases j with
      | zero => rw [show a + ((0 + 1 : Nat) : Int) = a + 1 by omega, show a + 1 - 1 = a by omega]
      | succ i =>
        have h1 := i2 (by omega)
        have h2 := b.flat (a + ((i + 1 : Nat) : Int)) (by omega) (hn _ (by omega) (by omega))
        rw [show a + ((i + 1 + 1 : Nat) : Int) = a + ((i + 1 : Nat) : Int) + 1 by omega, show a + ((i + 1 : Nat) : Int) + 1 - 1 = a + ((i + 1 : Nat) : Int) by omega]
        omega
    refine ⟨?_, fun _ => key⟩
    rw [show a + ((j + 1 : Nat) : Int) - 1 = a + (j : Int) by omega] at key
    rw [show ((j + 1 : Nat) : Int) = (j : Int) + 1 by omega, Int.mul_add, Int.mul_one] at *
    omega
structure At (f : Int → Int) (F : Row) (m : Int) : Prop where
  wd : WD F
  hr : hrs F = m
  re : ∀ l, 0 ≤ l → rch F l = f (min l m)
  la : ∀ q, F.getLast? = some q → 1 ≤ m ∧ q.1 = f m - f (m - 1)
theorem At.nil {f : Int → Int} (h : f 0 = 0) : At f [] 0 := ⟨⟨.nil, by simp⟩, rfl, fun l hl => by rw [show min l 0 = 0 by omega, h]; rfl, fun q hq => by cases hq⟩
theorem At.step {f : Int → Int} {mk : Int → Prop} (b : Bent f mk) {F : Row} {m m' : Int} (h : At f F m) (hm : 0 ≤ m) (hmm : m < m') (hno : ∀ h, m < h → h < m' → ¬ mk h) : At f (runA F (f (m + 1) - f m, m' - m)) m' := by
  have hs : 0 ≤ f (m + 1) - f m := by have := b.mono m hm; omega
  obtain ⟨w1, q, w2, w3⟩ := runA_wd (n := m' - m) h.wd hs (by omega) fun q hq => by
    obtain ⟨k1, k2⟩ := h.la q hq
    have := b.conc (m - 1) (by omega)
    rw [show m - 1 + 2 = m + 1 by omega, show m - 1 + 1 = m by omega] at this
    omega
  refine ⟨w1, by rw [runA_hrs, h.hr]; omega, fun l hl => ?_, fun q' hq' => ?_⟩
  · rw [runA_rch h.wd.nng (by omega) hl, h.re l hl, h.hr]
    by_cases h1 : l ≤ m
    · rw [show min l m = l by omega, show l - min m l = 0 by omega, show min (m' - m) 0 = 0 by omega, show min l m' = l by omega, Int.mul_zero, Int.add_zero]
    · rw [show min l m = m by omega, show min (m' - m) (l - min m l) = min l m' - m by omega]
      have e := (b.lin hm (min l m' - m).toNat fun h h1 h2 => hno h h1 (by omega)).1
      rw [show (((min l m' - m).toNat : Nat) : Int) = min l m' - m by omega, show m + (min l m' - m) = min l m' by omega] at e
      exact e.symm
  · rw [w2] at hq'
    cases hq'
    refine ⟨by omega, ?_⟩
    rw [w3]
    have e := (b.lin hm (m' - m).toNat fun h h1 h2 => hno h h1 (by omega)).2 (by omega)
    rw [show (((m' - m).toNat : Nat) : Int) = m' - m by omega, show m + (m' - m) = m' by omega] at e
    exact e.symm
def pairsM : List Int → List (Int × Int)
  | [] => []
  | [m] => [(m, m + 1)]
  | m :: m' :: r => (m, m') :: pairsM (m' :: r)
def rowGo (f : Int → Int) : Row → List (Int × Int) → Row
  | F, [] => F
  | F, p :: ps => rowGo f (runA F (f (p.1 + 1) - f p.1, p.2 - p.1)) ps
theorem rowGo_ok {f : Int → Int} {mk : Int → Prop} (b : Bent f mk) : ∀ (ms : List Int) (m : Int) (F : Row), At f F m → 0 ≤ m → (m :: ms).Pairwise (fun x y => x < y) → (∀ h, m < h → h ∉ ms → ¬ mk h) → ∃ M, At f (rowGo f F (pairsM (m :: ms))) (M + 1) ∧ 0 ≤ M ∧ ∀ h, M < h → ¬ mk h
  | [], m, F, h, hm, _, hn => ⟨m, h.step b hm (by omega) (fun h h1 h2 => absurd h1 (by omega)), hm, fun h h1 => hn h h1 (by simp)⟩
  | m' :: ms, m, F, h, hm, hp, hn => by
    have hp1 := List.pairwise_cons.mp hp
    have hp2 := List.pairwise_cons.mp hp1.2
    have hlt := hp1.1 m' (by simp)
    refine rowGo_ok b ms m' (runA F (f (m + 1) - f m, m' - m)) (h.step b hm hlt fun h h1 h2 => hn h h1 fun hm' => ?_) (by omega) hp1.2 fun h h1 h2 => hn h (by omega) fun hm' => ?_
    · rcases List.mem_cons.mp hm' with e | e
      · omega
      · have := hp2.1 h e; omega
    · rcases List.mem_cons.mp hm' with e | e
      · omega
      · exact h2 e
theorem canon_bent {t : Row} {mk : Int → Prop} (ht : Canon t) (hf : ∀ h, 1 ≤ h → ¬ mk h → rch t (h + 1) - rch t h = rch t h - rch t (h - 1)) : Bent (rch t) mk := ⟨rch_zero ht.nng, fun h hh => (ht.inc hh).1, fun h hh => rch_conc ht hh, hf⟩
theorem rowOf_is {t : Row} {mk : Int → Prop} {f : Int → Int} {ms : List Int} (ht : Canon t) (hft : ∀ h, 0 ≤ h → f h = rch t h) (hf : ∀ h, 1 ≤ h → ¬ mk h → rch t (h + 1) - rch t h = rch t h - rch t (h - 1)) (hp : (0 :: ms).Pairwise (fun x y => x < y)) (hn : ∀ h, 0 < h → h ∉ ms → ¬ mk h) : posF (rowGo f [] (pairsM (0 :: ms))) = t := by
  have b' := canon_bent ht hf
  have b : Bent f mk := ⟨by rw [hft 0 (by omega)]; exact b'.zero, fun h hh => by rw [hft h hh, hft _ (by omega)]; exact b'.mono h hh, fun h hh => by rw [hft h hh, hft _ (by omega), hft _ (by omega)]; exact b'.conc h hh, fun h hh hm => by rw [hft h (by omega), hft _ (by omega), hft _ (by omega)]; exact b'.flat h hh hm⟩
  obtain ⟨M, a, hM, hmk⟩ := rowGo_ok b ms 0 [] (At.nil b.zero) (by omega) hp hn
  refine canon_eq (wd_canon a.wd) ht fun l hl => ?_
  rw [wd_rch a.wd hl, a.re l hl]
  by_cases h1 : l ≤ M + 1
  · rw [show min l (M + 1) = l by omega, hft l hl]
  · rw [show min l (M + 1) = M + 1 by omega]
    -- behind M the reach is straight, and at last flat
    have st : ∀ j : Nat, f (M + (j : Int)) = f M + (f (M + 1) - f M) * (j : Int) ∧ (0 < j → f (M + (j : Int)) - f (M + (j : Int) - 1) = f (M + 1) - f M) := fun j => b.lin hM j fun h h1 _ => hmk h h1
    have n0 := hrs_nng ht.nng
    have z := (st ((hrs t).toNat + 1)).2 (by omega)
    rw [hft _ (by omega), hft _ (by omega), rch_whl ht.nng (by omega), rch_whl ht.nng (by omega)] at z
    have e0 : f (M + 1) - f M = 0 := by omega
    have e1 := (st (l - M).toNat).1
    rw [e0, Int.zero_mul, show M + (((l - M).toNat : Nat) : Int) = l by omega] at e1
    rw [← hft l hl]
    omega
/-! ### where the row behind an hour bends -/
def endsL : Int → Row → List Int
  | _, [] => []
  | c, p :: r => (c + p.2) :: endsL (c + p.2) r
def bendsL : Int → Row → List Int
  | _, [] => []
  | c, p :: r => [c + p.2 - 1, c + p.2] ++ bendsL (c + p.2) r
theorem ends_bends : ∀ {r : Row} {c h : Int}, h ∈ endsL c r → h ∈ bendsL c r ∧ h - 1 ∈ bendsL c r
  | [], _, _, h => by cases h
  | p :: r, c, h, hh => by
    rcases List.mem_cons.mp hh with rfl | hh
    · exact ⟨by simp [bendsL], by simp [bendsL]⟩
    · obtain ⟨a, b⟩ := ends_bends hh
      exact ⟨by simp [bendsL, a], by simp [bendsL, b]⟩
theorem no_end : ∀ {r : Row} {c h : Int}, Nng r → 1 ≤ h - c → h ∉ endsL c r → rch r (h - c + 1) - rch r (h - c) = rch r (h - c) - rch r (h - c - 1)
  | [], _, _, _, _, _ => by simp [rch]
  | p :: r, c, h, hN, hh, hn => by
    have hn1 : h ≠ c + p.2 := fun e => hn (by simp [endsL, e])
    have hn2 : h ∉ endsL (c + p.2) r := fun e => hn (by simp [endsL, e])
    by_cases h1 : h - c < p.2
    · rw [rch_lo (show h - c + 1 ≤ p.2 by omega), rch_lo (show h - c ≤ p.2 by omega), rch_lo (show h - c - 1 ≤ p.2 by omega)]
      generalize h - c = x at *
      have m1 : p.1 * (x + 1) = p.1 * x + p.1 := by rw [Int.mul_add, Int.mul_one]
      have m2 : p.1 * (x - 1) = p.1 * x - p.1 := by rw [Int.mul_sub, Int.mul_one]
      omega
    · rw [rch_hi (show p.2 ≤ h - c + 1 by omega), rch_hi (show p.2 ≤ h - c by omega), rch_hi (show p.2 ≤ h - c - 1 by omega)]
      have := no_end (r := r) (c := c + p.2) (h := h) hN.tail (by omega) hn2
      rw [show h - (c + p.2) = h - c - p.2 by omega] at this
      rw [show h - c + 1 - p.2 = h - c - p.2 + 1 by omega, show h - c - 1 - p.2 = h - c - p.2 - 1 by omega]
      omega
theorem taken_flat {r : Row} {x M T : Int} {n : Nat} (h : Lim M T n r) (h0 : 0 ≤ x) (h1 : x ≤ fst0 r) {k : Int} (hk : 1 ≤ k) (hn : k ∉ bendsL 0 r) : rch (taken r x) (k + 1) - rch (taken r x) k = rch (taken r x) k - rch (taken r x) (k - 1) := by
  obtain ⟨_, _, e⟩ := taken_ok h h0 h1
  have n1 : k ∉ endsL 0 r := fun z => hn (ends_bends z).1
  have n2 : k + 1 ∉ endsL 0 r := fun z => hn (by have := (ends_bends z).2; rw [show k + 1 - 1 = k by omega] at this; exact this)
  have a := no_end (c := 0) h.can.nng (by omega) n1
  have b := no_end (c := 0) h.can.nng (by omega) n2
  rw [Int.sub_zero] at a b
  rw [e (k + 1) (by omega), e k (by omega), e (k - 1) (by omega)]
  rw [show k + 1 - 1 = k by omega] at b
  rw [show k - 1 + 1 = k by omega]
  omega
end Law

namespace Law
open PySem L2 NS
/-! ### steps laid out -/
def sumL (L : List Int) (k : Nat) : Int := (L.take k).sum
theorem getD_at {L : List Int} {k : Nat} (h : k < L.length) : L.getD k 0 = L[k] := by simp [h]
theorem getD_out {L : List Int} {k : Nat} (h : L.length ≤ k) : L.getD k 0 = 0 := by simp [h]
theorem sumL_succ (L : List Int) (k : Nat) : sumL L (k + 1) = sumL L k + L.getD k 0 := by
  unfold sumL
  by_cases h : k < L.length
  · rw [List.take_succ_eq_append_getElem h, List.sum_append, getD_at h]; simp
  · rw [List.take_of_length_le (by omega), List.take_of_length_le (by omega), getD_out (by omega), Int.add_zero]
def Desc (L : List Int) : Prop := L.Pairwise fun a b => b ≤ a
theorem desc_getD {L : List Int} (h : Desc L) (h0 : ∀ s ∈ L, 0 ≤ s) (k : Nat) : L.getD (k + 1) 0 ≤ L.getD k 0 ∧ 0 ≤ L.getD k 0 := by
  by_cases h1 : k < L.length
  · rw [getD_at h1]
    have p := h0 _ (List.getElem_mem h1)
    refine ⟨?_, p⟩
    by_cases h2 : k + 1 < L.length
    · rw [getD_at h2]; exact List.pairwise_iff_getElem.mp h k (k + 1) h1 h2 (by omega)
    · rw [getD_out (by omega)]; exact p
  · rw [getD_out (by omega), getD_out (by omega)]; omega
theorem getD_far {L : List Int} (h : ∀ k, L.getD (k + 1) 0 ≤ L.getD k 0) (i : Nat) : ∀ d : Nat, L.getD (i + d) 0 ≤ L.getD i 0
  | 0 => Int.le_refl _
  | d + 1 => Int.le_trans (h (i + d)) (getD_far h i d)
theorem getD_le {L : List Int} (h : ∀ k, L.getD (k + 1) 0 ≤ L.getD k 0) {i j : Nat} (hij : i ≤ j) : L.getD j 0 ≤ L.getD i 0 := by
  have := getD_far h i (j - i)
  rw [show i + (j - i) = j by omega] at this
  exact this
theorem desc_of {L : List Int} (h : ∀ k, L.getD (k + 1) 0 ≤ L.getD k 0) : Desc L := by
  refine List.pairwise_iff_getElem.mpr fun i j hi hj hij => ?_
  have := getD_le h (Nat.le_of_lt hij)
  rw [getD_at hi, getD_at hj] at this
  exact this
theorem pos_of {L : List Int} (h : ∀ k, 0 ≤ L.getD k 0) : ∀ s ∈ L, 0 ≤ s := fun s hs => by
  obtain ⟨i, hi, rfl⟩ := List.mem_iff_getElem.mp hs
  have := h i
  rw [getD_at hi] at this
  exact this
def upF (F : Row) (l : List Int) : Row := l.foldl (fun F s => runA F (s, 1)) F
def fS (S : List Int) (h : Int) : Int := sumL S h.toNat
theorem bentS {S : List Int} (hd : Desc S) (h0 : ∀ s ∈ S, 0 ≤ s) : Bent (fS S) fun _ => True := by
  have e : ∀ h : Int, 0 ≤ h → fS S (h + 1) = fS S h + S.getD h.toNat 0 := fun h hh => by
    unfold fS
    rw [show (h + 1).toNat = h.toNat + 1 by omega, sumL_succ]
  refine ⟨rfl, fun h hh => ?_, fun h hh => ?_, fun h _ hn => absurd trivial hn⟩
  · rw [e h hh]; have := (desc_getD hd h0 h.toNat).2; omega
  · have a := e h hh
    have b := e (h + 1) (by omega)
    rw [show h + 1 + 1 = h + 2 by omega, show (h + 1).toNat = h.toNat + 1 by omega] at b
    have := (desc_getD hd h0 h.toNat).1
    omega
theorem upF_at {S : List Int} (hd : Desc S) (h0 : ∀ s ∈ S, 0 ≤ s) : ∀ k : Nat, k ≤ S.length → At (fS S) (upF [] (S.take k)) (k : Int)
  | 0, _ => At.nil rfl
  | k + 1, hk => by
    have ih := upF_at hd h0 k (by omega)
    have st := ih.step (bentS hd h0) (m' := ((k + 1 : Nat) : Int)) (by omega) (by omega) (fun h h1 h2 => absurd h1 (by omega))
    have e : fS S ((k : Int) + 1) - fS S (k : Int) = S[k] := by
      unfold fS
      rw [show ((k : Int) + 1).toNat = k + 1 by omega, show ((k : Int)).toNat = k by omega, sumL_succ, getD_at (by omega)]
      omega
    rw [e, show ((k + 1 : Nat) : Int) - (k : Int) = 1 by omega] at st
    rw [List.take_succ_eq_append_getElem (by omega)]
    unfold upF
    rw [List.foldl_append]
    exact st
theorem rowUp_is {t : Row} (ht : Canon t) {S : List Int} (hd : Desc S) (h0 : ∀ s ∈ S, 0 ≤ s) (hr : ∀ k : Nat, rch t k = sumL S k) : posF (upF [] S) = t := by
  have a := upF_at hd h0 S.length (Nat.le_refl _)
  rw [List.take_length] at a
  refine canon_eq (wd_canon a.wd) ht fun l hl => ?_
  rw [wd_rch a.wd hl, a.re l hl]
  obtain ⟨k, rfl⟩ := Int.eq_ofNat_of_zero_le hl
  rw [hr k]
  unfold fS
  rw [show (min (k : Int) (S.length : Int)).toNat = min k S.length by omega]
  unfold sumL
  by_cases h : k ≤ S.length
  · rw [Nat.min_eq_left h]
  · rw [Nat.min_eq_right (by omega), List.take_of_length_le (Nat.le_refl _), List.take_of_length_le (by omega)]
def layR : Row → List Int
  | [] => []
  | p :: r => List.replicate p.2.toNat p.1 ++ layR r
theorem lay_len : ∀ {r : Row}, Nng r → ((layR r).length : Int) = hrs r
  | [], _ => rfl
  | p :: r, h => by
    have := lay_len h.tail
    have := h p (by simp)
    show ((List.replicate p.2.toNat p.1 ++ layR r).length : Int) = p.2 + hrs r
    rw [List.length_append, List.length_replicate]
    omega
theorem sum_rep (n : Nat) (a : Int) : (List.replicate n a).sum = a * (n : Int) := by
  induction n with
  | zero => simp
  | succ n ih => rw [List.replicate_succ, List.sum_cons, ih, show ((n + 1 : Nat) : Int) = (n : Int) + 1 by omega, Int.mul_add]; omega
theorem lay_sum : ∀ {r : Row}, Nng r → ∀ k : Nat, rch r k = sumL (layR r) k
  | [], _, k => by simp [rch, sumL, layR]
  | p :: r, h, k => by
    have p2 := h p (by simp)
    unfold sumL
    show _ = ((List.replicate p.2.toNat p.1 ++ layR r).take k).sum
    rw [List.take_append, List.sum_append, List.length_replicate, List.take_replicate, sum_rep, rch_cons]
    have ih := lay_sum h.tail (k - p.2.toNat)
    unfold sumL at ih
    rw [← ih]
    congr 2
    · omega
    · omega
theorem lay_mem : ∀ {r : Row} {s : Int}, s ∈ layR r → ∃ p ∈ r, s = p.1
  | [], s, h => by cases h
  | p :: r, s, h => by
    have h : s ∈ List.replicate p.2.toNat p.1 ++ layR r := h
    rcases List.mem_append.mp h with h | h
    · exact ⟨p, by simp, List.eq_of_mem_replicate h⟩
    · obtain ⟨q, hq, e⟩ := lay_mem h
      exact ⟨q, by simp [hq], e⟩
theorem lay_desc : ∀ {r : Row}, Canon r → Desc (layR r)
  | [], _ => List.Pairwise.nil
  | p :: r, h => by
    show List.Pairwise _ (List.replicate p.2.toNat p.1 ++ layR r)
    refine List.pairwise_append.mpr ⟨?_, lay_desc h.tail, fun a ha b hb => ?_⟩
    · exact List.pairwise_replicate.mpr (.inr (Int.le_refl _))
    · rw [List.eq_of_mem_replicate ha]
      obtain ⟨q, hq, rfl⟩ := lay_mem hb
      exact Int.le_of_lt (h.head q hq)
/-! ### two neighbours put together -/
def nbr (L : List Int) (a : Nat) (w : Int) : List Int := L.take a ++ [w] ++ L.drop (a + 2)
theorem nbr_getD {L : List Int} {a : Nat} {w : Int} (ha : a + 2 ≤ L.length) (k : Nat) : (nbr L a w).getD k 0 = if k < a then L.getD k 0 else if k = a then w else L.getD (k + 1) 0 := by
  have hl : (L.take a).length = a := by rw [List.length_take]; omega
  unfold nbr
  rw [List.getD_eq_getElem?_getD, List.getD_eq_getElem?_getD, List.getD_eq_getElem?_getD]
  by_cases h1 : k < a
  · rw [if_pos h1, List.getElem?_append_left (by rw [List.length_append, hl]; simp; omega), List.getElem?_append_left (by omega), List.getElem?_take_of_lt h1]
  · rw [if_neg h1]
    by_cases h2 : k = a
    · subst h2
      rw [if_pos rfl, List.getElem?_append_left (by rw [List.length_append, hl]; simp), List.getElem?_append_right (by omega), hl, Nat.sub_self]; rfl
    · rw [if_neg h2, List.getElem?_append_right (by rw [List.length_append, hl]; simp; omega), List.length_append, hl, List.getElem?_drop]
      congr 2
      simp
      omega
theorem nbr_ok {L : List Int} {a : Nat} {x : Int} (hd : Desc L) (h0 : ∀ s ∈ L, 0 ≤ s) (ha : a + 2 ≤ L.length) (h1 : x ≤ L.getD a 0) (h2 : L.getD (a + 1) 0 < x) : Desc (nbr L a (L.getD a 0 + L.getD (a + 1) 0 - x)) ∧ (∀ s ∈ nbr L a (L.getD a 0 + L.getD (a + 1) 0 - x), 0 ≤ s) ∧ ∀ k : Nat, sumL (nbr L a (L.getD a 0 + L.getD (a + 1) 0 - x)) k = min (sumL L k) (sumL L (k + 1) - x) := by
  have g := desc_getD hd h0
  have gl := fun {i j : Nat} (h : i ≤ j) => getD_le (fun k => (g k).1) h
  have nb := nbr_getD (w := L.getD a 0 + L.getD (a + 1) 0 - x) ha
  have e1 : ∀ k, (nbr L a (L.getD a 0 + L.getD (a + 1) 0 - x)).getD (k + 1) 0 ≤ (nbr L a (L.getD a 0 + L.getD (a + 1) 0 - x)).getD k 0 := fun k => by
    rw [nb, nb]
    have a1 := g k
    have a2 := g (k + 1)
    by_cases c1 : k + 1 < a
    · rw [if_pos c1, if_pos (by omega)]; exact a1.1
    · by_cases c2 : k + 1 = a
      · rw [if_neg c1, if_pos c2, if_pos (by omega)]
        have := a1.1
        rw [c2] at this
        omega
      · by_cases c3 : k = a
        · rw [if_neg c1, if_neg c2, if_neg (by omega), if_pos c3]
          have := a2.1
          rw [c3] at this
          rw [c3]
          omega
        · rw [if_neg c1, if_neg c2, if_neg (by omega), if_neg c3]; exact a2.1
  refine ⟨desc_of e1, pos_of fun k => ?_, fun k => ?_⟩
  · rw [nb]
    have := (g k).2
    have := (g (k + 1)).2
    have := (g (a + 1)).2
    split
    · omega
    · split <;> omega
  · have form : ∀ k : Nat, sumL (nbr L a (L.getD a 0 + L.getD (a + 1) 0 - x)) k = if k ≤ a then sumL L k else sumL L (k + 1) - x := fun k => by
      induction k with
      | zero => rw [if_pos (by omega)]; rfl
      | succ k ih =>
        rw [sumL_succ, ih, nb]
        by_cases c1 : k < a
        · rw [if_pos (by omega), if_pos c1, if_pos (by omega), sumL_succ]
        · by_cases c2 : k = a
          · rw [if_pos (by omega), if_neg c1, if_pos c2, if_neg (by omega), sumL_succ, sumL_succ, c2]; omega
          · rw [if_neg (by omega), if_neg c1, if_neg c2, if_neg (by omega), sumL_succ L (k + 1)]; omega
    rw [form]
    have s1 := sumL_succ L k
    by_cases c : k ≤ a
    · rw [if_pos c]; have := gl c; omega
    · rw [if_neg c]
      have := gl (show a + 1 ≤ k by omega)
      omega
theorem sumL_zeros (L : List Int) (k : Nat) : sumL (L ++ [0, 0]) k = sumL L k := by
  unfold sumL
  rw [List.take_append, List.sum_append]
  have z : ∀ n, (([0, 0] : List Int).take n).sum = 0 := fun n => by
    match n with
    | 0 => rfl
    | 1 => rfl
    | n + 2 => simp
  rw [z, Int.add_zero]
theorem desc_zeros {L : List Int} (h : Desc L) (h0 : ∀ s ∈ L, 0 ≤ s) : Desc (L ++ [0, 0]) ∧ ∀ s ∈ L ++ [0, 0], 0 ≤ s := by
  refine ⟨List.pairwise_append.mpr ⟨h, by simp, fun a ha b hb => ?_⟩, fun s hs => ?_⟩
  · have := h0 a ha
    simp only [List.mem_cons, List.mem_nil_iff, or_false] at hb
    rcases hb with rfl | rfl <;> omega
  · rcases List.mem_append.mp hs with hs | hs
    · exact h0 s hs
    · simp only [List.mem_cons, List.mem_nil_iff, or_false] at hs
      rcases hs with rfl | rfl <;> omega
/-! ### numbers with their places -/
abbrev encI (q : Nat × Int) : D := .tuple [.int (q.1 : Nat), .int q.2]
def numL (l : List Int) : List (Nat × Int) := l.mapIdx fun i x => (i, x)
theorem numL_len (l : List Int) : (numL l).length = l.length := by unfold numL; rw [List.length_mapIdx]
theorem numL_at {l : List Int} {k : Nat} (h : k < (numL l).length) : (numL l)[k] = (k, l[k]'(by rw [← numL_len]; exact h)) := by simp [numL]
theorem enum_is (l : List Int) : enumD (l.map PyData.int) = (numL l).map encI := by
  unfold enumD
  apply List.ext_getElem
  · rw [List.length_mapIdx, List.length_map, List.length_map, numL_len]
  · intro i h1 h2
    rw [List.getElem_mapIdx, List.getElem_map, List.getElem_map, numL_at]
def idxL (L : List Int) (x : Int) : List Int := ((numL L).filter fun q => decide (x ≤ q.2)).map fun q => (q.1 : Int)
theorem idx_mem {L : List Int} {x m : Int} : m ∈ idxL L x ↔ ∃ i : Nat, i < L.length ∧ m = i ∧ x ≤ L.getD i 0 := by
  unfold idxL
  rw [List.mem_map]
  constructor
  · rintro ⟨q, hq, rfl⟩
    obtain ⟨h1, h2⟩ := List.mem_filter.mp hq
    obtain ⟨i, hi, rfl⟩ := List.mem_iff_getElem.mp h1
    rw [numL_at hi] at *
    rw [numL_len] at hi
    exact ⟨i, hi, rfl, by rw [getD_at hi]; simpa using h2⟩
  · rintro ⟨i, hi, rfl, h⟩
    rw [getD_at hi] at h
    refine ⟨(i, L[i]), List.mem_filter.mpr ⟨List.mem_iff_getElem.mpr ⟨i, by rw [numL_len]; exact hi, numL_at _⟩, by simpa using h⟩, rfl⟩
theorem idx_max {L : List Int} {x : Int} {i : Nat} (hi : i < L.length) (hx : x ≤ L.getD i 0) : ∃ m : Nat, (idxL L x).max? = some (m : Int) ∧ m < L.length ∧ x ≤ L.getD m 0 ∧ (m + 1 < L.length → L.getD (m + 1) 0 < x) := by
  have hm : (i : Int) ∈ idxL L x := idx_mem.mpr ⟨i, hi, rfl, hx⟩
  cases e : (idxL L x).max? with
  | none =>
    rw [List.max?_eq_none_iff] at e
    rw [e] at hm; cases hm
  | some m =>
    obtain ⟨h1, h2⟩ := List.max?_eq_some_iff.mp e
    obtain ⟨k, hk, rfl, hk2⟩ := idx_mem.mp h1
    refine ⟨k, rfl, hk, hk2, fun h => ?_⟩
    by_cases c : L.getD (k + 1) 0 < x
    · exact c
    · have := h2 _ (idx_mem.mpr ⟨k + 1, h, rfl, by omega⟩)
      omega
end Law

namespace Law
open PySem L2 NS
theorem law_run_x {F : Row} {s n : Int} (hl : F.length ≤ 400) : m_law_run [.v (encL F), .v (.int s), .v (.int n)] = some (.l ((runA F (s, n)).map encP)) := by
  rcases List.eq_nil_or_concat F with rfl | ⟨b, q, rfl⟩
  · have hne : gNe (.list (List.map encP [])) (.list []) = some (.d (.bool false)) := rfl
    apply runT_i
    all_goals and_intros
    rfl
  · rw [List.concat_eq_append] at *
    have hne := ne_rowsL (l := b ++ [q]) (by simp)
    have hla : atI (List.map encP (b ++ [q])) (-1) = some (.tuple [.int q.1, .int q.2]) := by rw [List.map_append]; exact atI_last
    have hcut : gSlA (.list (List.map encP (b ++ [q]))) none (some (-1)) = some (.l (b.map encP)) := by
      show some (Res.l (cutD (List.map encP (b ++ [q])) none (some (-1)))) = _
      rw [List.map_append, show List.map encP [q] = [encP q] from rfl, cut_butlast]
    have hlb : (List.map encP (b ++ [q])).length ≤ 400 := by rw [List.length_map]; exact hl
    have hlb2 : b.length ≤ 400 := by rw [List.length_append] at hl; omega
    have k1 : q.1 = s → (runA (b ++ [q]) (s, n)).map encP = b.map encP ++ [.tuple [.int s, .int (q.2 + n)]] := fun e => by rw [runA_last, if_pos e, List.map_append]; rfl
    have k2 : ¬ q.1 = s → (runA (b ++ [q]) (s, n)).map encP = List.map encP (b ++ [q]) ++ [.tuple [.int s, .int n]] := fun e => by rw [runA_last, if_neg e, List.map_append (l₁ := b ++ [q])]; rfl
    show m_law_run [.v (.list (List.map encP (b ++ [q]))), .v (.int s), .v (.int n)] = _
    generalize hL : List.map encP (b ++ [q]) = L at *
    generalize (runA (b ++ [q]) (s, n)).map encP = R at *
    apply runT_i
    all_goals and_intros
    · rw [k1 (by omega)]; rfl
    · rw [k2 (by omega)]; rfl
theorem steps_many_x {row : Row} (hl : row.length ≤ 100) : m_law_steps_many [.v (encR row)] = some (.d (.int (hrs row))) := by
  have hs : ∀ row : Row, (row.map fun p => p.2).sum = hrs row := fun row => by
    induction row with
    | nil => rfl
    | cons p r ih => simp only [List.map_cons, List.sum_cons, ih]; rfl
  have k : lcGo (.tp [(.nm 1), (.nm 2)]) yesT (slotE 2) [1, 2] (row.map encP) [some (.fz (encR row)), none, none] [] = some ((row.map fun p => p.2).map .int, [some (.fz (encR row)), none, none]) := by
    refine lc_mapI (fun _ => True) _ row (fun _ _ => trivial) (by omega) (fun p _ => ⟨_, rfl, ?_⟩)
    dsimp only [List.set]
    apply Ev1.i
    · and_intros
    · exact ⟨rfl, rfl⟩
  rw [← hs]
  apply runT_i
  all_goals and_intros
  rfl
/-! ### a row of a reach -/
theorem zip_pairs : ∀ (ms : List Int) (m : Int), ∃ last, atI ((m :: ms).map PyData.int) (-1) = some (.int last) ∧ zipD ((m :: ms).map PyData.int) (ms.map PyData.int ++ [.int (last + 1)]) = (pairsM (m :: ms)).map encP
  | [], m => ⟨m, rfl, rfl⟩
  | m' :: ms, m => by
    obtain ⟨last, h1, h2⟩ := zip_pairs ms m'
    refine ⟨last, ?_, ?_⟩
    · rcases List.eq_nil_or_concat ((m' :: ms).map PyData.int) with e | ⟨b, d, e⟩
      · cases e
      · rw [List.concat_eq_append] at e
        have h1' := h1
        rw [e, atI_last] at h1'
        show atI (.int m :: (m' :: ms).map PyData.int) (-1) = _
        rw [e, ← List.cons_append, atI_last]
        exact h1'
    · show (_ :: zipD ((m' :: ms).map PyData.int) (ms.map PyData.int ++ [.int (last + 1)])) = _
      rw [h2]; rfl
theorem pairs_len : ∀ (ms : List Int), (pairsM ms).length = ms.length
  | [] => rfl
  | [m] => rfl
  | m :: m' :: r => by show (pairsM (m' :: r)).length + 1 = _; rw [pairs_len (m' :: r)]; rfl
theorem pairs_pos : ∀ {ms : List Int}, (∀ m ∈ ms, 0 ≤ m) → ∀ p ∈ pairsM ms, 0 ≤ p.1
  | [], _, p, hp => by cases hp
  | [m], h, p, hp => by rw [List.mem_singleton.mp hp]; exact h m (by simp)
  | m :: m' :: r, h, p, hp => by
    rcases List.mem_cons.mp hp with rfl | hp
    · exact h m (by simp)
    · exact pairs_pos (ms := m' :: r) (fun x hx => h x (by simp only [List.mem_cons] at hx ⊢; exact .inr hx)) p hp
theorem rowGo_len {f : Int → Int} : ∀ (xs : List (Int × Int)) (F : Row), (rowGo f F xs).length ≤ F.length + xs.length
  | [], F => by simp [rowGo]
  | p :: xs, F => by
    have := rowGo_len (f := f) xs (runA F (f (p.1 + 1) - f p.1, p.2 - p.1))
    have := runA_len (acc := F) (p := (f (p.1 + 1) - f p.1, p.2 - p.1))
    show (rowGo f _ xs).length ≤ _
    rw [List.length_cons]; omega
def marksL (bends : List Int) : List Int := setSort (0 :: bends.filter fun h => decide (0 ≤ h))
theorem marks_form (bends : List Int) : ∃ ms, marksL bends = 0 :: ms ∧ (0 :: ms).Pairwise (fun x y => x < y) ∧ ∀ h, 0 < h → h ∈ bends → h ∈ ms := by
  have hlt := setSort_lt (0 :: bends.filter fun h => decide (0 ≤ h))
  have hm := setSort_mem (0 :: bends.filter fun h => decide (0 ≤ h))
  unfold marksL
  have hpos : ∀ m ∈ setSort (0 :: bends.filter fun h => decide (0 ≤ h)), 0 ≤ m := fun m h => by
    rcases List.mem_cons.mp ((hm m).mp h) with rfl | h
    · omega
    · simpa using (List.mem_filter.mp h).2
  have h0 : (0 : Int) ∈ setSort (0 :: bends.filter fun h => decide (0 ≤ h)) := (hm 0).mpr (by simp)
  have hb : ∀ h, 0 < h → h ∈ bends → h ∈ setSort (0 :: bends.filter fun h => decide (0 ≤ h)) := fun h h1 h2 => (hm h).mpr (List.mem_cons_of_mem _ (List.mem_filter.mpr ⟨h2, by simpa using Int.le_of_lt h1⟩))
  generalize setSort (0 :: bends.filter fun h => decide (0 ≤ h)) = S at *
  cases S with
  | nil => cases h0
  | cons m ms =>
    have e : m = 0 := by
      rcases List.mem_cons.mp h0 with e | e
      · exact e.symm
      · have := (List.pairwise_cons.mp hlt).1 0 e
        have := hpos m (by simp)
        omega
    subst e
    refine ⟨ms, rfl, hlt, fun h h1 h2 => ?_⟩
    rcases List.mem_cons.mp (hb h h1 h2) with e | e
    · omega
    · exact e
theorem row_of_x {F : FnI} {g : List Opd → Option Res} {f : Int → Int} {bends : List Int} (hg : ∀ h : Int, 0 ≤ h → g [.v (.int h)] = some (.d (.int (f h)))) (hl : bends.length ≤ 60) : runF2 9 F (b_law_row_of F g) (.list (bends.map .int)) = some (.d (encR (posF (rowGo f [] (pairsM (marksL bends)))))) := by
  obtain ⟨ms, hms, hlt, _⟩ := marks_form bends
  have hml : (marksL bends).length ≤ 61 := by
    have h1 := setSort_len (0 :: bends.filter fun h => decide (0 ≤ h))
    have h2 := List.length_filter_le (fun h => decide (0 ≤ h)) bends
    rw [List.length_cons] at h1
    unfold marksL; omega
  have k1 : lcGo (.nm 7) (boolOf (bin2 (gCmp fun i j => decide (j ≤ i)) (slotP 7) (opOf (cstE (.int 0))))) (slotE 7) [7] (bends.map .int) [some (.fz (.list (bends.map .int))), some (.fn F), none, none, none, none, none, none, none] [] = some ((bends.filter fun h => decide (0 ≤ h)).map .int, [some (.fz (.list (bends.map .int))), some (.fn F), none, none, none, none, none, none, none]) := by
    refine lc_fil0 (fun _ => True) (fun h => decide (0 ≤ h)) PyData.int bends (fun _ _ => trivial) (by omega) ?_
    intro p _
    refine ⟨_, rfl, ?_⟩
    dsimp only [List.set]
    apply Ev1.i
    · and_intros
    · refine ⟨rfl, fun _ => ?_, fun _ => rfl⟩
      apply Ev1.i
      · and_intros
      · exact ⟨rfl, rfl⟩
  have hset : gSetSorted [.list ([.int 0] ++ (bends.filter fun h => decide (0 ≤ h)).map .int)] = some (.l ((marksL bends).map .int)) := by
    show (intsOf ((0 :: bends.filter fun h => decide (0 ≤ h)).map PyData.int)).bind _ = _
    rw [intsOf_map]
    have h2 := List.length_filter_le (fun h => decide (0 ≤ h)) bends
    exact guard_i (decide_eq_true (by rw [List.length_cons]; omega)) rfl
  have hfl : ((bends.filter fun h => decide (0 ≤ h)).map PyData.int).length ≤ 60 := by rw [List.length_map]; exact Nat.le_trans (List.length_filter_le _ _) hl
  rw [hms] at *
  obtain ⟨last, hla, hzip⟩ := zip_pairs ms 0
  have hsl : gSlA (.list ((0 :: ms).map .int)) (some 1) none = some (.l (ms.map .int)) := by
    show some (Res.l (cutD ((0 :: ms).map .int) (some ((1 : Nat) : Int)) none)) = _
    rw [cut_from]; rfl
  have hpl := pairs_len (0 :: ms)
  have hpp := pairs_pos (ms := 0 :: ms) fun m hm => by
    rcases List.mem_cons.mp hm with rfl | hm
    · omega
    · exact Int.le_of_lt ((List.pairwise_cons.mp hlt).1 m hm)
  have hmm' : ms.length ≤ 60 := by rw [List.length_cons] at hml; omega
  have hmm : (ms.map PyData.int).length ≤ 60 := by rw [List.length_map]; rw [List.length_cons] at hml; omega
  have hrl := rowGo_len (f := f) (pairsM (0 :: ms)) []
  rw [hpl, List.length_nil] at hrl
  generalize (bends.filter fun h => decide (0 ≤ h)).map PyData.int = FB at *
  generalize hMM : (0 :: ms).map PyData.int = MM at *
  apply runF2_i (e0 := [some (.fz (.list (bends.map .int))), some (.fn F), none, none, none, none, none, none, none]) rfl
  all_goals and_intros
  rw [hzip]
  refine for_map (fun (xs : List (Int × Int)) e => ∃ (G : Row) (o6 : Option D) (s4 s5 : Option OV), e = [some (.fz (.list (bends.map .int))), some (.fn F), some (.ol false (G.map encP)), some (.fz (.list MM)), s4, s5, o6.map .fz, none, none] ∧ rowGo f G xs = rowGo f [] (pairsM (0 :: ms)) ∧ (∀ p ∈ xs, 0 ≤ p.1) ∧ G.length + xs.length ≤ 100) ?_ ?_ (pairsM (0 :: ms)) ?_
  · intro p xs e ⟨G, o6, s4, s5, he, hr, hp, hx⟩
    subst he
    rw [List.length_cons] at hx
    have p0 := hp p (by simp)
    have c1 := hg (p.1 + 1) (by omega)
    have c2 := hg p.1 p0
    have hrun := law_run_x (F := G) (s := f (p.1 + 1) - f p.1) (n := p.2 - p.1) (by omega)
    have hgl : (G.map encP).length ≤ 100 := by rw [List.length_map]; omega
    have fin : ∃ (G' : Row) (o6 : Option D) (s4 s5 : Option OV), [some (OV.fz (.list (bends.map .int))), some (.fn F), some (.ol false ((runA G (f (p.1 + 1) - f p.1, p.2 - p.1)).map encP)), some (.fz (.list MM)), some (.fz (.int p.1)), some (.fz (.int p.2)), some (.fz (.int (f (p.1 + 1) - f p.1))), none, none] = [some (OV.fz (.list (bends.map .int))), some (.fn F), some (.ol false (G'.map encP)), some (.fz (.list MM)), s4, s5, o6.map .fz, none, none] ∧ rowGo f G' xs = rowGo f [] (pairsM (0 :: ms)) ∧ (∀ p ∈ xs, 0 ≤ p.1) ∧ G'.length + xs.length ≤ 100 :=
      ⟨_, some (.int (f (p.1 + 1) - f p.1)), _, _, rfl, hr, fun q hq => hp q (by simp [hq]), by have := runA_len (acc := G) (p := (f (p.1 + 1) - f p.1, p.2 - p.1)); omega⟩
    generalize hR : (runA G (f (p.1 + 1) - f p.1, p.2 - p.1)).map encP = RD at *
    refine ⟨_, rfl, ?_⟩
    dsimp only [List.set]
    all_goals and_intros
    exact fin
  · intro e ⟨G, o6, s4, s5, he, hr, hp, hx⟩
    subst he
    have hr : G = rowGo f [] (pairsM (0 :: ms)) := hr
    rw [← hr]
    have k2 : lcGo (.tp [(.nm 6), (.nm 8)]) (boolOf (bin2 (gCmp fun i j => decide (j < i)) (slotP 6) (opOf (cstE (.int 0))))) (layOf (tupR (consA (opOf (slotE 6)) (consA (opOf (slotE 8)) nilA)))) [6, 8] (G.map encP) [some (.fz (.list (bends.map .int))), some (.fn F), some (.fz (.list (G.map encP))), some (.fz (.list MM)), s4, s5, none, none, none] [] = some ((posF G).map encP, [some (.fz (.list (bends.map .int))), some (.fn F), some (.fz (.list (G.map encP))), some (.fz (.list MM)), s4, s5, none, none, none]) := by
      refine lc_fil0 (fun _ => True) (fun p => decide (0 < p.1)) encP G (fun _ _ => trivial) (by rw [hr]; omega) ?_
      intro p _
      refine ⟨_, rfl, ?_⟩
      dsimp only [List.set]
      apply Ev1.i
      · and_intros
      · refine ⟨rfl, fun _ => ?_, fun _ => rfl⟩
        apply Ev1.i
        · and_intros
        · exact ⟨rfl, rfl⟩
    all_goals and_intros
    rfl
  · exact ⟨[], none, none, none, rfl, rfl, hpp, by rw [List.length_nil, hpl]; omega⟩
end Law

namespace Law
open PySem L2 NS
theorem laid_x {r : Row} (hc : Canon r) (hh : hrs r ≤ 60) : m_law_laid [.v (encR r)] = some (.l ((layR r).map .int)) := by
  have hll := lay_len hc.nng
  have hpos := hc.nng
  have hsl : gSlA (.list ((layR r).map .int)) none (some 200) = some (.l ((layR r).map .int)) := by
    show some (Res.l (cutD ((layR r).map .int) none (some 200))) = _
    rw [cut_to _ (by omega), List.take_of_length_le (by rw [List.length_map]; omega)]
  apply runT_i
  all_goals and_intros
  refine for_map (fun (xs : List (Int × Int)) e => ∃ (G : List Int) (s2 s3 : Option OV), e = [some (.fz (encR r)), some (.ol false (G.map .int)), s2, s3] ∧ G ++ layR xs = layR r ∧ Nng xs) ?_ ?_ r ?_
  · intro p xs e ⟨G, s2, s3, he, hr, hx⟩
    subst he
    have p2 := hx p (by simp)
    have e2 : layR (p :: xs) = List.replicate p.2.toNat p.1 ++ layR xs := rfl
    have hlen := congrArg List.length hr
    rw [e2, List.length_append, List.length_append, List.length_replicate] at hlen
    have hm : (min p.2 200).toNat = p.2.toNat := by omega
    have hgl : (G.map PyData.int).length ≤ 60 := by rw [List.length_map]; omega
    have hres : G.map PyData.int ++ List.replicate (min p.2 200).toNat (.int p.1) = (G ++ List.replicate p.2.toNat p.1).map PyData.int := by rw [hm, List.map_append, List.map_replicate]
    have fin : ∃ (G' : List Int) (s2 s3 : Option OV), [some (OV.fz (encR r)), some (.ol false (G.map PyData.int ++ List.replicate (min p.2 200).toNat (.int p.1))), some (.fz (.int p.1)), some (.fz (.int p.2))] = [some (OV.fz (encR r)), some (.ol false (G'.map .int)), s2, s3] ∧ G' ++ layR xs = layR r ∧ Nng xs := ⟨_, _, _, by rw [hres], by rw [← hr, e2, List.append_assoc], hx.tail⟩
    generalize hF : G.map PyData.int = FD at *
    refine ⟨_, rfl, ?_⟩
    dsimp only [List.set]
    all_goals and_intros
    exact fin
  · intro e ⟨G, s2, s3, he, hr, hx⟩
    subst he
    have hr : G = layR r := by rw [← hr]; simp [layR]
    subst hr
    all_goals and_intros
    rfl
  · exact ⟨[], none, none, rfl, rfl, hpos⟩
theorem upF_len : ∀ (l : List Int) (F : Row), (upF F l).length ≤ F.length + l.length
  | [], F => by simp [upF]
  | s :: l, F => by
    have := upF_len l (runA F (s, 1))
    have := runA_len (acc := F) (p := (s, 1))
    show (upF (runA F (s, 1)) l).length ≤ _
    rw [List.length_cons]; omega
theorem run_up_x {ns : List Int} (hl : ns.length ≤ 300) : m_law_run_up [.v (.list (ns.map .int))] = some (.d (encR (posF (upF [] (sortN ns))))) := by
  have hsl : (sortN ns).length = ns.length := by unfold sortN; rw [List.length_reverse, (sortI_perm _).length_eq]
  have hul := upF_len (sortN ns) []
  rw [List.length_nil, hsl] at hul
  apply runT_i
  all_goals and_intros
  · omega
  refine for_map (fun (xs : List Int) e => ∃ (G : Row) (o2 : Option D), e = [some (.fz (.list (ns.map .int))), some (.ol false (G.map encP)), o2.map .fz, none] ∧ upF G xs = upF [] (sortN ns) ∧ G.length + xs.length ≤ 350) ?_ ?_ (sortN ns) ?_
  · intro s xs e ⟨G, o2, he, hr, hx⟩
    subst he
    rw [List.length_cons] at hx
    have hrun := law_run_x (F := G) (s := s) (n := 1) (by omega)
    have fin : ∃ (G' : Row) (o2 : Option D), [some (OV.fz (.list (ns.map .int))), some (.ol false ((runA G (s, 1)).map encP)), some (.fz (.int s)), none] = [some (OV.fz (.list (ns.map .int))), some (.ol false (G'.map encP)), o2.map .fz, none] ∧ upF G' xs = upF [] (sortN ns) ∧ G'.length + xs.length ≤ 350 := ⟨_, some (.int s), rfl, hr, by have := runA_len (acc := G) (p := (s, 1)); omega⟩
    generalize hR : (runA G (s, 1)).map encP = RD at *
    refine ⟨_, rfl, ?_⟩
    dsimp only [List.set]
    all_goals and_intros
    exact fin
  · intro e ⟨G, o2, he, hr, hx⟩
    subst he
    have hr : G = upF [] (sortN ns) := hr
    rw [← hr]
    have k2 : lcGo (.tp [(.nm 2), (.nm 3)]) (boolOf (bin2 (gCmp fun i j => decide (j < i)) (slotP 2) (opOf (cstE (.int 0))))) (layOf (tupR (consA (opOf (slotE 2)) (consA (opOf (slotE 3)) nilA)))) [2, 3] (G.map encP) [some (.fz (.list (ns.map .int))), some (.fz (.list (G.map encP))), none, none] [] = some ((posF G).map encP, [some (.fz (.list (ns.map .int))), some (.fz (.list (G.map encP))), none, none]) := by
      refine lc_fil0 (fun _ => True) (fun p => decide (0 < p.1)) encP G (fun _ _ => trivial) (by rw [hr]; omega) ?_
      intro p _
      refine ⟨_, rfl, ?_⟩
      dsimp only [List.set]
      apply Ev1.i
      · and_intros
      · refine ⟨rfl, fun _ => ?_, fun _ => rfl⟩
        apply Ev1.i
        · and_intros
        · exact ⟨rfl, rfl⟩
    all_goals and_intros
    rfl
  · exact ⟨[], none, rfl, rfl, by rw [hsl]; simp; omega⟩
end Law

namespace Law
open PySem L2 NS
/-! ### straight between ends -/
theorem Bent.anti {f : Int → Int} {mk : Int → Prop} (b : Bent f mk) : ∀ (n : Nat) {h : Int}, 0 ≤ h → f (h + (n : Int) + 1) - f (h + (n : Int)) ≤ f (h + 1) - f h
  | 0, h, _ => by rw [show h + ((0 : Nat) : Int) = h by omega]; exact Int.le_refl _
  | n + 1, h, hh => by
    have i := b.anti n hh
    have c := b.conc (h + (n : Int)) (by omega)
    rw [show h + ((n + 1 : Nat) : Int) = h + (n : Int) + 1 by omega, show h + (n : Int) + 1 + 1 = h + (n : Int) + 2 by omega]
    omega
theorem Bent.anti' {f : Int → Int} {mk : Int → Prop} (b : Bent f mk) {h k : Int} (hh : 0 ≤ h) (hk : h ≤ k) : f (k + 1) - f k ≤ f (h + 1) - f h := by
  have := b.anti (k - h).toNat hh
  rw [show h + (((k - h).toNat : Nat) : Int) = k by omega] at this
  exact this
def runsE (f : Int → Int) : Int → List Int → Row
  | _, [] => []
  | c, e :: es => (f (c + 1) - f c, e - c) :: runsE f e es
def lastE : Int → List Int → Int
  | c, [] => c
  | _, e :: es => lastE e es
def Gaps (mk : Int → Prop) : Int → List Int → Prop
  | _, [] => True
  | c, e :: es => c ≤ e ∧ (∀ h, c < h → h < e → ¬ mk h) ∧ Gaps mk e es
theorem gaps_of {mk : Int → Prop} : ∀ (es : List Int) (c : Int), (c :: es).Pairwise (fun x y => x ≤ y) → (∀ h, c < h → mk h → h ∈ es) → Gaps mk c es
  | [], _, _, _ => trivial
  | e :: es, c, hp, hm => by
    have hp1 := List.pairwise_cons.mp hp
    have hp2 := List.pairwise_cons.mp hp1.2
    refine ⟨hp1.1 e (by simp), fun h h1 h2 hk => ?_, gaps_of es e hp1.2 fun h h1 hk => ?_⟩
    · rcases List.mem_cons.mp (hm h h1 hk) with z | z
      · omega
      · have := hp2.1 h z; omega
    · have := hp1.1 e (by simp)
      rcases List.mem_cons.mp (hm h (by omega) hk) with z | z
      · omega
      · exact z
theorem lastE_ge : ∀ (es : List Int) (c : Int), (c :: es).Pairwise (fun x y => x ≤ y) → c ≤ lastE c es ∧ ∀ e ∈ es, e ≤ lastE c es
  | [], c, _ => ⟨Int.le_refl _, by simp⟩
  | e :: es, c, hp => by
    have hp1 := List.pairwise_cons.mp hp
    obtain ⟨a, b⟩ := lastE_ge es e hp1.2
    have := hp1.1 e (by simp)
    refine ⟨by show c ≤ lastE e es; omega, fun x hx => ?_⟩
    rcases List.mem_cons.mp hx with rfl | hx
    · exact a
    · exact b x hx
theorem runsE_ok {f : Int → Int} {mk : Int → Prop} (b : Bent f mk) : ∀ (es : List Int) (c : Int), 0 ≤ c → Gaps mk c es → (∀ l, 0 ≤ l → rch (runsE f c es) l = f (min (c + l) (lastE c es)) - f c) ∧ Weak (f (c + 1) - f c) (runsE f c es) ∧ c ≤ lastE c es ∧ hrs (runsE f c es) = lastE c es - c
  | [], c, _, _ => ⟨fun l hl => by show 0 = f (min (c + l) c) - f c; rw [show min (c + l) c = c by omega]; omega, trivial, Int.le_refl _, by show 0 = c - c; omega⟩
  | e :: es, c, hc, ⟨g1, g2, g3⟩ => by
    obtain ⟨i1, i2, i3, i4⟩ := runsE_ok b es e (by omega) g3
    have s0 := b.mono c hc
    have sa := b.anti' hc g1
    refine ⟨fun l hl => ?_, ⟨by show 0 ≤ f (c + 1) - f c; omega, Int.le_refl _, by show 0 ≤ e - c; omega, i2.up sa⟩, by show c ≤ lastE e es; omega, by show e - c + hrs (runsE f e es) = lastE e es - c; omega⟩
    show (f (c + 1) - f c) * min (e - c) l + rch (runsE f e es) (l - min (e - c) l) = f (min (c + l) (lastE e es)) - f c
    have ln := (b.lin hc (min (e - c) l).toNat fun h h1 h2 => g2 h h1 (by omega)).1
    rw [show (((min (e - c) l).toNat : Nat) : Int) = min (e - c) l by omega] at ln
    rw [i1 _ (by omega)]
    by_cases h : l ≤ e - c
    · rw [show e + (l - min (e - c) l) = e by omega, show min e (lastE e es) = e by omega, show min (c + l) (lastE e es) = c + min (e - c) l by omega]
      omega
    · rw [show e + (l - min (e - c) l) = c + l by omega]
      rw [show c + min (e - c) l = e by omega] at ln
      omega
theorem runsE_len (f : Int → Int) : ∀ (es : List Int) (c : Int), (runsE f c es).length = es.length
  | [], _ => rfl
  | e :: es, c => by show (runsE f e es).length + 1 = _; rw [runsE_len f es]; rfl
theorem jn_runs {f : Int → Int} {mk : Int → Prop} (b : Bent f mk) {es : List Int} (g : Gaps mk 0 es) (hf : ∀ l, lastE 0 es ≤ l → f l = f (lastE 0 es)) :
    Canon (jn [] (runsE f 0 es)) ∧ (∀ l, 0 ≤ l → rch (jn [] (runsE f 0 es)) l = f l) ∧ hrs (jn [] (runsE f 0 es)) ≤ lastE 0 es ∧ (jn [] (runsE f 0 es)).length ≤ es.length ∧ ∀ q ∈ jn [] (runsE f 0 es), q.1 ≤ f 1 := by
  obtain ⟨r1, r2, r3, r4⟩ := runsE_ok b es 0 (by omega) g
  obtain ⟨j1, j2, j3, j4, j5⟩ := jn_ok (acc := []) ⟨Canon.nil, by simp⟩ r2
  refine ⟨j1, fun l hl => ?_, by simp only [hrs] at j2; omega, by rw [runsE_len] at j3; simpa using j3, fun q hq => ?_⟩
  · rw [j5 l hl, List.nil_append, r1 l hl, b.zero]
    by_cases h : l ≤ lastE 0 es
    · rw [show min (0 + l) (lastE 0 es) = l by omega]; omega
    · rw [show min (0 + l) (lastE 0 es) = lastE 0 es by omega, hf l (by omega)]; omega
  · obtain ⟨a, ha, e⟩ := j4 q hq
    have := (r2.all a (by simpa using ha)).2.1
    have z := b.zero
    rw [show (0 : Int) + 1 = 1 by omega] at this
    omega
/-! ### rows put together -/
def sumR (rows : List Row) (h : Int) : Int := (rows.map fun r => rch r h).sum
theorem sumR_cons (r : Row) (rows : List Row) (h : Int) : sumR (r :: rows) h = rch r h + sumR rows h := by unfold sumR; rw [List.map_cons, List.sum_cons]
theorem sumR_bent : ∀ (rows : List Row), (∀ r ∈ rows, Canon r) → Bent (sumR rows) fun h => ∃ r ∈ rows, h ∈ endsL 0 r
  | [], _ => ⟨rfl, fun _ _ => Int.le_refl _, fun _ _ => Int.le_refl _, fun _ _ _ => rfl⟩
  | r :: rows, hc => by
    have i := sumR_bent rows fun q hq => hc q (by simp [hq])
    have cr := hc r (by simp)
    refine ⟨by rw [sumR_cons, i.zero, rch_zero cr.nng]; rfl, fun h hh => ?_, fun h hh => ?_, fun h hh hn => ?_⟩
    · rw [sumR_cons, sumR_cons]; have := i.mono h hh; have := (cr.inc hh).1; omega
    · rw [sumR_cons, sumR_cons, sumR_cons]; have := i.conc h hh; have := rch_conc cr hh; omega
    · rw [sumR_cons, sumR_cons, sumR_cons]
      have a := i.flat h hh fun ⟨q, hq, hm⟩ => hn ⟨q, by simp [hq], hm⟩
      have b := no_end (r := r) (c := 0) (h := h) cr.nng (by omega) fun hm => hn ⟨r, by simp, hm⟩
      rw [Int.sub_zero] at b
      omega
theorem ends_le : ∀ {r : Row} {c e : Int}, Nng r → e ∈ endsL c r → c ≤ e ∧ e ≤ c + hrs r
  | [], _, _, _, h => by cases h
  | p :: r, c, e, hn, h => by
    have p2 := hn p (by simp)
    have hr := hrs_nng hn.tail
    rw [hrs_cons]
    rcases List.mem_cons.mp h with rfl | h
    · omega
    · have := ends_le hn.tail h; omega
theorem ends_hrs : ∀ {r : Row} {c : Int}, r ≠ [] → c + hrs r ∈ endsL c r
  | [], _, h => absurd rfl h
  | [p], c, _ => by simp [endsL, hrs]
  | p :: q :: r, c, _ => by
    have := ends_hrs (r := q :: r) (c := c + p.2) (by simp)
    rw [hrs_cons, ← Int.add_assoc]
    exact List.mem_cons_of_mem _ this
theorem ends_len : ∀ (r : Row) (c : Int), (endsL c r).length = r.length
  | [], _ => rfl
  | p :: r, c => by show (endsL (c + p.2) r).length + 1 = _; rw [ends_len r]; rfl
theorem sumR_flat {rows : List Row} {L l : Int} (hc : ∀ r ∈ rows, Canon r) (hL : ∀ r ∈ rows, hrs r ≤ L) (hl : L ≤ l) : sumR rows l = sumR rows L := by
  unfold sumR
  congr 1
  refine List.map_congr_left fun r hr => ?_
  have := hL r hr
  rw [rch_whl (hc r hr).nng (by omega), rch_whl (hc r hr).nng (by omega)]
/-! ### behind a cable -/
theorem rb_rch : ∀ {r : Row} {h j : Int}, Nng r → 0 ≤ h → 0 ≤ j → rch (rbG h r) j = rch r (j + h) - rch r h
  | [], _, _, _, _, _ => by simp [rch, rbG]
  | p :: r, h, j, hn, hh, hj => by
    have p2 := hn p (by simp)
    show p.1 * min (p.2 - min p.2 h) j + rch (rbG (h - min p.2 h) r) (j - min (p.2 - min p.2 h) j) = _
    rw [rb_rch hn.tail (by omega) (by omega), rch_cons, rch_cons, show min p.2 (j + h) = min p.2 h + min (p.2 - min p.2 h) j by omega, Int.mul_add,
      show j + h - (min p.2 h + min (p.2 - min p.2 h) j) = j - min (p.2 - min p.2 h) j + (h - min p.2 h) by omega]
    omega
def longF (r : Row) : Row := r.filter fun p => decide (0 < p.2)
theorem long_rch : ∀ {r : Row} {l : Int}, Nng r → 0 ≤ l → rch (longF r) l = rch r l
  | [], _, _, _ => rfl
  | p :: r, l, h, hl => by
    have p2 := h p (by simp)
    by_cases c : 0 < p.2
    · have e : longF (p :: r) = p :: longF r := List.filter_cons_of_pos (by simpa using c)
      rw [e, rch_cons, rch_cons, long_rch h.tail (by omega)]
    · have e : longF (p :: r) = longF r := List.filter_cons_of_neg (by simpa using c)
      have z : p.2 = 0 := by omega
      rw [e, rch_cons, z, show min 0 l = 0 by omega, Int.mul_zero, Int.sub_zero, Int.zero_add, long_rch h.tail hl]
theorem jn_long : ∀ (r acc : Row), jn acc (longF r) = jn acc r
  | [], _ => rfl
  | p :: r, acc => by
    by_cases c : 0 < p.2
    · have e : longF (p :: r) = p :: longF r := List.filter_cons_of_pos (by simpa using c)
      rw [e]
      exact jn_long r _
    · have e : longF (p :: r) = longF r := List.filter_cons_of_neg (by simpa using c)
      rw [e, jn_long r acc]
      show jn acc r = jn (put1 acc p) r
      rw [put1_no (by omega)]
theorem jn_app : ∀ (a b acc : Row), jn acc (a ++ b) = jn (jn acc a) b
  | [], _, _ => rfl
  | p :: a, b, acc => jn_app a b (put1 acc p)
theorem rb_nng : ∀ {r : Row} {h : Int}, Nng r → 0 ≤ h → Nng (rbG h r)
  | [], _, _, _ => by intro p hp; cases hp
  | p :: r, h, hn, hh => by
    have p2 := hn p (by simp)
    intro q hq
    have hq : q ∈ (p.1, p.2 - min p.2 h) :: rbG (h - min p.2 h) r := hq
    rcases List.mem_cons.mp hq with rfl | hq
    · show 0 ≤ p.2 - min p.2 h; omega
    · exact rb_nng hn.tail (by omega) q hq
theorem rb_hrs : ∀ {r : Row} {h : Int}, Nng r → 0 ≤ h → hrs (longF (rbG h r)) ≤ hrs r
  | [], _, _, _ => Int.le_refl _
  | p :: r, h, hn, hh => by
    have p2 := hn p (by simp)
    have i := rb_hrs (h := h - min p.2 h) hn.tail (by omega)
    rw [hrs_cons]
    show hrs (longF ((p.1, p.2 - min p.2 h) :: rbG (h - min p.2 h) r)) ≤ _
    by_cases c : 0 < p.2 - min p.2 h
    · have e : longF ((p.1, p.2 - min p.2 h) :: rbG (h - min p.2 h) r) = (p.1, p.2 - min p.2 h) :: longF (rbG (h - min p.2 h) r) := List.filter_cons_of_pos (by simpa using c)
      rw [e]
      show p.2 - min p.2 h + hrs (longF (rbG (h - min p.2 h) r)) ≤ _
      omega
    · have e : longF ((p.1, p.2 - min p.2 h) :: rbG (h - min p.2 h) r) = longF (rbG (h - min p.2 h) r) := List.filter_cons_of_neg (by simpa using c)
      rw [e]
      omega
theorem rb_weak : ∀ {r : Row} {h : Int}, Canon r → 0 ≤ h → Weak (rch r (h + 1) - rch r h) (longF (rbG h r))
  | [], _, _, _ => trivial
  | p :: r, h, hc, hh => by
    have pp := hc.pos p (by simp)
    show Weak _ (longF ((p.1, p.2 - min p.2 h) :: rbG (h - min p.2 h) r))
    by_cases c : h < p.2
    · have e : longF ((p.1, p.2 - min p.2 h) :: rbG (h - min p.2 h) r) = (p.1, p.2 - min p.2 h) :: longF (rbG (h - min p.2 h) r) := List.filter_cons_of_pos (by simp; omega)
      rw [e, show min p.2 h = h by omega, Int.sub_self, rbG_zero hc.tail.nng]
      have er : longF r = r := List.filter_eq_self.mpr fun q hq => by simpa using (hc.tail.pos q hq).2
      rw [er, rch_lo (show h + 1 ≤ p.2 by omega), rch_lo (show h ≤ p.2 by omega), Int.mul_add, Int.mul_one]
      exact ⟨by show 0 ≤ p.1; omega, by show p.1 ≤ _; omega, by show 0 ≤ p.2 - h; omega, canon_weak hc.tail fun y hy => Int.le_of_lt (hc.head y hy)⟩
    · have e : longF ((p.1, p.2 - min p.2 h) :: rbG (h - min p.2 h) r) = longF (rbG (h - min p.2 h) r) := List.filter_cons_of_neg (by simp; omega)
      rw [e, show min p.2 h = p.2 by omega, rch_hi (show p.2 ≤ h + 1 by omega), rch_hi (show p.2 ≤ h by omega)]
      have := rb_weak (h := h - p.2) hc.tail (by omega)
      rw [show h - p.2 + 1 = h + 1 - p.2 by omega] at this
      rw [show p.1 * p.2 + rch r (h + 1 - p.2) - (p.1 * p.2 + rch r (h - p.2)) = rch r (h + 1 - p.2) - rch r (h - p.2) by omega]
      exact this
def hcap (cap : Int) : Int → Int → Row → Int
  | _, v, [] => v / cap
  | c, v, p :: r => if p.1 < cap ∧ (v - cap * c) / (cap - p.1) < p.2 then c + (v - cap * c) / (cap - p.1) else hcap cap (c + p.2) (v + p.1 * p.2) r
theorem hcap_ok {cap : Int} (hcap0 : 0 < cap) : ∀ (r : Row) (c v : Int), (∀ p ∈ r, 0 < p.2) → 0 ≤ c → 0 ≤ v - cap * c → c ≤ hcap cap c v r ∧ cap * hcap cap c v r ≤ v + rch r (hcap cap c v r - c) ∧ v + rch r (hcap cap c v r + 1 - c) < cap * (hcap cap c v r + 1)
  | [], c, v, _, _, hv => by
    show c ≤ v / cap ∧ cap * (v / cap) ≤ v + 0 ∧ v + 0 < cap * (v / cap + 1)
    have a := Int.mul_ediv_self_le (x := v) (k := cap) (by omega)
    have b := Int.lt_mul_ediv_self_add (x := v) (k := cap) hcap0
    refine ⟨Int.le_ediv_of_mul_le hcap0 (by rw [Int.mul_comm]; omega), by omega, by rw [Int.mul_add, Int.mul_one]; omega⟩
  | p :: r, c, v, hp, hc, hv => by
    have p2 := hp p (by simp)
    unfold hcap
    by_cases h : p.1 < cap ∧ (v - cap * c) / (cap - p.1) < p.2
    · rw [if_pos h]
      obtain ⟨h1, h2⟩ := h
      have a := Int.mul_ediv_self_le (x := v - cap * c) (k := cap - p.1) (by omega)
      have b := Int.lt_mul_ediv_self_add (x := v - cap * c) (k := cap - p.1) (by omega)
      have q0 : 0 ≤ (v - cap * c) / (cap - p.1) := Int.ediv_nonneg hv (by omega)
      generalize (v - cap * c) / (cap - p.1) = q at *
      rw [Int.sub_mul] at a b
      refine ⟨by omega, ?_, ?_⟩
      · rw [show c + q - c = q by omega, rch_lo (by omega), Int.mul_add]
        have z := rch_zero (r := r) fun y hy => Int.le_of_lt (hp y (by simp [hy]))
        omega
      · rw [show c + q + 1 - c = q + 1 by omega, rch_lo (by omega), Int.mul_add, Int.mul_add, Int.mul_add]
        have z := rch_zero (r := r) fun y hy => Int.le_of_lt (hp y (by simp [hy]))
        omega
    · rw [if_neg h]
      have hv' : 0 ≤ v + p.1 * p.2 - cap * (c + p.2) := by
        by_cases h1 : p.1 < cap
        · have h2 : p.2 ≤ (v - cap * c) / (cap - p.1) := by
            by_cases h2 : (v - cap * c) / (cap - p.1) < p.2
            · exact absurd ⟨h1, h2⟩ h
            · omega
          have a := Int.mul_ediv_self_le (x := v - cap * c) (k := cap - p.1) (by omega)
          have m : (cap - p.1) * p.2 ≤ (cap - p.1) * ((v - cap * c) / (cap - p.1)) := Int.mul_le_mul_of_nonneg_left h2 (by omega)
          rw [Int.sub_mul] at m
          rw [Int.mul_add]
          omega
        · have m : cap * p.2 ≤ p.1 * p.2 := Int.mul_le_mul_of_nonneg_right (by omega) (by omega)
          rw [Int.mul_add]
          omega
      obtain ⟨i1, i2, i3⟩ := hcap_ok hcap0 r (c + p.2) (v + p.1 * p.2) (fun y hy => hp y (by simp [hy])) (by omega) hv'
      generalize hcap cap (c + p.2) (v + p.1 * p.2) r = k at *
      refine ⟨by omega, ?_, ?_⟩
      · rw [rch_hi (show p.2 ≤ k - c by omega), show k - c - p.2 = k - (c + p.2) by omega]; omega
      · rw [rch_hi (show p.2 ≤ k + 1 - c by omega), show k + 1 - c - p.2 = k + 1 - (c + p.2) by omega]; omega
theorem Bent.low {f : Int → Int} {mk : Int → Prop} (b : Bent f mk) {d : Int} : ∀ m : Nat, (∀ j : Int, 0 ≤ j → j < m → d ≤ f (j + 1) - f j) → d * (m : Int) ≤ f (m : Int)
  | 0, _ => by rw [show ((0 : Nat) : Int) = 0 by rfl, Int.mul_zero, b.zero]; exact Int.le_refl _
  | m + 1, h => by
    have i := b.low m fun j h1 h2 => h j h1 (by omega)
    have k := h (m : Int) (by omega) (by omega)
    rw [show ((m + 1 : Nat) : Int) = (m : Int) + 1 by omega, Int.mul_add, Int.mul_one]
    omega
theorem Bent.under {f : Int → Int} {mk : Int → Prop} (b : Bent f mk) {cap : Int} : ∀ (k n : Nat), cap * ((k + n : Nat) : Int) ≤ f ((k + n : Nat) : Int) → cap * (k : Int) ≤ f (k : Int)
  | _, 0, h => h
  | k, n + 1, h => by
    refine b.under k n ?_
    have e : ((k + (n + 1) : Nat) : Int) = ((k + n : Nat) : Int) + 1 := by omega
    rw [e, Int.mul_add, Int.mul_one] at h
    by_cases c : cap * ((k + n : Nat) : Int) ≤ f ((k + n : Nat) : Int)
    · exact c
    · exact b.low (k + n) fun j h1 h2 => by
        have := b.anti' h1 (show j ≤ ((k + n : Nat) : Int) by omega)
        omega
theorem Bent.over {f : Int → Int} {mk : Int → Prop} (b : Bent f mk) {cap : Int} {k : Nat} (h : f (k : Int) < cap * (k : Int)) : ∀ n : Nat, f ((k + n : Nat) : Int) < cap * ((k + n : Nat) : Int)
  | 0 => h
  | n + 1 => by
    have i := b.over h n
    have e : ((k + (n + 1) : Nat) : Int) = ((k + n : Nat) : Int) + 1 := by omega
    rw [e, Int.mul_add, Int.mul_one]
    by_cases c : f (((k + n : Nat) : Int) + 1) - f ((k + n : Nat) : Int) < cap
    · omega
    · have := b.low (d := cap) (k + n) fun j h1 h2 => by
        have := b.anti' h1 (show j ≤ ((k + n : Nat) : Int) by omega)
        omega
      omega
/-- the lesser of a reach and a cap times the hours -/
theorem cap_form {f : Int → Int} {mk : Int → Prop} (b : Bent f mk) {cap h0 : Int} (h : 0 ≤ h0) (h1 : cap * h0 ≤ f h0) (h2 : f (h0 + 1) < cap * (h0 + 1)) : ∀ l, 0 ≤ l → min (f l) (cap * l) = if l ≤ h0 then cap * l else f l := fun l hl => by
  obtain ⟨k, rfl⟩ := Int.eq_ofNat_of_zero_le hl
  obtain ⟨m, rfl⟩ := Int.eq_ofNat_of_zero_le h
  by_cases c : (k : Int) ≤ (m : Int)
  · rw [if_pos c]
    have := b.under (cap := cap) k (m - k) (by rw [show k + (m - k) = m by omega]; exact h1)
    omega
  · rw [if_neg c]
    have := b.over (cap := cap) (k := m + 1) (by rw [show ((m + 1 : Nat) : Int) = (m : Int) + 1 by omega]; exact h2) (k - (m + 1))
    rw [show m + 1 + (k - (m + 1)) = k by omega] at this
    omega
def capR (r : Row) (cap : Int) : Row := jn [] ([(cap, hcap cap 0 0 r), (rch r (hcap cap 0 0 r + 1) - cap * hcap cap 0 0 r, 1)] ++ rbG (hcap cap 0 0 r + 1) r)
theorem cap_ok {r : Row} {cap : Int} (hc : Canon r) (h0 : 0 < cap) : 0 ≤ hcap cap 0 0 r ∧ (∀ l, 0 ≤ l → min (rch r l) (cap * l) = if l ≤ hcap cap 0 0 r then cap * l else rch r l) ∧ Canon (capR r cap) ∧ (∀ l, 0 ≤ l → rch (capR r cap) l = min (rch r l) (cap * l)) ∧ hrs (capR r cap) ≤ hcap cap 0 0 r + 1 + hrs r ∧ (∀ q ∈ capR r cap, q.1 ≤ cap) ∧ (capR r cap).length ≤ r.length + 2 := by
  obtain ⟨a1, a2, a3⟩ := hcap_ok h0 r 0 0 (fun p hp => (hc.pos p hp).2) (by omega) (by rw [Int.mul_zero]; omega)
  rw [Int.sub_zero, Int.zero_add] at a2 a3
  unfold capR
  generalize hcap cap 0 0 r = k at *
  have b := canon_bent (t := r) (mk := fun h => h ∈ endsL 0 r) hc fun h h1 hn => by
    have := no_end (r := r) (c := 0) (h := h) hc.nng (by omega) hn
    rw [Int.sub_zero] at this
    exact this
  have cf := cap_form b a1 a2 a3
  have m1 := b.mono k a1
  have c1 := b.conc k a1
  rw [Int.mul_add, Int.mul_one] at a3
  have hn := rb_nng (h := k + 1) hc.nng (by omega)
  have w := rb_weak (h := k + 1) hc (by omega)
  rw [show k + 1 + 1 = k + 2 by omega] at w
  have ww : Weak cap ([(cap, k), (rch r (k + 1) - cap * k, 1)] ++ longF (rbG (k + 1) r)) :=
    ⟨by show 0 ≤ cap; omega, Int.le_refl _, by show 0 ≤ k; omega, by show 0 ≤ rch r (k + 1) - cap * k; omega, by show rch r (k + 1) - cap * k ≤ cap; omega, by show (0 : Int) ≤ 1; omega, w.up (by show _ ≤ rch r (k + 1) - cap * k; omega)⟩
  have ej : jn [] ([(cap, k), (rch r (k + 1) - cap * k, 1)] ++ rbG (k + 1) r) = jn [] ([(cap, k), (rch r (k + 1) - cap * k, 1)] ++ longF (rbG (k + 1) r)) := by rw [jn_app, jn_app, jn_long]
  rw [ej]
  obtain ⟨j1, j2, j3, j4, j5⟩ := jn_ok (acc := []) (M := cap) ⟨Canon.nil, by simp⟩ ww
  refine ⟨a1, cf, j1, fun l hl => ?_, ?_, fun q hq => ?_, ?_⟩
  · rw [j5 l hl, List.nil_append, cf l hl]
    show rch ((cap, k) :: (rch r (k + 1) - cap * k, 1) :: longF (rbG (k + 1) r)) l = _
    rw [rch_cons, rch_cons]
    show cap * min k l + ((rch r (k + 1) - cap * k) * min 1 (l - min k l) + rch (longF (rbG (k + 1) r)) (l - min k l - min 1 (l - min k l))) = _
    rw [long_rch hn (by omega), rb_rch hc.nng (by omega) (by omega)]
    by_cases c : l ≤ k
    · rw [if_pos c, show min k l = l by omega, Int.sub_self, show min (1 : Int) 0 = 0 by omega, Int.mul_zero, show (0 : Int) - 0 + (k + 1) = k + 1 by omega]
      omega
    · rw [if_neg c, show min k l = k by omega, show min 1 (l - k) = 1 by omega, Int.mul_one, show l - k - 1 + (k + 1) = l by omega]
      omega
  · have hh := rb_hrs (h := k + 1) hc.nng (by omega)
    rw [hrs_app] at j2
    have e2 : hrs [(cap, k), (rch r (k + 1) - cap * k, 1)] = k + 1 := by simp [hrs]
    simp only [show hrs [] = 0 from rfl] at j2
    omega
  · obtain ⟨a, ha, e⟩ := j4 q hq
    rw [e]
    exact (ww.all a (by simpa using ha)).2.1
  · have hl : (longF (rbG (k + 1) r)).length ≤ r.length := by
      have := List.length_filter_le (fun p : Int × Int => decide (0 < p.2)) (rbG (k + 1) r)
      rw [rbG_len] at this
      exact this
    rw [List.length_append] at j3
    simp only [List.length_nil, List.length_cons] at j3
    omega
/-- where it bends, as the law says -/
def bendsC (cap : Int) : Int → Int → Row → List Int
  | _, _, [] => []
  | c, v, p :: r => (if p.1 < cap then [c + (v - cap * c) / (cap - p.1), c + (v - cap * c) / (cap - p.1) + 1].filter (fun h => decide (c ≤ h) && decide (h ≤ c + p.2 + 1)) else []) ++ [c + p.2] ++ bendsC cap (c + p.2) (v + p.1 * p.2) r
theorem bendsC_ends {cap : Int} : ∀ {r : Row} {c v h : Int}, h ∈ endsL c r → h ∈ bendsC cap c v r
  | [], _, _, _, hh => by cases hh
  | p :: r, c, v, h, hh => by
    show h ∈ _ ++ [c + p.2] ++ bendsC cap (c + p.2) (v + p.1 * p.2) r
    rcases List.mem_cons.mp hh with rfl | hh
    · simp
    · exact List.mem_append_right _ (bendsC_ends hh)
theorem bendsC_hcap {cap : Int} : ∀ (r : Row) (c v : Int), (∀ p ∈ r, 0 < p.2) → 0 ≤ v - cap * c → hcap cap c v r = (v + whl r) / cap ∨ (hcap cap c v r ∈ bendsC cap c v r ∧ hcap cap c v r + 1 ∈ bendsC cap c v r)
  | [], c, v, _, _ => .inl (by show v / cap = (v + 0) / cap; rw [Int.add_zero])
  | p :: r, c, v, hp, hv => by
    have p2 := hp p (by simp)
    unfold hcap
    by_cases h : p.1 < cap ∧ (v - cap * c) / (cap - p.1) < p.2
    · rw [if_pos h]
      have q0 : 0 ≤ (v - cap * c) / (cap - p.1) := Int.ediv_nonneg hv (by omega)
      have h2 := h.2
      refine .inr ?_
      unfold bendsC
      rw [if_pos h.1]
      generalize (v - cap * c) / (cap - p.1) = q at *
      constructor
      · refine List.mem_append_left _ (List.mem_append_left _ (List.mem_filter.mpr ⟨by simp, ?_⟩))
        simp only [Bool.and_eq_true, decide_eq_true_eq]
        omega
      · refine List.mem_append_left _ (List.mem_append_left _ (List.mem_filter.mpr ⟨by simp, ?_⟩))
        simp only [Bool.and_eq_true, decide_eq_true_eq]
        omega
    · rw [if_neg h]
      have hv' : 0 ≤ v + p.1 * p.2 - cap * (c + p.2) := by
        by_cases h1 : p.1 < cap
        · have h2 : p.2 ≤ (v - cap * c) / (cap - p.1) := by
            by_cases h2 : (v - cap * c) / (cap - p.1) < p.2
            · exact absurd ⟨h1, h2⟩ h
            · omega
          have a := Int.mul_ediv_self_le (x := v - cap * c) (k := cap - p.1) (by omega)
          have m : (cap - p.1) * p.2 ≤ (cap - p.1) * ((v - cap * c) / (cap - p.1)) := Int.mul_le_mul_of_nonneg_left h2 (by omega)
          rw [Int.sub_mul] at m
          rw [Int.mul_add]
          omega
        · have m : cap * p.2 ≤ p.1 * p.2 := Int.mul_le_mul_of_nonneg_right (by omega) (by omega)
          rw [Int.mul_add]
          omega
      rcases bendsC_hcap r (c + p.2) (v + p.1 * p.2) (fun y hy => hp y (by simp [hy])) hv' with i | ⟨i1, i2⟩
      · refine .inl (i.trans ?_)
        show _ = (v + (p.1 * p.2 + whl r)) / cap
        rw [Int.add_assoc]
      · exact .inr ⟨List.mem_append_right _ i1, List.mem_append_right _ i2⟩
theorem cap_flat {r : Row} {cap : Int} {bends : List Int} (hc : Canon r) (h0 : 0 < cap) (he : ∀ h ∈ endsL 0 r, h ∈ bends) (hb : ∀ h ∈ bendsC cap 0 0 r, h ∈ bends) (h1 : whl r / cap ∈ bends) (h2 : whl r / cap + 1 ∈ bends) {h : Int} (hh : 1 ≤ h) (hn : h ∉ bends) : rch (capR r cap) (h + 1) - rch (capR r cap) h = rch (capR r cap) h - rch (capR r cap) (h - 1) := by
  obtain ⟨a1, cf, _, cr, _⟩ := cap_ok hc h0
  have hin : hcap cap 0 0 r ∈ bends ∧ hcap cap 0 0 r + 1 ∈ bends := by
    rcases bendsC_hcap (cap := cap) r 0 0 (fun p hp => (hc.pos p hp).2) (by rw [Int.mul_zero]; omega) with i | ⟨i1, i2⟩
    · rw [i, Int.zero_add]; exact ⟨h1, h2⟩
    · exact ⟨hb _ i1, hb _ i2⟩
  generalize hcap cap 0 0 r = k at *
  have n1 : h ≠ k := fun e => hn (by rw [e]; exact hin.1)
  have n2 : h ≠ k + 1 := fun e => hn (by rw [e]; exact hin.2)
  rw [cr _ (by omega), cr _ (by omega), cr _ (by omega), cf _ (by omega), cf _ (by omega), cf _ (by omega)]
  by_cases c : h + 1 ≤ k
  · rw [if_pos c, if_pos (by omega), if_pos (by omega), Int.mul_add, Int.mul_sub]; omega
  · rw [if_neg c, if_neg (by omega), if_neg (by omega)]
    have := no_end (r := r) (c := 0) (h := h) hc.nng (by omega) fun z => hn (he h z)
    rw [Int.sub_zero] at this
    exact this
end Law

namespace Law
open PySem L2 NS
/-! ### the least hour at which two reaches differ -/
def UnS (f g : Int → Int) : Option Int → Prop
  | none => ∀ h, 0 ≤ h → f h = g h
  | some h => 1 ≤ h ∧ (∀ j, 0 ≤ j → j < h → f j = g j) ∧ f h ≠ g h
theorem UnS.one {f g : Int → Int} : ∀ {a b : Option Int}, UnS f g a → UnS f g b → a = b
  | none, none, _, _ => rfl
  | none, some h, a, b => absurd (a h (by have := b.1; omega)) b.2.2
  | some h, none, a, b => absurd (b h (by have := a.1; omega)) a.2.2
  | some h, some k, a, b => by
    have n1 : ¬ h < k := fun z => a.2.2 (b.2.1 h (by have := a.1; omega) z)
    have n2 : ¬ k < h := fun z => b.2.2 (a.2.1 k (by have := b.1; omega) z)
    rw [show h = k by omega]
theorem UnS.symm {f g : Int → Int} : ∀ {a : Option Int}, UnS f g a → UnS g f a
  | none, a => fun h hh => (a h hh).symm
  | some h, a => ⟨a.1, fun j h1 h2 => (a.2.1 j h1 h2).symm, fun z => a.2.2 z.symm⟩
def unlikeG (f g : Int → Int) : Int → List Int → Option Int
  | _, [] => none
  | c, e :: es => if f (c + 1) - f c ≠ g (c + 1) - g c then some (c + 1) else unlikeG f g e es
theorem unlike_ok {f g : Int → Int} {mf mg : Int → Prop} (bf : Bent f mf) (bg : Bent g mg) {L : Int} (hf : ∀ l, L ≤ l → f l = f L) (hg : ∀ l, L ≤ l → g l = g L) : ∀ (es : List Int) (c : Int), 0 ≤ c → Gaps mf c es → Gaps mg c es → L ≤ lastE c es → (∀ j, 0 ≤ j → j ≤ c → f j = g j) → UnS f g (unlikeG f g c es)
  | [], c, hc, _, _, hL, h => fun j hj => by
    by_cases k : j ≤ c
    · exact h j hj k
    · have hL : L ≤ c := hL
      rw [hf j (by omega), hg j (by omega), ← hf c hL, ← hg c hL]
      exact h c hc (Int.le_refl _)
  | e :: es, c, hc, ⟨g1, g2, g3⟩, ⟨k1, k2, k3⟩, hL, h => by
    have h0 := h c hc (Int.le_refl _)
    unfold unlikeG
    by_cases d : f (c + 1) - f c ≠ g (c + 1) - g c
    · rw [if_pos d]
      exact ⟨by omega, fun j h1 h2 => h j h1 (by omega), fun z => d (by omega)⟩
    · rw [if_neg d]
      have d : f (c + 1) - f c = g (c + 1) - g c := by
        by_cases x : f (c + 1) - f c = g (c + 1) - g c
        · exact x
        · exact absurd x d
      refine unlike_ok bf bg hf hg es e (by omega) g3 k3 hL fun j h1 h2 => ?_
      by_cases k : j ≤ c
      · exact h j h1 k
      · have a := (bf.lin hc (j - c).toNat fun x h3 h4 => g2 x h3 (by omega)).1
        have b := (bg.lin hc (j - c).toNat fun x h3 h4 => k2 x h3 (by omega)).1
        rw [show (((j - c).toNat : Nat) : Int) = j - c by omega, show c + (j - c) = j by omega] at a b
        rw [a, b, d, h0]
def hd0 (l : Row) : Int × Int := match l with
  | [] => (0, 1000000000000000000000000000000)
  | p :: _ => p
def dropR (l : Row) (m : Int) : Row := match l with
  | [] => []
  | p :: l => if m < p.2 then (p.1, p.2 - m) :: l else l
def apartG : Nat → Int → Row → Row → Option Int
  | 0, _, _, _ => none
  | n + 1, c, l, r => if l = [] ∧ r = [] then none else if (hd0 l).1 ≠ (hd0 r).1 then some (c + 1) else apartG n (c + min (hd0 l).2 (hd0 r).2) (dropR l (min (hd0 l).2 (hd0 r).2)) (dropR r (min (hd0 l).2 (hd0 r).2))
theorem hd0_fst (l : Row) : (hd0 l).1 = fst0 l := by cases l <;> rfl
theorem drop_ok {p : Int × Int} {l : Row} {m : Int} (h : Canon (p :: l)) (h1 : 1 ≤ m) (h2 : m ≤ p.2) : Canon (dropR (p :: l) m) ∧ (∀ x, 0 ≤ x → rch (dropR (p :: l) m) x = rch (p :: l) (m + x) - rch (p :: l) m) ∧ (dropR (p :: l) m).length ≤ (p :: l).length ∧ (m = p.2 → (dropR (p :: l) m).length + 1 = (p :: l).length) := by
  have hp := h.pos p (by simp)
  unfold dropR
  by_cases c : m < p.2
  · dsimp only
    rw [if_pos c]
    refine ⟨⟨List.pairwise_cons.mpr ⟨h.head, h.tail.dec⟩, fun q hq => ?_⟩, fun x hx => ?_, by simp, fun e => absurd e (by omega)⟩
    · rcases List.mem_cons.mp hq with rfl | hq
      · simp only; omega
      · exact h.tail.pos q hq
    · rw [rch_lo h2, rch_zero h.tail.nng, Int.add_zero]
      by_cases d : m + x ≤ p.2
      · rw [rch_lo (show x ≤ ((p.1, p.2 - m) : Int × Int).2 by simp only; omega), rch_lo d, Int.mul_add]
        have z := rch_zero h.tail.nng
        simp only
        omega
      · rw [rch_hi (show ((p.1, p.2 - m) : Int × Int).2 ≤ x by simp only; omega), rch_hi (show p.2 ≤ m + x by omega)]
        simp only
        rw [show x - (p.2 - m) = m + x - p.2 by omega, Int.mul_sub]
        omega
  · dsimp only
    rw [if_neg c]
    have e : m = p.2 := by omega
    refine ⟨h.tail, fun x hx => ?_, by simp, fun _ => by simp⟩
    rw [rch_hi (show p.2 ≤ m + x by omega), rch_lo h2, rch_zero h.tail.nng, e, show p.2 + x - p.2 = x by omega]
    omega
theorem apart_ok {f g : Int → Int} : ∀ (n : Nat) (c : Int) (l r : Row), Canon l → Canon r → l.length + r.length < n → 0 ≤ c → (∀ j, 0 ≤ j → j ≤ c → f j = g j) → (∀ x, 0 ≤ x → f (c + x) = f c + rch l x) → (∀ x, 0 ≤ x → g (c + x) = g c + rch r x) → UnS f g (apartG n c l r)
  | 0, _, _, _, _, _, h, _, _, _, _ => absurd h (by omega)
  | n + 1, c, l, r, hl, hr, hn, hc, he, hf, hg => by
    have h0 := he c hc (Int.le_refl _)
    unfold apartG
    by_cases z : l = [] ∧ r = []
    · rw [if_pos z]
      obtain ⟨rfl, rfl⟩ := z
      intro j hj
      by_cases k : j ≤ c
      · exact he j hj k
      · have a := hf (j - c) (by omega)
        have b := hg (j - c) (by omega)
        rw [show c + (j - c) = j by omega] at a b
        rw [a, b, h0]
    · rw [if_neg z, hd0_fst, hd0_fst]
      by_cases d : fst0 l ≠ fst0 r
      · rw [if_pos d]
        refine ⟨by omega, fun j h1 h2 => he j h1 (by omega), fun w => d ?_⟩
        have a := hf 1 (by omega)
        have b := hg 1 (by omega)
        rw [hl.one] at a
        rw [hr.one] at b
        omega
      · rw [if_neg d]
        have d : fst0 l = fst0 r := by
          by_cases x : fst0 l = fst0 r
          · exact x
          · exact absurd x d
        cases l with
        | nil =>
          cases r with
          | nil => exact absurd ⟨rfl, rfl⟩ z
          | cons q r => have := (hr.pos q (by simp)).1; have d : (0 : Int) = q.1 := d; omega
        | cons p l =>
          cases r with
          | nil => have := (hl.pos p (by simp)).1; have d : p.1 = (0 : Int) := d; omega
          | cons q r =>
            have hp := (hl.pos p (by simp)).2
            have hq := (hr.pos q (by simp)).2
            have d : p.1 = q.1 := d
            show UnS f g (apartG n (c + min p.2 q.2) (dropR (p :: l) (min p.2 q.2)) (dropR (q :: r) (min p.2 q.2)))
            obtain ⟨a1, a2, a3, a4⟩ := drop_ok hl (m := min p.2 q.2) (by omega) (by omega)
            obtain ⟨b1, b2, b3, b4⟩ := drop_ok hr (m := min p.2 q.2) (by omega) (by omega)
            refine apart_ok n _ _ _ a1 b1 ?_ (by omega) (fun j h1 h2 => ?_) (fun x hx => ?_) (fun x hx => ?_)
            · by_cases e : p.2 ≤ q.2
              · have := a4 (by omega); omega
              · have := b4 (by omega); omega
            · by_cases k : j ≤ c
              · exact he j h1 k
              · have a := hf (j - c) (by omega)
                have b := hg (j - c) (by omega)
                rw [show c + (j - c) = j by omega] at a b
                rw [a, b, h0, rch_lo (show j - c ≤ p.2 by omega), rch_lo (show j - c ≤ q.2 by omega), rch_zero hl.tail.nng, rch_zero hr.tail.nng, d]
            · have a := hf (min p.2 q.2 + x) (by omega)
              have b := hf (min p.2 q.2) (by omega)
              rw [a2 x hx, show c + min p.2 q.2 + x = c + (min p.2 q.2 + x) by omega, a, b]
              omega
            · have a := hg (min p.2 q.2 + x) (by omega)
              have b := hg (min p.2 q.2) (by omega)
              rw [b2 x hx, show c + min p.2 q.2 + x = c + (min p.2 q.2 + x) by omega, a, b]
              omega
/-! ### the functions, evaluated -/
theorem step_x {r : Row} {h : Int} (hs : ∀ p ∈ r, Sml p) (h1 : 1 ≤ h) : m_step_in [.v (encR r), .v (.int h)] = some (.d (.int (rch r h - rch r (h - 1)))) := by
  have a := reach_x (h := h) hs (by omega)
  have b := reach_x (h := h - 1) hs (by omega)
  apply runT_i
  all_goals and_intros
  rfl
theorem ends_x {r : Row} (hl : r.length ≤ 100) : m_ends_of [.v (encR r)] = some (.d (.tuple ((endsL 0 r).map .int))) := by
  apply runT_i
  all_goals and_intros
  refine for_map (fun (xs : List (Int × Int)) e => ∃ (G : List Int) (c : Int) (s3 s4 : Option OV), e = [some (.fz (encR r)), some (.ol false (G.map .int)), some (.fz (.int c)), s3, s4] ∧ G ++ endsL c xs = endsL 0 r ∧ G.length + xs.length ≤ 100) ?_ ?_ r ?_
  · intro p xs e ⟨G, c, s3, s4, he, hr, hx⟩
    subst he
    rw [List.length_cons] at hx
    refine ⟨_, rfl, ?_⟩
    dsimp only [List.set]
    all_goals and_intros
    exact ⟨G ++ [c + p.2], c + p.2, _, _, by rw [List.map_append]; rfl, by rw [← hr]; simp [endsL], by simp; omega⟩
  · intro e ⟨G, c, s3, s4, he, hr, hx⟩
    subst he
    have hr : G = endsL 0 r := by rw [← hr]; simp [endsL]
    subst hr
    all_goals and_intros
    rfl
  · exact ⟨[], 0, none, none, rfl, rfl, by simpa using hl⟩
theorem behind_runs_xT {r : Row} {h : Int} (hl : r.length ≤ 100) : m_runs_behind [.v (encR r), .v (.int h)] = some (.l ((rbG h r).map encP)) := by
  apply runT_i
  all_goals and_intros
  refine for_map (fun xs e => ∃ (f : Row) (l : Int) (s t : Option OV), e = [some (.fz (encR r)), some (.fz (.int h)), some (.ol false (f.map encP)), some (.fz (.int l)), s, t] ∧ f ++ rbG l xs = rbG h r ∧ f.length + xs.length ≤ 100) ?_ ?_ r ?_
  · intro p xs e ⟨f, l, s, t, he, hr, hx⟩
    subst he
    rw [List.length_cons] at hx
    refine ⟨_, rfl, ?_⟩
    dsimp only [List.set]
    all_goals and_intros
    exact ⟨f ++ [(p.1, p.2 - min p.2 l)], _, _, _, by rw [List.map_append]; rfl, by rw [← hr]; simp [rbG], by simp; omega⟩
  · intro e ⟨f, l, s, t, he, hr, hx⟩
    subst he
    all_goals and_intros
    rw [← hr]; simp [rbG]; rfl
  · exact ⟨[], _, _, _, rfl, rfl, by simpa using hl⟩
theorem sml_hrs : ∀ {r : Row}, (∀ p ∈ r, Sml p) → 0 ≤ hrs r ∧ hrs r ≤ 10000000000000000 * r.length
  | [], _ => ⟨by simp [hrs], by simp [hrs]⟩
  | p :: r, h => by
    obtain ⟨a, b, c, d⟩ := h p (by simp)
    have ih := sml_hrs (r := r) fun q hq => h q (by simp [hq])
    rw [hrs_cons, List.length_cons]
    omega
theorem hours_capped_x {r : Row} {cap : Int} (hs : ∀ p ∈ r, Sml p) (hl : r.length ≤ 20) (h0 : 0 < cap) (h1 : cap ≤ 1000000000000) : m_hours_capped [.v (encR r), .v (.int cap)] = some (.d (.int (hcap cap 0 0 r))) := by
  have w0 := whl_le hs
  have w1 := sml_hrs hs
  apply runT_i
  all_goals and_intros
  refine for_map (fun (xs : List (Int × Int)) e => ∃ (c v : Int) (s4 s5 : Option OV), e = [some (.fz (encR r)), some (.fz (.int cap)), some (.fz (.int c)), some (.fz (.int v)), s4, s5] ∧ hcap cap c v xs = hcap cap 0 0 r ∧ (∀ p ∈ xs, Sml p) ∧ 0 ≤ c ∧ c + hrs xs = hrs r ∧ 0 ≤ v ∧ v + whl xs = whl r) ?_ ?_ r ?_
  · intro p xs e ⟨c, v, s4, s5, he, hr, hx, c0, c1, v0, v1⟩
    subst he
    obtain ⟨q1, q2, q3, q4⟩ := hx p (by simp)
    have hx2 : ∀ p ∈ xs, Sml p := fun q hq => hx q (by simp [hq])
    have x0 := (sml_hrs hx2).1
    have x1 := (whl_le hx2).1
    rw [hrs_cons] at c1
    have v1 : v + (p.1 * p.2 + whl xs) = whl r := v1
    have m0 : 0 ≤ p.1 * p.2 := Int.mul_nonneg q1 q3
    have cb : c ≤ 1000000000000000000 := by omega
    have k0 : 0 ≤ cap * c := Int.mul_nonneg (by omega) c0
    have k1 : cap * c ≤ 1000000000000 * 1000000000000000000 := Int.mul_le_mul h1 cb c0 (by omega)
    have hr1 : p.1 < cap → (v - cap * c) / (cap - p.1) < p.2 → hcap cap 0 0 r = c + (v - cap * c) / (cap - p.1) := fun z1 z2 => by rw [← hr]; unfold hcap; rw [if_pos ⟨z1, z2⟩]
    have hr2 : ¬ (p.1 < cap ∧ (v - cap * c) / (cap - p.1) < p.2) → hcap cap (c + p.2) (v + p.1 * p.2) xs = hcap cap 0 0 r := fun z => by rw [← hr]; conv => rhs; unfold hcap; rw [if_neg z]
    have fin : ¬ (p.1 < cap ∧ (v - cap * c) / (cap - p.1) < p.2) → ∃ (c' v' : Int) (s4 s5 : Option OV), [some (OV.fz (encR r)), some (.fz (.int cap)), some (.fz (.int (c + p.2))), some (.fz (.int (v + p.1 * p.2))), some (.fz (.int p.1)), some (.fz (.int p.2))] = [some (OV.fz (encR r)), some (.fz (.int cap)), some (.fz (.int c')), some (.fz (.int v')), s4, s5] ∧ hcap cap c' v' xs = hcap cap 0 0 r ∧ (∀ p ∈ xs, Sml p) ∧ 0 ≤ c' ∧ c' + hrs xs = hrs r ∧ 0 ≤ v' ∧ v' + whl xs = whl r :=
      fun z => ⟨_, _, _, _, rfl, hr2 z, hx2, by omega, by omega, by omega, by omega⟩
    have ex : p.1 < cap → ∃ q : Int, (v - cap * c) / (cap - p.1) = q := fun _ => ⟨_, rfl⟩
    refine ⟨_, rfl, ?_⟩
    dsimp only [List.set]
    all_goals and_intros
    · show some (Res.d (PyData.int _)) = _
      rw [hr1 (by omega) (by omega)]
    · exact fin (by omega)
    · exact fin (by omega)
  · intro e ⟨c, v, s4, s5, he, hr, hx, c0, c1, v0, v1⟩
    subst he
    have hr : v / cap = hcap cap 0 0 r := hr
    have v1 : v + 0 = whl r := v1
    all_goals and_intros
    show some (Res.d (PyData.int _)) = _
    rw [hr]
  · exact ⟨0, 0, none, none, rfl, rfl, hs, by omega, by omega, by omega, by omega⟩
end Law

namespace Law
open PySem L2 NS
def allE (rows : List Row) : List Int := rows.flatMap (endsL 0)
theorem allE_cons (r : Row) (rows : List Row) : allE (r :: rows) = endsL 0 r ++ allE rows := rfl
theorem allE_mem {rows : List Row} {h : Int} : h ∈ allE rows ↔ ∃ r ∈ rows, h ∈ endsL 0 r := by unfold allE; rw [List.mem_flatMap]
def addR (rows : List Row) : Row := jn [] (runsE (sumR rows) 0 (sortI (allE rows)))
theorem allE_len : ∀ {rows : List Row}, (∀ r ∈ rows, r.length ≤ 4) → (allE rows).length ≤ 4 * rows.length
  | [], _ => by simp [allE]
  | r :: rows, h => by
    have i := allE_len (rows := rows) fun q hq => h q (by simp [hq])
    have := h r (by simp)
    rw [allE_cons, List.length_append, ends_len, List.length_cons]
    omega
theorem add_ok {rows : List Row} (hc : ∀ r ∈ rows, Canon r) : Canon (addR rows) ∧ (∀ l, 0 ≤ l → rch (addR rows) l = sumR rows l) ∧ (addR rows).length ≤ (allE rows).length ∧ (∀ q ∈ addR rows, q.1 ≤ sumR rows 1) ∧ ∀ L, (∀ r ∈ rows, hrs r ≤ L) → 0 ≤ L → hrs (addR rows) ≤ L := by
  have b := sumR_bent rows hc
  have hmem : ∀ x, x ∈ sortI (allE rows) ↔ x ∈ allE rows := fun x => (sortI_perm _).mem_iff
  have hpos : ∀ e ∈ sortI (allE rows), 0 ≤ e := fun e he => by
    obtain ⟨r, hr, h⟩ := allE_mem.mp ((hmem e).mp he)
    exact (ends_le (hc r hr).nng h).1
  have hs : (0 :: sortI (allE rows)).Pairwise (fun x y => x ≤ y) := List.pairwise_cons.mpr ⟨hpos, sortI_le _⟩
  have g := gaps_of (mk := fun h => ∃ r ∈ rows, h ∈ endsL 0 r) (sortI (allE rows)) 0 hs fun h _ hk => (hmem h).mpr (allE_mem.mpr hk)
  obtain ⟨l0, l1⟩ := lastE_ge _ _ hs
  have hL : ∀ r ∈ rows, hrs r ≤ lastE 0 (sortI (allE rows)) := fun r hr => by
    by_cases e : r = []
    · rw [e]; exact l0
    · have := l1 _ ((hmem _).mpr (allE_mem.mpr ⟨r, hr, ends_hrs (c := 0) e⟩))
      omega
  obtain ⟨j1, j2, j3, j4, j5⟩ := jn_runs b g fun l hl => sumR_flat hc hL hl
  refine ⟨j1, j2, by rw [(sortI_perm _).length_eq] at j4; exact j4, j5, fun L h h0 => Int.le_trans j3 ?_⟩
  have gen : ∀ (es : List Int) (c : Int), c ≤ L → (∀ e ∈ es, e ≤ L) → lastE c es ≤ L := fun es => by
    induction es with
    | nil => intro c hc _; exact hc
    | cons e es ih => intro c _ he; exact ih e (he e (by simp)) fun x hx => he x (by simp [hx])
  refine gen _ _ h0 fun e he => ?_
  obtain ⟨r, hr, hm⟩ := allE_mem.mp ((hmem e).mp he)
  have := (ends_le (hc r hr).nng hm).2
  have := h r hr
  omega
theorem sumR_diff (rows : List Row) (c : Int) : (rows.map fun r => rch r (c + 1) - rch r c).sum = sumR rows (c + 1) - sumR rows c := by
  induction rows with
  | nil => rfl
  | cons r rows ih => rw [List.map_cons, List.sum_cons, ih, sumR_cons, sumR_cons]; omega
theorem added_x {rows : List Row} {d : D} (hd : asSeqD d = some (rows.map encR)) (hc : ∀ r ∈ rows, Canon r) (hs : ∀ r ∈ rows, ∀ p ∈ r, Sml p) (hl : ∀ r ∈ rows, r.length ≤ 4) (hn : rows.length ≤ 4) : m_added [.v d] = some (.d (encR (addR rows))) := by
  have hal := allE_len hl
  have hso : gSortA [.list ((allE rows).map .int)] = some (.l ((sortI (allE rows)).map .int)) := G_srtL (by omega)
  have hpos : ∀ e ∈ sortI (allE rows), 0 ≤ e := fun e he => by
    obtain ⟨r, hr, h⟩ := allE_mem.mp ((sortI_perm _).mem_iff.mp he)
    exact (ends_le (hc r hr).nng h).1
  have hsl : (sortI (allE rows)).length = (allE rows).length := (sortI_perm _).length_eq
  have hj := joined_x (runs := runsE (sumR rows) 0 (sortI (allE rows))) (by rw [runsE_len]; omega)
  apply runT_i
  all_goals and_intros
  refine for_map (fun (xs : List Row) e => ∃ (G : List Int) (o2 : Option D), e = [some (.fz d), some (.ol false (G.map .int)), o2.map .fz, none, none, none] ∧ G ++ allE xs = allE rows ∧ (∀ r ∈ xs, r.length ≤ 4) ∧ G.length + 4 * xs.length ≤ 16) ?_ ?_ rows ?_
  · intro r xs e ⟨G, o2, he, hr, hx, hg⟩
    subst he
    rw [List.length_cons] at hg
    have r4 := hx r (by simp)
    have he := ends_x (r := r) (by omega)
    have hel := ends_len r 0
    have fin : ∃ (G' : List Int) (o2 : Option D), [some (OV.fz d), some (.ol false (G.map PyData.int ++ (endsL 0 r).map PyData.int)), some (.fz (encR r)), none, none, none] = [some (OV.fz d), some (.ol false (G'.map .int)), o2.map .fz, none, none, none] ∧ G' ++ allE xs = allE rows ∧ (∀ r ∈ xs, r.length ≤ 4) ∧ G'.length + 4 * xs.length ≤ 16 := ⟨G ++ endsL 0 r, some (encR r), by rw [List.map_append]; rfl, by rw [← hr, allE_cons, List.append_assoc], fun q hq => hx q (by simp [hq]), by rw [List.length_append, hel]; omega⟩
    have g1 : G.length ≤ 16 := by omega
    have g2 : (endsL 0 r).length ≤ 4 := by omega
    refine ⟨_, rfl, ?_⟩
    dsimp only [List.set]
    all_goals and_intros
    exact fin
  · intro e ⟨G, o2, he, hr, hx, hg⟩
    subst he
    have hr : G = allE rows := by rw [← hr]; simp [allE]
    subst hr
    all_goals and_intros
    refine for_map (fun (xs : List Int) e => ∃ (T : Row) (c : Int) (o2 : Option D) (s5 : Option OV), e = [some (.fz d), some (.ol false ((allE rows).map .int)), o2.map .fz, some (.ol false (T.map encP)), some (.fz (.int c)), s5] ∧ T ++ runsE (sumR rows) c xs = runsE (sumR rows) 0 (sortI (allE rows)) ∧ 0 ≤ c ∧ (∀ x ∈ xs, 0 ≤ x) ∧ T.length + xs.length ≤ 16) ?_ ?_ (sortI (allE rows)) ?_
    · intro x xs e ⟨T, c, o2, s5, he, hr, c0, hx, ht⟩
      subst he
      rw [List.length_cons] at ht
      have k1 : lcGo (.nm 2) yesT (layOf (callT 2 m_step_in (consA (slotF 2) (consA (opOf (layOf (bin2 gAdd (slotP 4) (opOf (cstE (.int 1)))))) nilA)))) [2] (rows.map encR) [some (.fz d), some (.ol false ((allE rows).map .int)), none, some (.ol false (T.map encP)), some (.fz (.int c)), some (.fz (.int x))] [] = some ((rows.map fun r => rch r (c + 1) - rch r c).map .int, [some (.fz d), some (.ol false ((allE rows).map .int)), none, some (.ol false (T.map encP)), some (.fz (.int c)), some (.fz (.int x))]) := by
        refine lc_mapI (fun r => r ∈ rows) _ rows (fun r hr => hr) (by omega) (fun r hr => ⟨_, rfl, ?_⟩)
        have st := step_x (r := r) (h := c + 1) (hs r hr) (by omega)
        rw [show c + 1 - 1 = c by omega] at st
        dsimp only [List.set]
        apply Ev1.i
        · and_intros
        · exact ⟨rfl, rfl⟩
      have hsum : gSum [.list ((rows.map fun r => rch r (c + 1) - rch r c).map .int)] = some (.d (.int (sumR rows (c + 1) - sumR rows c))) := by rw [← sumR_diff]; exact G_sum
      have hrl : ((rows.map fun r => rch r (c + 1) - rch r c).map PyData.int).length ≤ 4 := by simp; omega
      have fin : ∃ (T' : Row) (c' : Int) (o3 : Option D) (s5 : Option OV), [some (OV.fz d), some (.ol false ((allE rows).map .int)), o2.map .fz, some (.ol false (T.map encP ++ [.tuple [.int (sumR rows (c + 1) - sumR rows c), .int (x - c)]])), some (.fz (.int x)), some (.fz (.int x))] = [some (OV.fz d), some (.ol false ((allE rows).map .int)), o3.map .fz, some (.ol false (T'.map encP)), some (.fz (.int c')), s5] ∧ T' ++ runsE (sumR rows) c' xs = runsE (sumR rows) 0 (sortI (allE rows)) ∧ 0 ≤ c' ∧ (∀ x ∈ xs, 0 ≤ x) ∧ T'.length + xs.length ≤ 16 :=
        ⟨T ++ [(sumR rows (c + 1) - sumR rows c, x - c)], x, o2, _, by rw [List.map_append]; rfl, by rw [← hr, List.append_assoc]; rfl, hx x (by simp), fun y hy => hx y (by simp [hy]), by simp; omega⟩
      have tl : (T.map encP).length ≤ 16 := by rw [List.length_map]; omega
      generalize (rows.map fun r => rch r (c + 1) - rch r c).map PyData.int = SD at *
      generalize (allE rows).map PyData.int = AD at *
      refine ⟨_, rfl, ?_⟩
      dsimp only [List.set]
      all_goals and_intros
      exact fin
    · intro e ⟨T, c, o2, s5, he, hr, c0, hx, ht⟩
      subst he
      have hr : T = runsE (sumR rows) 0 (sortI (allE rows)) := by rw [← hr]; simp [runsE]
      subst hr
      all_goals and_intros
      rfl
    · exact ⟨[], 0, o2, _, rfl, rfl, by omega, hpos, by simp; omega⟩
  · exact ⟨[], none, rfl, rfl, hl, by simp; omega⟩
theorem rch_le_whl : ∀ {r : Row} {l : Int}, (∀ p ∈ r, Sml p) → 0 ≤ l → rch r l ≤ whl r
  | [], _, _, _ => Int.le_refl _
  | p :: r, l, h, hl => by
    obtain ⟨a, b, c, d⟩ := h p (by simp)
    have ih := rch_le_whl (r := r) (l := l - min p.2 l) (fun q hq => h q (by simp [hq])) (by omega)
    have m : p.1 * min p.2 l ≤ p.1 * p.2 := Int.mul_le_mul_of_nonneg_left (by omega) a
    rw [rch_cons]
    show _ ≤ p.1 * p.2 + whl r
    omega
theorem hcap_le {r : Row} {cap : Int} (hc : Canon r) (hs : ∀ p ∈ r, Sml p) (hl : r.length ≤ 20) (h0 : 0 < cap) : 0 ≤ hcap cap 0 0 r ∧ hcap cap 0 0 r ≤ 1000000000000000000000000000000 := by
  obtain ⟨a1, a2, _⟩ := hcap_ok h0 r 0 0 (fun p hp => (hc.pos p hp).2) (by omega) (by rw [Int.mul_zero]; omega)
  rw [Int.sub_zero, Int.zero_add] at a2
  have a3 := rch_le_whl (l := hcap cap 0 0 r) hs a1
  have a4 := (whl_le hs).2
  have m : 1 * hcap cap 0 0 r ≤ cap * hcap cap 0 0 r := Int.mul_le_mul_of_nonneg_right (by omega) a1
  omega
theorem capped_x {r : Row} {cap : Int} (hc : Canon r) (hs : ∀ p ∈ r, Sml p) (hl : r.length ≤ 20) (h0 : 0 < cap) (h1 : cap ≤ 1000000000000) : m_capped [.v (encR r), .v (.int cap)] = some (.d (encR (capR r cap))) := by
  obtain ⟨b1, b2⟩ := hcap_le hc hs hl h0
  have k1 := hours_capped_x hs hl h0 h1
  have k2 := reach_x (h := hcap cap 0 0 r + 1) hs (by omega)
  have k3 := behind_runs_xT (r := r) (h := hcap cap 0 0 r + 1) (by omega)
  have k4 : m_joined_runs [.v (.list ([.tuple [.int cap, .int (hcap cap 0 0 r)], .tuple [.int (rch r (hcap cap 0 0 r + 1) - cap * hcap cap 0 0 r), .int 1]] ++ (rbG (hcap cap 0 0 r + 1) r).map encP))] = some (.d (encR (capR r cap))) := by
    have := joined_x (runs := [(cap, hcap cap 0 0 r), (rch r (hcap cap 0 0 r + 1) - cap * hcap cap 0 0 r, 1)] ++ rbG (hcap cap 0 0 r + 1) r) (by rw [List.length_append, rbG_len]; simp; omega)
    have e : encL ([(cap, hcap cap 0 0 r), (rch r (hcap cap 0 0 r + 1) - cap * hcap cap 0 0 r, 1)] ++ rbG (hcap cap 0 0 r + 1) r) = .list ([.tuple [.int cap, .int (hcap cap 0 0 r)], .tuple [.int (rch r (hcap cap 0 0 r + 1) - cap * hcap cap 0 0 r), .int 1]] ++ (rbG (hcap cap 0 0 r + 1) r).map encP) := by
      show PyData.list _ = PyData.list _
      rw [List.map_append]; rfl
    rw [← e]
    exact this
  have kl : ((rbG (hcap cap 0 0 r + 1) r).map encP).length ≤ 20 := by rw [List.length_map, rbG_len]; exact hl
  generalize (rbG (hcap cap 0 0 r + 1) r).map encP = RD at *
  generalize encR (capR r cap) = CD at *
  generalize hcap cap 0 0 r = k at *
  apply runT_i
  all_goals and_intros
  rfl
theorem capped_0 {r : Row} : m_capped [.v (encR r), .v (.int 0)] = some (.d (.tuple [])) := by
  apply runT_i
  all_goals and_intros
  rfl
end Law

namespace Law
open PySem L2 NS
theorem pairs_mem : ∀ {ms : List Int} (p : Int × Int), p ∈ pairsM ms → p.1 ∈ ms
  | [], p, hp => by cases hp
  | [m], p, hp => by rw [List.mem_singleton.mp hp]; simp
  | m :: m' :: r, p, hp => by
    rcases List.mem_cons.mp hp with rfl | hp
    · simp
    · exact List.mem_cons_of_mem _ (pairs_mem (ms := m' :: r) p hp)
theorem row_of_xB {F : FnI} {g : List Opd → Option Res} {f : Int → Int} {bends : List Int} {B : Int} (hB0 : 1 ≤ B) (hB : ∀ m ∈ bends, m + 1 ≤ B) (hg : ∀ h : Int, 0 ≤ h → h ≤ B → g [.v (.int h)] = some (.d (.int (f h)))) (hl : bends.length ≤ 60) : runF2 9 F (b_law_row_of F g) (.list (bends.map .int)) = some (.d (encR (posF (rowGo f [] (pairsM (marksL bends)))))) := by
  obtain ⟨ms, hms, hlt, _⟩ := marks_form bends
  have hmB : ∀ m ∈ marksL bends, m + 1 ≤ B := fun m hm => by
    rcases List.mem_cons.mp ((setSort_mem _ m).mp hm) with rfl | hm
    · omega
    · exact hB m (List.mem_filter.mp hm).1
  have hml : (marksL bends).length ≤ 61 := by
    have h1 := setSort_len (0 :: bends.filter fun h => decide (0 ≤ h))
    have h2 := List.length_filter_le (fun h => decide (0 ≤ h)) bends
    rw [List.length_cons] at h1
    unfold marksL; omega
  have k1 : lcGo (.nm 7) (boolOf (bin2 (gCmp fun i j => decide (j ≤ i)) (slotP 7) (opOf (cstE (.int 0))))) (slotE 7) [7] (bends.map .int) [some (.fz (.list (bends.map .int))), some (.fn F), none, none, none, none, none, none, none] [] = some ((bends.filter fun h => decide (0 ≤ h)).map .int, [some (.fz (.list (bends.map .int))), some (.fn F), none, none, none, none, none, none, none]) := by
    refine lc_fil0 (fun _ => True) (fun h => decide (0 ≤ h)) PyData.int bends (fun _ _ => trivial) (by omega) ?_
    intro p _
    refine ⟨_, rfl, ?_⟩
    dsimp only [List.set]
    apply Ev1.i
    · and_intros
    · refine ⟨rfl, fun _ => ?_, fun _ => rfl⟩
      apply Ev1.i
      · and_intros
      · exact ⟨rfl, rfl⟩
  have hset : gSetSorted [.list ([.int 0] ++ (bends.filter fun h => decide (0 ≤ h)).map .int)] = some (.l ((marksL bends).map .int)) := by
    show (intsOf ((0 :: bends.filter fun h => decide (0 ≤ h)).map PyData.int)).bind _ = _
    rw [intsOf_map]
    have h2 := List.length_filter_le (fun h => decide (0 ≤ h)) bends
    exact guard_i (decide_eq_true (by rw [List.length_cons]; omega)) rfl
  have hfl : ((bends.filter fun h => decide (0 ≤ h)).map PyData.int).length ≤ 60 := by rw [List.length_map]; exact Nat.le_trans (List.length_filter_le _ _) hl
  rw [hms] at *
  obtain ⟨last, hla, hzip⟩ := zip_pairs ms 0
  have hsl : gSlA (.list ((0 :: ms).map .int)) (some 1) none = some (.l (ms.map .int)) := by
    show some (Res.l (cutD ((0 :: ms).map .int) (some ((1 : Nat) : Int)) none)) = _
    rw [cut_from]; rfl
  have hpl := pairs_len (0 :: ms)
  have hpp := pairs_pos (ms := 0 :: ms) fun m hm => by
    rcases List.mem_cons.mp hm with rfl | hm
    · omega
    · exact Int.le_of_lt ((List.pairwise_cons.mp hlt).1 m hm)
  have hpp : ∀ p ∈ pairsM (0 :: ms), 0 ≤ p.1 ∧ p.1 + 1 ≤ B := fun p hp => ⟨hpp p hp, hmB _ (pairs_mem p hp)⟩
  have hmm' : ms.length ≤ 60 := by rw [List.length_cons] at hml; omega
  have hmm : (ms.map PyData.int).length ≤ 60 := by rw [List.length_map]; rw [List.length_cons] at hml; omega
  have hrl := rowGo_len (f := f) (pairsM (0 :: ms)) []
  rw [hpl, List.length_nil] at hrl
  generalize (bends.filter fun h => decide (0 ≤ h)).map PyData.int = FB at *
  generalize hMM : (0 :: ms).map PyData.int = MM at *
  apply runF2_i (e0 := [some (.fz (.list (bends.map .int))), some (.fn F), none, none, none, none, none, none, none]) rfl
  all_goals and_intros
  rw [hzip]
  refine for_map (fun (xs : List (Int × Int)) e => ∃ (G : Row) (o6 : Option D) (s4 s5 : Option OV), e = [some (.fz (.list (bends.map .int))), some (.fn F), some (.ol false (G.map encP)), some (.fz (.list MM)), s4, s5, o6.map .fz, none, none] ∧ rowGo f G xs = rowGo f [] (pairsM (0 :: ms)) ∧ (∀ p ∈ xs, 0 ≤ p.1 ∧ p.1 + 1 ≤ B) ∧ G.length + xs.length ≤ 100) ?_ ?_ (pairsM (0 :: ms)) ?_
  · intro p xs e ⟨G, o6, s4, s5, he, hr, hp, hx⟩
    subst he
    rw [List.length_cons] at hx
    obtain ⟨p0, p1⟩ := hp p (by simp)
    have c1 := hg (p.1 + 1) (by omega) (by omega)
    have c2 := hg p.1 p0 (by omega)
    have hrun := law_run_x (F := G) (s := f (p.1 + 1) - f p.1) (n := p.2 - p.1) (by omega)
    have hgl : (G.map encP).length ≤ 100 := by rw [List.length_map]; omega
    have fin : ∃ (G' : Row) (o6 : Option D) (s4 s5 : Option OV), [some (OV.fz (.list (bends.map .int))), some (.fn F), some (.ol false ((runA G (f (p.1 + 1) - f p.1, p.2 - p.1)).map encP)), some (.fz (.list MM)), some (.fz (.int p.1)), some (.fz (.int p.2)), some (.fz (.int (f (p.1 + 1) - f p.1))), none, none] = [some (OV.fz (.list (bends.map .int))), some (.fn F), some (.ol false (G'.map encP)), some (.fz (.list MM)), s4, s5, o6.map .fz, none, none] ∧ rowGo f G' xs = rowGo f [] (pairsM (0 :: ms)) ∧ (∀ p ∈ xs, 0 ≤ p.1 ∧ p.1 + 1 ≤ B) ∧ G'.length + xs.length ≤ 100 :=
      ⟨_, some (.int (f (p.1 + 1) - f p.1)), _, _, rfl, hr, fun q hq => hp q (by simp [hq]), by have := runA_len (acc := G) (p := (f (p.1 + 1) - f p.1, p.2 - p.1)); omega⟩
    generalize hR : (runA G (f (p.1 + 1) - f p.1, p.2 - p.1)).map encP = RD at *
    refine ⟨_, rfl, ?_⟩
    dsimp only [List.set]
    all_goals and_intros
    exact fin
  · intro e ⟨G, o6, s4, s5, he, hr, hp, hx⟩
    subst he
    have hr : G = rowGo f [] (pairsM (0 :: ms)) := hr
    rw [← hr]
    have k2 : lcGo (.tp [(.nm 6), (.nm 8)]) (boolOf (bin2 (gCmp fun i j => decide (j < i)) (slotP 6) (opOf (cstE (.int 0))))) (layOf (tupR (consA (opOf (slotE 6)) (consA (opOf (slotE 8)) nilA)))) [6, 8] (G.map encP) [some (.fz (.list (bends.map .int))), some (.fn F), some (.fz (.list (G.map encP))), some (.fz (.list MM)), s4, s5, none, none, none] [] = some ((posF G).map encP, [some (.fz (.list (bends.map .int))), some (.fn F), some (.fz (.list (G.map encP))), some (.fz (.list MM)), s4, s5, none, none, none]) := by
      refine lc_fil0 (fun _ => True) (fun p => decide (0 < p.1)) encP G (fun _ _ => trivial) (by rw [hr]; omega) ?_
      intro p _
      refine ⟨_, rfl, ?_⟩
      dsimp only [List.set]
      apply Ev1.i
      · and_intros
      · refine ⟨rfl, fun _ => ?_, fun _ => rfl⟩
        apply Ev1.i
        · and_intros
        · exact ⟨rfl, rfl⟩
    all_goals and_intros
    rfl
  · exact ⟨[], none, none, none, rfl, rfl, hpp, by rw [List.length_nil, hpl]; omega⟩
theorem law_added_x {rows : List Row} (hc : ∀ r ∈ rows, Canon r) (hs : ∀ r ∈ rows, ∀ p ∈ r, Sml p) (hl : ∀ r ∈ rows, r.length ≤ 4) (hn : rows.length ≤ 4) : m_law_added [.v (.list (rows.map encR))] = some (.d (encR (addR rows))) := by
  have hal := allE_len hl
  obtain ⟨tc, tr, _⟩ := add_ok hc
  have hrow : posF (rowGo (sumR rows) [] (pairsM (marksL (0 :: allE rows)))) = addR rows := by
    obtain ⟨ms, hms, hlt, hmem⟩ := marks_form (0 :: allE rows)
    rw [hms]
    refine rowOf_is (mk := fun k => ∃ r ∈ rows, k ∈ endsL 0 r) tc (fun k hk => (tr k hk).symm) (fun k hk hnm => ?_) hlt fun k hk hnm hb => hnm (hmem k hk (List.mem_cons_of_mem _ (allE_mem.mpr hb)))
    rw [tr _ (by omega), tr _ (by omega), tr _ (by omega)]
    exact (sumR_bent rows hc).flat k hk hnm
  apply runT_i
  all_goals and_intros
  refine for_map (fun (xs : List Row) e => ∃ (G : List Int) (s2 s3 s4 s5 : Option OV), e = [some (.fz (.list (rows.map encR))), some (.ol false (G.map .int)), s2, s3, s4, s5] ∧ G ++ allE xs = 0 :: allE rows ∧ (∀ r ∈ xs, r.length ≤ 4) ∧ G.length + 4 * xs.length ≤ 20) ?_ ?_ rows ?_
  · intro r xs e ⟨G, s2, s3, s4, s5, he, hr, hx, hg⟩
    subst he
    rw [List.length_cons] at hg
    have r4 := hx r (by simp)
    refine ⟨_, rfl, ?_⟩
    dsimp only [List.set]
    all_goals and_intros
    refine for_map (fun (ys : List (Int × Int)) e => ∃ (G' : List Int) (c : Int) (s4 s5 : Option OV), e = [some (.fz (.list (rows.map encR))), some (.ol false (G'.map .int)), some (.fz (encR r)), some (.fz (.int c)), s4, s5] ∧ G' ++ endsL c ys = G ++ endsL 0 r ∧ G'.length + ys.length ≤ G.length + r.length) ?_ ?_ r ?_
    · intro p ys e ⟨G', c, s4, s5, he, hr2, hg2⟩
      subst he
      rw [List.length_cons] at hg2
      refine ⟨_, rfl, ?_⟩
      dsimp only [List.set]
      have g1 : G'.length ≤ 30 := by omega
      all_goals and_intros
      exact ⟨G' ++ [c + p.2], c + p.2, _, _, by rw [List.map_append]; rfl, by rw [← hr2]; simp [endsL], by simp; omega⟩
    · intro e ⟨G', c, s4, s5, he, hr2, hg2⟩
      subst he
      have hr2 : G' = G ++ endsL 0 r := by rw [← hr2]; simp [endsL]
      all_goals and_intros
      exact ⟨G', _, _, _, _, rfl, by rw [hr2, List.append_assoc, ← allE_cons, hr], fun q hq => hx q (by simp [hq]), by simp at hg2; omega⟩
    · exact ⟨G, 0, _, _, rfl, rfl, by omega⟩
  · intro e ⟨G, s2, s3, s4, s5, he, hr, hx, hg⟩
    subst he
    have hr : G = 0 :: allE rows := by rw [← hr]; simp [allE]
    subst hr
    refine S_ret (r := .d (encR (addR rows))) (e1 := [some (.fz (.list (rows.map encR))), some (.fz (.list ((0 :: allE rows).map .int))), s2, s3, s4, s5]) ?_ rfl
    refine E_callL2 (d := .list ((0 :: allE rows).map .int)) (by and_intros) fun F hF => ?_
    rw [← hrow]
    refine row_of_x (fun k hk => ?_) (by rw [List.length_cons]; omega)
    rw [hF]
    have k1 : lcGo (.nm 2) yesT (layOf (callT 2 m_law_row_reach (consA (slotF 2) (consA (slotF 6) nilA)))) [2] (rows.map encR) [some (.fz (.list (rows.map encR))), some (.fz (.list ((0 :: allE rows).map .int))), none, (capOf s3).map .fz, (capOf s4).map .fz, (capOf s5).map .fz, some (.fz (.int k))] [] = some ((rows.map fun r => rch r k).map .int, [some (.fz (.list (rows.map encR))), some (.fz (.list ((0 :: allE rows).map .int))), none, (capOf s3).map .fz, (capOf s4).map .fz, (capOf s5).map .fz, some (.fz (.int k))]) := by
      refine lc_mapI (fun r => r ∈ rows) _ rows (fun r hr => hr) (by omega) (fun r hr => ⟨_, rfl, ?_⟩)
      have st := rowreach_x (row := r) (h := k) (hs r hr) hk
      dsimp only [List.set]
      apply Ev1.i
      · and_intros
      · exact ⟨rfl, rfl⟩
    have hsum : gSum [.list ((rows.map fun r => rch r k).map .int)] = some (.d (.int (sumR rows k))) := G_sum
    refine lamG_i (e := [some (.fz (.list (rows.map encR))), some (.fz (.list ((0 :: allE rows).map .int))), (capOf s2).map .fz, (capOf s3).map .fz, (capOf s4).map .fz, (capOf s5).map .fz, some (.fz (.int k))]) (e2 := [some (.fz (.list (rows.map encR))), some (.fz (.list ((0 :: allE rows).map .int))), (capOf s2).map .fz, (capOf s3).map .fz, (capOf s4).map .fz, (capOf s5).map .fz, some (.fz (.int k))]) rfl ?_
    generalize (rows.map fun r => rch r k).map PyData.int = SD at *
    generalize (0 :: allE rows).map PyData.int = AD at *
    and_intros
  · exact ⟨[0], none, none, none, none, rfl, rfl, hl, by simp; omega⟩
theorem bendsC_len (cap : Int) : ∀ (r : Row) (c v : Int), (bendsC cap c v r).length ≤ 3 * r.length
  | [], _, _ => by simp [bendsC]
  | p :: r, c, v => by
    have i := bendsC_len cap r (c + p.2) (v + p.1 * p.2)
    unfold bendsC
    rw [List.length_append, List.length_append, List.length_cons]
    by_cases h : p.1 < cap
    · rw [if_pos h]
      have := List.length_filter_le (fun h => decide (c ≤ h) && decide (h ≤ c + p.2 + 1)) [c + (v - cap * c) / (cap - p.1), c + (v - cap * c) / (cap - p.1) + 1]
      simp only [List.length_cons, List.length_nil] at *
      omega
    · rw [if_neg h]
      simp only [List.length_cons, List.length_nil]
      omega
theorem law_capped_x {r : Row} {cap : Int} (hc : Canon r) (hs : ∀ p ∈ r, Sml p) (hl : r.length ≤ 10) (h0 : 0 < cap) (h1 : cap ≤ 1000000000000) : m_law_capped [.v (encR r), .v (.int cap)] = some (.d (encR (capR r cap))) := by
  obtain ⟨_, _, tc, tr, _⟩ := cap_ok hc h0
  have w0 := whl_le hs
  have w1 := sml_hrs hs
  have hwh : rch r (hrs r) = whl r := rch_whl hc.nng (Int.le_refl _)
  have hbl := bendsC_len cap r 0 0
  have hrow : posF (rowGo (fun k => min (rch r k) (cap * k)) [] (pairsM (marksL (0 :: bendsC cap 0 0 r ++ [whl r / cap, whl r / cap + 1])))) = capR r cap := by
    obtain ⟨ms, hms, hlt, hmem⟩ := marks_form (0 :: bendsC cap 0 0 r ++ [whl r / cap, whl r / cap + 1])
    rw [hms]
    refine rowOf_is (mk := fun k => k ∈ (0 :: bendsC cap 0 0 r ++ [whl r / cap, whl r / cap + 1])) tc (fun k hk => (tr k hk).symm) (fun k hk hnm => ?_) hlt fun k hk hnm hb => hnm (hmem k hk hb)
    refine cap_flat hc h0 (fun h hh => ?_) (fun h hh => ?_) (by simp) (by simp) hk hnm
    · exact List.mem_append_left _ (List.mem_cons_of_mem _ (bendsC_ends hh))
    · exact List.mem_append_left _ (List.mem_cons_of_mem _ hh)
  apply runT_i
  all_goals and_intros
  refine for_map (fun (xs : List (Int × Int)) e => ∃ (G : List Int) (c v : Int) (s4 s5 s6 s7 s8 s9 : Option OV), e = [some (.fz (encR r)), some (.fz (.int cap)), some (.ol false (G.map .int)), some (.fz (.int c)), s4, s5, s6, s7, s8, s9, none] ∧ G ++ bendsC cap c v xs = 0 :: bendsC cap 0 0 r ∧ (∀ p ∈ xs, Sml p) ∧ 0 ≤ c ∧ c + hrs xs = hrs r ∧ 0 ≤ v ∧ v + whl xs = whl r ∧ (∀ x, 0 ≤ x → rch r (c + x) = v + rch xs x) ∧ G.length + 3 * xs.length ≤ 31) ?_ ?_ r ?_
  · intro p xs e ⟨G, c, v, s4, s5, s6, s7, s8, s9, he, hr, hx, c0, c1, v0, v1, hre, hg⟩
    subst he
    rw [List.length_cons] at hg
    obtain ⟨q1, q2, q3, q4⟩ := hx p (by simp)
    have hx2 : ∀ p ∈ xs, Sml p := fun q hq => hx q (by simp [hq])
    have x0 := (sml_hrs hx2).1
    have x1 := (whl_le hx2).1
    rw [hrs_cons] at c1
    have v1 : v + (p.1 * p.2 + whl xs) = whl r := v1
    have m0 : 0 ≤ p.1 * p.2 := Int.mul_nonneg q1 q3
    have cb : c ≤ 1000000000000000000 := by omega
    have k0 : 0 ≤ cap * c := Int.mul_nonneg (by omega) c0
    have k1 : cap * c ≤ 1000000000000 * 1000000000000000000 := Int.mul_le_mul h1 cb c0 (by omega)
    have hnx : Nng xs := fun q hq => (hx2 q hq).2.2.1
    have hbase := rowreach_x (row := r) (h := c) hs c0
    have hcv : rch r c = v := by
      have a := hre 0 (by omega)
      rw [Int.add_zero, rch_zero (r := p :: xs) fun q hq => (hx q hq).2.2.1] at a
      omega
    rw [hcv] at hbase
    have hre2 : ∀ x, 0 ≤ x → rch r (c + p.2 + x) = v + p.1 * p.2 + rch xs x := fun x hxx => by
      have a := hre (p.2 + x) (by omega)
      rw [rch_hi (show p.2 ≤ p.2 + x by omega), show p.2 + x - p.2 = x by omega] at a
      rw [Int.add_assoc c, a]; omega
    have gl : G.length ≤ 31 := by omega
    have fin1 : p.1 < cap → ∃ (G' : List Int) (c' v' : Int) (t4 t5 t6 t7 t8 t9 : Option OV), [some (OV.fz (encR r)), some (.fz (.int cap)), some (.ol false (G.map PyData.int ++ ([c + (v - cap * c) / (cap - p.1), c + (v - cap * c) / (cap - p.1) + 1].filter fun h => decide (c ≤ h) && decide (h ≤ c + p.2 + 1)).map PyData.int ++ [.int (c + p.2)])), some (.fz (.int (c + p.2))), some (.fz (.int p.1)), some (.fz (.int p.2)), some (.fz (.int c)), some (.fz (.int (c + p.2))), some (.fz (.int v)), some (.fz (.int (c + (v - cap * c) / (cap - p.1)))), none] = [some (OV.fz (encR r)), some (.fz (.int cap)), some (.ol false (G'.map .int)), some (.fz (.int c')), t4, t5, t6, t7, t8, t9, none] ∧ G' ++ bendsC cap c' v' xs = 0 :: bendsC cap 0 0 r ∧ (∀ p ∈ xs, Sml p) ∧ 0 ≤ c' ∧ c' + hrs xs = hrs r ∧ 0 ≤ v' ∧ v' + whl xs = whl r ∧ (∀ x, 0 ≤ x → rch r (c' + x) = v' + rch xs x) ∧ G'.length + 3 * xs.length ≤ 31 := fun z => by
      refine ⟨G ++ ([c + (v - cap * c) / (cap - p.1), c + (v - cap * c) / (cap - p.1) + 1].filter fun h => decide (c ≤ h) && decide (h ≤ c + p.2 + 1)) ++ [c + p.2], c + p.2, v + p.1 * p.2, _, _, _, _, _, _, by rw [List.map_append, List.map_append]; rfl, ?_, hx2, by omega, by omega, by omega, by omega, hre2, ?_⟩
      · rw [← hr]
        conv => rhs; unfold bendsC
        rw [if_pos z]
        simp only [List.append_assoc]
      · have := List.length_filter_le (fun h => decide (c ≤ h) && decide (h ≤ c + p.2 + 1)) [c + (v - cap * c) / (cap - p.1), c + (v - cap * c) / (cap - p.1) + 1]
        rw [List.length_append, List.length_append]
        simp only [List.length_cons, List.length_nil] at *
        omega
    have fin2 : ¬ p.1 < cap → ∃ (G' : List Int) (c' v' : Int) (t4 t5 t6 t7 t8 t9 : Option OV), [some (OV.fz (encR r)), some (.fz (.int cap)), some (.ol false (G.map PyData.int ++ [.int (c + p.2)])), some (.fz (.int (c + p.2))), some (.fz (.int p.1)), some (.fz (.int p.2)), some (.fz (.int c)), some (.fz (.int (c + p.2))), some (.fz (.int v)), s9, none] = [some (OV.fz (encR r)), some (.fz (.int cap)), some (.ol false (G'.map .int)), some (.fz (.int c')), t4, t5, t6, t7, t8, t9, none] ∧ G' ++ bendsC cap c' v' xs = 0 :: bendsC cap 0 0 r ∧ (∀ p ∈ xs, Sml p) ∧ 0 ≤ c' ∧ c' + hrs xs = hrs r ∧ 0 ≤ v' ∧ v' + whl xs = whl r ∧ (∀ x, 0 ≤ x → rch r (c' + x) = v' + rch xs x) ∧ G'.length + 3 * xs.length ≤ 31 := fun z => by
      refine ⟨G ++ [c + p.2], c + p.2, v + p.1 * p.2, _, _, _, _, _, _, by rw [List.map_append]; rfl, ?_, hx2, by omega, by omega, by omega, by omega, hre2, ?_⟩
      · rw [← hr]
        conv => rhs; unfold bendsC
        rw [if_neg z]
        simp only [List.append_assoc, List.nil_append]
      · rw [List.length_append]
        simp only [List.length_cons, List.length_nil] at *
        omega
    have k2 : lcGo (.nm 10) (boolOf (chain3 (gCmp fun i j => decide (i ≤ j)) (gCmp fun i j => decide (i ≤ j)) (slotP 6) (slotP 10) (opOf (layOf (bin2 gAdd (slotP 7) (opOf (cstE (.int 1)))))))) (slotE 10) [10] [.int (c + (v - cap * c) / (cap - p.1)), .int (c + (v - cap * c) / (cap - p.1) + 1)] [some (.fz (encR r)), some (.fz (.int cap)), some (.ol false (G.map .int)), some (.fz (.int c)), some (.fz (.int p.1)), some (.fz (.int p.2)), some (.fz (.int c)), some (.fz (.int (c + p.2))), some (.fz (.int v)), some (.fz (.int (c + (v - cap * c) / (cap - p.1)))), none] [] = some (([c + (v - cap * c) / (cap - p.1), c + (v - cap * c) / (cap - p.1) + 1].filter fun h => decide (c ≤ h) && decide (h ≤ c + p.2 + 1)).map .int, [some (.fz (encR r)), some (.fz (.int cap)), some (.ol false (G.map .int)), some (.fz (.int c)), some (.fz (.int p.1)), some (.fz (.int p.2)), some (.fz (.int c)), some (.fz (.int (c + p.2))), some (.fz (.int v)), some (.fz (.int (c + (v - cap * c) / (cap - p.1)))), none]) := by
      show lcGo _ _ _ _ (List.map PyData.int [c + (v - cap * c) / (cap - p.1), c + (v - cap * c) / (cap - p.1) + 1]) _ _ = _
      refine lc_fil0 (fun _ => True) (fun h => decide (c ≤ h) && decide (h ≤ c + p.2 + 1)) PyData.int _ (fun _ _ => trivial) (by simp) ?_
      intro y _
      refine ⟨_, rfl, ?_⟩
      dsimp only [List.set]
      apply Ev1.i
      · and_intros
      · refine ⟨rfl, fun _ => ?_, fun _ => rfl⟩
        apply Ev1.i
        · and_intros
        · exact ⟨rfl, rfl⟩
    have fl : (([c + (v - cap * c) / (cap - p.1), c + (v - cap * c) / (cap - p.1) + 1].filter fun h => decide (c ≤ h) && decide (h ≤ c + p.2 + 1)).map PyData.int).length ≤ 2 := by
      rw [List.length_map]; exact List.length_filter_le _ _
    generalize ([c + (v - cap * c) / (cap - p.1), c + (v - cap * c) / (cap - p.1) + 1].filter fun h => decide (c ≤ h) && decide (h ≤ c + p.2 + 1)).map PyData.int = FD at *
    refine ⟨_, rfl, ?_⟩
    dsimp only [List.set]
    all_goals and_intros
    · exact fin1 (by omega)
    · exact fin2 (by omega)
  · intro e ⟨G, c, v, s4, s5, s6, s7, s8, s9, he, hr, hx, c0, c1, v0, v1, hre, hg⟩
    subst he
    have hG : G = 0 :: bendsC cap 0 0 r := by rw [← hr]; simp [bendsC]
    have c1 : c + 0 = hrs r := c1
    have hce : c = hrs r := by omega
    clear hr
    subst hce
    have hcr := rowreach_x (row := r) (h := hrs r) hs c0
    rw [hwh] at hcr
    have gl : G.length ≤ 31 := by omega
    have hb : decide (0 < cap) = true := decide_eq_true h0
    have hfin : (G.map PyData.int ++ [.int (whl r / cap), .int (whl r / cap + 1)]) = (0 :: bendsC cap 0 0 r ++ [whl r / cap, whl r / cap + 1]).map PyData.int := by rw [hG, List.map_append]; rfl
    have hwc : whl r / cap ≤ whl r := Int.ediv_le_self _ w0.1
    have hle : ∀ (r : Row) (c v : Int), (∀ p ∈ r, Sml p) → ∀ h ∈ bendsC cap c v r, h ≤ c + hrs r + 1 := fun r => by
      induction r with
      | nil => intro c v _ h hh; cases hh
      | cons p r ih =>
        intro c v hp h hh
        have p2 := (hp p (by simp)).2.2.1
        have hp2 : ∀ p ∈ r, Sml p := fun q hq => hp q (by simp [hq])
        have x0 := (sml_hrs hp2).1
        rw [hrs_cons]
        unfold bendsC at hh
        rcases List.mem_append.mp hh with hh | hh
        · rcases List.mem_append.mp hh with hh | hh
          · by_cases z : p.1 < cap
            · rw [if_pos z] at hh
              have := (List.mem_filter.mp hh).2
              simp only [Bool.and_eq_true, decide_eq_true_eq] at this
              omega
            · rw [if_neg z] at hh; cases hh
          · rw [List.mem_singleton.mp hh]; omega
        · have := ih (c + p.2) (v + p.1 * p.2) hp2 h hh
          omega
    have hcl : callL2 9 b_law_row_of (callN gMin2 (consA (opOf (layOf (callT 2 m_law_row_reach (consA (slotF 0) (consA (slotF 11) nilA))))) (consA (opOf (layOf (bin2 gMul (slotP 1) (slotP 11)))) nilA))) (slotF 2) [some (.fz (encR r)), some (.fz (.int cap)), some (.ol false (G.map PyData.int ++ [.int (whl r / cap), .int (whl r / cap + 1)])), some (.fz (.int (hrs r))), s4, s5, s6, s7, s8, some (.fz (.int (whl r / cap))), none] = some (.d (encR (capR r cap)), [some (.fz (encR r)), some (.fz (.int cap)), some (.fz (.list ((0 :: bendsC cap 0 0 r ++ [whl r / cap, whl r / cap + 1]).map .int))), some (.fz (.int (hrs r))), s4, s5, s6, s7, s8, some (.fz (.int (whl r / cap))), none]) := by
      rw [hfin]
      refine E_callL2 (d := .list ((0 :: bendsC cap 0 0 r ++ [whl r / cap, whl r / cap + 1]).map .int)) (by and_intros) fun F hF => ?_
      rw [← hrow]
      refine row_of_xB (B := 1000000000000000000000000000000000) (by omega) (fun m hm => ?_) (fun k hk hkB => ?_) (by rw [List.length_append, List.length_cons]; simp only [List.length_cons, List.length_nil]; omega)
      · rcases List.mem_append.mp hm with hm | hm
        · rcases List.mem_cons.mp hm with rfl | hm
          · omega
          · have := hle r 0 0 hs m hm; omega
        · simp only [List.mem_cons, List.mem_nil_iff, or_false] at hm
          rcases hm with rfl | rfl <;> omega
      · rw [hF]
        have q1 := rowreach_x (row := r) (h := k) hs hk
        refine lamG_i (e := [some (.fz (encR r)), some (.fz (.int cap)), some (.fz (.list ((0 :: bendsC cap 0 0 r ++ [whl r / cap, whl r / cap + 1]).map .int))), some (.fz (.int (hrs r))), (capOf s4).map .fz, (capOf s5).map .fz, (capOf s6).map .fz, (capOf s7).map .fz, (capOf s8).map .fz, some (.fz (.int (whl r / cap))), none, some (.fz (.int k))]) (e2 := [some (.fz (encR r)), some (.fz (.int cap)), some (.fz (.list ((0 :: bendsC cap 0 0 r ++ [whl r / cap, whl r / cap + 1]).map .int))), some (.fz (.int (hrs r))), (capOf s4).map .fz, (capOf s5).map .fz, (capOf s6).map .fz, (capOf s7).map .fz, (capOf s8).map .fz, some (.fz (.int (whl r / cap))), none, some (.fz (.int k))]) rfl ?_
        and_intros
    all_goals and_intros
    rfl
  · exact ⟨[0], 0, 0, _, _, _, _, _, _, rfl, rfl, hs, by omega, by omega, by omega, by omega, fun x hx => by rw [Int.zero_add]; omega, by simp; omega⟩
end Law

namespace Law
open PySem L2 NS
def encO : Option Int → D
  | none => .none
  | some h => .int h
theorem first_unlike_x {a b : Row} (ha : ∀ p ∈ a, Sml p) (hb : ∀ p ∈ b, Sml p) (la : a.length ≤ 10) (lb : b.length ≤ 10) : m_first_unlike [.v (encR a), .v (encR b)] = some (.d (encO (unlikeG (rch a) (rch b) 0 (setSort (endsL 0 a ++ endsL 0 b))))) := by
  have e1 := ends_x (r := a) (by omega)
  have e2 := ends_x (r := b) (by omega)
  have l1 := ends_len a 0
  have l2 := ends_len b 0
  have na : Nng a := fun p hp => (ha p hp).2.2.1
  have nb : Nng b := fun p hp => (hb p hp).2.2.1
  have hset : gSetSortedT [.tuple ((endsL 0 a).map .int ++ (endsL 0 b).map .int)] = some (.l ((setSort (endsL 0 a ++ endsL 0 b)).map .int)) := by
    rw [← List.map_append]
    show (intsOf ((endsL 0 a ++ endsL 0 b).map PyData.int)).bind _ = _
    rw [intsOf_map]
    exact guard_i (decide_eq_true (by rw [List.length_append]; omega)) rfl
  have hpos : ∀ x ∈ setSort (endsL 0 a ++ endsL 0 b), 0 ≤ x := fun x hx => by
    rcases List.mem_append.mp ((setSort_mem _ x).mp hx) with h | h
    · exact (ends_le na h).1
    · exact (ends_le nb h).1
  have l3 : ((endsL 0 a).map PyData.int).length ≤ 10 := by rw [List.length_map]; omega
  have l4 : ((endsL 0 b).map PyData.int).length ≤ 10 := by rw [List.length_map]; omega
  have l5 : (endsL 0 a).length ≤ 10 := by omega
  have l6 : (endsL 0 b).length ≤ 10 := by omega
  apply runT_i
  all_goals and_intros
  refine for_map (fun (xs : List Int) e => ∃ (c : Int) (s3 : Option OV), e = [some (.fz (encR a)), some (.fz (encR b)), some (.fz (.int c)), s3] ∧ unlikeG (rch a) (rch b) c xs = unlikeG (rch a) (rch b) 0 (setSort (endsL 0 a ++ endsL 0 b)) ∧ 0 ≤ c ∧ ∀ x ∈ xs, 0 ≤ x) ?_ ?_ (setSort (endsL 0 a ++ endsL 0 b)) ?_
  · intro x xs e ⟨c, s3, he, hr, c0, hx⟩
    subst he
    have st1 := step_x (r := a) (h := c + 1) ha (by omega)
    have st2 := step_x (r := b) (h := c + 1) hb (by omega)
    rw [show c + 1 - 1 = c by omega] at st1 st2
    have h1 : rch a (c + 1) - rch a c ≠ rch b (c + 1) - rch b c → unlikeG (rch a) (rch b) 0 (setSort (endsL 0 a ++ endsL 0 b)) = some (c + 1) := fun z => by rw [← hr]; unfold unlikeG; rw [if_pos z]
    have h2 : ¬ rch a (c + 1) - rch a c ≠ rch b (c + 1) - rch b c → unlikeG (rch a) (rch b) x xs = unlikeG (rch a) (rch b) 0 (setSort (endsL 0 a ++ endsL 0 b)) := fun z => by rw [← hr]; conv => rhs; unfold unlikeG; rw [if_neg z]
    have fin : ¬ rch a (c + 1) - rch a c ≠ rch b (c + 1) - rch b c → ∃ (c' : Int) (s3 : Option OV), [some (OV.fz (encR a)), some (.fz (encR b)), some (.fz (.int x)), some (.fz (.int x))] = [some (OV.fz (encR a)), some (.fz (encR b)), some (.fz (.int c')), s3] ∧ unlikeG (rch a) (rch b) c' xs = unlikeG (rch a) (rch b) 0 (setSort (endsL 0 a ++ endsL 0 b)) ∧ 0 ≤ c' ∧ ∀ x ∈ xs, 0 ≤ x := fun z => ⟨x, _, rfl, h2 z, hx x (by simp), fun y hy => hx y (by simp [hy])⟩
    generalize rch a (c + 1) - rch a c = u at *
    generalize rch b (c + 1) - rch b c = v at *
    refine ⟨_, rfl, ?_⟩
    dsimp only [List.set]
    all_goals and_intros
    · show some (Res.d (PyData.int _)) = _
      rw [h1 (by omega)]; rfl
    · exact fin (by omega)
  · intro e ⟨c, s3, he, hr, c0, hx⟩
    subst he
    all_goals and_intros
    rw [← hr]; rfl
  · exact ⟨0, none, rfl, rfl, by omega, hpos⟩
theorem eq_rowsL {l : Row} (h : l ≠ []) : gEq (.list (l.map encP)) (.list []) = some (.d (.bool false)) := by
  cases l with
  | nil => exact absurd rfl h
  | cons x l =>
    unfold gEq
    rw [rows_shL]
    show some (Res.d (PyData.bool (PyData.eqv (.list ((x :: l).map encP)) (.list [])))) = _
    simp [PyData.eqv, PyData.eqvAll]
theorem lc_D {p : Int × Int} {m : Int} {s0 s1 s2 s3 s4 s5 s6 s7 : Option OV} : lcGo (.tp [(.nm 9), (.nm 10)]) (boolOf (bin2 (gCmp fun i j => decide (j < i)) (slotP 10) (slotP 8))) (layOf (tupR (consA (opOf (slotE 9)) (consA (opOf (layOf (bin2 gSub2 (slotP 10) (slotP 8)))) nilA)))) [9, 10] [encP p] [s0, s1, s2, s3, s4, s5, s6, s7, some (.fz (.int m)), none, none] [] = some ((if m < p.2 then [encP (p.1, p.2 - m)] else []), [s0, s1, s2, s3, s4, s5, s6, s7, some (.fz (.int m)), none, none]) := by
  have := lc_fil0 (tg := .tp [(.nm 9), (.nm 10)]) (cond := boolOf (bin2 (gCmp fun i j => decide (j < i)) (slotP 10) (slotP 8))) (elt := layOf (tupR (consA (opOf (slotE 9)) (consA (opOf (layOf (bin2 gSub2 (slotP 10) (slotP 8)))) nilA)))) (own := [9, 10]) (enc := encP) (e := [s0, s1, s2, s3, s4, s5, s6, s7, some (.fz (.int m)), none, none]) (fun _ => True) (fun q => decide (m < q.2)) (fun q => encP (q.1, q.2 - m)) [p] (fun _ _ => trivial) (by simp) (by
    intro q _
    refine ⟨_, rfl, ?_⟩
    dsimp only [List.set]
    apply Ev1.i
    · and_intros
    · refine ⟨rfl, fun _ => ?_, fun _ => rfl⟩
      apply Ev1.i
      · and_intros
      · exact ⟨rfl, rfl⟩)
  rw [show [encP p] = List.map encP [p] from rfl, this]
  by_cases c : m < p.2
  · rw [if_pos c, List.filter_cons_of_pos (by simpa using c)]; rfl
  · rw [if_neg c, List.filter_cons_of_neg (by simpa using c)]; rfl
theorem lc_D0 {e : NS.Env} : lcGo (.tp [(.nm 9), (.nm 10)]) (boolOf (bin2 (gCmp fun i j => decide (j < i)) (slotP 10) (slotP 8))) (layOf (tupR (consA (opOf (slotE 9)) (consA (opOf (layOf (bin2 gSub2 (slotP 10) (slotP 8)))) nilA)))) [9, 10] [] e [] = some ([], e) := rfl
theorem drop_form (p : Int × Int) (l : Row) (m : Int) : (if m < p.2 then [encP (p.1, p.2 - m)] else []) ++ l.map encP = (dropR (p :: l) m).map encP := by
  unfold dropR
  by_cases c : m < p.2
  · dsimp only; rw [if_pos c, if_pos c]; rfl
  · dsimp only; rw [if_neg c, if_neg c]; rfl
theorem drop_len (l : Row) (m : Int) : (dropR l m).length ≤ l.length := by
  cases l with
  | nil => simp [dropR]
  | cons p l => unfold dropR; dsimp only; split <;> simp
def FzOl (L : Option OV) (l : Row) : Prop := L = some (.fz (.list (l.map encP))) ∨ L = some (.ol false (l.map encP))
theorem list_facts (l : Row) (m : Int) : ∃ A T DL : List D, gEq (.list (l.map encP)) (.list []) = some (.d (.bool (decide (l = [])))) ∧ gSlA (.list (l.map encP)) none (some 1) = some (.l A) ∧ gSlA (.list (l.map encP)) (some 1) none = some (.l T) ∧ atI (A ++ [.tuple [.int 0, .int (10 ^ Int.toNat 30)]]) 0 = some (PyData.tuple [.int (hd0 l).1, .int (hd0 l).2]) ∧ A.length ≤ 1 ∧ DL ++ T = (dropR l m).map encP ∧ DL.length + T.length ≤ l.length ∧
    ∀ s0 s1 s2 s3 s4 s5 s6 s7 : Option OV, lcGo (.tp [(.nm 9), (.nm 10)]) (boolOf (bin2 (gCmp fun i j => decide (j < i)) (slotP 10) (slotP 8))) (layOf (tupR (consA (opOf (slotE 9)) (consA (opOf (layOf (bin2 gSub2 (slotP 10) (slotP 8)))) nilA)))) [9, 10] A [s0, s1, s2, s3, s4, s5, s6, s7, some (.fz (.int m)), none, none] [] = some (DL, [s0, s1, s2, s3, s4, s5, s6, s7, some (.fz (.int m)), none, none]) := by
  have e30 : (10 : Int) ^ Int.toNat 30 = 1000000000000000000000000000000 := by decide
  cases l with
  | nil => exact ⟨[], [], [], rfl, rfl, rfl, by rw [e30]; rfl, by simp, rfl, by simp, fun _ _ _ _ _ _ _ _ => rfl⟩
  | cons p l =>
    refine ⟨[encP p], l.map encP, if m < p.2 then [encP (p.1, p.2 - m)] else [], by rw [eq_rowsL (by simp), decide_eq_false (by simp)], ?_, ?_, rfl, by simp, drop_form p l m, ?_, fun _ _ _ _ _ _ _ _ => lc_D⟩
    · show some (Res.l (cutD (List.map encP (p :: l)) none (some 1))) = _
      rw [cut_to _ (by omega)]; rfl
    · show some (Res.l (cutD (List.map encP (p :: l)) (some ((1 : Nat) : Int)) none)) = _
      rw [cut_from]; rfl
    · rw [List.length_map, List.length_cons]
      split <;> simp
      omega
theorem first_apart_x {a b : Row} (la : a.length ≤ 10) (lb : b.length ≤ 10) : m_law_first_apart [.v (encR a), .v (encR b)] = some (.d (encO (apartG 40 0 a b))) := by
  apply runT_i
  all_goals and_intros
  unfold rangeD
  refine for_map (fun (xs : List Nat) e => ∃ (c : Int) (l r : Row) (L R s5 s6 s7 s8 : Option OV), e = [some (.fz (encR a)), some (.fz (encR b)), some (.fz (.int c)), L, R, s5, s6, s7, s8, none, none] ∧ FzOl L l ∧ FzOl R r ∧ apartG xs.length c l r = apartG 40 0 a b ∧ l.length ≤ 10 ∧ r.length ≤ 10) ?_ ?_ (List.range (Int.toNat 40)) ?_
  · intro t xs e ⟨c, l, r, L, R, s5, s6, s7, s8, he, hL, hR, hr, l10, r10⟩
    subst he
    have hun : apartG 40 0 a b = if l = [] ∧ r = [] then none else if (hd0 l).1 ≠ (hd0 r).1 then some (c + 1) else apartG xs.length (c + min (hd0 l).2 (hd0 r).2) (dropR l (min (hd0 l).2 (hd0 r).2)) (dropR r (min (hd0 l).2 (hd0 r).2)) := hr.symm
    have dl := drop_len l (min (hd0 l).2 (hd0 r).2)
    have dr := drop_len r (min (hd0 l).2 (hd0 r).2)
    have h1 : l = [] → r = [] → some (Res.d PyData.none) = some (Res.d (encO (apartG 40 0 a b))) := fun z1 z2 => by rw [hun, if_pos ⟨z1, z2⟩]; rfl
    have h2 : ¬ (l = [] ∧ r = []) → (hd0 l).1 ≠ (hd0 r).1 → some (Res.d (PyData.int (c + 1))) = some (Res.d (encO (apartG 40 0 a b))) := fun z1 z2 => by rw [hun, if_neg z1, if_pos z2]; rfl
    obtain ⟨A, T, DL, f1, f2, f3, f4, f5, f6, f7, f8⟩ := list_facts l (min (hd0 l).2 (hd0 r).2)
    obtain ⟨A', T', DL', g1, g2, g3, g4, g5, g6, g7, g8⟩ := list_facts r (min (hd0 l).2 (hd0 r).2)
    have fin : ∀ (s5 s6 s7 s8 : Option OV), ¬ (l = [] ∧ r = []) → ¬ (hd0 l).1 ≠ (hd0 r).1 → ∃ (c' : Int) (l2 r2 : Row) (L R t5 t6 t7 t8 : Option OV), [some (OV.fz (encR a)), some (.fz (encR b)), some (.fz (.int (c + min (hd0 l).2 (hd0 r).2))), some (.ol false (DL ++ T)), some (.ol false (DL' ++ T')), s5, s6, s7, s8, none, none] = [some (OV.fz (encR a)), some (.fz (encR b)), some (.fz (.int c')), L, R, t5, t6, t7, t8, none, none] ∧ FzOl L l2 ∧ FzOl R r2 ∧ apartG xs.length c' l2 r2 = apartG 40 0 a b ∧ l2.length ≤ 10 ∧ r2.length ≤ 10 := fun s5 s6 s7 s8 z1 z2 =>
      ⟨_, dropR l (min (hd0 l).2 (hd0 r).2), dropR r (min (hd0 l).2 (hd0 r).2), _, _, s5, s6, s7, s8, rfl, .inr (by rw [f6]), .inr (by rw [g6]), by rw [hun, if_neg z1, if_neg z2], by omega, by omega⟩
    have q1 := f8 (some (.fz (encR a))) (some (.fz (encR b))) (some (.fz (.int (c + min (hd0 l).2 (hd0 r).2)))) L R (some (.fz (.int (0 + (t : Int))))) (some (.ol false (A ++ [.tuple [.int 0, .int (10 ^ Int.toNat 30)]]))) (some (.ol false (A' ++ [.tuple [.int 0, .int (10 ^ Int.toNat 30)]])))
    have q2 := g8 (some (.fz (encR a))) (some (.fz (encR b))) (some (.fz (.int (c + min (hd0 l).2 (hd0 r).2)))) (some (.ol false (DL ++ T))) R (some (.fz (.int (0 + (t : Int))))) (some (.ol false (A ++ [.tuple [.int 0, .int (10 ^ Int.toNat 30)]]))) (some (.ol false (A' ++ [.tuple [.int 0, .int (10 ^ Int.toNat 30)]])))
    clear f8 g8 f6 g6 hun hr
    refine ⟨_, rfl, ?_⟩
    dsimp only [List.set]
    have n1 : ∀ P : Prop, l = [] → ¬ r = [] → (¬ (l = [] ∧ r = []) → P) → P := fun P _ z k => k fun w => z w.2
    have n2 : ∀ P : Prop, ¬ l = [] → (¬ (l = [] ∧ r = []) → P) → P := fun P z k => k fun w => z w.1
    rcases hL with rfl | rfl <;> rcases hR with rfl | rfl
    all_goals generalize l.map encP = LD at *
    all_goals generalize r.map encP = RD at *
    all_goals generalize hd0 l = hl at *
    all_goals generalize hd0 r = hr' at *
    all_goals and_intros
    all_goals first
      | exact h1 (by assumption) (by assumption)
      | exact h2 (fun w => by first | exact absurd w.1 (by assumption) | exact absurd w.2 (by assumption)) (by assumption)
      | exact fin _ _ _ _ (fun w => by first | exact absurd w.1 (by assumption) | exact absurd w.2 (by assumption)) (fun w => w (by assumption))
  · intro e ⟨c, l, r, L, R, s5, s6, s7, s8, he, hL, hR, hr, l10, r10⟩
    subst he
    all_goals and_intros
    rw [← hr]; rfl
  · exact ⟨0, a, b, _, _, _, _, _, _, rfl, .inl rfl, .inl rfl, rfl, la, lb⟩
end Law

namespace Law
open PySem L2 NS
theorem row_bent {a : Row} (ha : Canon a) : Bent (rch a) fun h => h ∈ endsL 0 a := canon_bent ha fun h h1 hn => by
  have := no_end (r := a) (c := 0) (h := h) ha.nng (by omega) hn
  rw [Int.sub_zero] at this
  exact this
theorem unlike_spec {a b : Row} (ha : Canon a) (hb : Canon b) : UnS (rch a) (rch b) (unlikeG (rch a) (rch b) 0 (setSort (endsL 0 a ++ endsL 0 b))) := by
  have hlt := setSort_lt (endsL 0 a ++ endsL 0 b)
  have hm := setSort_mem (endsL 0 a ++ endsL 0 b)
  have hpos : ∀ x ∈ setSort (endsL 0 a ++ endsL 0 b), 0 ≤ x := fun x hx => by
    rcases List.mem_append.mp ((hm x).mp hx) with h | h
    · exact (ends_le ha.nng h).1
    · exact (ends_le hb.nng h).1
  have hs : (0 :: setSort (endsL 0 a ++ endsL 0 b)).Pairwise (fun x y => x ≤ y) := List.pairwise_cons.mpr ⟨hpos, hlt.imp fun h => Int.le_of_lt h⟩
  have ga := gaps_of (mk := fun h => h ∈ endsL 0 a) _ 0 hs fun h _ hk => (hm h).mpr (List.mem_append_left _ hk)
  have gb := gaps_of (mk := fun h => h ∈ endsL 0 b) _ 0 hs fun h _ hk => (hm h).mpr (List.mem_append_right _ hk)
  obtain ⟨l0, l1⟩ := lastE_ge _ _ hs
  have la : hrs a ≤ lastE 0 (setSort (endsL 0 a ++ endsL 0 b)) := by
    by_cases e : a = []
    · have z : hrs a = 0 := by rw [e]; rfl
      omega
    · have := l1 _ ((hm _).mpr (List.mem_append_left _ (ends_hrs (c := 0) e))); omega
  have lb : hrs b ≤ lastE 0 (setSort (endsL 0 a ++ endsL 0 b)) := by
    by_cases e : b = []
    · have z : hrs b = 0 := by rw [e]; rfl
      omega
    · have := l1 _ ((hm _).mpr (List.mem_append_right _ (ends_hrs (c := 0) e))); omega
  refine unlike_ok (row_bent ha) (row_bent hb) (fun l hl => ?_) (fun l hl => ?_) _ 0 (by omega) ga gb (Int.le_refl _) fun j h1 h2 => ?_
  · rw [rch_whl ha.nng (by omega), rch_whl ha.nng la]
  · rw [rch_whl hb.nng (by omega), rch_whl hb.nng lb]
  · rw [show j = 0 by omega, rch_zero ha.nng, rch_zero hb.nng]
theorem apart_spec {a b : Row} (ha : Canon a) (hb : Canon b) (la : a.length ≤ 10) (lb : b.length ≤ 10) : UnS (rch a) (rch b) (apartG 40 0 a b) :=
  apart_ok 40 0 a b ha hb (by omega) (by omega) (fun j h1 h2 => by rw [show j = 0 by omega, rch_zero ha.nng, rch_zero hb.nng]) (fun x hx => by rw [rch_zero ha.nng, Int.zero_add, Int.zero_add]) (fun x hx => by rw [rch_zero hb.nng, Int.zero_add, Int.zero_add])
theorem unlike_is {a b : Row} (ha : Canon a) (hb : Canon b) (la : a.length ≤ 10) (lb : b.length ≤ 10) : unlikeG (rch a) (rch b) 0 (setSort (endsL 0 a ++ endsL 0 b)) = apartG 40 0 a b ∧ unlikeG (rch b) (rch a) 0 (setSort (endsL 0 b ++ endsL 0 a)) = apartG 40 0 a b :=
  ⟨(unlike_spec ha hb).one (apart_spec ha hb la lb), (unlike_spec hb ha).one (apart_spec ha hb la lb).symm⟩
theorem apart_bound {a b : Row} (ha : Canon a) (hb : Canon b) (la : a.length ≤ 10) (lb : b.length ≤ 10) {h : Int} (e : apartG 40 0 a b = some h) : 0 ≤ h ∧ h ≤ max (hrs a) (hrs b) + 1 := by
  have u := apart_spec ha hb la lb
  rw [e] at u
  obtain ⟨u1, u2, u3⟩ := u
  refine ⟨by omega, ?_⟩
  by_cases c : h ≤ max (hrs a) (hrs b) + 1
  · exact c
  · have na := hrs_nng ha.nng
    have nb := hrs_nng hb.nng
    have z := u2 (h - 1) (by omega) (by omega)
    rw [rch_whl ha.nng (by omega), rch_whl hb.nng (by omega)] at z
    rw [rch_whl ha.nng (by omega), rch_whl hb.nng (by omega)] at u3
    exact absurd z u3
theorem law_capped_0 {r : Row} (hc : Canon r) (hs : ∀ p ∈ r, Sml p) (hl : r.length ≤ 10) : m_law_capped [.v (encR r), .v (.int 0)] = some (.d (.tuple [])) := by
  apply runT_i
  all_goals and_intros
  refine for_map (fun (xs : List (Int × Int)) e => ∃ (G : List Int) (c : Int) (s4 s5 s6 s7 s8 s9 : Option OV), e = [some (.fz (encR r)), some (.fz (.int 0)), some (.ol false (G.map .int)), some (.fz (.int c)), s4, s5, s6, s7, s8, s9, none] ∧ (∀ p ∈ xs, 0 < p.1 ∧ 0 < p.2) ∧ 0 ≤ c ∧ G.length + xs.length ≤ 31) ?_ ?_ r ?_
  · intro p xs e ⟨G, c, s4, s5, s6, s7, s8, s9, he, hx, c0, hg⟩
    subst he
    rw [List.length_cons] at hg
    obtain ⟨p1, p2⟩ := hx p (by simp)
    have hbase := rowreach_x (row := r) (h := c) hs c0
    have gl : G.length ≤ 31 := by omega
    generalize rch r c = v at *
    refine ⟨_, rfl, ?_⟩
    dsimp only [List.set]
    all_goals and_intros
    exact ⟨G ++ [c + p.2], _, _, _, _, _, _, _, by rw [List.map_append]; rfl, fun q hq => hx q (by simp [hq]), by omega, by simp; omega⟩
  · intro e ⟨G, c, s4, s5, s6, s7, s8, s9, he, hx, c0, hg⟩
    subst he
    have hb : decide ((0 : Int) < 0) = false := by decide
    all_goals and_intros
    rfl
  · exact ⟨[0], 0, _, _, _, _, _, _, rfl, hc.pos, by omega, by simp; omega⟩
/-! ### laid out and capped -/
theorem lay_all : ∀ {r : Row}, Nng r → (layR r).sum = whl r
  | [], _ => rfl
  | p :: r, h => by
    have p2 := h p (by simp)
    show (List.replicate p.2.toNat p.1 ++ layR r).sum = p.1 * p.2 + whl r
    rw [List.sum_append, sum_rep, lay_all h.tail, show ((p.2.toNat : Nat) : Int) = p.2 by omega]
def capT (r : Row) (cap : Int) : Row := if cap = 0 then [] else capR r cap
theorem capT_ok {r : Row} {cap : Int} (hc : Canon r) (h0 : 0 ≤ cap) : Canon (capT r cap) ∧ ∀ l, 0 ≤ l → rch (capT r cap) l = min (rch r l) (cap * l) := by
  unfold capT
  by_cases z : cap = 0
  · rw [if_pos z]
    refine ⟨Canon.nil, fun l hl => ?_⟩
    rw [z, Int.zero_mul]
    have : 0 ≤ rch r l := by
      have := (row_bent hc).low (d := 0) l.toNat fun j h1 h2 => by have := (hc.inc h1).1; omega
      rw [show ((l.toNat : Nat) : Int) = l by omega] at this
      omega
    show 0 = _
    omega
  · rw [if_neg z]
    obtain ⟨_, _, a, b, _⟩ := cap_ok hc (show 0 < cap by omega)
    exact ⟨a, b⟩
theorem capped_y {r : Row} {cap : Int} (hc : Canon r) (hs : ∀ p ∈ r, Sml p) (hl : r.length ≤ 10) (h0 : 0 ≤ cap) (h1 : cap ≤ 1000000000000) : m_capped [.v (encR r), .v (.int cap)] = some (.d (encR (capT r cap))) ∧ m_law_capped [.v (encR r), .v (.int cap)] = some (.d (encR (capT r cap))) := by
  unfold capT
  by_cases z : cap = 0
  · rw [if_pos z, z]
    exact ⟨capped_0, law_capped_0 hc hs hl⟩
  · rw [if_neg z]
    exact ⟨capped_x hc hs (by omega) (by omega) h1, law_capped_x hc hs hl (by omega) h1⟩
theorem capT_fine {r : Row} {cap : Int} (hc : Canon r) (hs : ∀ p ∈ r, Sml p) (hl : r.length ≤ 10) (h0 : 0 ≤ cap) (h1 : cap ≤ 1000000000000) : (∀ p ∈ capT r cap, 0 ≤ p.1 ∧ p.1 ≤ 1000000000000 ∧ 0 ≤ p.2 ∧ p.2 ≤ 10000000000000000000000000000000) ∧ (capT r cap).length ≤ 12 := by
  unfold capT
  by_cases z : cap = 0
  · rw [if_pos z]; simp
  · rw [if_neg z]
    obtain ⟨_, _, a, _, b, c, d⟩ := cap_ok hc (show 0 < cap by omega)
    have k := (hcap_le hc hs (by omega) (show 0 < cap by omega)).2
    have w := (sml_hrs hs).2
    have gen : ∀ r : Row, Nng r → ∀ p ∈ r, p.2 ≤ hrs r := fun r => by
      induction r with
      | nil => intro _ p hp; cases hp
      | cons a r ih =>
        intro hn p hp
        have := hrs_nng hn.tail
        have := hn a (by simp)
        rw [hrs_cons]
        rcases List.mem_cons.mp hp with rfl | hp
        · omega
        · have := ih hn.tail p hp; omega
    refine ⟨fun p hp => ?_, by omega⟩
    have p1 := a.pos p hp
    have p2 := c p hp
    have p3 := gen _ a.nng p hp
    omega
theorem fine_big {r : Row} (hs : ∀ p ∈ r, 0 ≤ p.1 ∧ p.1 ≤ 10000000000000000000000000000000000000000 ∧ 0 ≤ p.2 ∧ p.2 ≤ 10000000000000000000000000000000000000000) (hl : r.length ≤ 100) : Fine 2 90000 (encR r) := by
  refine (Fine.tup (n := 1) (m := 809) (fun d hd => ?_)).up (by omega) (by rw [List.length_map]; omega)
  obtain ⟨p, hp, rfl⟩ := List.mem_map.mp hd
  obtain ⟨a, b, c, e⟩ := hs p hp
  refine (Fine.tup (n := 0) (m := 401) (fun d hd => ?_)).up (by omega) (by simp)
  simp only [List.mem_cons, List.mem_nil_iff, or_false] at hd
  rcases hd with rfl | rfl
  · exact fine_int (by omega) (by omega)
  · exact fine_int (by omega) (by omega)
def diffL (g : Int → Int) : List Int := (List.range 201).map fun (k : Nat) => g ((k : Int) + 1) - g (k : Int)
theorem diff_sum (g : Int → Int) (h0 : g 0 = 0) : ∀ k : Nat, k ≤ 201 → sumL (diffL g) k = g k
  | 0, _ => h0.symm
  | k + 1, hk => by
    rw [sumL_succ, diff_sum g h0 k (by omega)]
    unfold diffL
    rw [List.getD_eq_getElem?_getD, List.getElem?_map, List.getElem?_range (by omega)]
    show g k + (g (k + 1) - g k) = g ((k + 1 : Nat) : Int)
    rw [show ((k + 1 : Nat) : Int) = (k : Int) + 1 by omega]
    omega
theorem sortN_self' {N : List Int} (h : Desc N) : sortN N = N := (sortN_is (List.Perm.refl N) h).symm
theorem up_is {t : Row} (ht : Canon t) (h200 : ∀ k : Int, 201 ≤ k → rch t k = rch t 201) : posF (upF [] (sortN (diffL (rch t)))) = t := by
  have b := row_bent ht
  have gd : ∀ k : Nat, (diffL (rch t)).getD k 0 = if k < 201 then rch t (k + 1) - rch t k else 0 := fun k => by
    by_cases c : k < 201
    · rw [if_pos c]
      unfold diffL
      rw [List.getD_eq_getElem?_getD, List.getElem?_map, List.getElem?_range c]; rfl
    · rw [if_neg c]
      exact getD_out (by unfold diffL; rw [List.length_map, List.length_range]; omega)
  have hd : Desc (diffL (rch t)) := desc_of fun k => by
    rw [gd, gd]
    have c := b.conc (k : Int) (by omega)
    have m := b.mono (k : Int) (by omega)
    by_cases c1 : k + 1 < 201
    · rw [if_pos c1, if_pos (by omega), show ((k + 1 : Nat) : Int) = (k : Int) + 1 by omega, show (k : Int) + 1 + 1 = (k : Int) + 2 by omega]
      exact c
    · rw [if_neg c1]
      split <;> omega
  have hp : ∀ s ∈ diffL (rch t), 0 ≤ s := pos_of fun k => by
    rw [gd]
    have m := b.mono (k : Int) (by omega)
    split <;> omega
  rw [sortN_self' hd]
  refine rowUp_is ht hd hp fun k => ?_
  by_cases c : k ≤ 201
  · exact (diff_sum _ b.zero k c).symm
  · rw [h200 _ (by omega)]
    have e := diff_sum (rch t) b.zero 201 (Nat.le_refl _)
    have l : (diffL (rch t)).length = 201 := by unfold diffL; rw [List.length_map, List.length_range]
    unfold sumL at e ⊢
    rw [List.take_of_length_le (by omega)] at e ⊢
    exact e.symm
end Law

namespace Law
open PySem L2 NS
section
variable {r : Row} {s0 s1 s2 s3 s4 s5 s6 s7 s8 s9 s10 s11 s12 s13 s14 s15 : Option OV}
theorem lc_A (hl : r.length ≤ 100) : lcGo (.tp [(.nm 12), (.nm 13)]) yesT (slotE 12) [12, 13] (r.map encP) [s0, s1, s2, s3, s4, s5, s6, s7, s8, s9, s10, s11, none, none, s14, s15] [] = some ((r.map fun p => p.1).map PyData.int, [s0, s1, s2, s3, s4, s5, s6, s7, s8, s9, s10, s11, none, none, s14, s15]) := by
  refine lc_mapI (fun _ => True) _ r (fun _ _ => trivial) (by omega) (fun p _ => ⟨_, rfl, ?_⟩)
  dsimp only [List.set]
  apply Ev1.i
  · and_intros
  · exact ⟨rfl, rfl⟩
theorem lc_B (hl : r.length ≤ 100) : lcGo (.tp [(.nm 12), (.nm 13)]) yesT (layOf (tupR (consA (opOf (slotE 12)) (consA (opOf (layOf (bin2 gAdd (slotP 13) (opOf (cstE (.int 1)))))) nilA)))) [12, 13] (r.map encP) [s0, s1, s2, s3, s4, s5, s6, s7, s8, s9, s10, s11, none, none, s14, s15] [] = some ((r.map fun p => (p.1, p.2 + 1)).map encP, [s0, s1, s2, s3, s4, s5, s6, s7, s8, s9, s10, s11, none, none, s14, s15]) := by
  rw [List.map_map]
  refine lc_map0 (fun _ => True) _ r (fun _ _ => trivial) (by omega) (fun p _ => ⟨_, rfl, ?_⟩)
  dsimp only [List.set]
  apply Ev1.i
  · and_intros
  · exact ⟨rfl, rfl⟩
def laidL (g : Int → Int) : List Int := (List.range 202).map fun (k : Nat) => g (k : Int)
theorem lc_L {cap : Int} (hs : ∀ p ∈ r, Sml p) (h0 : 0 ≤ cap) (h1 : cap ≤ 1000000000000) : lcGo (.nm 14) yesT (layOf (callN gMin2 (consA (opOf (layOf (callT 2 m_law_row_reach (consA (slotF 4) (consA (slotF 14) nilA))))) (consA (opOf (layOf (bin2 gMul (slotP 6) (slotP 14)))) nilA)))) [14] (rangeD 0 (Int.toNat 202)) [s0, s1, s2, s3, some (.fz (encR r)), s5, some (.fz (.int cap)), s7, s8, s9, s10, s11, s12, s13, none, s15] [] = some ((laidL fun h => min (rch r h) (cap * h)).map PyData.int, [s0, s1, s2, s3, some (.fz (encR r)), s5, some (.fz (.int cap)), s7, s8, s9, s10, s11, s12, s13, none, s15]) := by
  unfold rangeD
  refine lc_mapI (fun k => k < 202) _ (List.range (Int.toNat 202)) (fun k hk => by have := List.mem_range.mp hk; exact this) (by simp) (fun k hk => ⟨_, rfl, ?_⟩)
  have st := rowreach_x (row := r) (h := 0 + (k : Int)) hs (by omega)
  dsimp only [List.set]
  apply Ev1.i
  · and_intros
  · refine ⟨?_, rfl⟩
    show PyData.int (min (rch r (0 + (k : Int))) (cap * (0 + (k : Int)))) = PyData.int (min (rch r (k : Int)) (cap * (k : Int)))
    rw [Int.zero_add]
theorem zip_laid (g : Int → Int) : zipD ((laidL g).map PyData.int) (((laidL g).drop 1).map PyData.int) = ((List.range 201).map fun (k : Nat) => ((g (k : Int), g ((k : Int) + 1)) : Int × Int)).map encP := by
  unfold zipD laidL
  apply List.ext_getElem
  · simp
  · intro i h1 h2
    simp only [List.getElem_zipWith, List.getElem_map, List.getElem_range, List.getElem_drop]
    rw [show ((1 + i : Nat) : Int) = (i : Int) + 1 by omega]
theorem lc_Z (g : Int → Int) : lcGo (.tp [(.nm 15), (.nm 10)]) yesT (layOf (bin2 gSub2 (slotP 10) (slotP 15))) [15, 10] (zipD ((laidL g).map PyData.int) (((laidL g).drop 1).map PyData.int)) [s0, s1, s2, s3, s4, s5, s6, s7, s8, s9, none, s11, s12, s13, s14, none] [] = some ((diffL g).map PyData.int, [s0, s1, s2, s3, s4, s5, s6, s7, s8, s9, none, s11, s12, s13, s14, none]) := by
  rw [zip_laid]
  have e : diffL g = ((List.range 201).map fun (k : Nat) => ((g (k : Int), g ((k : Int) + 1)) : Int × Int)).map fun q => q.2 - q.1 := by unfold diffL; rw [List.map_map]; rfl
  rw [e]
  refine lc_mapI (fun _ => True) _ _ (fun _ _ => trivial) (by simp) (fun p _ => ⟨_, rfl, ?_⟩)
  dsimp only [List.set]
  apply Ev1.i
  · and_intros
  · exact ⟨rfl, rfl⟩
theorem lc_R {f n : Nat} {b : List D} (hb : BagD (f + 20 * n) b) (hn : n ≤ 10) :
    ∃ (rows : List Row) (b' : List D), lcGo (.nm 11) yesT (layOf (callU 1 m_law_some_row (consA (slotP 1) nilA))) [11] (rangeD 0 n) [s0, some (.ol false b), s2, s3, s4, s5, s6, s7, s8, s9, s10, none, s12, s13, s14, s15] [] = some (rows.map encR, [s0, some (.ol false b'), s2, s3, s4, s5, s6, s7, s8, s9, s10, none, s12, s13, s14, s15]) ∧ BagD f b' ∧ rows.length = n ∧ ∀ r ∈ rows, Lim 1000000000000 1000000000000000 4 r := by
  obtain ⟨acc, e', q1, b', rows, q2, q3, q4, q5, q6⟩ := lc_inv (tg := .nm 11) (elt := layOf (callU 1 m_law_some_row (consA (slotP 1) nilA))) (own := [11]) (fun ds acc e => ∃ b4 rows, e = [s0, some (.ol false b4), s2, s3, s4, s5, s6, s7, s8, s9, s10, none, s12, s13, s14, s15] ∧ BagD (f + 20 * ds.length) b4 ∧ acc = List.map encR rows ∧ (∀ r ∈ rows, Lim 1000000000000 1000000000000000 4 r) ∧ rows.length + ds.length = n) (fun d ds acc e ⟨b4, rows, he, hb, ha, hr, hl2⟩ => by
      subst he ha
      simp only [List.length_cons] at hl2 hb
      obtain ⟨y, b5, h5, k5, y0⟩ := some_row_x (f := f + 20 * ds.length) (hb.down (by omega))
      refine ⟨_, rfl, by simp; omega, ?_⟩
      dsimp only [List.set]
      apply Ev1.i
      · and_intros
      · exact ⟨b5, rows ++ [y], rfl, k5, by simp, fun x hx => by
          rcases List.mem_append.mp hx with hx | hx
          · exact hr x hx
          · rw [List.mem_singleton.mp hx]; exact y0, by simp; omega⟩) (ds := rangeD 0 n) (e := [s0, some (.ol false b), s2, s3, s4, s5, s6, s7, s8, s9, s10, none, s12, s13, s14, s15]) ⟨b, [], rfl, hb.down (by unfold rangeD; simp), rfl, by simp, by unfold rangeD; simp⟩
  subst q2 q4
  exact ⟨rows, b', q1, by simpa using q3, by simpa using q6, q5⟩
end
theorem cut_last (b : List D) (d : D) : cutD (b ++ [d]) (some (-1)) none = [d] := by
  unfold cutD
  have e : HT.sIx (b ++ [d]).length 0 (some (-1)) = b.length := by
    rw [List.length_append, List.length_singleton]
    unfold HT.sIx
    simp only
    split <;> omega
  have e2 : HT.sIx (b ++ [d]).length (b ++ [d]).length none = (b ++ [d]).length := rfl
  rw [e, e2, List.length_append, List.length_singleton, show b.length + 1 - b.length = 1 by omega, List.drop_left' rfl]
  rfl
theorem tail_facts (r : Row) : ∃ RB RL : Row, r = RB ++ RL ∧ RL.length ≤ 1 ∧ (RL = [] → r = []) ∧ gSlA (.tuple (r.map encP)) none (some (-1)) = some (.d (.tuple (RB.map encP))) ∧ gSlA (.tuple (r.map encP)) (some (-1)) none = some (.d (.tuple (RL.map encP))) := by
  rcases List.eq_nil_or_concat r with rfl | ⟨b, q, rfl⟩
  · exact ⟨[], [], rfl, by simp, fun _ => rfl, rfl, rfl⟩
  · rw [List.concat_eq_append]
    refine ⟨b, [q], rfl, by simp, fun z => (by cases z), ?_, ?_⟩
    · show some (Res.d (PyData.tuple (cutD (List.map encP (b ++ [q])) none (some (-1))))) = _
      rw [List.map_append, show List.map encP [q] = [encP q] from rfl, cut_butlast]
    · show some (Res.d (PyData.tuple (cutD (List.map encP (b ++ [q])) (some (-1)) none))) = _
      rw [List.map_append, show List.map encP [q] = [encP q] from rfl, cut_last]
/-- whether a run of ones may follow -/
theorem ones_facts {r : Row} (hc : Canon r) {env : NS.Env} (he : env[4]? = some (some (.fz (encR r)))) : ∃ (tt : Bool) (n01 : Int) (X : Row), orV (bin2 gEq (slotP 4) (opOf (layOf (tupR nilA)))) (bin2 (gCmp fun i j => decide (j < i)) (opOf (layOf (bin2 gIx (opOf (layOf (bin2 gIx (slotP 4) (opOf (layOf (negR (cstE (.int 1)))))))) (opOf (cstE (.int 0)))))) (opOf (cstE (.int 1)))) env = some (.d (.bool tt), env) ∧ gInt [.bool tt] = some (.d (.int n01)) ∧ gMulT (.tuple [.tuple [.int 1, .int 3]]) (.int n01) = some (.d (.tuple (X.map encP))) ∧ Canon (r ++ X) ∧ (X = [] ∨ X = [(1, 3)]) := by
  have hs : slotP 4 env = some (.v (encR r), env) := E_slotP he
  rcases List.eq_nil_or_concat r with rfl | ⟨b, q, rfl⟩
  · refine ⟨true, 1, [(1, 3)], ?_, rfl, rfl, ⟨by simp, by simp⟩, .inr rfl⟩
    have h1 : bin2 gEq (slotP 4) (opOf (layOf (tupR nilA))) env = some (.d (.bool true), env) := E_bin2 hs (E_opOf (E_layOf (E_tupR E_nilA rfl (by decide)) rfl)) rfl rfl rfl
    unfold orV; rw [h1]; rfl
  · rw [List.concat_eq_append] at *
    have heq : gEq (.tuple (List.map encP (b ++ [q]))) (.tuple []) = some (.d (.bool false)) := by
      have hne : b ++ [q] ≠ [] := by simp
      generalize b ++ [q] = l at *
      cases l with
      | nil => exact absurd rfl hne
      | cons x l =>
        unfold gEq
        rw [rows_shT]
        show some (Res.d (PyData.bool (PyData.eqv (.tuple ((x :: l).map encP)) (.tuple [])))) = _
        simp [PyData.eqv, PyData.eqvAll]
    have h1 : bin2 gEq (slotP 4) (opOf (layOf (tupR nilA))) env = some (.d (.bool false), env) := E_bin2 hs (E_opOf (E_layOf (E_tupR E_nilA rfl (by decide)) rfl)) rfl rfl heq
    have hla : atI (List.map encP (b ++ [q])) (-1) = some (.tuple [.int q.1, .int q.2]) := by rw [List.map_append]; exact atI_last
    have h2 : bin2 (gCmp fun i j => decide (j < i)) (opOf (layOf (bin2 gIx (opOf (layOf (bin2 gIx (slotP 4) (opOf (layOf (negR (cstE (.int 1)))))))) (opOf (cstE (.int 0)))))) (opOf (cstE (.int 1))) env = some (.d (.bool (decide (1 < q.1))), env) :=
      E_bin2 (E_opOf (E_layOf (E_bin2 (E_opOf (E_layOf (E_bin2 hs (E_opOf (d := .int (-1)) rfl) rfl rfl (G_ixT hla)) rfl)) (E_opOf E_cst) rfl rfl (G_ixT (atI_nat (j := 0) rfl))) rfl)) (E_opOf E_cst) rfl rfl rfl
    have h3 : orV (bin2 gEq (slotP 4) (opOf (layOf (tupR nilA)))) (bin2 (gCmp fun i j => decide (j < i)) (opOf (layOf (bin2 gIx (opOf (layOf (bin2 gIx (slotP 4) (opOf (layOf (negR (cstE (.int 1)))))))) (opOf (cstE (.int 0)))))) (opOf (cstE (.int 1)))) env = some (.d (.bool (decide (1 < q.1))), env) := by unfold orV; rw [h1]; dsimp only [Option.bind]; rw [h2]
    by_cases c : 1 < q.1
    · rw [decide_eq_true c] at h3
      refine ⟨true, 1, [(1, 3)], h3, rfl, rfl, ⟨List.pairwise_append.mpr ⟨hc.dec, by simp, fun x hx y hy => ?_⟩, fun x hx => ?_⟩, .inr rfl⟩
      · rw [List.mem_singleton.mp hy]
        rcases List.mem_append.mp hx with hx | hx
        · have := (List.pairwise_append.mp hc.dec).2.2 x hx q (by simp); show (1 : Int) < x.1; omega
        · rw [List.mem_singleton.mp hx]; exact c
      · rcases List.mem_append.mp hx with hx | hx
        · exact hc.pos x hx
        · rw [List.mem_singleton.mp hx]; exact ⟨by decide, by decide⟩
    · rw [decide_eq_false c] at h3
      exact ⟨false, 0, [], h3, rfl, rfl, by rw [List.append_nil]; exact hc, .inl rfl⟩
theorem fine_O {o : Option Int} (h : ∀ x, o = some x → 0 ≤ x ∧ x ≤ 10000000000000000000000000000000000000000) : Fine 0 401 (encO o) := by
  cases o with
  | none => exact Fine.none.up (by omega) (by omega)
  | some x => obtain ⟨a, b⟩ := h x rfl; exact fine_int (by omega) b
theorem run_T {r : Row} {c : Int} (hc : Canon r) (h0 : 0 ≤ c) (h60 : hrs r ≤ 60) (hw : whl r ≤ 200) : m_law_run_up [.v (.list ((diffL fun h => min (rch r h) (c * h)).map .int))] = some (.d (encR (capT r c))) := by
  obtain ⟨t1, t2⟩ := capT_ok hc h0
  have e : diffL (fun h => min (rch r h) (c * h)) = diffL (rch (capT r c)) := by
    unfold diffL
    refine List.map_congr_left fun k _ => ?_
    rw [t2 _ (by omega), t2 _ (by omega)]
  rw [e, run_up_x (by unfold diffL; simp), up_is t1 fun k hk => ?_]
  rw [t2 _ (by omega), t2 _ (by omega), rch_whl hc.nng (by omega), rch_whl hc.nng (by omega)]
  by_cases z : c = 0
  · subst z; simp
  · have := Int.mul_le_mul_of_nonneg_left hk h0
    omega
theorem capT_alike {r : Row} {c : Int} (hc : Canon r) (hs : ∀ p ∈ r, Sml p) (hl : r.length ≤ 10) (h0 : 0 ≤ c) (h1 : c ≤ 1000000000000) : m_law_alike [.v (encR (capT r c)), .v (encR (capT r c))] = some (.d (.bool true)) := by
  obtain ⟨a, b⟩ := capT_fine hc hs hl h0 h1
  refine alike_l (fine_big (fun p hp => ?_) (by omega)) (by omega) (by omega)
  obtain ⟨x1, x2, x3, x4⟩ := a p hp
  exact ⟨x1, by omega, x3, by omega⟩
theorem sl_laid (g : Int → Int) : gSlA (.list ((laidL g).map PyData.int)) (some 1) none = some (.l (((laidL g).drop 1).map PyData.int)) := by
  show some (Res.l (cutD ((laidL g).map PyData.int) (some ((1 : Nat) : Int)) none)) = _
  rw [cut_from, List.map_drop]
theorem law_true (ns : List Int) (h : ns.length ≤ 63) : m_law [.s ns] = some (.d (.bool true)) := by
  obtain ⟨bs, hbag, hb⟩ := bag_l h
  apply runT_i
  all_goals and_intros
  unfold rangeD
  refine for_map (fun (xs : List Nat) e => ∃ (bs : List D) (o10 : Option D) (s2 s3 s4 s5 s6 s7 s8 s9 : Option OV), e = [some (.scr ns), some (.ol false bs), s2, s3, s4, s5, s6, s7, s8, s9, o10.map .fz, none, none, none, none, none] ∧ BagD (400 * xs.length + 10) bs) ?_ ?_ (List.range (Int.toNat 4)) ?_
  · intro turn turns e ⟨bs, o10, s2, s3, s4, s5, s6, s7, s8, s9, he, hb⟩
    subst he
    rw [List.length_cons] at hb
    obtain ⟨v, b1, htk, hb1, v0, v1⟩ := take_l (f := 400 * turns.length + 400) (many := 5) (hb.down (by omega)) (by omega) (big_of (by decide))
    obtain ⟨rows, b2, hlc1, hb2, hrl, hrows⟩ := lc_R (f := 400 * turns.length + 300) (n := v.toNat) (b := b1) (s0 := some (.scr ns)) (s2 := some (.fz (.int (0 + (turn : Int))))) (s3 := s3) (s4 := s4) (s5 := s5) (s6 := s6) (s7 := s7) (s8 := s8) (s9 := s9) (s10 := o10.map .fz) (s12 := none) (s13 := none) (s14 := none) (s15 := none) (hb1.down (by omega)) (by omega)
    have hrc : ∀ r ∈ rows, Canon r := fun r hr => (hrows r hr).can
    have hrsm : ∀ r ∈ rows, ∀ p ∈ r, Sml p := fun r hr => (hrows r hr).sml (by omega) (by omega)
    have hr4 : ∀ r ∈ rows, r.length ≤ 4 := fun r hr => (hrows r hr).len
    have hadd1 := added_x (d := .list (rows.map encR)) rfl hrc hrsm hr4 (by omega)
    have hadd2 := added_x (d := .tuple (rows.map encR)) rfl hrc hrsm hr4 (by omega)
    have hadd3 := law_added_x hrc hrsm hr4 (by omega)
    obtain ⟨ac, ar, al, at1, ah⟩ := add_ok hrc
    have hal0 : m_law_alike [.v (.list [encR (addR rows), encR (addR rows)]), .v (.list (List.replicate (Int.toNat 2) (encR (addR rows))))] = some (.d (.bool true)) := by
      have hs1 : sumR rows 1 ≤ 1000000000000 * (rows.length : Int) := by
        clear hlc1 hadd1 hadd2 hadd3 ac ar al at1 ah hrl hr4 hrsm
        induction rows with
        | nil => simp [sumR]
        | cons r rows ih =>
          have i := ih (fun q hq => hrows q (by simp [hq])) fun q hq => hrc q (by simp [hq])
          have hr := hrows r (by simp)
          rw [sumR_cons, hr.can.one, List.length_cons]
          have : fst0 r ≤ 1000000000000 := by
            cases r with
            | nil => show (0 : Int) ≤ _; omega
            | cons p r => exact hr.top p (by simp)
          omega
      have hh := ah 1000000000000000 (fun r hr => (hrows r hr).hr) (by omega)
      have gen : ∀ r : Row, Nng r → ∀ p ∈ r, p.2 ≤ Law.hrs r := fun r => by
        induction r with
        | nil => intro _ p hp; cases hp
        | cons a r ih =>
          intro hn p hp
          have := hrs_nng hn.tail
          have := hn a (by simp)
          show p.2 ≤ a.2 + Law.hrs r
          rcases List.mem_cons.mp hp with rfl | hp
          · omega
          · have := ih hn.tail p hp; omega
      have hae := allE_len hr4
      have hf : Fine 2 90000 (encR (addR rows)) := fine_big (fun p hp => by
        have p1 := ac.pos p hp
        have p2 := at1 p hp
        have p3 := gen _ ac.nng p hp
        omega) (by omega)
      refine alike_l (n := 3) (m := 200000) ((Fine.list (n := 2) (m := 90000) (fun d hd => ?_)).up (by omega) (by simp)) (by omega) (by omega)
      simp only [List.mem_cons, List.mem_nil_iff, or_false] at hd
      rcases hd with rfl | rfl
      · exact hf
      · exact hf
    obtain ⟨r, b3, hrow, hb3, hlim⟩ := some_row_x (f := 400 * turns.length + 280) (hb2.down (by omega))
    have hsm := hlim.sml (by omega) (by omega)
    have hlenR := hlim.len
    have hcan := hlim.can
    have f0 := hlim.can.fst
    have ftop : fst0 r ≤ 1000000000000 := by
      cases r with
      | nil => show (0 : Int) ≤ _; omega
      | cons p r => exact hlim.top p (by simp)
    have hlcA := lc_A (r := r) (s0 := some (.scr ns)) (s1 := some (.ol false b3)) (s2 := some (.fz (.int (0 + (turn : Int))))) (s3 := some (.fz (.list (rows.map encR)))) (s4 := some (.fz (encR r))) (s5 := s5) (s6 := s6) (s7 := s7) (s8 := s8) (s9 := s9) (s10 := o10.map .fz) (s11 := none) (s14 := none) (s15 := none) (by omega)
    have hst0 : atI ((r.map fun p => p.1).map PyData.int ++ [.int 0]) 0 = some (.int (fst0 r)) := by
      cases r with
      | nil => rfl
      | cons p r => exact atI_nat (j := 0) rfl
    have hmem : ∀ d ∈ (r.map fun p => p.1).map PyData.int ++ [PyData.int 0], ∃ z : Int, d = .int z ∧ 0 ≤ z ∧ z ≤ 1000000000000 := fun d hd => by
      rcases List.mem_append.mp hd with m | m
      · obtain ⟨z, hz, rfl⟩ := List.mem_map.mp m
        obtain ⟨p, hp, rfl⟩ := List.mem_map.mp hz
        have := hsm p hp
        exact ⟨_, rfl, this.1, this.2.1⟩
      · exact ⟨0, by simpa using m, by omega, by omega⟩
    have hlA : ((r.map fun p => p.1).map PyData.int).length ≤ 4 := by simp; omega
    have hsl0 : 0 < ((r.map fun p => p.1).map PyData.int ++ [PyData.int 0]).length := by simp
    have hsl1 : ((r.map fun p => p.1).map PyData.int ++ [PyData.int 0]).length ≤ 1000000 := by simp; omega
    generalize (r.map fun p => p.1).map PyData.int = AD at *
    obtain ⟨d1, c1, hs1, hc1, m1⟩ := some_l (f := 400 * turns.length + 279) (ds := AD ++ [.int 0]) hb3 hsl0 hsl1
    obtain ⟨z1, rfl, z10, z11⟩ := hmem d1 m1
    obtain ⟨d2, c2, hs2, hc2, m2⟩ := some_l (f := 400 * turns.length + 278) (ds := AD ++ [.int 0]) hc1 hsl0 hsl1
    obtain ⟨z2, rfl, z20, z21⟩ := hmem d2 m2
    obtain ⟨d3, c3, hs3, hc3, m3⟩ := some_l (f := 400 * turns.length + 277) (ds := AD ++ [.int 0]) hc2 hsl0 hsl1
    obtain ⟨z3, rfl, z30, z31⟩ := hmem d3 m3
    have e12 : (10 : Int) ^ Int.toNat 12 = 1000000000000 := by decide
    obtain ⟨z4, c4, hs4, hc4, z40, z41⟩ := take_l (f := 400 * turns.length + 276) (many := min (fst0 r + 2) (10 ^ Int.toNat 12)) hc3 (by omega) (big_of (by omega))
    obtain ⟨r3, c5, hrow3, hc5, hlim3⟩ := some_row_x (f := 400 * turns.length + 200) (hc4.down (by omega))
    obtain ⟨RB, RL, hre, hRL1, hRL2, hcutB, hcutL⟩ := tail_facts r
    have hsm3 := hlim3.sml (by omega) (by omega)
    have hlen3 := hlim3.len
    have hRlen : RB.length + RL.length ≤ 4 := by rw [hre, List.length_append] at hlenR; exact hlenR
    -- the rows that are held against the first
    have hcB : Canon RB ∧ ∀ p ∈ RB, Sml p := by
      rw [hre] at hcan hsm
      exact ⟨(canon_app hcan).1, fun p hp => hsm p (by simp [hp])⟩
    have hcN : Canon (RB ++ RL.map fun p => (p.1, p.2 + 1)) ∧ ∀ p ∈ RB ++ RL.map fun p => (p.1, p.2 + 1), Sml p := by
      rw [hre] at hcan
      have hpw := List.pairwise_append.mp hcan.dec
      refine ⟨⟨List.pairwise_append.mpr ⟨hpw.1, ?_, fun x hx y hy => ?_⟩, fun p hp => ?_⟩, fun p hp => ?_⟩
      · rw [List.pairwise_map]; exact hpw.2.1.imp fun h => h
      · obtain ⟨q, hq, rfl⟩ := List.mem_map.mp hy
        exact hpw.2.2 x hx q hq
      · rcases List.mem_append.mp hp with hp | hp
        · exact hcan.pos p (by simp [hp])
        · obtain ⟨q, hq, rfl⟩ := List.mem_map.mp hp
          have := hcan.pos q (by simp [hq])
          exact ⟨this.1, by show 0 < q.2 + 1; omega⟩
      · rcases List.mem_append.mp hp with hp | hp
        · exact hcB.2 p hp
        · obtain ⟨q, hq, rfl⟩ := List.mem_map.mp hp
          have a1 := hsm q (by rw [hre]; simp [hq])
          have a2 := hlim.hr
          have a3 : q.2 ≤ hrs r := by
            have gen : ∀ r : Row, Nng r → ∀ p ∈ r, p.2 ≤ Law.hrs r := fun r => by
              induction r with
              | nil => intro _ p hp; cases hp
              | cons a r ih =>
                intro hn p hp
                have := hrs_nng hn.tail
                have := hn a (by simp)
                rw [hrs_cons]
                rcases List.mem_cons.mp hp with rfl | hp
                · omega
                · have := ih hn.tail p hp; omega
            exact gen r hlim.can.nng q (by rw [hre]; simp [hq])
          obtain ⟨x1, x2, x3, x4⟩ := a1
          exact ⟨x1, x2, by show 0 ≤ q.2 + 1; omega, by show q.2 + 1 ≤ _; omega⟩
    have hm12 : ∀ x ∈ [0, z1, min (10 ^ Int.toNat 12 - 1) (z2 + 1), max 0 (z3 - 1), z4], 0 ≤ x ∧ x ≤ (1000000000000 : Int) := by
      rw [e12]
      intro x hx
      simp only [List.mem_cons, List.mem_nil_iff, or_false] at hx
      omega
    refine ⟨_, rfl, ?_⟩
    dsimp only [List.set]
    all_goals and_intros
    show NS.Ends (forGo _ _ (List.map PyData.int [0, z1, min (10 ^ Int.toNat 12 - 1) (z2 + 1), max 0 (z3 - 1), z4]) _) _
    generalize [0, z1, min (10 ^ Int.toNat 12 - 1) (z2 + 1), max 0 (z3 - 1), z4] = CS at *
    refine for_map (fun (xs : List Int) e => ∃ (s6 s7 s8 : Option OV), e = [some (.scr ns), some (.ol false c4), some (.fz (.int (0 + (turn : Int)))), some (.fz (.list (rows.map encR))), some (.fz (encR r)), some (.fz (.list (AD ++ [.int 0]))), s6, s7, s8, s9, o10.map .fz, none, none, none, none, none] ∧ ∀ x ∈ xs, 0 ≤ x ∧ x ≤ 1000000000000) ?_ ?_ CS ?_
    · intro c cs e ⟨s6, s7, s8, he, hcs⟩
      subst he
      obtain ⟨k0, k1⟩ := hcs c (by simp)
      have hcs' := fun x hx => hcs x (List.mem_cons_of_mem c hx)
      obtain ⟨hcp1, hcp2⟩ := capped_y hcan hsm (by omega) k0 k1
      have hala := capT_alike hcan hsm (by omega) k0 k1
      have hstm := steps_many_x (row := r) (by omega)
      have fin : ∀ (a b c' : Option OV), ∃ s6' s7' s8' : Option OV, [some (OV.scr ns), some (.ol false c4), some (.fz (.int (0 + (turn : Int)))), some (.fz (.list (rows.map encR))), some (.fz (encR r)), some (.fz (.list (AD ++ [.int 0]))), a, b, c', s9, o10.map .fz, none, none, none, none, none] = [some (.scr ns), some (.ol false c4), some (.fz (.int (0 + (turn : Int)))), some (.fz (.list (rows.map encR))), some (.fz (encR r)), some (.fz (.list (AD ++ [.int 0]))), s6', s7', s8', s9, o10.map .fz, none, none, none, none, none] ∧ ∀ x ∈ cs, 0 ≤ x ∧ x ≤ 1000000000000 := fun a b c' => ⟨a, b, c', rfl, hcs'⟩
      by_cases c60 : hrs r ≤ 60
      · have hlaid := laid_x hcan c60
        have hsum : gSum [.list ((layR r).map .int)] = some (.d (.int (whl r))) := by rw [← lay_all hcan.nng]; exact G_sum
        by_cases cw : whl r ≤ 200
        · have hlcL := lc_L (r := r) (cap := c) (s0 := some (.scr ns)) (s1 := some (.ol false c4)) (s2 := some (.fz (.int (0 + (turn : Int))))) (s3 := some (.fz (.list (rows.map encR)))) (s5 := some (.fz (.list (AD ++ [.int 0])))) (s7 := some (.fz (encR (capT r c)))) (s8 := s8) (s9 := s9) (s10 := o10.map .fz) (s11 := none) (s12 := none) (s13 := none) (s15 := none) hsm k0 k1
          have hsll := sl_laid fun h => min (rch r h) (c * h)
          have hlcZ := lc_Z (s0 := some (.scr ns)) (s1 := some (.ol false c4)) (s2 := some (.fz (.int (0 + (turn : Int))))) (s3 := some (.fz (.list (rows.map encR)))) (s4 := some (.fz (encR r))) (s5 := some (.fz (.list (AD ++ [.int 0])))) (s6 := some (.fz (.int c))) (s7 := some (.fz (encR (capT r c)))) (s9 := s9) (s8 := some (.fz (.list ((laidL fun h => min (rch r h) (c * h)).map PyData.int)))) (s11 := none) (s12 := none) (s13 := none) (s14 := none) fun h => min (rch r h) (c * h)
          have hrun := run_T (c := c) hcan k0 c60 cw
          refine ⟨_, rfl, ?_⟩
          dsimp only [List.set]
          all_goals and_intros
          all_goals first | exact fin _ _ _ | omega | skip
        · refine ⟨_, rfl, ?_⟩
          dsimp only [List.set]
          all_goals and_intros
          all_goals first | exact fin _ _ _ | omega
      · refine ⟨_, rfl, ?_⟩
        dsimp only [List.set]
        all_goals and_intros
        all_goals first | exact fin _ _ _ | omega
    · intro e ⟨s6, s7, s8, he, _⟩
      subst he
      have hlcB := lc_B (r := RL) (s0 := some (.scr ns)) (s1 := some (.ol false c4)) (s2 := some (.fz (.int (0 + (turn : Int))))) (s3 := some (.fz (.list (rows.map encR)))) (s4 := some (.fz (encR r))) (s5 := some (.fz (.list (AD ++ [.int 0])))) (s6 := s6) (s7 := s7) (s8 := s8) (s9 := s9) (s10 := o10.map .fz) (s11 := none) (s14 := none) (s15 := none) (by omega)
      obtain ⟨tt, n01, X, ho1, ho2, ho3, hoc, hoX⟩ := ones_facts hcan (env := [some (.scr ns), some (.ol false c5), some (.fz (.int (0 + (turn : Int)))), some (.fz (.list (rows.map encR))), some (.fz (encR r)), some (.fz (.list (AD ++ [.int 0]))), s6, s7, s8, some (.fz (.tuple (RB.map encP ++ (RL.map fun p => (p.1, p.2 + 1)).map encP))), o10.map .fz, none, none, none, none, none]) rfl
      have hXl : X.length ≤ 1 := by rcases hoX with z | z <;> rw [z] <;> simp
      have hXs : ∀ p ∈ r ++ X, Sml p := fun p hp => by
        rcases List.mem_append.mp hp with hp | hp
        · exact hsm p hp
        · rcases hoX with z | z
          · rw [z] at hp; cases hp
          · rw [z, List.mem_singleton] at hp; rw [hp]; unfold Sml; omega
      have hall : ∀ q ∈ [r, RB ++ RL.map (fun p => (p.1, p.2 + 1)), r3, RB, r ++ X], Canon q ∧ (∀ p ∈ q, Sml p) ∧ q.length ≤ 10 := fun q hq => by
        simp only [List.mem_cons, List.mem_nil_iff, or_false] at hq
        rcases hq with rfl | rfl | rfl | rfl | rfl
        · exact ⟨hcan, hsm, by omega⟩
        · exact ⟨hcN.1, hcN.2, by rw [List.length_append, List.length_map]; omega⟩
        · exact ⟨hlim3.can, hsm3, by omega⟩
        · exact ⟨hcB.1, hcB.2, by omega⟩
        · exact ⟨hoc, hXs, by rw [List.length_append]; omega⟩
      all_goals and_intros
      rw [← List.map_append, ← List.map_append]
      show NS.Ends (forGo _ _ (List.map encR [r, RB ++ RL.map (fun p => (p.1, p.2 + 1)), r3, RB, r ++ X]) _) _
      generalize [r, RB ++ RL.map (fun p => (p.1, p.2 + 1)), r3, RB, r ++ X] = QS at *
      refine for_map (fun (xs : List Row) e => ∃ (o10 : Option D) (s9 : Option OV), e = [some (.scr ns), some (.ol false c5), some (.fz (.int (0 + (turn : Int)))), some (.fz (.list (rows.map encR))), some (.fz (encR r)), some (.fz (.list (AD ++ [.int 0]))), s6, s7, s8, s9, o10.map .fz, none, none, none, none, none] ∧ ∀ x ∈ xs, Canon x ∧ (∀ p ∈ x, Sml p) ∧ x.length ≤ 10) ?_ ?_ QS ?_
      · intro q qs e ⟨o10, s9, he, hqs⟩
        subst he
        obtain ⟨qc, qs1, ql⟩ := hqs q (by simp)
        have hqs' := fun x hx => hqs x (List.mem_cons_of_mem q hx)
        have hu1 := first_unlike_x hsm qs1 (by omega) ql
        have hu2 := first_unlike_x qs1 hsm ql (by omega)
        obtain ⟨u1, u2⟩ := unlike_is hcan qc (by omega) ql
        rw [u1] at hu1
        rw [u2] at hu2
        have hfa := first_apart_x (a := r) (b := q) (by omega) ql
        have hal : m_law_alike [.v (.list [encO (apartG 40 0 r q), encO (apartG 40 0 r q)]), .v (.list (List.replicate (Int.toNat 2) (encO (apartG 40 0 r q))))] = some (.d (.bool true)) := by
          have b1 := sml_hrs hsm
          have b2 := sml_hrs qs1
          have hf := fine_O (o := apartG 40 0 r q) fun x hx => by
            have := apart_bound hcan qc (by omega) ql hx
            omega
          refine alike_l (n := 1) (m := 900) ((Fine.list (n := 0) (m := 401) (fun d hd => ?_)).up (by omega) (by simp)) (by omega) (by omega)
          simp only [List.mem_cons, List.mem_nil_iff, or_false] at hd
          rcases hd with rfl | rfl
          · exact hf
          · exact hf
        refine ⟨_, rfl, ?_⟩
        dsimp only [List.set]
        all_goals and_intros
        all_goals first | exact ⟨some (encR q), _, rfl, hqs'⟩ | omega
      · intro e ⟨o10, s9, he, _⟩
        subst he
        exact ⟨c5, o10, _, _, _, _, _, _, _, _, rfl, hc5.down (by omega)⟩
      · exact ⟨_, _, rfl, hall⟩
    · exact ⟨_, _, _, rfl, hm12⟩
  · intro e ⟨bs, o10, s2, s3, s4, s5, s6, s7, s8, s9, he, hb⟩
    subst he
    all_goals and_intros
    rfl
  · exact ⟨bs, none, none, none, none, none, none, none, none, none, rfl, hb.down (by decide)⟩
end Law

theorem Law.true_law : ∀ ns : List Int, ns.length ≤ 63 → Law.m_law [.s ns] = some (.d (.bool true)) := by
  exact fun ns h => Law.law_true ns h
open PySem PySem.W PyProof.Rows
set_option maxRecDepth 100000 in
set_option maxHeartbeats 0 in
theorem PySem.Challenge.cw_nightstairs_k27_rows_put_together_holds : PySem.Challenge.rw_nightstairs_k27_rows_put_together.Holds := by
  w_on; o_law; k_head; (case hw => w_witness2)
  k_fill
  refine NS.lawWalk (l := PySem.Challenge.rw_nightstairs_k27_rows_put_together) (k := 5) (x := "script") (g := Law.m_law) rfl rfl ⟨rfl, by decide, by decide⟩ (fun w h Y => PySem.W.km_in_of Y) ?hno ?hmk ?F Law.true_law
  case hno => intro p; kernel_rfl
  case hmk => intro p; kernel_rfl
  case F =>
    intro w mg fa h KX G hmg
    refine' Law.all_mk KX G hmg ?a0 ?l0 ?c0 ?k0 ?a1 ?l1 ?c1 ?k1 ?a2 ?l2 ?c2 ?k2 ?a3 ?l3 ?c3 ?k3 ?a4 ?l4 ?c4 ?k4 ?a5 ?l5 ?c5 ?k5 ?a6 ?l6 ?c6 ?k6 ?a7 ?l7 ?c7 ?k7 ?a8 ?l8 ?c8 ?k8 ?a9 ?l9 ?c9 ?k9 ?a10 ?l10 ?c10 ?k10 ?a11 ?l11 ?c11 ?k11 ?a12 ?l12 ?c12 ?k12 ?a13 ?l13 ?c13 ?k13 ?a14 ?l14 ?c14 ?k14 ?a15 ?l15 ?c15 ?k15 ?a16 ?l16 ?c16 ?k16 ?a17 ?l17 ?c17 ?k17 ?m17 ?a18 ?l18 ?c18 ?k18 ?m18 ?a19 ?l19 ?c19 ?k19 ?a20 ?l20 ?c20 ?k20 ?a21 ?l21 ?c21 ?k21 ?m21 ?a22 ?l22 ?c22 ?k22 ?a23 ?l23 ?c23 ?k23 ?z_abs ?z_int ?z_len ?z_list ?z_max ?z_min ?z_range ?z_repr ?z_set ?z_sorted ?z_sum ?z_tuple ?z_zip
    (case a0 => k_is)
    (case l0 => k_is)
    (case c0 => k_is)
    (case k0 => k_is)
    (case a1 => k_is)
    (case l1 => k_is)
    (case c1 => k_is)
    (case k1 => k_is)
    (case a2 => k_is)
    (case l2 => k_is)
    (case c2 => k_is)
    (case k2 => k_is)
    (case a3 => k_is)
    (case l3 => k_is)
    (case c3 => k_is)
    (case k3 => k_is)
    (case a4 => k_is)
    (case l4 => k_is)
    (case c4 => k_is)
    (case k4 => k_is)
    (case a5 => k_is)
    (case l5 => k_is)
    (case c5 => k_is)
    (case k5 => k_is)
    (case a6 => k_is)
    (case l6 => k_is)
    (case c6 => k_is)
    (case k6 => k_is)
    (case a7 => k_is)
    (case l7 => k_is)
    (case c7 => k_is)
    (case k7 => k_is)
    (case a8 => k_is)
    (case l8 => k_is)
    (case c8 => k_is)
    (case k8 => k_is)
    (case a9 => k_is)
    (case l9 => k_is)
    (case c9 => k_is)
    (case k9 => k_is)
    (case a10 => k_is)
    (case l10 => k_is)
    (case c10 => k_is)
    (case k10 => k_is)
    (case a11 => k_is)
    (case l11 => k_is)
    (case c11 => k_is)
    (case k11 => k_is)
    (case a12 => k_is)
    (case l12 => k_is)
    (case c12 => k_is)
    (case k12 => k_is)
    (case a13 => k_is)
    (case l13 => k_is)
    (case c13 => k_is)
    (case k13 => k_is)
    (case a14 => k_is)
    (case l14 => k_is)
    (case c14 => k_is)
    (case k14 => k_is)
    (case a15 => k_is)
    (case l15 => k_is)
    (case c15 => k_is)
    (case k15 => k_is)
    (case a16 => k_is)
    (case l16 => k_is)
    (case c16 => k_is)
    (case k16 => k_is)
    (case a17 => k_is)
    (case l17 => k_is)
    (case c17 => k_is)
    (case k17 => k_is)
    (case m17 => kernel_rfl)
    (case a18 => k_is)
    (case l18 => k_is)
    (case c18 => k_is)
    (case k18 => k_is)
    (case m18 => kernel_rfl)
    (case a19 => k_is)
    (case l19 => k_is)
    (case c19 => k_is)
    (case k19 => k_is)
    (case a20 => k_is)
    (case l20 => k_is)
    (case c20 => k_is)
    (case k20 => k_is)
    (case a21 => k_is)
    (case l21 => k_is)
    (case c21 => k_is)
    (case k21 => k_is)
    (case m21 => kernel_rfl)
    (case a22 => k_is)
    (case l22 => k_is)
    (case c22 => k_is)
    (case k22 => k_is)
    (case a23 => k_is)
    (case l23 => k_is)
    (case c23 => k_is)
    (case k23 => k_is)
    (case z_abs => k_is)
    (case z_int => k_is)
    (case z_len => k_is)
    (case z_list => k_is)
    (case z_max => k_is)
    (case z_min => k_is)
    (case z_range => k_is)
    (case z_repr => k_is)
    (case z_set => k_is)
    (case z_sorted => k_is)
    (case z_sum => k_is)
    (case z_tuple => k_is)
    (case z_zip => k_is)

