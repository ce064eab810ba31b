import PyProof.Rows.All
import Wide.All
import OpenK.AllK
import Wide.FinOn
import HandS.ForMost
import HandS.ForExc
import HandS.ExcInit
import HandS.ExcField
import HandS.ExcIs
import HandS.IsInst
import HandS.Defaults
import HandS.CallSlots
import HandS.TryMany
import HandS.Style
import HandS.Conv
import HandS.Zip
import HandS.Rev
import HandS.Flow
import HandS.TupAny
import HandS.Deep
import HandS.Strs
import HandS.SortInts
import HandS.Small
import HandS.ListItems
import HandS.Dict
import HandS.Head0
import HandS.Head1
import HandS.Head2
import HandS.HeadEnd
import HandS.HeadHook1
import HandS.HeadHook2
import HandS.IterVal
import HandS.More
import HandS.SetTxt0
import HandS.Set
import HandS.SetFor
import PyProof.P3Eq
import PyProof.EqLayable
import PySem.Challenge.RW_lambdabench_k03_normal_names_and_closure
section
set_option Elab.async false
set_option linter.all false
set_option maxRecDepth 100000
set_option maxHeartbeats 4000000
/-! Layer B, part 1: deep values, stores, how they lie in the abstract heap. -/
namespace LB
open PySem PySem.Spec PyProof.Rows L2

abbrev DK := Sum Int (List Nat)
def keyK : DK → Key
  | .inl i => .inl i
  | .inr s => .inr ⟨s.toArray⟩
theorem keyK_inj {a b : DK} (h : keyK a = keyK b) : a = b := by
  cases a with
  | inl i => cases b with
    | inl j => exact congrArg Sum.inl (Sum.inl.inj h)
    | inr t => exact nomatch h
  | inr s => cases b with
    | inl j => exact nomatch h
    | inr t =>
      have e := congrArg (fun z : Str => z.cps.toList) (Sum.inr.inj h)
      exact congrArg Sum.inr (by simpa using e)

/-- deep values -/
inductive D where
  | non | bl (b : Bool) | int (i : Int) | str (s : List Nat)
  | tup (xs : List D)
  | lst (xs : List D)
  | dic (ks : List DK) (vs : List D)
  | tmp (xs : List D)
  | tdic (ks : List DK) (vs : List D)
  | scr (ns : List Int)
  | ref (n : Nat) | fn (i : Nat) | cls (i : Nat) | ty (n : String)
  | exn (c : Nat) (vs : List D)

/-- changeable things -/
inductive SO where
  | lst (xs : List D) | dic (ks : List DK) (vs : List D)

abbrev Store := List SO
abbrev Loc := List (Option D)

inductive R (α : Type) where
  | ok (a : α) (S : Store)
  | exc (c : Nat) (vs : List D) (S : Store)
  | bad

/-- what the layer knows of the written part -/
structure Kx where
  K : PySem.W.Frag
  fnA : Nat → Addr
  clA : Nat → Addr
  fld : Nat → Str
  gx : Option (Addr × Nat × Option Addr) → Prop

/-- where things lie: handles, frozen things, the exception in hand -/
structure Gh where
  ι : List Addr
  F : Addr → Prop
  xc : Option (Addr × Nat × Option Addr)

mutual
inductive RD (κ : Kx) (g : Gh) (H : Hp) : D → V → Prop
  | non : RD κ g H .non .non
  | bl (b : Bool) : RD κ g H (.bl b) (.bl b)
  | int (i : Int) : RD κ g H (.int i) (.int i)
  | str (s : List Nat) : RD κ g H (.str s) (.str ⟨s.toArray⟩)
  | tup {xs : List D} {p : Addr} {vs : List V} (h : SqT κ.K H p vs) (r : RDs κ g H xs vs) : RD κ g H (.tup xs) (.ref p)
  | lst {xs : List D} {p : Addr} {vs : List V} (h : H p = some (.lst vs)) (f : g.F p) (r : RDs κ g H xs vs) : RD κ g H (.lst xs) (.ref p)
  | dic {ks : List DK} {xs : List D} {p : Addr} {kvs : List (Key × V)} (h : H p = some (.dK kvs)) (f : g.F p) (e : kvs.map Prod.fst = ks.map keyK) (r : RDs κ g H xs (kvs.map Prod.snd)) : RD κ g H (.dic ks xs) (.ref p)
  | scr {ns : List Int} {p : Addr} {o : Obj} (h : H p = some (.frz o (.lst (ns.map V.int)))) : RD κ g H (.scr ns) (.ref p)
  | scrK {ns : List Int} {p : Addr} (h : SqL κ.K (fun _ => none) p (ns.map V.int)) : RD κ g H (.scr ns) (.ref p)
  | ref {n : Nat} {a : Addr} (h : g.ι[n]? = some a) : RD κ g H (.ref n) (.ref a)
  | fn (i : Nat) : RD κ g H (.fn i) (.ref (κ.fnA i))
  | cls (i : Nat) : RD κ g H (.cls i) (.ref (κ.clA i))
  | ty (n : String) : RD κ g H (.ty n) (.ty n)
inductive RDs (κ : Kx) (g : Gh) (H : Hp) : List D → List V → Prop
  | nil : RDs κ g H [] []
  | cons {d : D} {v : V} {ds : List D} {vs : List V} (h : RD κ g H d v) (t : RDs κ g H ds vs) : RDs κ g H (d :: ds) (v :: vs)
end

/-- a handle's object -/
def RO (κ : Kx) (g : Gh) (H : Hp) (a : Addr) : SO → Prop
  | .lst xs => ∃ vs, H a = some (.lst vs) ∧ RDs κ g H xs vs
  | .dic ks xs => ∃ kvs : List (Key × V), H a = some (.dK kvs) ∧ kvs.map Prod.fst = ks.map keyK ∧ RDs κ g H xs (kvs.map Prod.snd)

structure RS (κ : Kx) (g : Gh) (H : Hp) (S : Store) : Prop where
  len : g.ι.length = S.length
  nd : g.ι.Nodup
  ob : ∀ (n : Nat) (a : Addr) (o : SO), g.ι[n]? = some a → S[n]? = some o → RO κ g H a o
  fr : ∀ b, g.F b → b ∉ g.ι
  fl : ∀ b, g.F b → H b ≠ none
  hx : κ.gx g.xc

/-- the heap goes on -/
structure Ext (g : Gh) (H : Hp) (g' : Gh) (H' : Hp) : Prop where
  pre : g.ι <+: g'.ι
  keep : ∀ b o, H b = some o → b ∉ g.ι → H' b = some o
  live : ∀ b, H b ≠ none → H' b ≠ none
  nw : ∀ b, b ∈ g'.ι → b ∈ g.ι ∨ H b = none
  fm : ∀ b, g.F b → g'.F b
  fn : ∀ b, g'.F b → g.F b ∨ H b = none
  xc : g'.xc = g.xc

theorem Ext.refl (g : Gh) (H : Hp) : Ext g H g H := ⟨List.prefix_refl _, fun _ _ h _ => h, fun _ h => h, fun _ h => .inl h, fun _ h => h, fun _ h => .inl h, rfl⟩
theorem Ext.trans {g g1 g2 : Gh} {H H1 H2 : Hp} (a : Ext g H g1 H1) (b : Ext g1 H1 g2 H2) : Ext g H g2 H2 := by
  refine ⟨a.pre.trans b.pre, fun c o h hn => ?_, fun c h => b.live c (a.live c h), fun c h => ?_, fun c h => b.fm c (a.fm c h), fun c h => ?_, b.xc.trans a.xc⟩
  · refine b.keep c o (a.keep c o h hn) fun hm => ?_
    rcases a.nw c hm with q | q
    · exact hn q
    · rw [h] at q; cases q
  · rcases b.nw c h with q | q
    · exact a.nw c q
    · exact .inr (Classical.byContradiction fun z => a.live c z q)
  · rcases b.fn c h with q | q
    · exact a.fn c q
    · exact .inr (Classical.byContradiction fun z => a.live c z q)

section
variable {κ : Kx} {g g' : Gh} {H H' : Hp} {S : Store}

theorem RS.kind (s : RS κ g H S) {b : Addr} (hb : b ∈ g.ι) : (∃ vs, H b = some (.lst vs)) ∨ ∃ kvs, H b = some (.dK kvs) := by
  obtain ⟨n, hn, rfl⟩ := List.getElem_of_mem hb
  have hs : n < S.length := by rw [← s.len]; exact hn
  obtain ⟨o, ho⟩ : ∃ o, S[n]? = some o := ⟨_, List.getElem?_eq_getElem hs⟩
  have q := s.ob n g.ι[n] o (List.getElem?_eq_getElem hn) ho
  cases o with
  | lst xs => obtain ⟨vs, h, _⟩ := q; exact .inl ⟨vs, h⟩
  | dic ks xs => obtain ⟨kvs, h, _⟩ := q; exact .inr ⟨kvs, h⟩
theorem RS.not (s : RS κ g H S) {b : Addr} {o : HO} (h : H b = some o) (h1 : ∀ vs, o ≠ .lst vs) (h2 : ∀ kvs, o ≠ .dK kvs) : b ∉ g.ι := fun hm => by
  rcases s.kind hm with ⟨vs, q⟩ | ⟨vs, q⟩
  · rw [h] at q; exact h1 vs (Option.some.inj q)
  · rw [h] at q; exact h2 vs (Option.some.inj q)
theorem RS.liveι (s : RS κ g H S) {b : Addr} (hb : b ∈ g.ι) : H b ≠ none := by
  rcases s.kind hb with ⟨vs, q⟩ | ⟨vs, q⟩ <;> (rw [q]; exact fun z => nomatch z)

theorem SqT.ext (s : RS κ g H S) (x : Ext g H g' H') {K : PySem.W.Frag} {p : Addr} {vs : List V} (h : SqT K H p vs) : SqT K H' p vs := by
  rcases h with (h | ⟨o, h⟩) | h
  · exact .inl (.inl (x.keep _ _ h (s.not h (fun _ z => nomatch z) fun _ z => nomatch z)))
  · exact .inl (.inr ⟨o, x.keep _ _ h (s.not h (fun _ z => nomatch z) fun _ z => nomatch z)⟩)
  · exact .inr h

mutual
theorem RD.ext (s : RS κ g H S) (x : Ext g H g' H') : ∀ {d : D} {v : V}, RD κ g H d v → RD κ g' H' d v
  | _, _, .non => .non
  | _, _, .bl b => .bl b
  | _, _, .int i => .int i
  | _, _, .str t => .str t
  | _, _, .tup h r => .tup (SqT.ext s x h) (RDs.ext s x r)
  | _, _, .lst h f r => .lst (x.keep _ _ h (s.fr _ f)) (x.fm _ f) (RDs.ext s x r)
  | _, _, .dic h f e r => .dic (x.keep _ _ h (s.fr _ f)) (x.fm _ f) e (RDs.ext s x r)
  | _, _, .scr h => .scr (x.keep _ _ h (s.not h (fun _ z => nomatch z) fun _ z => nomatch z))
  | _, _, .scrK h => .scrK h
  | _, _, .ref h => .ref (by
      obtain ⟨t, e⟩ := x.pre
      rw [← e]
      exact (List.getElem?_append_left (List.getElem?_eq_some_iff.mp h).1).trans h)
  | _, _, .fn i => .fn i
  | _, _, .cls i => .cls i
  | _, _, .ty n => .ty n
theorem RDs.ext (s : RS κ g H S) (x : Ext g H g' H') : ∀ {ds : List D} {vs : List V}, RDs κ g H ds vs → RDs κ g' H' ds vs
  | _, _, .nil => .nil
  | _, _, .cons h t => .cons (RD.ext s x h) (RDs.ext s x t)
end

theorem RDs.length : ∀ {ds : List D} {vs : List V}, RDs κ g H ds vs → ds.length = vs.length
  | _, _, .nil => rfl
  | _, _, .cons _ t => congrArg Nat.succ (RDs.length t)
theorem RDs.get : ∀ {ds : List D} {vs : List V} {i : Nat} {d : D}, RDs κ g H ds vs → ds[i]? = some d → ∃ v, vs[i]? = some v ∧ RD κ g H d v
  | _, _, _, _, .nil, e => by simp at e
  | _, _, 0, _, .cons h _, e => by simp at e; subst e; exact ⟨_, rfl, h⟩
  | _, _, i + 1, d, .cons _ t, e => by
    obtain ⟨v, h1, h2⟩ := RDs.get (i := i) (d := d) t (by simpa using e)
    exact ⟨v, by simpa using h1, h2⟩
theorem RDs.append : ∀ {ds es : List D} {vs ws : List V}, RDs κ g H ds vs → RDs κ g H es ws → RDs κ g H (ds ++ es) (vs ++ ws)
  | _, _, _, _, .nil, s => s
  | _, _, _, _, .cons h t, s => .cons h (RDs.append t s)
theorem RDs.take : ∀ {ds : List D} {vs : List V} (n : Nat), RDs κ g H ds vs → RDs κ g H (ds.take n) (vs.take n)
  | _, _, 0, _ => .nil
  | _, _, _ + 1, .nil => .nil
  | _, _, n + 1, .cons h t => .cons h (RDs.take n t)
theorem RDs.drop : ∀ {ds : List D} {vs : List V} (n : Nat), RDs κ g H ds vs → RDs κ g H (ds.drop n) (vs.drop n)
  | _, _, 0, r => r
  | _, _, _ + 1, .nil => .nil
  | _, _, n + 1, .cons _ t => RDs.drop n t
theorem RDs.set {d : D} {v : V} (r : RD κ g H d v) : ∀ {ds : List D} {vs : List V} (i : Nat), RDs κ g H ds vs → RDs κ g H (ds.set i d) (vs.set i v)
  | _, _, _, .nil => .nil
  | _, _, 0, .cons _ t => .cons r t
  | _, _, i + 1, .cons q t => .cons q (RDs.set r i t)
theorem RDs.dropLast : ∀ {ds : List D} {vs : List V}, RDs κ g H ds vs → RDs κ g H ds.dropLast vs.dropLast
  | _, _, .nil => .nil
  | _, _, .cons _ .nil => .nil
  | _, _, .cons h (.cons h2 t) => .cons h (RDs.dropLast (.cons h2 t))
theorem RDs.reverse : ∀ {ds : List D} {vs : List V}, RDs κ g H ds vs → RDs κ g H ds.reverse vs.reverse
  | _, _, .nil => .nil
  | _, _, .cons h t => by
    rw [List.reverse_cons, List.reverse_cons]
    exact RDs.append (RDs.reverse t) (.cons h .nil)
theorem RDs.nil_iff {ds : List D} {vs : List V} (r : RDs κ g H ds vs) : vs = [] ↔ ds = [] := by
  have e := r.length
  constructor
  · intro h; subst h; exact List.eq_nil_of_length_eq_zero e
  · intro h; subst h; exact List.eq_nil_of_length_eq_zero e.symm
theorem RDs.ints : ∀ (ns : List Int), RDs κ g H (ns.map D.int) (ns.map V.int)
  | [] => .nil
  | n :: ns => .cons (.int n) (RDs.ints ns)
theorem RDs.strs : ∀ (ns : List (List Nat)), RDs κ g H (ns.map D.str) (ns.map fun s => V.str ⟨s.toArray⟩)
  | [] => .nil
  | n :: ns => .cons (.str n) (RDs.strs ns)

/-- the results of expressions: tmp is a new thing that nobody else has -/
inductive RT (κ : Kx) (H0 : Hp) (g : Gh) (H : Hp) : D → V → Prop
  | rd {d : D} {v : V} (r : RD κ g H d v) : RT κ H0 g H d v
  | tmp {xs : List D} {p : Addr} {vs : List V} (h : H p = some (.lst vs)) (n1 : p ∉ g.ι) (n2 : ¬ g.F p) (n3 : H0 p = none) (r : RDs κ g H xs vs) : RT κ H0 g H (.tmp xs) (.ref p)
  | tdic {ks : List DK} {xs : List D} {p : Addr} {kvs : List (Key × V)} (h : H p = some (.dK kvs)) (n1 : p ∉ g.ι) (n2 : ¬ g.F p) (n3 : H0 p = none) (e : kvs.map Prod.fst = ks.map keyK) (r : RDs κ g H xs (kvs.map Prod.snd)) : RT κ H0 g H (.tdic ks xs) (.ref p)
theorem RT.ext {H0 : Hp} (s : RS κ g H S) (x : Ext g H g' H') {d : D} {v : V} (r : RT κ H0 g H d v) : RT κ H0 g' H' d v := by
  cases r with
  | rd r => exact .rd (r.ext s x)
  | tmp h n1 n2 n3 r =>
    refine .tmp (x.keep _ _ h n1) (fun z => ?_) (fun z => ?_) n3 (r.ext s x)
    · rcases x.nw _ z with q | q
      · exact n1 q
      · rw [h] at q; cases q
    · rcases x.fn _ z with q | q
      · exact n2 q
      · rw [h] at q; cases q
  | tdic h n1 n2 n3 e r =>
    refine .tdic (x.keep _ _ h n1) (fun z => ?_) (fun z => ?_) n3 e (r.ext s x)
    · rcases x.nw _ z with q | q
      · exact n1 q
      · rw [h] at q; cases q
    · rcases x.fn _ z with q | q
      · exact n2 q
      · rw [h] at q; cases q
/-- the start may lie further back -/
theorem RT.back {g0 : Gh} {H0 H1 : Hp} (x : Ext g0 H0 g H1) {d : D} {v : V} {g' : Gh} (r : RT κ H1 g' H d v) : RT κ H0 g' H d v := by
  have k : ∀ {b : Addr}, H1 b = none → H0 b = none := fun {b} q => Classical.byContradiction fun z => x.live b z q
  cases r with
  | rd r => exact .rd r
  | tmp h n1 n2 n3 r => exact .tmp h n1 n2 (k n3) r
  | tdic h n1 n2 n3 e r => exact .tdic h n1 n2 (k n3) e r
end
end LB
end

section
set_option Elab.async false
set_option linter.all false
set_option maxRecDepth 100000
set_option maxHeartbeats 4000000
/-! Layer B, part 2: readings of pure functions, how they are put together. -/
namespace LB
open PySem PySem.Spec L2

def R.bind {α β : Type} (r : R α) (f : α → Store → R β) : R β := match r with
  | .ok a S => f a S
  | .exc c vs S => .exc c vs S
  | .bad => .bad
def R.of {α : Type} (o : Option α) (S : Store) : R α := match o with
  | some a => .ok a S
  | none => .bad

abbrev SE := Loc → Store → R D
abbrev SA := Loc → Store → R (List D)
abbrev SB := Loc → Store → R Bool
/-- how a statement ends -/
inductive O where
  | nx (l : Loc) (S : Store) | ret (d : D) (S : Store) | brk (l : Loc) (S : Store) | cnt (l : Loc) (S : Store)
  | exc (c : Nat) (vs : List D) (l : Loc) (S : Store) | bad
abbrev SS := Loc → Store → O

def XF (κ : Kx) (g : Gh) (H : Hp) (c : Nat) (vs : List D) (dv : Option Addr) : Prop := match vs with
  | [] => dv = none
  | [d] => ∃ dx v, dv = some dx ∧ H dx = some (.xd [(κ.fld c, v)]) ∧ RD κ g H d v
  | _ => False
theorem XF.ext {κ : Kx} {g g' : Gh} {H H' : Hp} {S : Store} (s : RS κ g H S) (x : Ext g H g' H') {c : Nat} {vs : List D} {dv : Option Addr} (h : XF κ g H c vs dv) : XF κ g' H' c vs dv := by
  match vs, h with
  | [], h => exact h
  | [d], h =>
    obtain ⟨dx, v, e, h1, r⟩ := h
    exact ⟨dx, v, e, x.keep _ _ h1 (s.not h1 (fun _ z => nomatch z) fun _ z => nomatch z), r.ext s x⟩

abbrev Rel (α β : Type) := Hp → Gh → Hp → α → β → Prop
def Back {α β : Type} (rel : Rel α β) : Prop := ∀ (g0 : Gh) (H0 : Hp) (g1 : Gh) (H1 : Hp) (g : Gh) (H : Hp) (a : α) (b : β), Ext g0 H0 g1 H1 → rel H1 g H a b → rel H0 g H a b

section
variable {α β γ δ : Type} {κ : Kx} {W : WX} {σ : St} {g g1 : Gh} {H H1 : Hp} {S : Store}

def KG (κ : Kx) (W : WX) (σ : St) (g : Gh) (H : Hp) (rel : Rel α β) (r : R α) (Q : β → Hp → Prop) : Prop := match r with
  | .ok a S' => ∀ g' b H', Ext g H g' H' → RS κ g' H' S' → rel H g' H' a b → Q b H'
  | .exc c vs S' => ∀ g' dv H', Ext g H g' H' → RS κ g' H' S' → XF κ g' H' c vs dv → W (.ref (κ.clA c)) dv σ H'
  | .bad => False

theorem KG.imp {rel : Rel α β} {r : R α} {Q Q' : β → Hp → Prop} (h : KG κ W σ g H rel r Q) (i : ∀ b H', Q b H' → Q' b H') : KG κ W σ g H rel r Q' := by
  cases r with
  | ok a S' => exact fun g' b H' x s q => i _ _ (h g' b H' x s q)
  | exc c vs S' => exact h
  | bad => exact h
/-- from further on -/
theorem KG.on {rel : Rel α β} (hb : Back rel) {r : R α} {Q : β → Hp → Prop} (x : Ext g H g1 H1) (h : KG κ W σ g H rel r Q) : KG κ W σ g1 H1 rel r Q := by
  cases r with
  | ok a S' => exact fun g' b H' y s q => h g' b H' (x.trans y) s (hb _ _ _ _ _ _ _ _ x q)
  | exc c vs S' => exact fun g' dv H' y s q => h g' dv H' (x.trans y) s q
  | bad => exact h
theorem KG.bind {rel1 : Rel α β} {rel2 : Rel γ δ} (hb : Back rel2) {r : R α} {f : α → Store → R γ} {Q : δ → Hp → Prop} (h : KG κ W σ g H rel2 (r.bind f) Q) :
    KG κ W σ g H rel1 r (fun b H1 => ∃ g1 S1 a, Ext g H g1 H1 ∧ RS κ g1 H1 S1 ∧ rel1 H g1 H1 a b ∧ KG κ W σ g1 H1 rel2 (f a S1) Q) := by
  cases r with
  | ok a S' => exact fun g' b H' x s q => ⟨g', S', a, x, s, q, KG.on hb x h⟩
  | exc c vs S' => exact h
  | bad => exact h
theorem KG.of {rel : Rel α β} {o : Option α} {Q : β → Hp → Prop} (h : KG κ W σ g H rel (R.of o S) Q) : ∃ a, o = some a ∧ ∀ g' b H', Ext g H g' H' → RS κ g' H' S → rel H g' H' a b → Q b H' := by
  cases o with
  | none => exact h.elim
  | some a => exact ⟨a, rfl, h⟩

/-! ### frames -/
/-- a name's value: data, or the exception in hand -/
def RX (κ : Kx) (g : Gh) (H : Hp) (d : D) (v : V) : Prop := RD κ g H d v ∨ ∃ c vs a dx, d = .exn c vs ∧ v = .ref a ∧ g.xc = some (a, c, dx) ∧ XF κ g H c vs dx
theorem RX.ext {d : D} {v : V} (s : RS κ g H S) (x : Ext g H g1 H1) (h : RX κ g H d v) : RX κ g1 H1 d v := by
  rcases h with h | ⟨c, vs, a, dx, e1, e2, e3, e4⟩
  · exact .inl (h.ext s x)
  · exact .inr ⟨c, vs, a, dx, e1, e2, x.xc.trans e3, e4.ext s x⟩
def FR (κ : Kx) (g : Gh) (H : Hp) (l : Loc) (σ : St) : Prop := l.length = σ.length ∧ ∀ (i : Nat) (d : D), l[i]? = some (some d) → ∃ v, σ[i]? = some (some v) ∧ RX κ g H d v
theorem FR.ext {l : Loc} (s : RS κ g H S) (x : Ext g H g1 H1) (h : FR κ g H l σ) : FR κ g1 H1 l σ := ⟨h.1, fun i d e => by
  obtain ⟨v, e1, r⟩ := h.2 i d e
  exact ⟨v, e1, r.ext s x⟩⟩
theorem FR.setX {l : Loc} {i : Nat} {d : D} {v : V} (h : FR κ g H l σ) (r : RX κ g H d v) : FR κ g H (l.set i (some d)) (σ.set i (some v)) := by
  refine ⟨by simpa using h.1, fun j e q => ?_⟩
  by_cases hj : i = j
  · subst hj
    by_cases hl : i < l.length
    · rw [List.getElem?_set_self hl] at q
      cases q
      exact ⟨v, List.getElem?_set_self (by rw [← h.1]; exact hl), r⟩
    · rw [List.getElem?_eq_none (by simpa using hl)] at q
      cases q
  · rw [List.getElem?_set_ne hj] at q
    rw [List.getElem?_set_ne hj]
    exact h.2 j e q
theorem FR.set {l : Loc} {i : Nat} {d : D} {v : V} (h : FR κ g H l σ) (r : RD κ g H d v) : FR κ g H (l.set i (some d)) (σ.set i (some v)) := h.setX (.inl r)
theorem FR.unset {l : Loc} {i : Nat} (h : FR κ g H l σ) : FR κ g H (l.set i none) (σ.set i none) := by
  refine ⟨by simpa using h.1, fun j e q => ?_⟩
  by_cases hj : i = j
  · subst hj
    by_cases hl : i < l.length
    · rw [List.getElem?_set_self hl] at q
      cases q
    · rw [List.getElem?_eq_none (by simpa using hl)] at q
      cases q
  · rw [List.getElem?_set_ne hj] at q
    rw [List.getElem?_set_ne hj]
    exact h.2 j e q
/-- a name's data -/
def isX : D → Bool
  | .exn _ _ => true
  | _ => false
def look (l : Loc) (i : Nat) : Option D := match l[i]? with
  | some (some d) => if isX d = true then none else some d
  | _ => none
theorem FR.look {l : Loc} {i : Nat} {d : D} (h : FR κ g H l σ) (e : look l i = some d) : ∃ v, σ[i]? = some (some v) ∧ RD κ g H d v := by
  unfold LB.look at e
  split at e
  · rename_i d' e1
    by_cases q : isX d' = true
    · rw [if_pos q] at e; cases e
    · rw [if_neg q] at e; cases e
      obtain ⟨v, e2, r⟩ := h.2 i d e1
      rcases r with r | ⟨c, vs, a, dx, rfl, _⟩
      · exact ⟨v, e2, r⟩
      · exact absurd rfl q
  · cases e
end

/-! ### readings -/
abbrev RL (κ : Kx) : Rel (List D) (List V) := fun _ g H ds vs => RDs κ g H ds vs
abbrev RB : Rel Bool Bool := fun _ _ _ a b => a = b
theorem back_RT {κ : Kx} : Back (RT κ) := fun _ _ _ _ _ _ _ _ x r => r.back x
theorem back_RL {κ : Kx} : Back (RL κ) := fun _ _ _ _ _ _ _ _ _ r => r
theorem back_RB : Back RB := fun _ _ _ _ _ _ _ _ _ r => r

def tM (κ : Kx) (W : WX) (m : SE) : TE := fun σ H Q => ∃ g l S, RS κ g H S ∧ FR κ g H l σ ∧ KG κ W σ g H (RT κ) (m l S) Q
def tA (κ : Kx) (W : WX) (m : SA) : TA := fun σ H Q => ∃ g l S, RS κ g H S ∧ FR κ g H l σ ∧ KG κ W σ g H (RL κ) (m l S) Q
def tT (κ : Kx) (W : WX) (m : SB) : TT := fun σ H Q => ∃ g l S, RS κ g H S ∧ FR κ g H l σ ∧ KG κ W σ g H RB (m l S) Q
def KO (κ : Kx) (W : WX) (g : Gh) (H : Hp) (o : O) (D : Ends) : Prop := match o with
  | .nx l' S' => ∀ g' σ' H', Ext g H g' H' → RS κ g' H' S' → FR κ g' H' l' σ' → D.nx σ' H'
  | .ret d S' => ∀ g' v H', Ext g H g' H' → RS κ g' H' S' → RT κ H g' H' d v → D.rt v H'
  | .brk l' S' => ∀ g' σ' H', Ext g H g' H' → RS κ g' H' S' → FR κ g' H' l' σ' → D.bk σ' H'
  | .cnt l' S' => ∀ g' σ' H', Ext g H g' H' → RS κ g' H' S' → FR κ g' H' l' σ' → D.ct σ' H'
  | .exc c vs l' S' => ∀ g' σ' dv H', Ext g H g' H' → RS κ g' H' S' → FR κ g' H' l' σ' → XF κ g' H' c vs dv → W (.ref (κ.clA c)) dv σ' H'
  | .bad => False
def tS (κ : Kx) (W : WX) (m : SS) : TS := fun D σ H => ∃ g l S, RS κ g H S ∧ FR κ g H l σ ∧ KO κ W g H (m l S) D

theorem KO.on {κ : Kx} {W : WX} {g g1 : Gh} {H H1 : Hp} {o : O} {D : Ends} (x : Ext g H g1 H1) (h : KO κ W g H o D) : KO κ W g1 H1 o D := by
  cases o with
  | nx l S => exact fun g' σ' H' y s f => h g' σ' H' (x.trans y) s f
  | brk l S => exact fun g' σ' H' y s f => h g' σ' H' (x.trans y) s f
  | cnt l S => exact fun g' σ' H' y s f => h g' σ' H' (x.trans y) s f
  | ret d S => exact fun g' v H' y s r => h g' v H' (x.trans y) s (r.back x)
  | exc c vs l S => exact fun g' σ' dv H' y s f q => h g' σ' dv H' (x.trans y) s f q
  | bad => exact h

theorem _root_.L2.PE.imp {X : Cx} {e : Expr} {t t' : TE} (h : PE X e t) (i : ∀ σ H Q, t' σ H Q → t σ H Q) : PE X e t' := ⟨fun pins s σ H Q I w => h.run pins s σ H Q I (i σ H Q w)⟩
theorem _root_.L2.PT.imp {X : Cx} {e : Expr} {t t' : TT} (h : PT X e t) (i : ∀ σ H Q, t' σ H Q → t σ H Q) : PT X e t' := ⟨fun pins s σ H Q I w => h.run pins s σ H Q I (i σ H Q w)⟩
theorem _root_.L2.PW.imp {X : Cx} {e : Expr} {t t' : TT} (h : PW X e t) (i : ∀ σ H Q, t' σ H Q → t σ H Q) : PW X e t' := ⟨fun wh pins s σ H Q I w => h.run wh pins s σ H Q I (i σ H Q w)⟩
theorem _root_.L2.PA.imp {X : Cx} {e : List Expr} {t t' : TA} (h : PA X e t) (i : ∀ σ H Q, t' σ H Q → t σ H Q) : PA X e t' := ⟨fun pos pins s σ H Q I w => h.run pos pins s σ H Q I (i σ H Q w)⟩
theorem _root_.L2.PK.imp {X : Cx} {e : List Keyword} {t t' : TA} (h : PK X e t) (i : ∀ σ H Q, t' σ H Q → t σ H Q) : PK X e t' := ⟨fun pos pins s σ H Q I w => h.run pos pins s σ H Q I (i σ H Q w)⟩
theorem _root_.L2.PS.imp {X : Cx} {e : Stmt} {t t' : TS} (h : PS X e t) (i : ∀ D σ H, t' D σ H → t D σ H) : PS X e t' := ⟨fun pins s σ H D I w => h.run pins s σ H D I (i D σ H w)⟩
theorem _root_.L2.PSs.imp {X : Cx} {e : List Stmt} {t t' : TS} (h : PSs X e t) (i : ∀ D σ H, t' D σ H → t D σ H) : PSs X e t' := ⟨fun pins s σ H D I w => h.run pins s σ H D I (i D σ H w)⟩

/-! ### the heap's steps -/
section
variable {κ : Kx} {g : Gh} {H : Hp} {S : Store}
theorem Ext.lay {p : Addr} {o : HO} (hp : H p = none) : Ext g H g (upd H p o) := by
  have ne : ∀ {b : Addr}, H b ≠ none → b ≠ p := fun {b} h z => h (by rw [z]; exact hp)
  refine ⟨List.prefix_refl _, fun b u h _ => ?_, fun b h => ?_, fun _ h => .inl h, fun _ h => h, fun _ h => .inl h, rfl⟩
  · rw [upd_ne (ne (by rw [h]; exact fun z => nomatch z))]; exact h
  · rw [upd_ne (ne h)]; exact h
theorem RO.ext {g' : Gh} {H' : Hp} (s : RS κ g H S) (x : Ext g H g' H') {a : Addr} {o : SO} (h : RO κ g H a o) (e : H' a = H a) : RO κ g' H' a o := by
  cases o with
  | lst xs => obtain ⟨vs, h1, r⟩ := h; exact ⟨vs, e.trans h1, r.ext s x⟩
  | dic ks xs => obtain ⟨kvs, h1, q, r⟩ := h; exact ⟨kvs, e.trans h1, q, r.ext s x⟩
theorem RS.lay (s : RS κ g H S) {p : Addr} {o : HO} (hp : H p = none) : RS κ g (upd H p o) S := by
  have x : Ext g H g (upd H p o) := Ext.lay hp
  refine ⟨s.len, s.nd, fun n a u h1 h2 => RO.ext s x (s.ob n a u h1 h2) (upd_ne fun z => ?_), s.fr, fun b hb => x.live b (s.fl b hb), s.hx⟩
  exact s.liveι (List.mem_of_getElem? h1) (by rw [z]; exact hp)
/-- a tuple laid -/
theorem lay_tup (s : RS κ g H S) {p : Addr} {xs : List D} {vs : List V} (hp : H p = none) (r : RDs κ g H xs vs) : RD κ g (upd H p (.tup vs)) (.tup xs) (.ref p) :=
  .tup (SqT.of upd_same) (r.ext s (Ext.lay hp))
/-- a list laid -/
theorem lay_lst (s : RS κ g H S) {p : Addr} {xs : List D} {vs : List V} (hp : H p = none) (r : RDs κ g H xs vs) : RT κ H g (upd H p (.lst vs)) (.tmp xs) (.ref p) :=
  .tmp upd_same (fun z => s.liveι z hp) (fun z => s.fl _ z hp) hp (r.ext s (Ext.lay hp))
theorem lay_dic (s : RS κ g H S) {p : Addr} {ks : List DK} {xs : List D} {kvs : List (Key × V)} (hp : H p = none) (e : kvs.map Prod.fst = ks.map keyK) (r : RDs κ g H xs (kvs.map Prod.snd)) : RT κ H g (upd H p (.dK kvs)) (.tdic ks xs) (.ref p) :=
  .tdic upd_same (fun z => s.liveι z hp) (fun z => s.fl _ z hp) hp e (r.ext s (Ext.lay hp))

/-- a handle's object changed -/
theorem Ext.put {n : Nat} {a : Addr} {o : HO} (h : g.ι[n]? = some a) : Ext g H g (upd H a o) := by
  have hm := List.mem_of_getElem? h
  refine ⟨List.prefix_refl _, fun b u q hb => ?_, fun b q => ?_, fun _ h => .inl h, fun _ h => h, fun _ h => .inl h, rfl⟩
  · rw [upd_ne (fun z => hb (by rw [z]; exact hm))]; exact q
  · by_cases z : b = a
    · rw [z, upd_same]; exact fun z => nomatch z
    · rw [upd_ne z]; exact q
theorem RS.put (s : RS κ g H S) {n : Nat} {a : Addr} {o : HO} {u : SO} (h : g.ι[n]? = some a) (r : RO κ g (upd H a o) a u) : RS κ g (upd H a o) (S.set n u) := by
  have x : Ext g H g (upd H a o) := Ext.put h
  refine ⟨by simpa using s.len, s.nd, fun m b w h1 h2 => ?_, s.fr, fun b hb => x.live b (s.fl b hb), s.hx⟩
  by_cases hm : n = m
  · subst hm
    rw [h] at h1; cases h1
    have hn : n < S.length := by rw [← s.len]; exact (List.getElem?_eq_some_iff.mp h).1
    rw [List.getElem?_set_self hn] at h2
    cases h2
    exact r
  · rw [List.getElem?_set_ne hm] at h2
    refine RO.ext s x (s.ob m b w h1 h2) (upd_ne fun z => hm ?_)
    subst z
    obtain ⟨l1, e1⟩ := List.getElem?_eq_some_iff.mp h
    obtain ⟨l2, e2⟩ := List.getElem?_eq_some_iff.mp h1
    exact (List.getElem_inj s.nd).mp (e1.trans e2.symm)
/-- a thing becomes frozen -/
def Gh.frz (g : Gh) (p : Addr) : Gh := { g with F := fun b => g.F b ∨ b = p }
theorem Ext.frz {p : Addr} {g0 : Gh} {H0 : Hp} (x : Ext g0 H0 g H) (h : H0 p = none) : Ext g0 H0 (g.frz p) H :=
  ⟨x.pre, x.keep, x.live, x.nw, fun b hb => .inl (x.fm b hb), fun b hb => hb.elim (fun z => x.fn b z) fun z => .inr (by rw [z]; exact h), x.xc⟩
mutual
theorem RD.frz {p : Addr} : ∀ {d : D} {v : V}, RD κ g H d v → RD κ (g.frz p) H d v
  | _, _, .non => .non
  | _, _, .bl b => .bl b
  | _, _, .int i => .int i
  | _, _, .str t => .str t
  | _, _, .tup h r => .tup h (RDs.frz r)
  | _, _, .lst h f r => .lst h (.inl f) (RDs.frz r)
  | _, _, .dic h f e r => .dic h (.inl f) e (RDs.frz r)
  | _, _, .scr h => .scr h
  | _, _, .scrK h => .scrK h
  | _, _, .ref h => .ref h
  | _, _, .fn i => .fn i
  | _, _, .cls i => .cls i
  | _, _, .ty n => .ty n
theorem RDs.frz {p : Addr} : ∀ {ds : List D} {vs : List V}, RDs κ g H ds vs → RDs κ (g.frz p) H ds vs
  | _, _, .nil => .nil
  | _, _, .cons h t => .cons (RD.frz h) (RDs.frz t)
end
theorem RS.frz (s : RS κ g H S) {p : Addr} (h1 : p ∉ g.ι) (h2 : H p ≠ none) : RS κ (g.frz p) H S := by
  refine ⟨s.len, s.nd, fun n a o e1 e2 => ?_, fun b hb => hb.elim (s.fr b) fun z => by rw [z]; exact h1, fun b hb => hb.elim (s.fl b) fun z => by rw [z]; exact h2, s.hx⟩
  have q := s.ob n a o e1 e2
  cases o with
  | lst xs => obtain ⟨vs, h, r⟩ := q; exact ⟨vs, h, r.frz⟩
  | dic ks xs => obtain ⟨kvs, h, e, r⟩ := q; exact ⟨kvs, h, e, r.frz⟩
/-- a thing becomes a handle -/
def Gh.own (g : Gh) (p : Addr) : Gh := { g with ι := g.ι ++ [p] }
theorem Ext.own {p : Addr} {g0 : Gh} {H0 : Hp} (x : Ext g0 H0 g H) (h : H0 p = none) : Ext g0 H0 (g.own p) H :=
  ⟨x.pre.trans (List.prefix_append _ _), x.keep, x.live, fun b hb => (List.mem_append.mp hb).elim (x.nw b) fun z => .inr (by rw [List.mem_singleton.mp z]; exact h), x.fm, x.fn, x.xc⟩
mutual
theorem RD.own {p : Addr} : ∀ {d : D} {v : V}, RD κ g H d v → RD κ (g.own p) H d v
  | _, _, .non => .non
  | _, _, .bl b => .bl b
  | _, _, .int i => .int i
  | _, _, .str t => .str t
  | _, _, .tup h r => .tup h (RDs.own r)
  | _, _, .lst h f r => .lst h f (RDs.own r)
  | _, _, .dic h f e r => .dic h f e (RDs.own r)
  | _, _, .scr h => .scr h
  | _, _, .scrK h => .scrK h
  | _, _, .ref h => .ref ((List.getElem?_append_left (List.getElem?_eq_some_iff.mp h).1).trans h)
  | _, _, .fn i => .fn i
  | _, _, .cls i => .cls i
  | _, _, .ty n => .ty n
theorem RDs.own {p : Addr} : ∀ {ds : List D} {vs : List V}, RDs κ g H ds vs → RDs κ (g.own p) H ds vs
  | _, _, .nil => .nil
  | _, _, .cons h t => .cons (RD.own h) (RDs.own t)
end
theorem RS.own (s : RS κ g H S) {p : Addr} {o : SO} (h1 : p ∉ g.ι) (h2 : ¬ g.F p) (r : RO κ g H p o) : RS κ (g.own p) H (S ++ [o]) := by
  have ro : ∀ {a : Addr} {u : SO}, RO κ g H a u → RO κ (g.own p) H a u := fun {a u} q => by
    cases u with
    | lst xs => obtain ⟨vs, h, r⟩ := q; exact ⟨vs, h, r.own⟩
    | dic ks xs => obtain ⟨kvs, h, e, r⟩ := q; exact ⟨kvs, h, e, r.own⟩
  refine ⟨by simp [Gh.own, s.len], List.nodup_append.mpr ⟨s.nd, by simp, fun a ha b hb z => h1 (by rw [← List.mem_singleton.mp hb, ← z]; exact ha)⟩, fun n a u e1 e2 => ?_, fun b hb hm => ?_, s.fl, s.hx⟩
  · have e1 : (g.ι ++ [p])[n]? = some a := e1
    by_cases hn : n < g.ι.length
    · rw [List.getElem?_append_left hn] at e1
      rw [List.getElem?_append_left (by rw [← s.len]; exact hn)] at e2
      exact ro (s.ob n a u e1 e2)
    · rw [List.getElem?_append_right (by omega)] at e1
      rw [List.getElem?_append_right (by rw [← s.len]; omega)] at e2
      rw [← s.len] at e2
      cases q : n - g.ι.length with
      | zero =>
        rw [q] at e1 e2
        cases e1; cases e2
        exact ro r
      | succ k => rw [q] at e1; cases e1
  · rcases List.mem_append.mp hm with z | z
    · exact s.fr b hb z
    · rw [List.mem_singleton.mp z] at hb; exact h2 hb
end

/-! ### what is kept of a result: frozen, or made a handle -/
def fixD (b : Bool) (d : D) (S : Store) : R D := match d with
  | .tmp xs => if b = true then .ok (.ref S.length) (S ++ [.lst xs]) else .ok (.lst xs) S
  | .tdic ks vs => if b = true then .ok (.ref S.length) (S ++ [.dic ks vs]) else .ok (.dic ks vs) S
  | d => .ok d S
def mFix (b : Bool) (m : SE) : SE := fun l S => (m l S).bind (fixD b)
/-- the results that are kept -/
theorem fix_ok {κ : Kx} {W : WX} {σ : St} {g g1 : Gh} {H H1 : Hp} {b : Bool} {d : D} {S : Store} {v : V} {Q : V → Hp → Prop} (x : Ext g H g1 H1) (s : RS κ g1 H1 S) (r : RT κ H g1 H1 d v)
    (h : KG κ W σ g H (RT κ) (fixD b d S) Q) : ∃ d' S' g', fixD b d S = .ok d' S' ∧ Ext g H g' H1 ∧ RS κ g' H1 S' ∧ RD κ g' H1 d' v ∧ Q v H1 := by
  have plain : RD κ g1 H1 d v → fixD b d S = .ok d S → ∃ d' S' g', fixD b d S = .ok d' S' ∧ Ext g H g' H1 ∧ RS κ g' H1 S' ∧ RD κ g' H1 d' v ∧ Q v H1 := fun q e => by
    rw [e] at h
    exact ⟨d, S, g1, e, x, s, q, h g1 v H1 x s (.rd q)⟩
  cases r with
  | rd q =>
    cases d with
    | tmp xs => cases q
    | tdic ks xs => cases q
    | _ => exact plain q rfl
  | @tmp xs p vs h1 n1 n2 n3 q =>
    cases b with
    | false =>
      have y := x.frz n3
      have t := s.frz n1 (by rw [h1]; exact fun z => nomatch z)
      have q' : RD κ (g1.frz p) H1 (.lst _) (.ref _) := .lst h1 (.inr rfl) q.frz
      exact ⟨_, _, _, rfl, y, t, q', h _ _ _ y t (.rd q')⟩
    | true =>
      have y := x.own n3
      have t := s.own (o := .lst _) n1 n2 ⟨_, h1, q⟩
      have q' : RD κ (g1.own p) H1 (.ref S.length) (.ref p) := .ref (by rw [← s.len]; exact List.getElem?_concat_length)
      exact ⟨_, _, _, rfl, y, t, q', h _ _ _ y t (.rd q')⟩
  | @tdic ks xs p kvs h1 n1 n2 n3 e q =>
    cases b with
    | false =>
      have y := x.frz n3
      have t := s.frz n1 (by rw [h1]; exact fun z => nomatch z)
      have q' : RD κ (g1.frz p) H1 (.dic _ _) (.ref _) := .dic h1 (.inr rfl) e q.frz
      exact ⟨_, _, _, rfl, y, t, q', h _ _ _ y t (.rd q')⟩
    | true =>
      have y := x.own n3
      have t := s.own (o := .dic _ _) n1 n2 ⟨_, h1, e, q⟩
      have q' : RD κ (g1.own p) H1 (.ref S.length) (.ref p) := .ref (by rw [← s.len]; exact List.getElem?_concat_length)
      exact ⟨_, _, _, rfl, y, t, q', h _ _ _ y t (.rd q')⟩
end LB
end

section
set_option Elab.async false
set_option linter.all false
set_option maxRecDepth 100000
set_option maxHeartbeats 4000000
/-! Layer B, part 3: operators by values. -/
namespace LB
open PySem PySem.Spec L2

abbrev SL : Nat := 16777216
theorem SL_eq : sizeLine = SL := sizeLine_eq

/-! ### lists as they may be read -/
def viewL (S : Store) : D → Option (List D)
  | .lst xs => some xs
  | .tmp xs => some xs
  | .ref n => match S[n]? with
    | some (.lst xs) => some xs
    | _ => none
  | _ => none
def viewD (S : Store) : D → Option (List DK × List D)
  | .dic ks vs => some (ks, vs)
  | .tdic ks vs => some (ks, vs)
  | .ref n => match S[n]? with
    | some (.dic ks vs) => some (ks, vs)
    | _ => none
  | _ => none
section
variable {κ : Kx} {H0 : Hp} {g : Gh} {H : Hp} {S : Store} {d : D} {v : V} {xs : List D}
theorem viewL_ok (s : RS κ g H S) (r : RT κ H0 g H d v) (e : viewL S d = some xs) : ∃ p vs, v = .ref p ∧ H p = some (.lst vs) ∧ RDs κ g H xs vs := by
  cases d with
  | lst ys =>
    cases e
    cases r with
    | rd r => cases r with | lst h f q => exact ⟨_, _, rfl, h, q⟩
  | tmp ys =>
    cases e
    cases r with
    | rd r => cases r
    | tmp h n1 n2 n3 q => exact ⟨_, _, rfl, h, q⟩
  | ref n =>
    cases r with
    | rd r =>
      cases r with
      | @ref _ a h =>
        unfold viewL at e
        cases q : S[n]? with
        | none => simp [q] at e
        | some o =>
          have ro := s.ob n a o h q
          cases o with
          | lst ys =>
            simp [q] at e
            subst e
            obtain ⟨vs, h1, h2⟩ := ro
            exact ⟨a, vs, rfl, h1, h2⟩
          | dic ks ys => simp [q] at e
  | _ => cases e
theorem viewD_ok {ks : List DK} (s : RS κ g H S) (r : RT κ H0 g H d v) (e : viewD S d = some (ks, xs)) : ∃ p kvs, v = .ref p ∧ H p = some (.dK kvs) ∧ kvs.map Prod.fst = ks.map keyK ∧ RDs κ g H xs (kvs.map Prod.snd) := by
  cases d with
  | dic ls ys =>
    cases e
    cases r with
    | rd r => cases r with | dic h f q1 q => exact ⟨_, _, rfl, h, q1, q⟩
  | tdic ls ys =>
    cases e
    cases r with
    | rd r => cases r
    | tdic h n1 n2 n3 q1 q => exact ⟨_, _, rfl, h, q1, q⟩
  | ref n =>
    cases r with
    | rd r =>
      cases r with
      | @ref _ a h =>
        unfold viewD at e
        cases q : S[n]? with
        | none => simp [q] at e
        | some o =>
          have ro := s.ob n a o h q
          cases o with
          | dic ls ys =>
            simp [q] at e
            obtain ⟨rfl, rfl⟩ := e
            obtain ⟨kvs, h1, h2, h3⟩ := ro
            exact ⟨a, kvs, rfl, h1, h2, h3⟩
          | lst ys => simp [q] at e
  | _ => cases e
theorem RT.tup (r : RT κ H0 g H (.tup xs) v) : ∃ p vs, v = .ref p ∧ SqT κ.K H p vs ∧ RDs κ g H xs vs := by
  cases r with
  | rd r => cases r with | tup h q => exact ⟨_, _, rfl, h, q⟩
theorem RT.int {i : Int} (r : RT κ H0 g H (.int i) v) : v = .int i := by
  cases r with
  | rd r => cases r; rfl
theorem RT.bl {i : Bool} (r : RT κ H0 g H (.bl i) v) : v = .bl i := by
  cases r with
  | rd r => cases r; rfl
theorem RT.non (r : RT κ H0 g H .non v) : v = .non := by
  cases r with
  | rd r => cases r; rfl
theorem RT.str {i : List Nat} (r : RT κ H0 g H (.str i) v) : v = .str ⟨i.toArray⟩ := by
  cases r with
  | rd r => cases r; rfl
theorem RT.scr {ns : List Int} (r : RT κ H0 g H (.scr ns) v) : ∃ p, v = .ref p ∧ SqL κ.K H p (ns.map V.int) := by
  cases r with
  | rd r =>
    cases r with
    | scr h => exact ⟨_, rfl, .inl (.inr ⟨_, h⟩)⟩
    | scrK h =>
      refine ⟨_, rfl, ?_⟩
      rcases h with (h | ⟨o, h⟩) | h
      · cases h
      · cases h
      · exact .inr h
end

/-! ### operators of two values -/
/-- what an operator leaves -/
def KV (κ : Kx) (g : Gh) (H : Hp) (S : Store) (d : D) (Q : VK) : Prop := ∀ g' v H', Ext g H g' H' → RS κ g' H' S → RT κ H g' H' d v → Q v H'
def rOf (κ : Kx) (f : Store → D → D → Option D) : R2 := fun x y H Q => ∃ H0 H1 g S dx dy d, RS κ g H S ∧ RT κ H0 g H dx x ∧ RT κ H1 g H dy y ∧ f S dx dy = some d ∧ KV κ g H S d Q
def mOp2 (f : Store → D → D → Option D) (ma mb : SE) : SE := fun l S => (ma l S).bind fun a S1 => (mb l S1).bind fun b S2 => R.of (f S2 a b) S2
theorem mOp2_ok {κ : Kx} {W : WX} {f : Store → D → D → Option D} {ma mb : SE} (σ : L2.St) (H : Hp) (Q : VK) (h : tM κ W (mOp2 f ma mb) σ H Q) : tOp (rOf κ f) (tM κ W ma) (tM κ W mb) σ H Q := by
  obtain ⟨g, l, S, s, fr, h⟩ := h
  refine ⟨g, l, S, s, fr, KG.imp (KG.bind (rel1 := RT κ) back_RT h) fun x H1 ⟨g1, S1, dx, x1, s1, r1, h1⟩ => ?_⟩
  refine ⟨g1, l, S1, s1, fr.ext s x1, KG.imp (KG.bind (rel1 := RT κ) back_RT h1) fun y H2 ⟨g2, S2, dy, x2, s2, r2, h2⟩ => ?_⟩
  obtain ⟨d, e, k⟩ := KG.of h2
  exact ⟨_, _, g2, S2, dx, dy, d, s2, r1.ext s1 x2, r2, e, k⟩
theorem KV.pure {κ : Kx} {g : Gh} {H : Hp} {S : Store} {d : D} {v : V} {Q : VK} (s : RS κ g H S) (r : RD κ g H d v) (k : KV κ g H S d Q) : Q v H := k g v H (.refl g H) s (.rd r)

def opAdd (S : Store) (a b : D) : Option D := match a, b with
  | .int i, .int j => some (.int (i + j))
  | .int i, .bl k => some (.int (i + if k = true then 1 else 0))
  | .str x, .str y => if x.length + y.length ≤ SL then some (.str (x ++ y)) else none
  | .tup xs, .tup ys => if xs.length + ys.length ≤ SL then some (.tup (xs ++ ys)) else none
  | a, b => match viewL S a, viewL S b with
    | some xs, some ys => if xs.length + ys.length ≤ SL then some (.tmp (xs ++ ys)) else none
    | _, _ => none
def opSub (_ : Store) (a b : D) : Option D := match a, b with
  | .int i, .int j => some (.int (i - j))
  | _, _ => none
def opMul (S : Store) (a b : D) : Option D := match a, b with
  | .int i, .int j => if i.natAbs < 18446744073709551616 ∨ j.natAbs < 18446744073709551616 then some (.int (i * j)) else none
  | a, .int k => match viewL S a with
    | some xs => if -9223372036854775808 ≤ k ∧ k < 9223372036854775808 ∧ xs.length * k.toNat ≤ SL then some (.tmp (List.replicate k.toNat xs).flatten) else none
    | none => none
  | _, _ => none
def opFdiv (_ : Store) (a b : D) : Option D := match a, b with
  | .int i, .int j => if 0 < j ∧ j < 1073741824 then some (.int (i / j)) else none
  | _, _ => none
def opMod (_ : Store) (a b : D) : Option D := match a, b with
  | .int i, .int j => if 0 < j then some (.int (i % j)) else none
  | _, _ => none
def opPow (_ : Store) (a b : D) : Option D := match a, b with
  | .int i, .int j => if 0 ≤ j ∧ j ≤ 1000000 ∧ i.natAbs < 18446744073709551616 then some (.int (i ^ j.toNat)) else none
  | _, _ => none
def opBin : Operator → Option (Store → D → D → Option D)
  | .Add => some opAdd
  | .Sub => some opSub
  | .Mult => some opMul
  | .FloorDiv => some opFdiv
  | .Mod => some opMod
  | .Pow => some opPow
  | _ => none

theorem ite_some {α : Type} {c : Prop} [Decidable c] {x d : α} (h : (if c then some x else none) = some d) : c ∧ d = x := by
  by_cases q : c
  · rw [if_pos q] at h
    exact ⟨q, (Option.some.inj h).symm⟩
  · rw [if_neg q] at h
    cases h
section
variable {X : Cx} {κ : Kx}
theorem str_app (x y : List Nat) : ((⟨x.toArray⟩ : Str) ++ (⟨y.toArray⟩ : Str)) = ⟨(x ++ y).toArray⟩ := by
  show Str.append _ _ = _
  simp [Str.append]
theorem str_len (x : List Nat) : (⟨x.toArray⟩ : Str).length = x.length := by
  show x.toArray.size = x.length
  simp
theorem flat_rep {g : Gh} {H : Hp} {xs : List D} {vs : List V} (h : RDs κ g H xs vs) : ∀ k : Nat, RDs κ g H (List.replicate k xs).flatten (List.replicate k vs).flatten
  | 0 => .nil
  | k + 1 => by
    rw [List.replicate_succ, List.replicate_succ, List.flatten_cons, List.flatten_cons]
    exact h.append (flat_rep h k)
theorem op_addB (hK : X.K = κ.K) : OpR X (binaryOp .Add) (rOf κ opAdd) := by
  intro pins s σ H x y v u Q I rx ry ⟨H0, H1, g, S, dx, dy, d, rs, r1, r2, e, k⟩
  have lists : ∀ {xs ys : List D}, viewL S dx = some xs → viewL S dy = some ys → (if xs.length + ys.length ≤ SL then some (D.tmp (xs ++ ys)) else none) = some d → wpAny (model X.prog X.w) X.A (binaryOp .Add v u) (EP X pins σ Q) X.xe s := by
    intro xs ys e1 e2 e3
    obtain ⟨p, vs, rfl, h1, q1⟩ := viewL_ok rs r1 e1
    obtain ⟨p2, ws, rfl, h2, q2⟩ := viewL_ok rs r2 e2
    obtain ⟨hl, rfl⟩ := ite_some e3
    · refine op_cat pins s σ H _ _ v u Q I rx ry ⟨p, p2, vs, ws, rfl, rfl, h1, h2, by rw [← q1.length, ← q2.length, SL_eq]; exact hl, fun q hq => ?_⟩
      exact k g _ _ (Ext.lay hq) (rs.lay hq) (lay_lst rs hq (q1.append q2))
  have viaL : opAdd S dx dy = (match viewL S dx, viewL S dy with
    | some xs, some ys => if xs.length + ys.length ≤ SL then some (D.tmp (xs ++ ys)) else none
    | _, _ => none) → wpAny (model X.prog X.w) X.A (binaryOp .Add v u) (EP X pins σ Q) X.xe s := fun q => by
    rw [q] at e
    cases e1 : viewL S dx with
    | none => simp [e1] at e
    | some xs =>
      cases e2 : viewL S dy with
      | none => simp [e1, e2] at e
      | some ys => exact lists e1 e2 (by simpa [e1, e2] using e)
  have no : ∀ {α : Prop}, (none : Option D) = some d → α := fun z => nomatch z
  cases dx with
  | int i =>
    cases dy with
    | int j =>
      cases r1.int; cases r2.int; cases e
      exact op_add pins s σ H _ _ v u Q I rx ry ⟨i, j, rfl, rfl, k.pure rs (.int _)⟩
    | bl b =>
      cases r1.int; cases r2.bl; cases e
      exact op_add_ib pins s σ H _ _ v u Q I rx ry ⟨i, b, rfl, rfl, k.pure rs (by cases b <;> exact .int _)⟩
    | _ => exact viaL rfl
  | str a =>
    cases dy with
    | str b =>
      cases r1.str; cases r2.str
      obtain ⟨hl, rfl⟩ := ite_some e
      refine op_add_str pins s σ H _ _ v u Q I rx ry ⟨_, _, rfl, rfl, by rw [str_len, str_len, SL_eq]; exact hl, ?_⟩
      rw [str_app]
      exact k.pure rs (.str _)
    | _ => exact viaL rfl
  | tup xs =>
    cases dy with
    | tup ys =>
      obtain ⟨p, vs, rfl, h1, q1⟩ := r1.tup
      obtain ⟨p2, ws, rfl, h2, q2⟩ := r2.tup
      obtain ⟨hl, rfl⟩ := ite_some e
      refine op_catA pins s σ H _ _ v u Q I rx ry ⟨p, p2, vs, ws, rfl, rfl, by rw [hK]; exact h1, by rw [hK]; exact h2, by rw [← q1.length, ← q2.length, SL_eq]; exact hl, fun z => ?_, fun z z2 => ?_, fun z z2 q hq => ?_⟩
      · have z' := q1.nil_iff.mp z
        subst z'
        exact k.pure rs (.tup h2 q2)
      · have z' := q2.nil_iff.mp z2
        subst z'
        rw [List.append_nil] at k
        exact k.pure rs (.tup h1 q1)
      · exact k g _ _ (Ext.lay hq) (rs.lay hq) (.rd (lay_tup rs hq (q1.append q2)))
    | _ => exact viaL rfl
  | _ => exact viaL rfl
theorem op_subB : OpR X (binaryOp .Sub) (rOf κ opSub) := by
  intro pins s σ H x y v u Q I rx ry ⟨H0, H1, g, S, dx, dy, d, rs, r1, r2, e, k⟩
  cases dx with
  | int i =>
    cases dy with
    | int j =>
      cases r1.int; cases r2.int; cases e
      exact op_sub pins s σ H _ _ v u Q I rx ry ⟨i, j, rfl, rfl, k.pure rs (.int _)⟩
    | _ => cases e
  | _ => cases e
theorem bnd64 {i : Int} (h : i.natAbs < 18446744073709551616) : -(2 ^ 64) < i ∧ i < 2 ^ 64 := by omega
theorem op_mulB : OpR X (binaryOp .Mult) (rOf κ opMul) := by
  intro pins s σ H x y v u Q I rx ry ⟨H0, H1, g, S, dx, dy, d, rs, r1, r2, e, k⟩
  have viaL : ∀ {j : Int}, dy = .int j → opMul S dx dy = (match viewL S dx with
    | some xs => if -9223372036854775808 ≤ j ∧ j < 9223372036854775808 ∧ xs.length * j.toNat ≤ SL then some (D.tmp (List.replicate j.toNat xs).flatten) else none
    | none => none) → wpAny (model X.prog X.w) X.A (binaryOp .Mult v u) (EP X pins σ Q) X.xe s := fun {j} ej q => by
    rw [q] at e
    subst ej
    cases r2.int
    cases e1 : viewL S dx with
    | none => simp [e1] at e
    | some xs =>
      obtain ⟨p, vs, rfl, h1, q1⟩ := viewL_ok rs r1 e1
      simp only [e1] at e
      obtain ⟨hl, rfl⟩ := ite_some e
      · refine op_rep pins s σ H _ _ v u Q I rx ry ⟨p, j, vs, rfl, rfl, h1, by omega, by omega, by rw [← q1.length, SL_eq]; exact hl.2.2, fun q hq => ?_⟩
        exact k g _ _ (Ext.lay hq) (rs.lay hq) (lay_lst rs hq (flat_rep q1 _))
  cases dy with
  | int j =>
    cases dx with
    | int i =>
      cases r1.int; cases r2.int
      obtain ⟨hl, rfl⟩ := ite_some e
      exact op_mul pins s σ H _ _ v u Q I rx ry ⟨i, j, rfl, rfl, hl.elim (fun z => .inl (bnd64 z)) fun z => .inr (bnd64 z), k.pure rs (.int _)⟩
    | _ => exact viaL rfl rfl
  | _ => cases dx <;> cases e
theorem op_fdivB : OpR X (binaryOp .FloorDiv) (rOf κ opFdiv) := by
  intro pins s σ H x y v u Q I rx ry ⟨H0, H1, g, S, dx, dy, d, rs, r1, r2, e, k⟩
  cases dx with
  | int i =>
    cases dy with
    | int j =>
      cases r1.int; cases r2.int
      obtain ⟨hl, rfl⟩ := ite_some e
      exact op_fdiv pins s σ H _ _ v u Q I rx ry ⟨i, j, rfl, rfl, hl, k.pure rs (.int _)⟩
    | _ => cases e
  | _ => cases e
theorem op_modB : OpR X (binaryOp .Mod) (rOf κ opMod) := by
  intro pins s σ H x y v u Q I rx ry ⟨H0, H1, g, S, dx, dy, d, rs, r1, r2, e, k⟩
  cases dx with
  | int i =>
    cases dy with
    | int j =>
      cases r1.int; cases r2.int
      obtain ⟨hl, rfl⟩ := ite_some e
      exact op_mod pins s σ H _ _ v u Q I rx ry ⟨i, j, rfl, rfl, hl, k.pure rs (.int _)⟩
    | _ => cases e
  | _ => cases e
theorem op_powB : OpR X (binaryOp .Pow) (rOf κ opPow) := by
  intro pins s σ H x y v u Q I rx ry ⟨H0, H1, g, S, dx, dy, d, rs, r1, r2, e, k⟩
  cases dx with
  | int i =>
    cases dy with
    | int j =>
      cases r1.int; cases r2.int
      obtain ⟨hl, rfl⟩ := ite_some e
      exact op_pow pins s σ H _ _ v u Q I rx ry ⟨i, j, rfl, rfl, ⟨hl.1, hl.2.1, by omega⟩, k.pure rs (.int _)⟩
    | _ => cases e
  | _ => cases e
theorem opBin_ok (hK : X.K = κ.K) {op : Operator} {f : Store → D → D → Option D} (h : opBin op = some f) : OpR X (binaryOp op) (rOf κ f) := by
  cases op <;> first | (cases h; first | exact op_addB hK | exact op_subB | exact op_mulB | exact op_fdivB | exact op_modB | exact op_powB) | cases h
end
end LB
end

section
set_option Elab.async false
set_option linter.all false
set_option maxRecDepth 100000
set_option maxHeartbeats 4000000
/-! Layer B, part 4: comparisons, subscripts, by values. -/
namespace LB
open PySem PySem.Spec L2

/-! ### data as the library compares it -/
mutual
def toP : D → Option PyData
  | .non => some .none
  | .bl b => some (.bool b)
  | .int i => some (.int i)
  | .str s => some (.str ⟨s.toArray⟩)
  | .tup xs => (toPs xs).map .tuple
  | .lst xs => (toPs xs).map .list
  | .tmp xs => (toPs xs).map .list
  | .dic _ _ | .tdic _ _ | .scr _ | .ref _ | .fn _ | .cls _ | .ty _ | .exn _ _ => none
def toPs : List D → Option (List PyData)
  | [] => some []
  | d :: ds => match toP d, toPs ds with
    | some p, some ps => some (p :: ps)
    | _, _ => none
end
def toPS (S : Store) : D → Option PyData
  | .ref n => match S[n]? with
    | some (.lst xs) => (toPs xs).map .list
    | _ => none
  | d => toP d
section
variable {κ : Kx} {H0 : Hp} {g : Gh} {H : Hp} {S : Store}
mutual
theorem toP_ok : ∀ {d : D} {v : V} {p : PyData}, RD κ g H d v → toP d = some p → Dp κ.K H v p
  | .non, _, _, r, e => by cases r; cases e; exact .non
  | .bl b, _, _, r, e => by cases r; cases e; exact .bl b
  | .int i, _, _, r, e => by cases r; cases e; exact .int i
  | .str t, _, _, r, e => by cases r; cases e; exact .str _
  | .tup xs, _, _, r, e => by
    cases r with
    | tup h q =>
      simp only [toP, Option.map_eq_some_iff] at e
      obtain ⟨ps, e1, rfl⟩ := e
      exact .tup h (toPs_ok q e1)
  | .lst xs, _, _, r, e => by
    cases r with
    | lst h f q =>
      simp only [toP, Option.map_eq_some_iff] at e
      obtain ⟨ps, e1, rfl⟩ := e
      exact .lst (SqL.of h) (toPs_ok q e1)
  | .tmp xs, _, _, r, e => by cases r
  | .dic _ _, _, _, _, e => by simp [toP] at e
  | .tdic _ _, _, _, _, e => by simp [toP] at e
  | .scr _, _, _, _, e => by simp [toP] at e
  | .ref _, _, _, _, e => by simp [toP] at e
  | .fn _, _, _, _, e => by simp [toP] at e
  | .cls _, _, _, _, e => by simp [toP] at e
  | .ty _, _, _, _, e => by simp [toP] at e
  | .exn _ _, _, _, _, e => by simp [toP] at e
theorem toPs_ok : ∀ {ds : List D} {vs : List V} {ps : List PyData}, RDs κ g H ds vs → toPs ds = some ps → DpAll κ.K H vs ps
  | [], _, _, r, e => by cases r; cases e; exact .nil
  | d :: ds, _, _, r, e => by
    cases r with
    | cons h t =>
      unfold toPs at e
      split at e
      · rename_i p ps e1 e2
        cases e
        exact .cons (toP_ok h e1) (toPs_ok t e2)
      · cases e
end
theorem toPS_ok {d : D} {v : V} {p : PyData} (s : RS κ g H S) (r : RT κ H0 g H d v) (e : toPS S d = some p) : Dp κ.K H v p := by
  cases r with
  | rd r =>
    cases d with
    | ref n =>
      cases r with
      | @ref _ a h =>
        have e : (match S[n]? with
          | some (.lst xs) => (toPs xs).map PyData.list
          | _ => none) = some p := e
        split at e
        · rename_i xs q
          obtain ⟨vs, h1, h2⟩ := s.ob n a _ h q
          simp only [Option.map_eq_some_iff] at e
          obtain ⟨ps, e1, rfl⟩ := e
          exact .lst (SqL.of h1) (toPs_ok h2 e1)
        · cases e
    | _ => exact toP_ok r e
  | @tmp xs _ _ h n1 n2 n3 q =>
    have e' : (toPs xs).map PyData.list = some p := by simpa [toPS, toP] using e
    simp only [Option.map_eq_some_iff] at e'
    obtain ⟨ps, e1, rfl⟩ := e'
    exact .lst (SqL.of h) (toPs_ok q e1)
  | tdic h n1 n2 n3 e2 q => simp [toPS, toP] at e
end

def lenQ (S : Store) (a b : D) : Option Bool := match viewL S a, viewL S b with
  | some xs, some ys => if xs.length = ys.length then (if xs.length = 0 then some true else none) else some false
  | _, _ => none
def strQ (a b : D) : Option Bool := match a, b with
  | .str x, .str y => some (decide (x = y))
  | _, _ => none
def deepQ (S : Store) (a b : D) : Option Bool := match toPS S a, toPS S b with
  | some p, some q => if SeqAt.shaped p = true ∧ SeqAt.shaped q = true then some (PyData.eqv p q) else none
  | _, _ => none
def opEqq (S : Store) (a b : D) : Option Bool := match lenQ S a b with
  | some k => some k
  | none => match strQ a b with
    | some k => some k
    | none => deepQ S a b
def opEq (S : Store) (a b : D) : Option D := (opEqq S a b).map .bl
def opNe (S : Store) (a b : D) : Option D := (opEqq S a b).map fun k => .bl (!k)
def opLt (_ : Store) (a b : D) : Option D := match a, b with
  | .int i, .int j => some (.bl (decide (i < j)))
  | .str x, .str y => some (.bl (decide (x < y)))
  | _, _ => none
def opLe (_ : Store) (a b : D) : Option D := match a, b with
  | .int i, .int j => some (.bl (decide (i ≤ j)))
  | .str x, .str y => some (.bl (!decide (y < x)))
  | _, _ => none
def opGt (_ : Store) (a b : D) : Option D := match a, b with
  | .int i, .int j => some (.bl (decide (j < i)))
  | .str x, .str y => some (.bl (decide (y < x)))
  | _, _ => none
def opGe (_ : Store) (a b : D) : Option D := match a, b with
  | .int i, .int j => some (.bl (decide (j ≤ i)))
  | .str x, .str y => some (.bl (!decide (x < y)))
  | _, _ => none
/-- flat things -/
def flatD : D → Bool
  | .non | .bl _ | .int _ | .str _ => true
  | _ => false
def eqF : D → D → Bool
  | .non, .non => true
  | .bl a, .bl b => a == b
  | .bl a, .int b => (if a = true then 1 else 0) == b
  | .int a, .bl b => a == (if b = true then 1 else 0)
  | .int a, .int b => a == b
  | .str a, .str b => a == b
  | _, _ => false
def keyD : D → Option DK
  | .int i => some (.inl i)
  | .str s => some (.inr s)
  | _ => none
/-- a dict's value at a key -/
def getK : List DK → List D → DK → Option D
  | k :: ks, v :: vs, q => if k = q then some v else getK ks vs q
  | _, _, _ => none
def inQ (S : Store) (a b : D) : Option Bool := match b with
  | .str z => match a with
    | .str [c] => some (decide (c ∈ z))
    | _ => none
  | .tup xs => if flatD a = true ∧ xs.all flatD = true then some (xs.any fun y => eqF y a) else none
  | b => match viewL S b with
    | some xs =>
      if flatD a = true ∧ xs.all flatD = true then some (xs.any fun y => eqF y a)
      else match toPS S a, toPs xs with
        | some p, some ps => if SeqAt.shaped p = true ∧ SeqAt.shaped (.list ps) = true then some (ps.any fun z => PyData.eqv z p) else none
        | _, _ => none
    | none => match viewD S b, keyD a with
      | some (ks, vs), some k => some (getK ks vs k).isSome
      | _, _ => none
def opIn (S : Store) (a b : D) : Option D := (inQ S a b).map .bl
def opNotIn (S : Store) (a b : D) : Option D := (inQ S a b).map fun k => .bl (!k)
def isQ (a b : D) : Option Bool := match b with
  | .non => match a with
    | .non => some true
    | .exn _ _ => none
    | _ => some false
  | .bl y => match a with
    | .bl x => some (decide (x = y))
    | _ => none
  | _ => none
def opIs (_ : Store) (a b : D) : Option D := (isQ a b).map .bl
def opIsNot (_ : Store) (a b : D) : Option D := (isQ a b).map fun k => .bl (!k)
def opCmp : CmpOp → Option (Store → D → D → Option D)
  | .Eq => some opEq
  | .NotEq => some opNe
  | .Lt => some opLt
  | .LtE => some opLe
  | .Gt => some opGt
  | .GtE => some opGe
  | .In => some opIn
  | .NotIn => some opNotIn
  | .Is => some opIs
  | .IsNot => some opIsNot

section
variable {X : Cx} {κ : Kx}
theorem deepQ_ok {H0 H1 : Hp} {g : Gh} {H : Hp} {S : Store} {dx dy : D} {x y : V} {b : Bool} (rs : RS κ g H S) (r1 : RT κ H0 g H dx x) (r2 : RT κ H1 g H dy y) (e : deepQ S dx dy = some b) :
    ∃ p q, Dp κ.K H x p ∧ Dp κ.K H y q ∧ SeqAt.shaped p = true ∧ SeqAt.shaped q = true ∧ PyData.eqv p q = b := by
  unfold deepQ at e
  split at e
  · rename_i p q e1 e2
    obtain ⟨hs, rfl⟩ := ite_some e
    exact ⟨p, q, toPS_ok rs r1 e1, toPS_ok rs r2 e2, hs.1, hs.2, rfl⟩
  · cases e
theorem lenQ_ok {H0 H1 : Hp} {g : Gh} {H : Hp} {S : Store} {dx dy : D} {x y : V} {b : Bool} (rs : RS κ g H S) (r1 : RT κ H0 g H dx x) (r2 : RT κ H1 g H dy y) (e : lenQ S dx dy = some b) :
    ∃ p q vs ws, x = .ref p ∧ y = .ref q ∧ H p = some (.lst vs) ∧ H q = some (.lst ws) ∧ ((vs.length ≠ ws.length ∧ b = false) ∨ (vs.length = 0 ∧ ws.length = 0 ∧ b = true)) := by
  unfold lenQ at e
  split at e
  · rename_i xs ys e1 e2
    obtain ⟨p, vs, rfl, h1, q1⟩ := viewL_ok rs r1 e1
    obtain ⟨q, ws, rfl, h2, q2⟩ := viewL_ok rs r2 e2
    refine ⟨p, q, vs, ws, rfl, rfl, h1, h2, ?_⟩
    rw [← q1.length, ← q2.length]
    by_cases c : xs.length = ys.length
    · rw [if_pos c] at e
      obtain ⟨z, rfl⟩ := ite_some e
      exact .inr ⟨z, by rw [← c]; exact z, rfl⟩
    · rw [if_neg c] at e
      cases e
      exact .inl ⟨c, rfl⟩
  · cases e
theorem strQ_ok {H0 H1 : Hp} {g : Gh} {H : Hp} {dx dy : D} {x y : V} {b : Bool} (r1 : RT κ H0 g H dx x) (r2 : RT κ H1 g H dy y) (e : strQ dx dy = some b) : ∃ z w : List Nat, x = .str ⟨z.toArray⟩ ∧ y = .str ⟨w.toArray⟩ ∧ b = decide (z = w) := by
  cases dx with
  | str z =>
    cases dy with
    | str w => cases e; exact ⟨z, w, r1.str, r2.str, rfl⟩
    | _ => cases e
  | _ => cases e
theorem str_beq (z w : List Nat) : ((⟨z.toArray⟩ : Str) == (⟨w.toArray⟩ : Str)) = decide (z = w) := by
  rw [Bool.eq_iff_iff, beq_iff_eq, decide_eq_true_eq]
  exact ⟨fun h => by simpa using congrArg (fun s : Str => s.cps.toList) h, fun h => by rw [h]⟩
theorem lists_of {pins : List (Addr × Obj)} {σ : L2.St} {H : Hp} {s : Shared} {p : Addr} {vs : List V} (I : Inv X pins σ H s) (h : H p = some (.lst vs)) : ∃ its : List Value, s.heap.IsList p its.toArray ∧ its.length = vs.length := by
  obtain ⟨its, r, q, _⟩ := I.list (SqL.of h)
  exact ⟨its, q.isList, r.length.symm⟩
theorem op_eqB (hK : X.K = κ.K) (hu : X.A.units + 65 < cLine) : OpR X (compareOp .Eq) (rOf κ opEq) := by
  intro pins s σ H x y v u Q I rx ry ⟨H0, H1, g, S, dx, dy, d, rs, r1, r2, e, k⟩
  unfold opEq at e
  obtain ⟨b, e1, rfl⟩ := Option.map_eq_some_iff.mp e
  unfold opEqq at e1
  split at e1
  · rename_i b' e2
    rw [Option.some.inj e1] at e2
    obtain ⟨p, q, vs, ws, rfl, rfl, h1, h2, c⟩ := lenQ_ok rs r1 r2 e2
    cases rx; cases ry
    obtain ⟨its, p1, l1⟩ := lists_of I h1
    obtain ⟨its2, p2, l2⟩ := lists_of I h2
    have fin : EP X pins σ Q (.bool b) s := ⟨.bl b, H, I, rfl, k.pure rs (.bl _)⟩
    rcases c with ⟨c, rfl⟩ | ⟨c1, c2, rfl⟩
    · exact SeqAt.eq_list_lengthsAt p1 p2 (by rw [List.size_toArray, List.size_toArray, l1, l2]; exact bne_iff_ne.mpr c) (by omega) fin
    · have n1 : its = [] := List.eq_nil_of_length_eq_zero (l1.trans c1)
      have n2 : its2 = [] := List.eq_nil_of_length_eq_zero (l2.trans c2)
      subst n1 n2
      exact SeqAt.eq_listAt (e := fun _ => true) p1 p2 rfl (by omega) (fun j j1 => absurd j1 (Nat.not_lt_zero j)) fin
  · split at e1
    · rename_i b' e2
      rw [Option.some.inj e1] at e2
      obtain ⟨z, w, rfl, rfl, rfl⟩ := strQ_ok r1 r2 e2
      obtain ⟨t, rfl⟩ := rx
      obtain ⟨t', rfl⟩ := ry
      have fin : EP X pins σ Q (.bool ((⟨z.toArray⟩ : Str) == (⟨w.toArray⟩ : Str))) s := ⟨.bl (decide (z = w)), H, I, by rw [str_beq]; rfl, k.pure rs (.bl _)⟩
      exact SeqAt.RcAt.str_str _ _ _ _ X.prog X.w X.xe _ fin
    · obtain ⟨p, q, h1, h2, s1, s2, rfl⟩ := deepQ_ok rs r1 r2 e1
      exact op_eqD (by omega) pins s σ H _ _ v u Q I rx ry ⟨p, q, by rw [hK]; exact h1, by rw [hK]; exact h2, s1, s2, k.pure rs (.bl _)⟩
theorem op_neB (hK : X.K = κ.K) (hu : X.A.units + 65 < cLine) : OpR X (compareOp .NotEq) (rOf κ opNe) := by
  intro pins s σ H x y v u Q I rx ry ⟨H0, H1, g, S, dx, dy, d, rs, r1, r2, e, k⟩
  unfold opNe at e
  obtain ⟨b, e1, rfl⟩ := Option.map_eq_some_iff.mp e
  unfold opEqq at e1
  split at e1
  · rename_i b' e2
    rw [Option.some.inj e1] at e2
    obtain ⟨p, q, vs, ws, rfl, rfl, h1, h2, c⟩ := lenQ_ok rs r1 r2 e2
    cases rx; cases ry
    obtain ⟨its, p1, l1⟩ := lists_of I h1
    obtain ⟨its2, p2, l2⟩ := lists_of I h2
    have fin : EP X pins σ Q (.bool (!b)) s := ⟨.bl (!b), H, I, rfl, k.pure rs (.bl _)⟩
    rcases c with ⟨c, rfl⟩ | ⟨c1, c2, rfl⟩
    · exact SeqAt.RcNeAt.lists_lengths p1 p2 (by rw [List.size_toArray, List.size_toArray, l1, l2]; exact bne_iff_ne.mpr c) (by omega) X.prog X.w X.xe _ fin
    · have n1 : its = [] := List.eq_nil_of_length_eq_zero (l1.trans c1)
      have n2 : its2 = [] := List.eq_nil_of_length_eq_zero (l2.trans c2)
      subst n1 n2
      exact SeqAt.RcNeAt.lists (e := fun _ => true) p1 p2 rfl (by omega) (fun j j1 => absurd j1 (Nat.not_lt_zero j)) X.prog X.w X.xe _ fin
  · split at e1
    · rename_i b' e2
      rw [Option.some.inj e1] at e2
      obtain ⟨z, w, rfl, rfl, rfl⟩ := strQ_ok r1 r2 e2
      obtain ⟨t, rfl⟩ := rx
      obtain ⟨t', rfl⟩ := ry
      have fin : EP X pins σ Q (.bool (!((⟨z.toArray⟩ : Str) == (⟨w.toArray⟩ : Str)))) s := ⟨.bl (!decide (z = w)), H, I, by rw [str_beq]; rfl, k.pure rs (.bl _)⟩
      exact SeqAt.RcNeAt.str_str _ _ _ _ X.prog X.w X.xe _ fin
    · obtain ⟨p, q, h1, h2, s1, s2, rfl⟩ := deepQ_ok rs r1 r2 e1
      exact op_neD (by omega) pins s σ H _ _ v u Q I rx ry ⟨p, q, by rw [hK]; exact h1, by rw [hK]; exact h2, s1, s2, k.pure rs (.bl _)⟩
theorem op_ltB : OpR X (compareOp .Lt) (rOf κ opLt) := by
  intro pins s σ H x y v u Q I rx ry ⟨H0, H1, g, S, dx, dy, d, rs, r1, r2, e, k⟩
  cases dx <;> cases dy <;> first | (cases r1.int; cases r2.int; cases e; exact op_lt pins s σ H _ _ v u Q I rx ry ⟨_, _, rfl, rfl, k.pure rs (.bl _)⟩) | (cases r1.str; cases r2.str; cases e; exact op_lt_str pins s σ H _ _ v u Q I rx ry ⟨_, _, rfl, rfl, k.pure rs (.bl _)⟩) | cases e
theorem op_leB : OpR X (compareOp .LtE) (rOf κ opLe) := by
  intro pins s σ H x y v u Q I rx ry ⟨H0, H1, g, S, dx, dy, d, rs, r1, r2, e, k⟩
  cases dx <;> cases dy <;> first | (cases r1.int; cases r2.int; cases e; exact op_le pins s σ H _ _ v u Q I rx ry ⟨_, _, rfl, rfl, k.pure rs (.bl _)⟩) | (cases r1.str; cases r2.str; cases e; exact op_le_str pins s σ H _ _ v u Q I rx ry ⟨_, _, rfl, rfl, k.pure rs (.bl _)⟩) | cases e
theorem op_gtB : OpR X (compareOp .Gt) (rOf κ opGt) := by
  intro pins s σ H x y v u Q I rx ry ⟨H0, H1, g, S, dx, dy, d, rs, r1, r2, e, k⟩
  cases dx <;> cases dy <;> first | (cases r1.int; cases r2.int; cases e; exact op_gt pins s σ H _ _ v u Q I rx ry ⟨_, _, rfl, rfl, k.pure rs (.bl _)⟩) | (cases r1.str; cases r2.str; cases e; exact op_gt_str pins s σ H _ _ v u Q I rx ry ⟨_, _, rfl, rfl, k.pure rs (.bl _)⟩) | cases e
theorem op_geB : OpR X (compareOp .GtE) (rOf κ opGe) := by
  intro pins s σ H x y v u Q I rx ry ⟨H0, H1, g, S, dx, dy, d, rs, r1, r2, e, k⟩
  cases dx <;> cases dy <;> first | (cases r1.int; cases r2.int; cases e; exact op_ge pins s σ H _ _ v u Q I rx ry ⟨_, _, rfl, rfl, k.pure rs (.bl _)⟩) | (cases r1.str; cases r2.str; cases e; exact op_ge_str pins s σ H _ _ v u Q I rx ry ⟨_, _, rfl, rfl, k.pure rs (.bl _)⟩) | cases e
theorem isQ_ok {H0 H1 : Hp} {g : Gh} {H : Hp} {dx dy : D} {x y : V} {b : Bool} (r1 : RT κ H0 g H dx x) (r2 : RT κ H1 g H dy y) (e : isQ dx dy = some b) :
    (y = .non ∧ b = decide (x = .non)) ∨ ∃ p q, x = .bl p ∧ y = .bl q ∧ b = decide (p = q) := by
  cases dy with
  | non =>
    cases r2.non
    refine .inl ⟨rfl, ?_⟩
    cases r1 with
    | rd r => cases r <;> cases e <;> rfl
    | tmp _ _ _ _ _ => cases e; rfl
    | tdic _ _ _ _ _ _ => cases e; rfl
  | bl q =>
    cases r2.bl
    cases dx with
    | bl p => cases r1.bl; cases e; exact .inr ⟨p, q, rfl, rfl, rfl⟩
    | _ => cases e
  | _ => cases dx <;> cases e
theorem op_isB : OpR X (compareOp .Is) (rOf κ opIs) := by
  intro pins s σ H x y v u Q I rx ry ⟨H0, H1, g, S, dx, dy, d, rs, r1, r2, e, k⟩
  obtain ⟨b, e1, rfl⟩ := Option.map_eq_some_iff.mp e
  rcases isQ_ok r1 r2 e1 with ⟨rfl, rfl⟩ | ⟨p, q, rfl, rfl, rfl⟩
  · exact op_isN pins s σ H _ _ v u Q I rx ry ⟨rfl, k.pure rs (.bl _)⟩
  · exact op_isBl pins s σ H _ _ v u Q I rx ry ⟨p, q, rfl, rfl, k.pure rs (.bl _)⟩
theorem op_isNotB : OpR X (compareOp .IsNot) (rOf κ opIsNot) := by
  intro pins s σ H x y v u Q I rx ry ⟨H0, H1, g, S, dx, dy, d, rs, r1, r2, e, k⟩
  obtain ⟨b, e1, rfl⟩ := Option.map_eq_some_iff.mp e
  rcases isQ_ok r1 r2 e1 with ⟨rfl, rfl⟩ | ⟨p, q, rfl, rfl, rfl⟩
  · exact op_notN pins s σ H _ _ v u Q I rx ry ⟨rfl, k.pure rs (.bl _)⟩
  · exact op_notBl pins s σ H _ _ v u Q I rx ry ⟨p, q, rfl, rfl, k.pure rs (.bl _)⟩

/-! ### in -/
theorem flat_ok {H0 : Hp} {g : Gh} {H : Hp} {d : D} {v : V} (r : RT κ H0 g H d v) (f : flatD d = true) : flatV v = true := by
  cases r with
  | rd r => cases r <;> first | rfl | cases f
  | tmp _ _ _ _ _ => cases f
  | tdic _ _ _ _ _ _ => cases f
theorem flats_ok {g : Gh} {H : Hp} : ∀ {ds : List D} {vs : List V}, RDs κ g H ds vs → ds.all flatD = true → vs.all flatV = true
  | _, _, .nil, _ => rfl
  | _, _, .cons h t, f => by
    rw [List.all_cons, Bool.and_eq_true] at f ⊢
    exact ⟨flat_ok (H0 := fun _ => none) (.rd h) f.1, flats_ok t f.2⟩
theorem str_eq {a b : List Nat} : ((⟨a.toArray⟩ : Str) == ⟨b.toArray⟩) = (a == b) := by
  rw [Bool.eq_iff_iff, beq_iff_eq, beq_iff_eq]
  constructor
  · intro h
    have e := congrArg (fun z : Str => z.cps.toList) h
    simpa using e
  · intro h; rw [h]
theorem eqF_ok {H0 H1 : Hp} {g : Gh} {H : Hp} {d e : D} {v u : V} (r : RT κ H0 g H d v) (q : RT κ H1 g H e u) (f1 : flatD d = true) (f2 : flatD e = true) : eqV v u = eqF d e := by
  cases d with
  | non => cases r.non; cases e <;> first | (cases q.non; rfl) | (cases q.bl; rfl) | (cases q.int; rfl) | (cases q.str; rfl) | cases f2
  | bl b => cases r.bl; cases e <;> first | (cases q.non; rfl) | (cases q.bl; rfl) | (cases q.int; rfl) | (cases q.str; rfl) | cases f2
  | int b => cases r.int; cases e <;> first | (cases q.non; rfl) | (cases q.bl; rfl) | (cases q.int; rfl) | (cases q.str; rfl) | cases f2
  | str b => cases r.str; cases e <;> first | (cases q.non; rfl) | (cases q.bl; rfl) | (cases q.int; rfl) | (cases q.str; exact str_eq) | cases f2
  | _ => cases f1
theorem anyF_ok {H0 : Hp} {g : Gh} {H : Hp} {e : D} {u : V} (q : RT κ H0 g H e u) (f2 : flatD e = true) : ∀ {ds : List D} {vs : List V}, RDs κ g H ds vs → ds.all flatD = true → inV u vs = ds.any fun y => eqF y e
  | _, _, .nil, _ => rfl
  | _, _, .cons h t, f => by
    rw [List.all_cons, Bool.and_eq_true] at f
    unfold inV
    rw [List.any_cons, List.any_cons, eqF_ok (H0 := fun _ => none) (.rd h) q f.1 f2]
    exact congrArg _ (anyF_ok q f2 t f.2)
theorem getK_ok {g : Gh} {H : Hp} : ∀ {ks : List DK} {ds : List D} {kvs : List (Key × V)} {k : DK}, kvs.map Prod.fst = ks.map keyK → RDs κ g H ds (kvs.map Prod.snd) →
    (getK ks ds k = none ∧ valV kvs (keyK k) = none) ∨ ∃ d v, getK ks ds k = some d ∧ valV kvs (keyK k) = some v ∧ RD κ g H d v
  | [], ds, [], k, _, r => .inl ⟨by cases ds <;> rfl, rfl⟩
  | [], _, _ :: _, _, e, _ => nomatch e
  | _ :: _, _, [], _, e, _ => nomatch e
  | q :: ks, ds, p :: kvs, k, e, r => by
    obtain ⟨pk, pv⟩ := p
    injection e with e1 e2
    have e1 : pk = keyK q := e1
    cases r with
    | @cons d v ds vs h t =>
      by_cases hk : q = k
      · subst hk
        refine .inr ⟨d, pv, by simp [getK], ?_, h⟩
        rw [valV_pos e1]
      · have hn : ¬ pk = keyK k := fun z => hk (keyK_inj (e1.symm.trans z))
        rw [valV_neg hn]
        unfold getK
        rw [if_neg hk]
        exact getK_ok e2 t
theorem keyD_ok {H0 : Hp} {g : Gh} {H : Hp} {d : D} {v : V} {k : DK} (r : RT κ H0 g H d v) (e : keyD d = some k) : v = kV (keyK k) := by
  cases d with
  | int i => cases r.int; cases e; rfl
  | str i => cases r.str; cases e; rfl
  | _ => cases e
/-- what in may be -/
inductive InW (K : PySem.W.Frag) (H : Hp) (x y : V) (b : Bool) : Prop
  | sign (c : Nat) (z : Str) (e1 : x = .str ⟨#[c]⟩) (e2 : y = .str z) (e : b = decide (c ∈ z.cps.toList))
  | seq (p : Addr) (xs : List V) (e2 : y = .ref p) (h : SqL K H p xs ∨ SqT K H p xs) (f : flatV x = true) (fs : xs.all flatV = true) (e : b = inV x xs)
  | deep (d : PyData) (ds : List PyData) (h1 : Dp K H x d) (h2 : Dp K H y (.list ds)) (s1 : SeqAt.shaped d = true) (s2 : SeqAt.shaped (.list ds) = true) (e : b = ds.any fun z => PyData.eqv z d)
  | dict (a : Addr) (o : Option V) (e2 : y = .ref a) (g : DGet H a x o) (e : b = o.isSome)
theorem inQ_ok {H0 H1 : Hp} {g : Gh} {H : Hp} {S : Store} {dx dy : D} {x y : V} {b : Bool} (rs : RS κ g H S) (r1 : RT κ H0 g H dx x) (r2 : RT κ H1 g H dy y) (e : inQ S dx dy = some b) : InW κ.K H x y b := by
  have rest : (match viewL S dy with
    | some xs =>
      if flatD dx = true ∧ xs.all flatD = true then some (xs.any fun y => eqF y dx)
      else match toPS S dx, toPs xs with
        | some p, some ps => if SeqAt.shaped p = true ∧ SeqAt.shaped (.list ps) = true then some (ps.any fun z => PyData.eqv z p) else none
        | _, _ => none
    | none => match viewD S dy, keyD dx with
      | some (ks, vs), some k => some (getK ks vs k).isSome
      | _, _ => none) = some b → InW κ.K H x y b := fun e => by
    split at e
    · rename_i xs e1
      obtain ⟨p, vs, rfl, h1, q1⟩ := viewL_ok rs r2 e1
      split at e
      · rename_i hf
        cases e
        exact .seq p vs rfl (.inl (SqL.of h1)) (flat_ok r1 hf.1) (flats_ok q1 hf.2) (anyF_ok r1 hf.1 q1 hf.2).symm
      · split at e
        · rename_i pd ps e2 e3
          obtain ⟨hs, rfl⟩ := ite_some e
          exact .deep pd ps (toPS_ok rs r1 e2) (.lst (SqL.of h1) (toPs_ok q1 e3)) hs.1 hs.2 rfl
        · cases e
    · split at e
      · rename_i ks vs k e1 e2
        cases e
        obtain ⟨p, kvs, rfl, h1, q1, q2⟩ := viewD_ok rs r2 e1
        cases keyD_ok r1 e2
        refine .dict p (valV kvs (keyK k)) rfl (DGet.k h1) ?_
        rcases getK_ok (k := k) q1 q2 with ⟨z1, z2⟩ | ⟨d, v, z1, z2, _⟩ <;> rw [z1, z2] <;> rfl
      · cases e
  cases dy with
  | str z =>
    cases r2.str
    cases dx with
    | str t =>
      cases r1.str
      match t, e with
      | [c], e =>
        cases e
        exact .sign c _ rfl rfl (by simp)
      | [], e => cases e
      | _ :: _ :: _, e => cases e
    | _ => cases e
  | tup xs =>
    obtain ⟨p, vs, rfl, h1, q1⟩ := r2.tup
    obtain ⟨hf, rfl⟩ := ite_some e
    exact .seq p vs rfl (.inr h1) (flat_ok r1 hf.1) (flats_ok q1 hf.2) (anyF_ok r1 hf.1 q1 hf.2).symm
  | _ => exact rest e
theorem op_inB (hK : X.K = κ.K) (hu : X.A.units + 65 < cLine) : OpR X (compareOp .In) (rOf κ opIn) := by
  intro pins s σ H x y v u Q I rx ry ⟨H0, H1, g, S, dx, dy, d, rs, r1, r2, e, k⟩
  obtain ⟨b, e1, rfl⟩ := Option.map_eq_some_iff.mp e
  have w := inQ_ok rs r1 r2 e1
  rw [← hK] at w
  have k' := k.pure rs (.bl b)
  cases w with
  | sign c z e1 e2 e =>
    subst e1 e2 e
    exact op_in_sign pins s σ H _ _ v u Q I rx ry ⟨c, z, rfl, rfl, k'⟩
  | seq p xs e2 h f fs e =>
    subst e2 e
    exact op_in_seq pins s σ H _ _ v u Q I rx ry ⟨p, xs, rfl, h, f, fs, k'⟩
  | deep d ds h1 h2 s1 s2 e =>
    subst e
    exact op_inD hu pins s σ H _ _ v u Q I rx ry ⟨d, ds, h1, h2, s1, s2, k'⟩
  | dict a o e2 gt e =>
    subst e2 e
    obtain rfl : u = Value.ref a := ry
    exact d_in (by omega) I gt rx fun s3 I3 => ⟨.bl o.isSome, H, I3, rfl, k'⟩
theorem op_notInB (hK : X.K = κ.K) (hu : X.A.units + 65 < cLine) : OpR X (compareOp .NotIn) (rOf κ opNotIn) := by
  intro pins s σ H x y v u Q I rx ry ⟨H0, H1, g, S, dx, dy, d, rs, r1, r2, e, k⟩
  obtain ⟨b, e1, rfl⟩ := Option.map_eq_some_iff.mp e
  have w := inQ_ok rs r1 r2 e1
  rw [← hK] at w
  have k' := k.pure rs (.bl (!b))
  cases w with
  | sign c z e1 e2 e =>
    subst e1 e2 e
    exact op_notIn_sign pins s σ H _ _ v u Q I rx ry ⟨c, z, rfl, rfl, k'⟩
  | seq p xs e2 h f fs e =>
    subst e2 e
    exact op_notIn_seq pins s σ H _ _ v u Q I rx ry ⟨p, xs, rfl, h, f, fs, k'⟩
  | deep d ds h1 h2 s1 s2 e =>
    subst e
    exact op_notInD hu pins s σ H _ _ v u Q I rx ry ⟨d, ds, h1, h2, s1, s2, k'⟩
  | dict a o e2 gt e =>
    subst e2 e
    obtain rfl : u = Value.ref a := ry
    exact d_notIn (by omega) I gt rx fun s3 I3 => ⟨.bl (!o.isSome), H, I3, rfl, k'⟩
theorem opCmp_ok (hK : X.K = κ.K) (hu : X.A.units + 65 < cLine) {op : CmpOp} {f : Store → D → D → Option D} (h : opCmp op = some f) : OpR X (compareOp op) (rOf κ f) := by
  cases op <;> cases h
  · exact op_eqB hK hu
  · exact op_neB hK hu
  · exact op_ltB
  · exact op_leB
  · exact op_gtB
  · exact op_geB
  · exact op_isB
  · exact op_isNotB
  · exact op_inB hK hu
  · exact op_notInB hK hu
end
end LB
end

section
set_option Elab.async false
set_option linter.all false
set_option maxRecDepth 100000
set_option maxHeartbeats 4000000
/-! Layer B, part 5: subscripts, slices, built-in functions, by values. -/
namespace LB
open PySem PySem.Spec L2
open PyProof.Rows (subscriptTail)

/-! ### a[b] -/
def opIx (S : Store) (a b : D) : Option D := match b with
  | .int i => match a with
    | .tup xs => atI xs i
    | .str z => if z.length ≤ SL then (atI z i).map fun c => .str [c] else none
    | .scr ns => (atI ns i).map .int
    | a => match viewL S a with
      | some xs => atI xs i
      | none => match viewD S a with
        | some (ks, vs) => getK ks vs (.inl i)
        | none => none
  | .str s => match viewD S a with
    | some (ks, vs) => getK ks vs (.inr s)
    | none => none
  | _ => none
section
variable {X : Cx} {κ : Kx}
theorem atI_ok {g : Gh} {H : Hp} {xs : List D} {vs : List V} {i : Int} {d : D} (r : RDs κ g H xs vs) (e : atI xs i = some d) : ∃ v, atI vs i = some v ∧ RD κ g H d v := by
  unfold atI at e ⊢
  rw [r.length] at e
  cases q : ixN vs.length i with
  | none => rw [q] at e; cases e
  | some j =>
    rw [q] at e
    exact r.get e
theorem atI_map {α β : Type} {f : α → β} {xs : List α} {i : Int} {x : α} (e : atI xs i = some x) : atI (xs.map f) i = some (f x) := by
  unfold atI at e ⊢
  rw [List.length_map]
  cases q : ixN xs.length i with
  | none => rw [q] at e; cases e
  | some j =>
    rw [q] at e
    show (xs.map f)[j]? = some (f x)
    have e : xs[j]? = some x := e
    rw [List.getElem?_map, e]
    rfl
/-- a dict's value -/
def rIxDic : R2 := fun x y H Q => ∃ a v, x = .ref a ∧ DGet H a y (some v) ∧ Q v H
theorem ix_dic (hu : X.A.units + 1 < cLine) : IxR X rIxDic := by
  intro value slice pins s σ H x y v u Q I rx ry h hs
  obtain ⟨a, w, rfl, gt, q⟩ := h
  obtain rfl : v = Value.ref a := rx
  have hT := dict_typeIs I gt
  unfold subscriptTail
  refine wpAny_bind ?_
  rw [getitemInPython_of_ne hT.not_modules]
  have done : wpAny (model X.prog X.w) X.A (subscripted slice false (.ref a) u) (fun r s₃ => wpAny (model X.prog X.w) X.A (letTemporaryGo value (.ref a) r >>= fun _ => pure r) (EP X pins σ Q) X.xe s₃) X.xe s := by
    rw [hs]
    exact wpAny_operating (d_getItem hu I gt ry fun w' s3 I3 rw' => wpAny_bind (wpAny_letTemporaryGo (wpAny_pure ⟨w, H, I3, rw', q⟩)))
  refine wpAny_bind (wpAny_specialOf hT PySem.F.slot_dict_getitem.lookup ?_)
  first
    | exact wpAny_pure (wpAny_bind done)
    | exact wpAny_bind (wpAny_pure (wpAny_bind done))
    | exact wpAny_bind done
theorem ix_B (hK : X.K = κ.K) (hu : X.A.units + 65 < cLine) : IxR X (rOf κ opIx) := by
  intro value slice pins s σ H x y v u Q I rx ry ⟨H0, H1, g, S, dx, dy, d, rs, r1, r2, e, k⟩ hs
  have dict : ∀ {ks : List DK} {vs : List D} {q : DK}, viewD S dx = some (ks, vs) → y = kV (keyK q) → getK ks vs q = some d → wpAny (model X.prog X.w) X.A (subscriptTail value slice v u) (EP X pins σ Q) X.xe s := by
    intro ks vs q e1 ey e2
    obtain ⟨p, kvs, rfl, h1, q1, q2⟩ := viewD_ok rs r1 e1
    rcases getK_ok (k := q) q1 q2 with ⟨z1, z2⟩ | ⟨d', w, z1, z2, z3⟩
    · rw [z1] at e2; cases e2
    · rw [z1] at e2; cases e2
      subst ey
      exact ix_dic (by omega) value slice pins s σ H _ _ v u Q I rx ry ⟨p, w, rfl, by rw [← z2]; exact DGet.k h1, k.pure rs z3⟩ hs
  cases dy with
  | int i =>
    cases r2.int
    have viaL : (match viewL S dx with
      | some xs => atI xs i
      | none => match viewD S dx with
        | some (ks, vs) => getK ks vs (.inl i)
        | none => none) = some d → wpAny (model X.prog X.w) X.A (subscriptTail value slice v u) (EP X pins σ Q) X.xe s := fun e => by
      split at e
      · rename_i xs e1
        obtain ⟨p, vs, rfl, h1, q1⟩ := viewL_ok rs r1 e1
        obtain ⟨w, h2, q2⟩ := atI_ok q1 e
        exact ix_list value slice pins s σ H _ _ v u Q I rx ry ⟨p, vs, i, w, rfl, rfl, SqL.of h1, h2, k.pure rs q2⟩ hs
      · split at e
        · rename_i ks vs e1
          exact dict e1 rfl e
        · cases e
    cases dx with
    | tup xs =>
      obtain ⟨p, vs, rfl, h1, q1⟩ := r1.tup
      obtain ⟨w, h2, q2⟩ := atI_ok q1 e
      exact ix_tup value slice pins s σ H _ _ v u Q I rx ry ⟨p, vs, i, w, rfl, rfl, by rw [hK]; exact h1, h2, k.pure rs q2⟩ hs
    | str z =>
      cases r1.str
      have e : (if z.length ≤ SL then (atI z i).map fun c => D.str [c] else none) = some d := e
      by_cases hz : z.length ≤ SL
      · rw [if_pos hz] at e
        obtain ⟨c, e1, rfl⟩ := Option.map_eq_some_iff.mp e
        exact ix_str value slice pins s σ H _ _ v u Q I rx ry ⟨_, i, c, rfl, rfl, by rw [str_len, SL_eq]; exact hz, e1, k.pure rs (.str [c])⟩ hs
      · rw [if_neg hz] at e; cases e
    | scr ns =>
      obtain ⟨p, rfl, h1⟩ := r1.scr
      obtain ⟨n, e1, rfl⟩ := Option.map_eq_some_iff.mp e
      exact ix_list value slice pins s σ H _ _ v u Q I rx ry ⟨p, _, i, _, rfl, rfl, by rw [hK]; exact h1, atI_map e1, k.pure rs (.int n)⟩ hs
    | _ => exact viaL e
  | str t =>
    cases r2.str
    have e : (match viewD S dx with
      | some (ks, vs) => getK ks vs (.inr t)
      | none => none) = some d := e
    split at e
    · rename_i ks vs e1
      exact dict e1 rfl e
    · cases e
  | _ => cases dx <;> cases e

/-! ### a[lo:hi] -/
def cutD {α : Type} (xs : List α) (lo hi : Option Int) : List α := (xs.drop (HT.sIx xs.length 0 lo)).take (HT.sIx xs.length xs.length hi - HT.sIx xs.length 0 lo)
def opSl (S : Store) (a : D) (lo hi : Option Int) : Option D := match a with
  | .tup xs => some (.tup (cutD xs lo hi))
  | .str z => if z.length ≤ SL then some (.str (cutD z lo hi)) else none
  | .scr ns => some (.tmp ((cutD ns lo hi).map .int))
  | a => (viewL S a).map fun xs => .tmp (cutD xs lo hi)
theorem cutD_ok {g : Gh} {H : Hp} {xs : List D} {vs : List V} (r : RDs κ g H xs vs) (lo hi : Option Int) : RDs κ g H (cutD xs lo hi) (cutV vs lo hi) := by
  unfold cutD cutV
  rw [r.length]
  exact (r.drop _).take _
theorem cut_map (f : Int → V) (ns : List Int) (lo hi : Option Int) : cutV (ns.map f) lo hi = (cutD ns lo hi).map f := by
  unfold cutD cutV
  rw [List.length_map, List.map_take, List.map_drop]
def rSl (κ : Kx) : V → Option Int → Option Int → Hp → VK → Prop := fun x lo hi H Q => ∃ H0 g S dx d, RS κ g H S ∧ RT κ H0 g H dx x ∧ opSl S dx lo hi = some d ∧ KV κ g H S d Q
theorem sl_B (hK : X.K = κ.K) : SlR X (rSl κ) := by
  intro pins s σ H x v vl vu lo hi sl Q I rx hs pl pu ⟨H0, g, S, dx, d, rs, r1, e, k⟩
  have viaL : (viewL S dx).map (fun xs => D.tmp (cutD xs lo hi)) = some d → ∃ T id, typeLookup (.type T) "__getitem__" = pure (some (.builtin id)) ∧ s.TypeIs v T ∧ wpAny (model X.prog X.w) X.A (getItem v (.ref sl)) (EP X pins σ Q) X.xe s := fun e => by
    obtain ⟨xs, e1, rfl⟩ := Option.map_eq_some_iff.mp e
    obtain ⟨p, vs, rfl, h1, q1⟩ := viewL_ok rs r1 e1
    exact sl_list pins s σ H _ v vl vu lo hi sl Q I rx hs pl pu ⟨p, vs, rfl, SqL.of h1, fun q hq => k g _ _ (Ext.lay hq) (rs.lay hq) (lay_lst rs hq (cutD_ok q1 lo hi))⟩
  cases dx with
  | tup xs =>
    cases e
    obtain ⟨p, vs, rfl, h1, q1⟩ := r1.tup
    refine sl_tupA pins s σ H _ v vl vu lo hi sl Q I rx hs pl pu ⟨p, vs, rfl, by rw [hK]; exact h1, fun ⟨z1, z2⟩ => ?_, fun _ q hq => k g _ _ (Ext.lay hq) (rs.lay hq) (.rd (lay_tup rs hq (cutD_ok q1 lo hi)))⟩
    have z : cutD xs lo hi = xs := by
      unfold cutD
      rw [q1.length, z1, z2, List.drop_zero, ← q1.length]
      exact List.take_length
    rw [z] at k
    exact k.pure rs (.tup h1 q1)
  | str z =>
    cases r1.str
    obtain ⟨hz, rfl⟩ := ite_some e
    have e2 : cutS (⟨z.toArray⟩ : Str) lo hi = ⟨(cutD z lo hi).toArray⟩ := by
      unfold cutS cutD
      rw [str_len]
    refine sl_str pins s σ H _ v vl vu lo hi sl Q I rx hs pl pu ⟨_, rfl, by rw [str_len, SL_eq]; exact hz, ?_⟩
    rw [e2]
    exact k.pure rs (.str _)
  | scr ns =>
    cases e
    obtain ⟨p, rfl, h1⟩ := r1.scr
    refine sl_list pins s σ H _ v vl vu lo hi sl Q I rx hs pl pu ⟨p, _, rfl, by rw [hK]; exact h1, fun q hq => ?_⟩
    rw [cut_map]
    exact k g _ _ (Ext.lay hq) (rs.lay hq) (lay_lst rs hq (RDs.ints _))
  | _ => exact viaL e

/-! ### built-in functions -/
def rCall (κ : Kx) (f : Store → List D → Option D) : List V → Hp → VK → Prop := fun vs H Q => ∃ g S ds d, RS κ g H S ∧ RDs κ g H ds vs ∧ f S ds = some d ∧ KV κ g H S d Q
theorem RDs.one {g : Gh} {H : Hp} {d : D} {vs : List V} (r : RDs κ g H [d] vs) : ∃ v, vs = [v] ∧ RD κ g H d v := by
  cases r with | cons h t => cases t; exact ⟨_, rfl, h⟩
theorem RDs.two {g : Gh} {H : Hp} {d e : D} {vs : List V} (r : RDs κ g H [d, e] vs) : ∃ v w, vs = [v, w] ∧ RD κ g H d v ∧ RD κ g H e w := by
  cases r with | cons h t => cases t with | cons h2 t => cases t; exact ⟨_, _, rfl, h, h2⟩
theorem toRT {g : Gh} {H : Hp} {d : D} {v : V} (r : RD κ g H d v) : RT κ H g H d v := .rd r

def fLen1 (S : Store) : D → Option D
  | .str z => if z.length ≤ SL then some (.int z.length) else none
  | .tup xs => some (.int xs.length)
  | .scr ns => some (.int ns.length)
  | a => match viewL S a with
    | some xs => some (.int xs.length)
    | none => (viewD S a).map fun p => .int p.1.length
def fLen (S : Store) : List D → Option D
  | [a] => fLen1 S a
  | _ => none
theorem fLen_ok (hK : X.K = κ.K) : CallR X (.builtin "len") (rCall κ fLen) := by
  intro pins s σ H xs us Q I r ⟨g, S, ds, d, rs, r1, e, k⟩
  match ds, r1, e with
  | [], _, e => cases e
  | _ :: _ :: _, _, e => cases e
  | [dx], r1, e =>
    obtain ⟨x, rfl, q⟩ := r1.one
    have viaL : (match viewL S dx with
      | some xs => some (D.int xs.length)
      | none => (viewD S dx).map fun p => .int p.1.length) = some d → wpAny (model X.prog X.w) X.A (call (.builtin "len") us) (EP X pins σ Q) X.xe s := fun e => by
      split at e
      · rename_i ys e1
        cases e
        obtain ⟨p, vs, rfl, h1, q1⟩ := viewL_ok rs (toRT q) e1
        exact call_len_seq pins s σ H _ us Q I r ⟨p, vs, rfl, .inl (SqL.of h1), by rw [← q1.length]; exact k.pure rs (.int _)⟩
      · obtain ⟨⟨ks, vs⟩, e1, rfl⟩ := Option.map_eq_some_iff.mp e
        obtain ⟨p, kvs, rfl, h1, q1, q2⟩ := viewD_ok rs (toRT q) e1
        have el : kvs.length = ks.length := by
          have z := congrArg List.length q1
          rw [List.length_map, List.length_map] at z
          exact z
        exact call_lenD pins s σ H _ us Q I r ⟨p, kvs, rfl, h1, by rw [el]; exact k.pure rs (.int _)⟩
    cases dx with
    | str z =>
      cases (toRT q).str
      obtain ⟨hz, rfl⟩ := ite_some e
      exact call_len_str pins s σ H _ us Q I r ⟨_, rfl, by rw [str_len, SL_eq]; exact hz, by rw [str_len]; exact k.pure rs (.int _)⟩
    | tup ys =>
      cases e
      obtain ⟨p, vs, rfl, h1, q1⟩ := (toRT q).tup
      exact call_len_seq pins s σ H _ us Q I r ⟨p, vs, rfl, .inr (by rw [hK]; exact h1), by rw [← q1.length]; exact k.pure rs (.int _)⟩
    | scr ns =>
      cases e
      obtain ⟨p, rfl, h1⟩ := (toRT q).scr
      exact call_len_seq pins s σ H _ us Q I r ⟨p, _, rfl, .inl (by rw [hK]; exact h1), by rw [List.length_map]; exact k.pure rs (.int _)⟩
    | _ => exact viaL e
def fAbs (_ : Store) : List D → Option D
  | [.int i] => some (.int (if i < 0 then -i else i))
  | _ => none
theorem fAbs_ok : CallR X (.builtin "abs") (rCall κ fAbs) := by
  intro pins s σ H xs us Q I r ⟨g, S, ds, d, rs, r1, e, k⟩
  match ds, r1, e with
  | [.int i], r1, e =>
    cases e
    obtain ⟨x, rfl, q⟩ := r1.one
    cases (toRT q).int
    exact call_abs pins s σ H _ us Q I r ⟨i, rfl, k.pure rs (.int _)⟩
/-- the greatest, the least -/
def maxI : List Int → Int
  | [] => 0
  | [i] => i
  | i :: r => if maxI r ≤ i then i else maxI r
def minI : List Int → Int
  | [] => 0
  | [i] => i
  | i :: r => if i ≤ minI r then i else minI r
theorem maxI_mem : ∀ {ns : List Int}, ns ≠ [] → maxI ns ∈ ns
  | [], h => absurd rfl h
  | [i], _ => List.mem_singleton.mpr rfl
  | i :: j :: r, _ => by
    unfold maxI
    split
    · exact List.mem_cons_self
    · exact List.mem_cons_of_mem _ (maxI_mem (by simp))
theorem maxI_ge : ∀ {ns : List Int} {y : Int}, y ∈ ns → y ≤ maxI ns
  | [i], y, h => by rw [List.mem_singleton.mp h]; exact Int.le_refl _
  | i :: j :: r, y, h => by
    have ih := @maxI_ge (j :: r)
    unfold maxI
    rcases List.mem_cons.mp h with rfl | h
    · split <;> omega
    · have := ih h
      split <;> omega
theorem minI_mem : ∀ {ns : List Int}, ns ≠ [] → minI ns ∈ ns
  | [], h => absurd rfl h
  | [i], _ => List.mem_singleton.mpr rfl
  | i :: j :: r, _ => by
    unfold minI
    split
    · exact List.mem_cons_self
    · exact List.mem_cons_of_mem _ (minI_mem (by simp))
theorem minI_le : ∀ {ns : List Int} {y : Int}, y ∈ ns → minI ns ≤ y
  | [i], y, h => by rw [List.mem_singleton.mp h]; exact Int.le_refl _
  | i :: j :: r, y, h => by
    have ih := @minI_le (j :: r)
    unfold minI
    rcases List.mem_cons.mp h with rfl | h
    · split <;> omega
    · have := ih h
      split <;> omega
def intsD : List D → Option (List Int)
  | [] => some []
  | .int i :: r => (intsD r).map (i :: ·)
  | _ => none
theorem intsD_ok {g : Gh} {H : Hp} : ∀ {ds : List D} {vs : List V} {ns : List Int}, RDs κ g H ds vs → intsD ds = some ns → vs = ns.map V.int
  | [], _, _, r, e => by cases r; cases e; rfl
  | .int i :: ds, _, _, r, e => by
    cases r with
    | cons h t =>
      obtain ⟨ns, e1, rfl⟩ := Option.map_eq_some_iff.mp e
      cases (toRT h).int
      rw [intsD_ok t e1]
      rfl
  | .non :: _, _, _, _, e => nomatch e
  | .bl _ :: _, _, _, _, e => nomatch e
  | .str _ :: _, _, _, _, e => nomatch e
  | .tup _ :: _, _, _, _, e => nomatch e
  | .lst _ :: _, _, _, _, e => nomatch e
  | .dic _ _ :: _, _, _, _, e => nomatch e
  | .tmp _ :: _, _, _, _, e => nomatch e
  | .tdic _ _ :: _, _, _, _, e => nomatch e
  | .scr _ :: _, _, _, _, e => nomatch e
  | .ref _ :: _, _, _, _, e => nomatch e
  | .fn _ :: _, _, _, _, e => nomatch e
  | .cls _ :: _, _, _, _, e => nomatch e
  | .ty _ :: _, _, _, _, e => nomatch e
  | .exn _ _ :: _, _, _, _, e => nomatch e
def fMax2 : D → D → Option D
  | .int i, .int j => some (.int (if j > i then j else i))
  | _, _ => none
def fMax (S : Store) : List D → Option D
  | [a, b] => fMax2 a b
  | [a] => match viewL S a with
    | some xs => match intsD xs with
      | some ns => if 0 < ns.length then some (.int (maxI ns)) else none
      | none => none
    | none => none
  | _ => none
theorem fMax_ok (hc : X.calm = true) : CallR X (.builtin "max") (rCall κ fMax) := by
  intro pins s σ H xs us Q I r ⟨g, S, ds, d, rs, r1, e, k⟩
  match ds, r1, e with
  | [], _, e => cases e
  | [dx], r1, e =>
    obtain ⟨x, rfl, q⟩ := r1.one
    have e : (match viewL S dx with
      | some xs => match intsD xs with
        | some ns => if 0 < ns.length then some (D.int (maxI ns)) else none
        | none => none
      | none => none) = some d := e
    split at e
    · rename_i ys e1
      obtain ⟨p, vs, rfl, h1, q1⟩ := viewL_ok rs (toRT q) e1
      split at e
      · rename_i ns e2
        obtain ⟨hn, rfl⟩ := ite_some e
        rw [intsD_ok q1 e2] at h1
        refine cr_max hc pins s σ H _ us Q I r ⟨p, ns, rfl, SqL.of h1, hn, fun m hm hy => ?_⟩
        have em : m = maxI ns := Int.le_antisymm (maxI_ge hm) (hy _ (maxI_mem (by intro z; rw [z] at hn; cases hn)))
        rw [em]
        exact k.pure rs (.int _)
      · cases e
    · cases e
  | _ :: _ :: _ :: _, _, e => cases e
  | [da, db], r1, e =>
    obtain ⟨x, y, rfl, q1, q2⟩ := r1.two
    cases da with
    | int i =>
      cases db with
      | int j =>
        cases e
        cases (toRT q1).int; cases (toRT q2).int
        exact call_max2 hc pins s σ H _ us Q I r ⟨i, j, rfl, k.pure rs (.int _)⟩
      | _ => cases e
    | _ => cases e
def fMin2 : D → D → Option D
  | .int i, .int j => some (.int (if j < i then j else i))
  | _, _ => none
def fMin (S : Store) : List D → Option D
  | [a, b] => fMin2 a b
  | [a] => match viewL S a with
    | some xs => match intsD xs with
      | some ns => if 0 < ns.length then some (.int (minI ns)) else none
      | none => none
    | none => none
  | _ => none
theorem fMin_ok (hc : X.calm = true) : CallR X (.builtin "min") (rCall κ fMin) := by
  intro pins s σ H xs us Q I r ⟨g, S, ds, d, rs, r1, e, k⟩
  match ds, r1, e with
  | [], _, e => cases e
  | [dx], r1, e =>
    obtain ⟨x, rfl, q⟩ := r1.one
    have e : (match viewL S dx with
      | some xs => match intsD xs with
        | some ns => if 0 < ns.length then some (D.int (minI ns)) else none
        | none => none
      | none => none) = some d := e
    split at e
    · rename_i ys e1
      obtain ⟨p, vs, rfl, h1, q1⟩ := viewL_ok rs (toRT q) e1
      split at e
      · rename_i ns e2
        obtain ⟨hn, rfl⟩ := ite_some e
        rw [intsD_ok q1 e2] at h1
        refine cr_min hc pins s σ H _ us Q I r ⟨p, ns, rfl, SqL.of h1, hn, fun m hm hy => ?_⟩
        have em : m = minI ns := Int.le_antisymm (hy _ (minI_mem (by intro z; rw [z] at hn; cases hn))) (minI_le hm)
        rw [em]
        exact k.pure rs (.int _)
      · cases e
    · cases e
  | _ :: _ :: _ :: _, _, e => cases e
  | [da, db], r1, e =>
    obtain ⟨x, y, rfl, q1, q2⟩ := r1.two
    cases da with
    | int i =>
      cases db with
      | int j =>
        cases e
        cases (toRT q1).int; cases (toRT q2).int
        exact call_min2 hc pins s σ H _ us Q I r ⟨i, j, rfl, k.pure rs (.int _)⟩
      | _ => cases e
    | _ => cases e
def fSum (S : Store) : List D → Option D
  | [a] => match viewL S a with
    | some xs => (intsD xs).map fun ns => .int ns.sum
    | none => none
  | _ => none
theorem fSum_ok (hc : X.calm = true) : CallR X (.builtin "sum") (rCall κ fSum) := by
  intro pins s σ H xs us Q I r ⟨g, S, ds, d, rs, r1, e, k⟩
  match ds, r1, e with
  | [], _, e => cases e
  | _ :: _ :: _, _, e => cases e
  | [dx], r1, e =>
    obtain ⟨x, rfl, q⟩ := r1.one
    have e : (match viewL S dx with
      | some xs => (intsD xs).map fun ns => D.int ns.sum
      | none => none) = some d := e
    split at e
    · rename_i ys e1
      obtain ⟨p, vs, rfl, h1, q1⟩ := viewL_ok rs (toRT q) e1
      obtain ⟨ns, e2, rfl⟩ := Option.map_eq_some_iff.mp e
      rw [intsD_ok q1 e2] at h1
      exact cr_sum hc pins s σ H _ us Q I r ⟨p, ns, rfl, SqL.of h1, k.pure rs (.int _)⟩
    · cases e
def blsD : List D → Option (List Bool)
  | [] => some []
  | .bl i :: r => (blsD r).map (i :: ·)
  | _ => none
theorem blsD_ok {g : Gh} {H : Hp} : ∀ {ds : List D} {vs : List V} {ns : List Bool}, RDs κ g H ds vs → blsD ds = some ns → vs = ns.map V.bl := by
  intro ds
  induction ds with
  | nil => intro vs ns r e; cases r; cases e; rfl
  | cons d ds ih =>
    intro vs ns r e
    cases r with
    | cons h t =>
      cases d with
      | bl b =>
        obtain ⟨ms, e1, rfl⟩ := Option.map_eq_some_iff.mp e
        cases (toRT h).bl
        rw [ih t e1]
        rfl
      | _ => cases e
def fAll (S : Store) : List D → Option D
  | [a] => match viewL S a with
    | some xs => (blsD xs).map fun ns => .bl (ns.all id)
    | none => none
  | _ => none
theorem fAll_ok (hc : X.calm = true) : CallR X (.builtin "all") (rCall κ fAll) := by
  intro pins s σ H xs us Q I r ⟨g, S, ds, d, rs, r1, e, k⟩
  match ds, r1, e with
  | [], _, e => cases e
  | _ :: _ :: _, _, e => cases e
  | [dx], r1, e =>
    obtain ⟨x, rfl, q⟩ := r1.one
    have e : (match viewL S dx with
      | some xs => (blsD xs).map fun ns => D.bl (ns.all id)
      | none => none) = some d := e
    split at e
    · rename_i ys e1
      obtain ⟨p, vs, rfl, h1, q1⟩ := viewL_ok rs (toRT q) e1
      obtain ⟨ns, e2, rfl⟩ := Option.map_eq_some_iff.mp e
      rw [blsD_ok q1 e2] at h1
      exact cr_all hc pins s σ H _ us Q I r ⟨p, ns, rfl, SqL.of h1, k.pure rs (.bl _)⟩
    · cases e
def fAny (S : Store) : List D → Option D
  | [a] => match viewL S a with
    | some xs => (blsD xs).map fun ns => .bl (ns.any id)
    | none => none
  | _ => none
theorem fAny_ok (hc : X.calm = true) : CallR X (.builtin "any") (rCall κ fAny) := by
  intro pins s σ H xs us Q I r ⟨g, S, ds, d, rs, r1, e, k⟩
  match ds, r1, e with
  | [], _, e => cases e
  | _ :: _ :: _, _, e => cases e
  | [dx], r1, e =>
    obtain ⟨x, rfl, q⟩ := r1.one
    have e : (match viewL S dx with
      | some xs => (blsD xs).map fun ns => D.bl (ns.any id)
      | none => none) = some d := e
    split at e
    · rename_i ys e1
      obtain ⟨p, vs, rfl, h1, q1⟩ := viewL_ok rs (toRT q) e1
      obtain ⟨ns, e2, rfl⟩ := Option.map_eq_some_iff.mp e
      rw [blsD_ok q1 e2] at h1
      exact cr_any hc pins s σ H _ us Q I r ⟨p, ns, rfl, SqL.of h1, k.pure rs (.bl _)⟩
    · cases e
def fInt (_ : Store) : List D → Option D
  | [.int i] => some (.int i)
  | [.bl b] => some (.int (if b = true then 1 else 0))
  | _ => none
theorem fInt_ok : CallR X (.type "int") (rCall κ fInt) := by
  intro pins s σ H xs us Q I r ⟨g, S, ds, d, rs, r1, e, k⟩
  match ds, r1, e with
  | [.int i], r1, e =>
    cases e
    obtain ⟨x, rfl, q⟩ := r1.one
    cases (toRT q).int
    exact call_int1 pins s σ H _ us Q I r (.inl ⟨i, rfl, k.pure rs (.int _)⟩)
  | [.bl b], r1, e =>
    cases e
    obtain ⟨x, rfl, q⟩ := r1.one
    cases (toRT q).bl
    exact call_int1 pins s σ H _ us Q I r (.inr ⟨b, rfl, by cases b <;> exact k.pure rs (.int _)⟩)
def fList1 (S : Store) : D → Option D
  | .tup xs => some (.tmp xs)
  | a => (viewL S a).map .tmp
def fList (S : Store) : List D → Option D
  | [a] => fList1 S a
  | _ => none
theorem fList_ok (hK : X.K = κ.K) : CallR X (.type "list") (rCall κ fList) := by
  intro pins s σ H xs us Q I r ⟨g, S, ds, d, rs, r1, e, k⟩
  match ds, r1, e with
  | [], _, e => cases e
  | _ :: _ :: _, _, e => cases e
  | [dx], r1, e =>
    obtain ⟨x, rfl, q⟩ := r1.one
    have viaL : (viewL S dx).map D.tmp = some d → wpAny (model X.prog X.w) X.A (call (.type "list") us) (EP X pins σ Q) X.xe s := fun e => by
      obtain ⟨ys, e1, rfl⟩ := Option.map_eq_some_iff.mp e
      obtain ⟨p, vs, rfl, h1, q1⟩ := viewL_ok rs (toRT q) e1
      exact call_list_of pins s σ H _ us Q I r ⟨p, vs, rfl, .inl (SqL.of h1), fun q hq => k g _ _ (Ext.lay hq) (rs.lay hq) (lay_lst rs hq q1)⟩
    cases dx with
    | tup ys =>
      cases e
      obtain ⟨p, vs, rfl, h1, q1⟩ := (toRT q).tup
      exact call_list_of pins s σ H _ us Q I r ⟨p, vs, rfl, .inr (by rw [hK]; exact h1), fun q hq => k g _ _ (Ext.lay hq) (rs.lay hq) (lay_lst rs hq q1)⟩
    | _ => exact viaL e
def fTuple1 (S : Store) : D → Option D
  | .tup xs => some (.tup xs)
  | a => (viewL S a).map .tup
def fTuple (S : Store) : List D → Option D
  | [a] => fTuple1 S a
  | _ => none
theorem fTuple_ok (hK : X.K = κ.K) : CallR X (.type "tuple") (rCall κ fTuple) := by
  intro pins s σ H xs us Q I r ⟨g, S, ds, d, rs, r1, e, k⟩
  match ds, r1, e with
  | [], _, e => cases e
  | _ :: _ :: _, _, e => cases e
  | [dx], r1, e =>
    obtain ⟨x, rfl, q⟩ := r1.one
    have viaL : (viewL S dx).map D.tup = some d → wpAny (model X.prog X.w) X.A (call (.type "tuple") us) (EP X pins σ Q) X.xe s := fun e => by
      obtain ⟨ys, e1, rfl⟩ := Option.map_eq_some_iff.mp e
      obtain ⟨p, vs, rfl, h1, q1⟩ := viewL_ok rs (toRT q) e1
      exact call_tuple_of pins s σ H _ us Q I r ⟨p, vs, rfl, .inl ⟨SqL.of h1, fun q hq => k g _ _ (Ext.lay hq) (rs.lay hq) (.rd (lay_tup rs hq q1))⟩⟩
    cases dx with
    | tup ys =>
      cases e
      obtain ⟨p, vs, rfl, h1, q1⟩ := (toRT q).tup
      exact call_tuple_of pins s σ H _ us Q I r ⟨p, vs, rfl, .inr ⟨by rw [hK]; exact h1, k.pure rs (.tup h1 q1)⟩⟩
    | _ => exact viaL e
end
end LB
end

section
set_option Elab.async false
set_option linter.all false
set_option maxRecDepth 100000
set_option maxHeartbeats 4000000
/-! Layer B, part 6: expressions. -/
namespace LB
open PySem PySem.Spec L2

section
variable {α β γ δ : Type} {κ : Kx} {W : WX} {σ : St} {g g1 : Gh} {H H1 : Hp} {S : Store}
theorem KG.bindE {rel1 : Rel α β} {rel2 : Rel γ δ} (hb : Back rel2) {r : R α} {f : α → Store → R γ} {Q : δ → Hp → Prop} (h : KG κ W σ g H rel2 (r.bind f) Q) :
    KG κ W σ g H rel1 r (fun b H1 => ∃ g1 S1 a, r = .ok a S1 ∧ Ext g H g1 H1 ∧ RS κ g1 H1 S1 ∧ rel1 H g1 H1 a b ∧ KG κ W σ g1 H1 rel2 (f a S1) Q) := by
  cases r with
  | ok a S' => exact fun g' b H' x s q => ⟨g', S', a, rfl, x, s, q, KG.on hb x h⟩
  | exc c vs S' => exact h
  | bad => exact h
theorem KG.ite {rel : Rel α β} {c : Prop} [Decidable c] {r : R α} {Q : β → Hp → Prop} (h : KG κ W σ g H rel (if c then r else .bad) Q) : c ∧ KG κ W σ g H rel r Q := by
  by_cases q : c
  · rw [if_pos q] at h; exact ⟨q, h⟩
  · rw [if_neg q] at h; exact h.elim
theorem KG.okk {S1 : Store} {d : D} {Q : VK} (h : KG κ W σ g H (RT κ) (.ok d S1) Q) : KV κ g H S1 d Q := h
end

section
variable {X : Cx} {κ : Kx} {W : WX} {a b c e : Expr} {ma mb mc : SE} {pos : Pos}
/-! ### names, constants -/
def mC (d : D) : SE := fun _ S => .ok d S
def mVar (i : Nat) : SE := fun l S => R.of (look l i) S
theorem tM_C {d : D} {v : V} (r : ∀ g H, RD κ g H d v) (σ : L2.St) (H : Hp) (Q : VK) (h : tM κ W (mC d) σ H Q) : tC v σ H Q := by
  obtain ⟨g, l, S, s, f, h⟩ := h
  exact h g v H (.refl g H) s (.rd (r g H))
theorem p_var {i : Nat} {x : Str} (hN : X.N[i]? = some x) (hv : Vis X.env.scope x) (hd : (x == ("__debug__" : Str)) = false := by decide) (hcd : (x == ("__classdict__" : Str)) = false := by decide) : PE X (.Name x pos) (tM κ W (mVar i)) :=
  (pe_var hN hv hd hcd).imp fun σ H Q ⟨g, l, S, s, f, h⟩ => by
    obtain ⟨d, e, k⟩ := KG.of h
    obtain ⟨v, e1, r⟩ := f.look e
    exact ⟨v, e1, k g v H (.refl g H) s (.rd r)⟩
theorem p_int {i : Int} {j : Nat} : PE X (.Constant (.int i) j pos) (tM κ W (mC (.int i))) := pe_int.imp (tM_C fun _ _ => .int i)
theorem p_bl {i : Bool} {j : Nat} : PE X (.Constant (.bool i) j pos) (tM κ W (mC (.bl i))) := pe_bl.imp (tM_C fun _ _ => .bl i)
theorem p_non {j : Nat} : PE X (.Constant .none j pos) (tM κ W (mC .non)) := pe_non.imp (tM_C fun _ _ => .non)
theorem p_str {x : Str} {j : Nat} (z : List Nat) (h : x = ⟨z.toArray⟩) : PE X (.Constant (.str x) j pos) (tM κ W (mC (.str z))) := pe_str.imp (tM_C fun _ _ => by rw [h]; exact .str z)
theorem p_fn {x : Str} (i : Nat) (hg : Gl X x) (hm : X.mg x = some (.ref (κ.fnA i))) (hd : (x == ("__debug__" : Str)) = false := by decide) : PE X (.Name x pos) (tM κ W (mC (.fn i))) :=
  (pe_glob hg hm (v := .ref (κ.fnA i)) rfl hd).imp (tM_C fun _ _ => .fn i)
theorem p_cls {x : Str} (i : Nat) (hg : Gl X x) (hm : X.mg x = some (.ref (κ.clA i))) (hd : (x == ("__debug__" : Str)) = false := by decide) : PE X (.Name x pos) (tM κ W (mC (.cls i))) :=
  (pe_glob hg hm (v := .ref (κ.clA i)) rfl hd).imp (tM_C fun _ _ => .cls i)
theorem p_ty {x : Str} (n : String) (hg : Gl X x) (hm : X.mg x = none) (hv : bootBuiltins x = some (.type n)) (hn : x ≠ "__name__" := by decide) (hd : (x == ("__debug__" : Str)) = false := by decide) : PE X (.Name x pos) (tM κ W (mC (.ty n))) :=
  (pe_bltn hg hm hv (v := .ty n) rfl hn hd).imp (tM_C fun _ _ => .ty n)

/-! ### operators -/
theorem p_bin {op : Operator} {f : Store → D → D → Option D} (hK : X.K = κ.K) (ha : PE X a (tM κ W ma)) (hb : PE X b (tM κ W mb)) (ho : opBin op = some f := by rfl) : PE X (.BinOp a op b pos) (tM κ W (mOp2 f ma mb)) :=
  (pe_op (opBin_ok hK ho) ha hb).imp mOp2_ok
theorem p_cmp {op : CmpOp} {f : Store → D → D → Option D} (hK : X.K = κ.K) (hu : X.A.units + 65 < cLine) (ha : PE X a (tM κ W ma)) (hb : PE X b (tM κ W mb)) (ho : opCmp op = some f := by rfl) (hm : behindInMarks op b = false := by first | exact nobehind _ (by decide) (by decide) | rfl) :
    PE X (.Compare a [op] [b] pos) (tM κ W (mOp2 f ma mb)) := (pe_cmpR (opCmp_ok hK hu ho) ha hb hm).imp mOp2_ok
def mChain (f f' : Store → D → D → Option D) (ma mb mc : SE) : SE := fun l S => (ma l S).bind fun x S1 => (mb l S1).bind fun y S2 => match f S2 x y with
  | some (.bl k) => if k = true then (mc l S2).bind fun z S3 => R.of (f' S3 y z) S3 else .ok (.bl false) S2
  | _ => .bad
theorem p_chain {op op' : CmpOp} {f f' : Store → D → D → Option D} (hK : X.K = κ.K) (hu : X.A.units + 65 < cLine) (ha : PE X a (tM κ W ma)) (hb : PE X b (tM κ W mb)) (hc : PE X c (tM κ W mc)) (ho : opCmp op = some f := by rfl) (ho' : opCmp op' = some f' := by rfl) (hm : lastMarks [op, op'] [b, c] = false := by with_unfolding_all rfl) :
    PE X (.Compare a [op, op'] [b, c] pos) (tM κ W (mChain f f' ma mb mc)) :=
  (pe_chain (opCmp_ok hK hu ho) (opCmp_ok hK hu ho') ha hb hc hm).imp fun σ H Q ⟨g, l, S, s, fr, h⟩ => by
    refine ⟨g, l, S, s, fr, KG.imp (KG.bind (rel1 := RT κ) back_RT h) fun x H1 ⟨g1, S1, dx, x1, s1, r1, h1⟩ => ?_⟩
    refine ⟨g1, l, S1, s1, fr.ext s x1, KG.imp (KG.bind (rel1 := RT κ) back_RT h1) fun y H2 ⟨g2, S2, dy, x2, s2, r2, h2⟩ => ?_⟩
    cases q : f S2 dx dy with
    | none => simp [q] at h2; exact h2.elim
    | some d =>
      cases d with
      | bl k =>
        simp only [q] at h2
        refine ⟨_, _, g2, S2, dx, dy, .bl k, s2, r1.ext s1 x2, r2, q, fun g3 v H3 x3 s3 r3 => ?_⟩
        cases r3.bl
        refine ⟨k, rfl, ?_⟩
        by_cases hk : k = true
        · rw [if_pos hk] at h2 ⊢
          refine ⟨g3, l, S2, s3, ((fr.ext s x1).ext s1 x2).ext s2 x3, KG.imp (KG.bind (rel1 := RT κ) back_RT (KG.on back_RT x3 h2)) fun z H4 ⟨g4, S4, dz, x4, s4, r4, h4⟩ => ?_⟩
          obtain ⟨d, e, kk⟩ := KG.of h4
          exact ⟨_, _, g4, S4, dy, dz, d, s4, (r2.ext s2 x3).ext s3 x4, r4, e, kk⟩
        · rw [if_neg hk] at h2 ⊢
          exact h2 g3 _ H3 x3 s3 (.rd (.bl false))
      | _ => simp [q] at h2; exact h2.elim
def opNeg (_ : Store) : D → Option D
  | .int i => some (.int (-i))
  | _ => none
def mUn (f : Store → D → Option D) (ma : SE) : SE := fun l S => (ma l S).bind fun x S1 => R.of (f S1 x) S1
theorem p_neg (ha : PE X a (tM κ W ma)) : PE X (.UnaryOp .USub a pos) (tM κ W (mUn opNeg ma)) :=
  (pe_un un_neg ha).imp fun σ H Q ⟨g, l, S, s, fr, h⟩ => by
    refine ⟨g, l, S, s, fr, KG.imp (KG.bind (rel1 := RT κ) back_RT h) fun x H1 ⟨g1, S1, dx, x1, s1, r1, h1⟩ => ?_⟩
    obtain ⟨d, e, k⟩ := KG.of h1
    cases dx with
    | int i =>
      cases r1.int; cases e
      exact ⟨i, rfl, KV.pure s1 (.int _) k⟩
    | _ => cases e

/-! ### truth, tests -/
def truS (S : Store) : D → Option Bool
  | .non => some false
  | .bl k => some k
  | .int i => some (i != 0)
  | .str z => if z.length ≤ SL then some (!z.isEmpty) else none
  | .tup xs => some (!xs.isEmpty)
  | .scr ns => some (!ns.isEmpty)
  | a => match viewL S a with
    | some xs => some (!xs.isEmpty)
    | none => (viewD S a).map fun p => !p.1.isEmpty
theorem RDs.isEmpty {g : Gh} {H : Hp} {ds : List D} {vs : List V} (r : RDs κ g H ds vs) : vs.isEmpty = ds.isEmpty := by cases r <;> rfl
theorem tru_B {H0 : Hp} {g : Gh} {H : Hp} {S : Store} {d : D} {x : V} {k : Bool} (rs : RS κ g H S) (r : RT κ H0 g H d x) (e : truS S d = some k) : TruV κ.K x H k := by
  have viaL : (match viewL S d with
    | some xs => some (!xs.isEmpty)
    | none => (viewD S d).map fun p => !p.1.isEmpty) = some k → TruV κ.K x H k := fun e => by
    split at e
    · rename_i xs e1
      cases e
      obtain ⟨p, vs, rfl, h1, q1⟩ := viewL_ok rs r e1
      exact .inl ⟨vs, SqL.of h1, by rw [q1.isEmpty]⟩
    · obtain ⟨⟨ks, vs⟩, e1, rfl⟩ := Option.map_eq_some_iff.mp e
      obtain ⟨p, kvs, rfl, h1, q1, q2⟩ := viewD_ok rs r e1
      refine .inr (.inr ⟨kvs, h1, ?_⟩)
      have z := congrArg List.isEmpty q1
      rw [List.isEmpty_map, List.isEmpty_map] at z
      rw [z]
  cases d with
  | non => cases r.non; cases e; rfl
  | bl b => cases r.bl; cases e; rfl
  | int i => cases r.int; cases e; rfl
  | str z =>
    cases r.str
    obtain ⟨hz, rfl⟩ := ite_some e
    refine ⟨by rw [str_len, SL_eq]; exact hz, ?_⟩
    rw [str_len]
    cases z with
    | nil => rfl
    | cons c z =>
      show true = (((c :: z).length : Int) != 0)
      rw [List.length_cons]
      exact (bne_iff_ne.mpr (by omega)).symm
  | tup xs =>
    cases e
    obtain ⟨p, vs, rfl, h1, q1⟩ := r.tup
    exact .inr (.inl ⟨vs, h1, by rw [q1.isEmpty]⟩)
  | scr ns =>
    cases e
    obtain ⟨p, rfl, h1⟩ := r.scr
    exact .inl ⟨_, h1, by cases ns <;> rfl⟩
  | _ => exact viaL e
/-- a test by a bool -/
def mB (ma : SE) : SB := fun l S => (ma l S).bind fun x S1 => match x with
  | .bl k => .ok k S1
  | _ => .bad
def mTru (ma : SE) : SB := fun l S => (ma l S).bind fun x S1 => R.of (truS S1 x) S1
theorem KG.bl {g : Gh} {H : Hp} {S : Store} {σ : L2.St} {d : D} {Q : Bool → Hp → Prop} (h : KG κ W σ g H RB (match d with
  | .bl k => .ok k S
  | _ => .bad) Q) (s : RS κ g H S) : ∃ k, d = .bl k ∧ Q k H := by
  cases d with
  | bl k => exact ⟨k, rfl, h g k H (.refl g H) s rfl⟩
  | _ => exact h.elim
theorem p_B {t : TE → TT} (ht : ∀ te, t te = fun σ H Q => te σ H fun x H1 => ∃ k, x = .bl k ∧ Q k H1) (h : ∀ te, PE X e te → PT X e (t te)) (ha : PE X e (tM κ W ma)) : PT X e (tT κ W (mB ma)) :=
  (h _ ha).imp fun σ H Q ⟨g, l, S, s, fr, h⟩ => by
    rw [ht]
    refine ⟨g, l, S, s, fr, KG.imp (KG.bind (rel1 := RT κ) back_RB h) fun x H1 ⟨g1, S1, dx, x1, s1, r1, h1⟩ => ?_⟩
    obtain ⟨k, rfl, q⟩ := KG.bl h1 s1
    exact ⟨k, r1.bl, q⟩
theorem q_cmp {op : CmpOp} {f : Store → D → D → Option D} (hK : X.K = κ.K) (hu : X.A.units + 65 < cLine) (ha : PE X a (tM κ W ma)) (hb : PE X b (tM κ W mb)) (ho : opCmp op = some f := by rfl) (hm : behindInMarks op b = false := by first | exact nobehind _ (by decide) (by decide) | rfl) :
    PT X (.Compare a [op] [b] pos) (tT κ W (mB (mOp2 f ma mb))) :=
  (pt_cmpR (opCmp_ok hK hu ho) ha hb hm).imp fun σ H Q ⟨g, l, S, s, fr, h⟩ => by
    show tOp (rOf κ f) (tM κ W ma) (tM κ W mb) σ H _
    refine mOp2_ok σ H _ ⟨g, l, S, s, fr, KG.imp (KG.bind (rel1 := RT κ) back_RB h) fun x H1 ⟨g1, S1, dx, x1, s1, r1, h1⟩ => ?_⟩
    obtain ⟨k, rfl, q⟩ := KG.bl h1 s1
    exact ⟨k, r1.bl, q⟩
theorem q_chain {op op' : CmpOp} {f f' : Store → D → D → Option D} (hK : X.K = κ.K) (hu : X.A.units + 65 < cLine) (ha : PE X a (tM κ W ma)) (hb : PE X b (tM κ W mb)) (hc : PE X c (tM κ W mc)) (ho : opCmp op = some f := by rfl) (ho' : opCmp op' = some f' := by rfl) (hm : lastMarks [op, op'] [b, c] = false := by with_unfolding_all rfl) :
    PT X (.Compare a [op, op'] [b, c] pos) (tT κ W (mB (mChain f f' ma mb mc))) := by
  have base := p_chain (pos := pos) hK hu ha hb hc ho ho' hm
  refine (pt_chain (opCmp_ok hK hu ho) (opCmp_ok hK hu ho') ha hb hc hm).imp fun σ H Q h => ?_
  have key : ∀ (Q : VK), tM κ W (mChain f f' ma mb mc) σ H Q → tChain (rOf κ f) (rOf κ f') (tM κ W ma) (tM κ W mb) (tM κ W mc) σ H Q := fun Q ⟨g, l, S, s, fr, h⟩ => by
    refine ⟨g, l, S, s, fr, KG.imp (KG.bind (rel1 := RT κ) back_RT h) fun x H1 ⟨g1, S1, dx, x1, s1, r1, h1⟩ => ?_⟩
    refine ⟨g1, l, S1, s1, fr.ext s x1, KG.imp (KG.bind (rel1 := RT κ) back_RT h1) fun y H2 ⟨g2, S2, dy, x2, s2, r2, h2⟩ => ?_⟩
    cases q : f S2 dx dy with
    | none => simp [q] at h2; exact h2.elim
    | some d =>
      cases d with
      | bl k =>
        simp only [q] at h2
        refine ⟨_, _, g2, S2, dx, dy, .bl k, s2, r1.ext s1 x2, r2, q, fun g3 v H3 x3 s3 r3 => ?_⟩
        cases r3.bl
        refine ⟨k, rfl, ?_⟩
        by_cases hk : k = true
        · rw [if_pos hk] at h2 ⊢
          refine ⟨g3, l, S2, s3, ((fr.ext s x1).ext s1 x2).ext s2 x3, KG.imp (KG.bind (rel1 := RT κ) back_RT (KG.on back_RT x3 h2)) fun z H4 ⟨g4, S4, dz, x4, s4, r4, h4⟩ => ?_⟩
          obtain ⟨d, e, kk⟩ := KG.of h4
          exact ⟨_, _, g4, S4, dy, dz, d, s4, (r2.ext s2 x3).ext s3 x4, r4, e, kk⟩
        · rw [if_neg hk] at h2 ⊢
          exact h2 g3 _ H3 x3 s3 (.rd (.bl false))
      | _ => simp [q] at h2; exact h2.elim
  obtain ⟨g, l, S, s, fr, h⟩ := h
  refine key _ ⟨g, l, S, s, fr, KG.imp (KG.bind (rel1 := RT κ) back_RB h) fun x H1 ⟨g1, S1, dx, x1, s1, r1, h1⟩ => ?_⟩
  obtain ⟨k, rfl, q⟩ := KG.bl h1 s1
  exact ⟨k, r1.bl, q⟩
theorem q_tru (hK : X.K = κ.K) (ha : PE X a (tM κ W ma)) (he : ∀ whole, isTrue a X.env whole = (do let v ← whole; standAt a.pos; holding [v] (truthy v)) := by intro _; rfl) : PT X a (tT κ W (mTru ma)) :=
  (pt_truth ha he).imp fun σ H Q ⟨g, l, S, s, fr, h⟩ => by
    refine ⟨g, l, S, s, fr, KG.imp (KG.bind (rel1 := RT κ) back_RB h) fun x H1 ⟨g1, S1, dx, x1, s1, r1, h1⟩ => ?_⟩
    obtain ⟨k, e, q⟩ := KG.of h1
    exact ⟨k, by rw [hK]; exact tru_B s1 r1 e, q g1 k H1 (.refl _ _) s1 rfl⟩
def mAnd (ma mb : SB) : SB := fun l S => (ma l S).bind fun k S1 => if k = true then mb l S1 else .ok false S1
def mOr (ma mb : SB) : SB := fun l S => (ma l S).bind fun k S1 => if k = true then .ok true S1 else mb l S1
def mNot (ma : SB) : SB := fun l S => (ma l S).bind fun k S1 => .ok (!k) S1
variable {ta tb : SB} {rest : List Expr}
theorem q_and (ha : PT X a (tT κ W ta)) (hb : PW X (.BoolOp .And (b :: rest) pos) (tT κ W tb)) : PW X (.BoolOp .And (a :: b :: rest) pos) (tT κ W (mAnd ta tb)) :=
  (pw_and ha hb).imp fun σ H Q ⟨g, l, S, s, fr, h⟩ => by
    refine ⟨g, l, S, s, fr, KG.imp (KG.bind (rel1 := RB) back_RB h) fun k H1 ⟨g1, S1, dx, x1, s1, r1, h1⟩ => ?_⟩
    cases r1
    cases k with
    | false => exact h1 g1 _ H1 (.refl _ _) s1 rfl
    | true => exact ⟨g1, l, S1, s1, fr.ext s x1, h1⟩
theorem q_and1 (ha : PT X a (tT κ W ta)) : PW X (.BoolOp .And [a] pos) (tT κ W ta) := pw_and1 ha
theorem q_or1 (ha : PT X a (tT κ W ta)) : PW X (.BoolOp .Or [a] pos) (tT κ W ta) := pw_or1 ha
theorem q_or (ha : PT X a (tT κ W ta)) (hb : PW X (.BoolOp .Or (b :: rest) pos) (tT κ W tb)) : PW X (.BoolOp .Or (a :: b :: rest) pos) (tT κ W (mOr ta tb)) :=
  (pw_or ha hb).imp fun σ H Q ⟨g, l, S, s, fr, h⟩ => by
    refine ⟨g, l, S, s, fr, KG.imp (KG.bind (rel1 := RB) back_RB h) fun k H1 ⟨g1, S1, dx, x1, s1, r1, h1⟩ => ?_⟩
    cases r1
    cases k with
    | true => exact h1 g1 _ H1 (.refl _ _) s1 rfl
    | false => exact ⟨g1, l, S1, s1, fr.ext s x1, h1⟩
theorem q_not (ha : PT X a (tT κ W ta)) : PT X (.UnaryOp .Not a pos) (tT κ W (mNot ta)) :=
  (pt_not ha).imp fun σ H Q ⟨g, l, S, s, fr, h⟩ => by
    refine ⟨g, l, S, s, fr, KG.imp (KG.bind (rel1 := RB) back_RB h) fun k H1 ⟨g1, S1, dx, x1, s1, r1, h1⟩ => ?_⟩
    cases r1
    exact h1 g1 _ H1 (.refl _ _) s1 rfl
/-! values of and, or, not -/
def mAndV (ma mb : SE) : SE := fun l S => (ma l S).bind fun x S1 => match x with
  | .bl k => if k = true then mb l S1 else .ok (.bl false) S1
  | _ => .bad
def mOrV (ma mb : SE) : SE := fun l S => (ma l S).bind fun x S1 => match x with
  | .bl k => if k = true then .ok (.bl true) S1 else mb l S1
  | _ => .bad
def mNotV (ma : SE) : SE := fun l S => (ma l S).bind fun x S1 => match truS S1 x with
  | some k => .ok (.bl (!k)) S1
  | none => .bad
theorem p_one {op : BoolOp} (h : PE X a (tM κ W ma)) : PE X (.BoolOp op [a] pos) (tM κ W ma) := pe_one h
theorem p_and (ha : PE X a (tM κ W ma)) (hb : PE X (.BoolOp .And (b :: rest) pos) (tM κ W mb)) : PE X (.BoolOp .And (a :: b :: rest) pos) (tM κ W (mAndV ma mb)) :=
  (pe_and ha hb).imp fun σ H Q ⟨g, l, S, s, fr, h⟩ => by
    refine ⟨g, l, S, s, fr, KG.imp (KG.bind (rel1 := RT κ) back_RT h) fun x H1 ⟨g1, S1, dx, x1, s1, r1, h1⟩ => ?_⟩
    cases dx with
    | bl k =>
      cases r1.bl
      refine ⟨k, rfl, ?_⟩
      cases k with
      | true => exact ⟨g1, l, S1, s1, fr.ext s x1, h1⟩
      | false => exact h1 g1 _ H1 (.refl _ _) s1 (.rd (.bl _))
    | _ => exact h1.elim
theorem p_or (ha : PE X a (tM κ W ma)) (hb : PE X (.BoolOp .Or (b :: rest) pos) (tM κ W mb)) : PE X (.BoolOp .Or (a :: b :: rest) pos) (tM κ W (mOrV ma mb)) :=
  (pe_or ha hb).imp fun σ H Q ⟨g, l, S, s, fr, h⟩ => by
    refine ⟨g, l, S, s, fr, KG.imp (KG.bind (rel1 := RT κ) back_RT h) fun x H1 ⟨g1, S1, dx, x1, s1, r1, h1⟩ => ?_⟩
    cases dx with
    | bl k =>
      cases r1.bl
      refine ⟨k, rfl, ?_⟩
      cases k with
      | false => exact ⟨g1, l, S1, s1, fr.ext s x1, h1⟩
      | true => exact h1 g1 _ H1 (.refl _ _) s1 (.rd (.bl _))
    | _ => exact h1.elim
theorem p_not (hK : X.K = κ.K) (ha : PE X a (tM κ W ma)) : PE X (.UnaryOp .Not a pos) (tM κ W (mNotV ma)) :=
  (pe_notT ha).imp fun σ H Q ⟨g, l, S, s, fr, h⟩ => by
    refine ⟨g, l, S, s, fr, KG.imp (KG.bind (rel1 := RT κ) back_RT h) fun x H1 ⟨g1, S1, dx, x1, s1, r1, h1⟩ => ?_⟩
    cases e : truS S1 dx with
    | none => simp [e] at h1; exact h1.elim
    | some k =>
      simp only [e] at h1
      exact ⟨k, by rw [hK]; exact tru_B s1 r1 e, h1 g1 _ H1 (.refl _ _) s1 (.rd (.bl _))⟩
def mIf (mc : SB) (ma mb : SE) : SE := fun l S => (mc l S).bind fun k S1 => if k = true then ma l S1 else mb l S1
theorem p_if (hc : PT X c (tT κ W ta)) (ha : PE X a (tM κ W ma)) (hb : PE X b (tM κ W mb)) : PE X (.IfExp c a b pos) (tM κ W (mIf ta ma mb)) :=
  (pe_ifExp hc ha hb).imp fun σ H Q ⟨g, l, S, s, fr, h⟩ => by
    refine ⟨g, l, S, s, fr, KG.imp (KG.bind (rel1 := RB) back_RT h) fun k H1 ⟨g1, S1, dx, x1, s1, r1, h1⟩ => ?_⟩
    cases r1
    cases k with
    | true => exact ⟨g1, l, S1, s1, fr.ext s x1, h1⟩
    | false => exact ⟨g1, l, S1, s1, fr.ext s x1, h1⟩

/-! ### subscripts -/
theorem p_ix (hK : X.K = κ.K) (hu : X.A.units + 65 < cLine) (ha : PE X a (tM κ W ma)) (hb : PE X b (tM κ W mb)) (hs : PlainIx b := by intro _ _; rfl) : PE X (.Subscript a b pos) (tM κ W (mOp2 opIx ma mb)) :=
  (pe_ix (ix_B hK hu) ha hb hs).imp mOp2_ok
/-- a slice's part -/
abbrev SO' := Loc → Store → R (Option Int)
def mNo : SO' := fun _ S => .ok none S
def mPart (m : SE) : SO' := fun l S => (m l S).bind fun x S1 => match x with
  | .int i => .ok (some i) S1
  | _ => .bad
abbrev RO' : Rel (Option Int) (Option Int) := fun _ _ _ a b => a = b
theorem back_RO : Back RO' := fun _ _ _ _ _ _ _ _ _ r => r
def tO (κ : Kx) (W : WX) (m : SO') : TO := fun σ H Q => ∃ g l S, RS κ g H S ∧ FR κ g H l σ ∧ KG κ W σ g H RO' (m l S) Q
theorem _root_.L2.PO.imp {X : Cx} {e : Option Expr} {t t' : TO} (h : PO X e t) (i : ∀ σ H Q, t' σ H Q → t σ H Q) : PO X e t' := ⟨fun pins s σ H Q I w => h.run pins s σ H Q I (i σ H Q w)⟩
theorem o_none : PO X none (tO κ W mNo) := po_none.imp fun σ H Q ⟨g, l, S, s, fr, h⟩ => h g none H (.refl _ _) s rfl
theorem o_some (ha : PE X a (tM κ W ma)) : PO X (some a) (tO κ W (mPart ma)) :=
  (po_some ha).imp fun σ H Q ⟨g, l, S, s, fr, h⟩ => by
    refine ⟨g, l, S, s, fr, KG.imp (KG.bind (rel1 := RT κ) back_RO h) fun x H1 ⟨g1, S1, dx, x1, s1, r1, h1⟩ => ?_⟩
    cases dx with
    | int i => exact ⟨i, r1.int, h1 g1 _ H1 (.refl _ _) s1 rfl⟩
    | _ => exact h1.elim
def mSl (ma : SE) (lo hi : SO') : SE := fun l S => (ma l S).bind fun x S1 => (lo l S1).bind fun i S2 => (hi l S2).bind fun j S3 => R.of (opSl S3 x i j) S3
theorem p_sl {lo hi : Option Expr} {ml mh : SO'} {p2 : Pos} (hK : X.K = κ.K) (ha : PE X a (tM κ W ma)) (hl : PO X lo (tO κ W ml)) (hh : PO X hi (tO κ W mh)) : PE X (.Subscript a (.Slice lo hi none p2) pos) (tM κ W (mSl ma ml mh)) :=
  (pe_slice (sl_B hK) ha hl hh).imp fun σ H Q ⟨g, l, S, s, fr, h⟩ => by
    refine ⟨g, l, S, s, fr, KG.imp (KG.bind (rel1 := RT κ) back_RT h) fun x H1 ⟨g1, S1, dx, x1, s1, r1, h1⟩ => ?_⟩
    refine ⟨g1, l, S1, s1, fr.ext s x1, KG.imp (KG.bind (rel1 := RO') back_RT h1) fun i H2 ⟨g2, S2, dy, x2, s2, r2, h2⟩ => ?_⟩
    cases r2
    refine ⟨g2, l, S2, s2, (fr.ext s x1).ext s1 x2, KG.imp (KG.bind (rel1 := RO') back_RT h2) fun j H3 ⟨g3, S3, dz, x3, s3, r3, h3⟩ => ?_⟩
    cases r3
    obtain ⟨d, e, k⟩ := KG.of h3
    exact ⟨_, g3, S3, dx, d, s3, (r1.ext s1 x2).ext s2 x3, e, k⟩

/-! ### arguments -/
def mArgs : List (Bool × SE) → SA
  | [] => fun _ S => .ok [] S
  | (k, m) :: r => fun l S => (mFix k m l S).bind fun d S1 => (mArgs r l S1).bind fun ds S2 => .ok (d :: ds) S2
theorem KG.mapOk {g : Gh} {H : Hp} {σ : L2.St} {S : Store} {d : D} {r : R (List D)} {Q : List V → Hp → Prop} {v : V} (h : KG κ W σ g H (RL κ) (r.bind fun ds S2 => .ok (d :: ds) S2) Q) (s : RS κ g H S) (q : RD κ g H d v) :
    KG κ W σ g H (RL κ) r fun vs H' => Q (v :: vs) H' := by
  refine KG.imp (KG.bind (rel1 := RL κ) back_RL h) fun vs H1 ⟨g1, S1, ds, x1, s1, r1, h1⟩ => ?_
  exact h1 g1 _ H1 (.refl _ _) s1 (.cons (q.ext s x1) r1)
theorem a_nil : PA X [] (tA κ W (mArgs [])) := pa_nil.imp fun σ H Q ⟨g, l, S, s, fr, h⟩ => h g [] H (.refl _ _) s .nil
/-- a result that is kept -/
theorem mFix_go {g : Gh} {H : Hp} {σ : L2.St} {l : Loc} {S : Store} {k : Bool} {ma : SE} {α β : Type} {rel : Rel α β} (hb : Back rel) {f : D → Store → R α} {Q : β → Hp → Prop} (h : KG κ W σ g H rel ((mFix k ma l S).bind f) Q) :
    KG κ W σ g H (RT κ) (ma l S) fun v H1 => ∃ g1 S1 d, Ext g H g1 H1 ∧ RS κ g1 H1 S1 ∧ RD κ g1 H1 d v ∧ KG κ W σ g1 H1 rel (f d S1) Q := by
  unfold mFix at h
  cases e : ma l S with
  | ok d S1 =>
    rw [e] at h
    intro g1 v H1 x s r
    have h : KG κ W σ g H rel ((fixD k d S1).bind f) Q := h
    have triv : ∀ d' S', fixD k d S1 = .ok d' S' → KG κ W σ g H (RT κ) (fixD k d S1) fun _ _ => True := fun d' S' e => by rw [e]; exact fun _ _ _ _ _ _ => trivial
    have tot : ∃ d' S', fixD k d S1 = .ok d' S' := by
      unfold fixD
      cases d <;> first | exact ⟨_, _, rfl⟩ | (by_cases z : k = true <;> simp [z])
    obtain ⟨d0, S0, e0⟩ := tot
    obtain ⟨d', S', g', e1, x', s', r', _⟩ := fix_ok x s r (triv d0 S0 e0)
    rw [e1] at h
    exact ⟨g', S', d', x', s', r', KG.on hb x' h⟩
  | exc c vs S1 => rw [e] at h; exact h
  | bad => rw [e] at h; exact h
variable {as : List (Bool × SE)} {es : List Expr}
theorem a_cons {k : Bool} (ha : PE X e (tM κ W ma)) (hr : PA X es (tA κ W (mArgs as))) (hs : starEach (e :: es) X.env = (false, eval e X.env) :: starEach es X.env := by rfl) : PA X (e :: es) (tA κ W (mArgs ((k, ma) :: as))) :=
  (pa_cons ha hr hs).imp fun σ H Q ⟨g, l, S, s, fr, h⟩ => by
    refine ⟨g, l, S, s, fr, KG.imp (mFix_go back_RL h) fun v H1 ⟨g1, S1, d, x1, s1, r1, h1⟩ => ?_⟩
    exact ⟨g1, l, S1, s1, fr.ext s x1, KG.mapOk h1 s1 r1⟩
theorem k_nil : PK X [] (tA κ W (mArgs [])) := pk_nil.imp fun σ H Q ⟨g, l, S, s, fr, h⟩ => h g [] H (.refl _ _) s .nil
theorem k_cons {k : Bool} {nm : Option Str} {kpos : Pos} {kws : List Keyword} (ha : PE X e (tM κ W ma)) (hr : PK X kws (tA κ W (mArgs as))) : PK X (⟨nm, e, kpos⟩ :: kws) (tA κ W (mArgs ((k, ma) :: as))) :=
  (pk_cons ha hr).imp fun σ H Q ⟨g, l, S, s, fr, h⟩ => by
    refine ⟨g, l, S, s, fr, KG.imp (mFix_go back_RL h) fun v H1 ⟨g1, S1, d, x1, s1, r1, h1⟩ => ?_⟩
    exact ⟨g1, l, S1, s1, fr.ext s x1, KG.mapOk h1 s1 r1⟩
theorem R.bind_ok {α β : Type} {r : R α} {f : α → Store → R β} {b : β} {S : Store} (h : r.bind f = .ok b S) : ∃ a S1, r = .ok a S1 ∧ f a S1 = .ok b S := by
  cases r with
  | ok a S1 => exact ⟨a, S1, rfl, h⟩
  | exc c vs S1 => cases h
  | bad => cases h
theorem mArgs_len : ∀ {as : List (Bool × SE)} {l : Loc} {S S' : Store} {ds : List D}, mArgs as l S = .ok ds S' → ds.length = as.length
  | [], _, _, _, _, h => by cases h; rfl
  | (k, m) :: r, l, S, S', ds, h => by
    obtain ⟨d, S1, _, h1⟩ := R.bind_ok h
    obtain ⟨es, S2, h2, h3⟩ := R.bind_ok h1
    cases h3
    exact congrArg Nat.succ (mArgs_len h2)
def mTup (as : List (Bool × SE)) : SE := fun l S => (mArgs as l S).bind fun ds S1 => .ok (.tup ds) S1
def mLst (as : List (Bool × SE)) : SE := fun l S => (mArgs as l S).bind fun ds S1 => .ok (.tmp ds) S1
def mDic0 : SE := fun _ S => .ok (.tdic [] []) S
theorem p_tup {k : Nat} (ha : PA X es (tA κ W (mArgs as))) (hl : as.length ≤ SL := by exact Nat.le_of_ble_eq_true rfl) : PE X (.Tuple es k pos) (tM κ W (mTup as)) :=
  (pe_tup ha).imp fun σ H Q ⟨g, l, S, s, fr, h⟩ => by
    refine ⟨g, l, S, s, fr, KG.imp (KG.bindE (rel1 := RL κ) back_RT h) fun vs H1 ⟨g1, S1, ds, e1, x1, s1, r1, h1⟩ => ?_⟩
    refine ⟨by rw [← r1.length, mArgs_len e1, SL_eq]; exact hl, fun p hp => h1 g1 _ _ (Ext.lay hp) (s1.lay hp) (.rd (lay_tup s1 hp r1))⟩
theorem p_lst (ha : PA X es (tA κ W (mArgs as))) (hl : as.length ≤ SL := by exact Nat.le_of_ble_eq_true rfl) : PE X (.List es pos) (tM κ W (mLst as)) :=
  (pe_lst ha).imp fun σ H Q ⟨g, l, S, s, fr, h⟩ => by
    refine ⟨g, l, S, s, fr, KG.imp (KG.bindE (rel1 := RL κ) back_RT h) fun vs H1 ⟨g1, S1, ds, e1, x1, s1, r1, h1⟩ => ?_⟩
    refine ⟨by rw [← r1.length, mArgs_len e1, SL_eq]; exact hl, fun p hp => h1 g1 _ _ (Ext.lay hp) (s1.lay hp) (lay_lst s1 hp r1)⟩
theorem p_dic0 : PE X (.Dict [] [] pos) (tM κ W mDic0) :=
  pe_dnewK.imp fun σ H Q ⟨g, l, S, s, fr, h⟩ p hp => h g _ _ (Ext.lay hp) (s.lay hp) (lay_dic (kvs := []) s hp rfl .nil)

/-! ### calls of built-in things -/
def mCallB (f : Store → List D → Option D) (as : List (Bool × SE)) : SE := fun l S => (mArgs as l S).bind fun ds S1 => R.of (f S1 ds) S1
theorem mCallB_ok {f : Store → List D → Option D} (σ : L2.St) (H : Hp) (Q : VK) (h : tM κ W (mCallB f as) σ H Q) : tCB (rCall κ f) (tA κ W (mArgs as)) σ H Q := by
  obtain ⟨g, l, S, s, fr, h⟩ := h
  refine ⟨g, l, S, s, fr, KG.imp (KG.bind (rel1 := RL κ) back_RT h) fun vs H1 ⟨g1, S1, ds, x1, s1, r1, h1⟩ => ?_⟩
  obtain ⟨d, e, k⟩ := KG.of h1
  exact ⟨g1, S1, ds, d, s1, r1, e, k⟩
theorem p_callB {x : Str} {id : String} {f : Store → List D → Option D} {p : Pos} (hc : CallR X (.builtin id) (rCall κ f)) (hg : Gl X x) (hm : X.mg x = none) (hv : bootBuiltins x = some (.builtin id)) (ha : PA X (e :: es) (tA κ W (mArgs as))) (hn : x ≠ "__name__" := by decide) (hdb : (x == ("__debug__" : Str)) = false := by decide)
    (he : starEach (e :: es) X.env = (false, eval e X.env) :: starEach es X.env := by rfl) (hpl : (backTo pos (starEach es X.env)).any (·.1) = false := by rfl) : PE X (.Call (.Name x p) (e :: es) [] pos) (tM κ W (mCallB f as)) :=
  (pe_callB hc hg hm hv ha hn hdb he hpl).imp mCallB_ok
theorem p_callTy {x : Str} {id : String} {f : Store → List D → Option D} {p : Pos} (hc : CallR X (.type id) (rCall κ f)) (hg : Gl X x) (hm : X.mg x = none) (hv : bootBuiltins x = some (.type id)) (ha : PA X (e :: es) (tA κ W (mArgs as))) (hn : x ≠ "__name__" := by decide) (hdb : (x == ("__debug__" : Str)) = false := by decide)
    (he : starEach (e :: es) X.env = (false, eval e X.env) :: starEach es X.env := by rfl) (hpl : (backTo pos (starEach es X.env)).any (·.1) = false := by rfl) : PE X (.Call (.Name x p) (e :: es) [] pos) (tM κ W (mCallB f as)) :=
  (pe_callTy hc hg hm hv ha hn hdb he hpl).imp mCallB_ok

/-! ### calls of defs -/
abbrev Fun := List D → Store → R D
def Kx.at (κ : Kx) (gx : Option (Addr × Nat × Option Addr) → Prop) : Kx := { κ with gx := gx }
def spOf (κ : Kx) (n : Nat) (F : Fun) : Sp := fun vs H Q E => vs.length = n ∧ ∃ gx g S ds, RS (κ.at gx) g H S ∧ RDs (κ.at gx) g H ds vs ∧ KG (κ.at gx) (fun u d _ H' => E u d H') [] g H (RT (κ.at gx)) (F ds S) Q
def mCall (F : Fun) (as : List (Bool × SE)) : SE := fun l S => (mArgs as l S).bind fun ds S1 => F ds S1
theorem p_call {n k : Nat} {F : Fun} {f : Addr} {fd : FuncData} {ps : List Str} {x : Str} {p : Pos} (Fk : FnOk X.prog X.w X.K X.mg X.base (L2.CX X.prog X.w) k f fd ps (spOf κ n F)) (hr : Room k X.A) (tk : Takes X W) (hk : PySem.W.keepIn X.K (.ref f) = true) (hb : Binds X.K fd ps [])
    (hm : X.mg x = some (.ref f)) (hg : Gl X x) (ha : PA X (e :: es) (tA κ W (mArgs as))) (hn : as.length = n := by rfl) (hdb : (x == ("__debug__" : Str)) = false := by decide) (he : starEach (e :: es) X.env = (false, eval e X.env) :: starEach es X.env := by rfl) (hpl : (backTo pos (starEach es X.env)).any (·.1) = false := by rfl) :
    PE X (.Call (.Name x p) (e :: es) [] pos) (tM κ W (mCall F as)) :=
  (pe_callSD (E := fun σ => WE W σ) Fk hr hg hm hk hb .nil (fun σ => passAt tk σ) ha hdb he hpl).imp fun σ H Q ⟨g, l, S, s, fr, h⟩ => by
    refine ⟨g, l, S, s, fr, KG.imp (KG.bindE (rel1 := RL κ) back_RT h) fun vs H1 ⟨g1, S1, ds, e1, x1, s1, r1, h1⟩ => ?_⟩
    show spOf κ n F (vs ++ []) H1 Q _
    rw [List.append_nil]
    refine ⟨by rw [← r1.length, mArgs_len e1]; exact hn, κ.gx, g1, S1, ds, s1, r1, ?_⟩
    revert h1
    cases F ds S1 with
    | ok d S2 => exact fun h1 => h1
    | exc c vs S2 => exact fun h1 => h1
    | bad => exact fun h1 => h1
end
end LB
end

section
set_option Elab.async false
set_option linter.all false
set_option maxRecDepth 100000
set_option maxHeartbeats 4000000
/-! Layer B, part 7: statements, loops. -/
namespace LB
open PySem PySem.Spec L2

def R.toO {α : Type} (r : R α) (l : Loc) (f : α → Store → O) : O := match r with
  | .ok a S => f a S
  | .exc c vs S => .exc c vs l S
  | .bad => .bad
section
variable {α β : Type} {κ : Kx} {W : WX} {σ : L2.St} {g g1 : Gh} {H H1 : Hp} {S : Store} {l : Loc} {D' : Ends}
theorem KO.of {rel : Rel α β} {r : R α} {f : α → Store → O} (s : RS κ g H S) (fr : FR κ g H l σ) (h : KO κ W g H (r.toO l f) D') :
    KG κ W σ g H rel r fun b H1 => ∃ g1 S1 a, r = .ok a S1 ∧ Ext g H g1 H1 ∧ RS κ g1 H1 S1 ∧ FR κ g1 H1 l σ ∧ rel H g1 H1 a b ∧ KO κ W g1 H1 (f a S1) D' := by
  cases r with
  | ok a S1 => exact fun g' b H' x s' q => ⟨g', S1, a, rfl, x, s', fr.ext s x, q, KO.on x h⟩
  | exc c vs S1 => exact fun g' dv H' x s' q => h g' σ dv H' x s' (fr.ext s x) q
  | bad => exact h.elim
theorem KO.fix {k : Bool} {ma : SE} {f : D → Store → O} (s : RS κ g H S) (fr : FR κ g H l σ) (h : KO κ W g H ((mFix k ma l S).toO l f) D') :
    KG κ W σ g H (RT κ) (ma l S) fun v H1 => ∃ g1 S1 d, Ext g H g1 H1 ∧ RS κ g1 H1 S1 ∧ FR κ g1 H1 l σ ∧ RD κ g1 H1 d v ∧ KO κ W g1 H1 (f d S1) D' := by
  unfold mFix at h
  cases e : ma l S with
  | ok d S1 =>
    rw [e] at h
    intro g1 v H1 x s1 r
    have h : KO κ W g H ((fixD k d S1).toO l f) D' := h
    have tot : ∃ d' S', fixD k d S1 = .ok d' S' := by
      unfold fixD
      cases d <;> first | exact ⟨_, _, rfl⟩ | (by_cases z : k = true <;> simp [z])
    obtain ⟨d0, S0, e0⟩ := tot
    obtain ⟨d', S', g', e1, x', s', r', _⟩ := fix_ok (W := W) (σ := σ) (Q := fun _ _ => True) x s1 r (by rw [e0]; exact fun _ _ _ _ _ _ => trivial)
    rw [e1] at h
    exact ⟨g', S', d', x', s', fr.ext s x', r', KO.on x' h⟩
  | exc c vs S1 =>
    rw [e] at h
    exact fun g' dv H' x s' q => h g' σ dv H' x s' (fr.ext s x) q
  | bad => rw [e] at h; exact h.elim
end

section
variable {X : Cx} {κ : Kx} {W : WX} {e c : Expr} {ma : SE} {mc : SB} {pos : Pos} {st : Stmt} {rest body : List Stmt} {a b : SS}
def sNx : SS := fun l S => .nx l S
def sSeq (a b : SS) : SS := fun l S => match a l S with
  | .nx l' S' => b l' S'
  | o => o
def sBrk : SS := fun l S => .brk l S
def sCnt : SS := fun l S => .cnt l S
def sRet (m : SE) : SS := fun l S => (m l S).toO l fun d S1 => .ret d S1
def sRetN : SS := fun _ S => .ret .non S
def sDrop (m : SE) : SS := fun l S => (m l S).toO l fun _ S1 => .nx l S1
def sIf (c : SB) (a b : SS) : SS := fun l S => (c l S).toO l fun k S1 => if k = true then a l S1 else b l S1
theorem tS_nx {σ : L2.St} {H : Hp} {D' : Ends} (h : tS κ W sNx D' σ H) : D'.nx σ H := by
  obtain ⟨g, l, S, s, fr, h⟩ := h
  exact h g σ H (.refl _ _) s fr
theorem s_nil : PSs X [] (tS κ W sNx) := pss_nil.imp fun D' σ H h => tS_nx h
theorem s_cons (ha : PS X st (tS κ W a)) (hb : PSs X rest (tS κ W b)) : PSs X (st :: rest) (tS κ W (sSeq a b)) :=
  (pss_cons ha hb).imp fun D' σ H ⟨g, l, S, s, fr, h⟩ => by
    refine ⟨g, l, S, s, fr, ?_⟩
    unfold sSeq at h
    cases e : a l S with
    | nx l' S' =>
      rw [e] at h
      exact fun g' σ' H' x s' f' => ⟨g', l', S', s', f', KO.on x h⟩
    | ret d S' => rw [e] at h; exact h
    | brk l' S' => rw [e] at h; exact h
    | cnt l' S' => rw [e] at h; exact h
    | exc c vs l' S' => rw [e] at h; exact h
    | bad => rw [e] at h; exact h
theorem s_one (ha : PS X st (tS κ W a)) : PSs X [st] (tS κ W a) := pss_one ha
theorem s_pass : PS X (.Pass pos) (tS κ W sNx) := ps_pass.imp fun D' σ H h => tS_nx h
theorem s_doc {x : Str} {j : Nat} {pos' : Pos} : PS X (.Expr (.Constant (.str x) j pos) pos') (tS κ W sNx) := ps_doc.imp fun D' σ H h => tS_nx h
theorem s_brk : PS X (.Break pos) (tS κ W sBrk) := ps_break.imp fun D' σ H ⟨g, l, S, s, fr, h⟩ => h g σ H (.refl _ _) s fr
theorem s_cnt : PS X (.Continue pos) (tS κ W sCnt) := ps_continue.imp fun D' σ H ⟨g, l, S, s, fr, h⟩ => h g σ H (.refl _ _) s fr
theorem s_ret (he : PE X e (tM κ W ma)) : PS X (.Return (some e) pos) (tS κ W (sRet ma)) :=
  (ps_ret he).imp fun D' σ H ⟨g, l, S, s, fr, h⟩ => by
    refine ⟨g, l, S, s, fr, ?_⟩
    unfold sRet at h
    cases q : ma l S with
    | ok d S1 => rw [q] at h; exact h
    | exc cc vs S1 => rw [q] at h; exact fun g' dv H' x s' q => h g' σ dv H' x s' (fr.ext s x) q
    | bad => rw [q] at h; exact h
theorem s_retN : PS X (.Return none pos) (tS κ W sRetN) := ps_retN.imp fun D' σ H ⟨g, l, S, s, fr, h⟩ => h g .non H (.refl _ _) s (.rd .non)
theorem s_drop (he : PE X e (tM κ W ma)) (hs : swapsWith e none pos.line X.env = pure false := by rfl) : PS X (.Expr e pos) (tS κ W (sDrop ma)) :=
  (ps_expr he hs).imp fun D' σ H ⟨g, l, S, s, fr, h⟩ => by
    refine ⟨g, l, S, s, fr, KG.imp (KO.of (rel := RT κ) s fr h) fun v H1 ⟨g1, S1, d, _, x, s1, f1, r, h1⟩ => ?_⟩
    exact h1 g1 σ H1 (.refl _ _) s1 f1
theorem s_if {aa bb : List Stmt} (hc : PT X c (tT κ W mc)) (ha : PSs X aa (tS κ W a)) (hb : PSs X bb (tS κ W b)) : PS X (.If c aa bb pos) (tS κ W (sIf mc a b)) :=
  (ps_if hc ha hb).imp fun D' σ H ⟨g, l, S, s, fr, h⟩ => by
    refine ⟨g, l, S, s, fr, KG.imp (KO.of (rel := RB) s fr h) fun k H1 ⟨g1, S1, k', _, x, s1, f1, r, h1⟩ => ?_⟩
    cases r
    cases k with
    | true => exact ⟨g1, l, S1, s1, f1, h1⟩
    | false => exact ⟨g1, l, S1, s1, f1, h1⟩

/-! ### names bound -/
structure BG where
  ix : List Nat
  run : D → Loc → Option Loc
def Off (is : List Nat) (σ σ' : L2.St) : Prop := σ'.length = σ.length ∧ ∀ j, j ∉ is → σ'[j]? = σ[j]?
theorem Off.refl (is : List Nat) (σ : L2.St) : Off is σ σ := ⟨rfl, fun _ _ => rfl⟩
theorem Off.app {is js : List Nat} {σ σ1 σ2 : L2.St} (h : Off is σ σ1) (k : Off js σ1 σ2) : Off (is ++ js) σ σ2 := ⟨k.1.trans h.1, fun j hj => (k.2 j fun z => hj (List.mem_append_right _ z)).trans (h.2 j fun z => hj (List.mem_append_left _ z))⟩
def tG (κ : Kx) (b : BG) : TG := fun v σ H Q => ∃ g l S d l', RS κ g H S ∧ FR κ g H l σ ∧ RD κ g H d v ∧ b.run d l = some l' ∧ ∀ σ', Off b.ix σ σ' → FR κ g H l' σ' → Q σ' H
def bN (i : Nat) : BG := ⟨[i], fun d l => some (l.set i (some d))⟩
def bAll : List BG → List D → Loc → Option Loc
  | [], [], l => some l
  | b :: bs, d :: ds, l => (b.run d l).bind (bAll bs ds)
  | _, _, _ => none
def bIx : List BG → List Nat
  | [] => []
  | b :: bs => b.ix ++ bIx bs
def bT (bs : List BG) : BG := ⟨bIx bs, fun d l => match d with
  | .tup ds => bAll bs ds l
  | _ => none⟩
theorem _root_.L2.PG.imp {X : Cx} {e : Expr} {t t' : TG} (h : PG X e t) (i : ∀ v σ H Q, t' v σ H Q → t v σ H Q) : PG X e t' := ⟨fun pins s σ H v u Q I r w => h.run pins s σ H v u Q I r (i v σ H Q w)⟩
theorem _root_.L2.PGs.imp {X : Cx} {e : List Expr} {t t' : TGs} (h : PGs X e t) (i : ∀ v σ H Q, t' v σ H Q → t v σ H Q) : PGs X e t' := ⟨fun pins s σ H v u Q I r w => h.run pins s σ H v u Q I r (i v σ H Q w)⟩
def tGs (κ : Kx) (bs : List BG) : TGs := fun vs σ H Q => ∃ g l S ds l', RS κ g H S ∧ FR κ g H l σ ∧ RDs κ g H ds vs ∧ bAll bs ds l = some l' ∧ ∀ σ', Off (bIx bs) σ σ' → FR κ g H l' σ' → Q σ' H
theorem g_name {i : Nat} {x : Str} (hN : X.N.Nodup) (hi : X.N[i]? = some x) (hx : L2.Loc X.env.scope x) (hf : X.fn x = true ∨ X.env.scope.names.lookup x = some .local := by first | exact .inl rfl | exact .inr rfl | assumption) : PG X (.Name x pos) (tG κ (bN i)) :=
  (pg_name hN hi hx hf).imp fun v σ H Q ⟨g, l, S, d, l', s, fr, r, e, k⟩ => by
    cases e
    exact k _ ⟨List.length_set, fun j hj => List.getElem?_set_ne fun z => hj (by rw [z]; exact List.mem_singleton.mpr rfl)⟩ (fr.set r)
theorem gs_nil : PGs X [] (tGs κ []) := pgs_nil.imp fun vs σ H Q ⟨g, l, S, ds, l', s, fr, r, e, k⟩ => by
  cases ds with
  | nil => cases r; cases e; exact ⟨rfl, k _ (.refl _ _) fr⟩
  | cons => cases e
theorem gs_cons {es : List Expr} {b : BG} {bs : List BG} (h1 : PG X e (tG κ b)) (h2 : PGs X es (tGs κ bs)) (hs : (assignEach (e :: es) X.env).map (·.2) = assign e X.env :: (assignEach es X.env).map (·.2) := by rfl) : PGs X (e :: es) (tGs κ (b :: bs)) :=
  (pgs_cons h1 h2 hs).imp fun vs σ H Q ⟨g, l, S, ds, l', s, fr, r, e, k⟩ => by
    cases ds with
    | nil => cases e
    | cons d ds =>
      cases r with
      | cons r rr =>
        obtain ⟨l1, e1, e2⟩ := Option.bind_eq_some_iff.mp e
        exact ⟨_, _, rfl, g, l, S, d, l1, s, fr, r, e1, fun σ' o' f' => ⟨g, l1, S, ds, l', s, f', rr, e2, fun σ2 o2 => k σ2 (o'.app o2)⟩⟩
theorem g_tup {es : List Expr} {k n : Nat} {bs : List BG} (hK : X.K = κ.K) (hc : X.calm = true) (h : PGs X es (tGs κ bs)) (hl : bs.length = n) (hn : (assignEach es X.env).length = n := by rfl) (hst : (assignEach es X.env).findIdx? (·.1) = none := by rfl) : PG X (.Tuple es k pos) (tG κ (bT bs)) :=
  (pg_tup hc h hn hst).imp fun v σ H Q ⟨g, l, S, d, l', s, fr, r, e, k⟩ => by
    cases d with
    | tup ds =>
      obtain ⟨p, vs, rfl, h1, q1⟩ := (toRT r).tup
      refine ⟨p, vs, rfl, by rw [hK]; exact h1, ?_, g, l, S, ds, l', s, fr, q1, e, k⟩
      have len : ∀ {bs : List BG} {ds : List D} {l : Loc}, bAll bs ds l = some l' → ds.length = bs.length := by
        intro bs
        induction bs with
        | nil => intro ds l e; cases ds with
          | nil => rfl
          | cons => cases e
        | cons b bs ih => intro ds l e; cases ds with
          | nil => cases e
          | cons d ds =>
            obtain ⟨l1, _, e2⟩ := Option.bind_eq_some_iff.mp e
            exact congrArg Nat.succ (ih e2)
      rw [← q1.length, len e, hl]
    | _ => cases e
def sAsg (b : BG) (k : Bool) (m : SE) : SS := fun l S => (mFix k m l S).toO l fun d S1 => match b.run d l with
  | some l' => .nx l' S1
  | none => .bad
theorem sAsg_ok {b : BG} {k : Bool} (D' : Ends) (σ : L2.St) (H : Hp) (h : tS κ W (sAsg b k ma) D' σ H) : tAsg (tM κ W ma) (tG κ b) D' σ H := by
  obtain ⟨g, l, S, s, fr, h⟩ := h
  refine ⟨g, l, S, s, fr, KG.imp (KO.fix s fr h) fun v H1 ⟨g1, S1, d, x, s1, f1, r, h1⟩ => ?_⟩
  cases e : b.run d l with
  | none => simp only [e] at h1; exact h1.elim
  | some l' =>
    simp only [e] at h1
    exact ⟨g1, l, S1, d, l', s1, f1, r, e, fun σ' _ f' => h1 g1 σ' H1 (.refl _ _) s1 f'⟩
theorem s_asg {tg : Expr} {b : BG} {k : Bool} (he : PE X e (tM κ W ma)) (hg : PG X tg (tG κ b)) (hs : swapsWithSole [tg] e pos.line X.env = pure false := by rfl) (hw : swappedStores [tg] e X.env = pure none := by rfl)
    (h1 : (assignEach [tg] X.env).map (·.2) = [assign tg X.env] := by rfl) : PS X (.Assign [tg] e pos) (tS κ W (sAsg b k ma)) := (ps_asg he hg hs hw h1).imp sAsg_ok
theorem s_set {i : Nat} {x : Str} {k : Bool} {pos' : Pos} (hN : X.N.Nodup) (hi : X.N[i]? = some x) (hx : L2.Loc X.env.scope x) (he : PE X e (tM κ W ma)) (hs : swapsWith e (some (.Name x pos')) pos.line X.env = pure false := by rfl) (hf : X.fn x = true ∨ X.env.scope.names.lookup x = some .local := by first | exact .inl rfl | exact .inr rfl | assumption) :
    PS X (.Assign [.Name x pos'] e pos) (tS κ W (sAsg (bN i) k ma)) := (ps_set hN hi hx he hs hf).imp fun D' σ H h => by
  obtain ⟨g, l, S, s, fr, h⟩ := h
  refine ⟨g, l, S, s, fr, KG.imp (KO.fix s fr h) fun v H1 ⟨g1, S1, d, x, s1, f1, r, h1⟩ => ?_⟩
  exact h1 g1 _ H1 (.refl _ _) s1 (f1.set r)
end
end LB
end

section
set_option Elab.async false
set_option linter.all false
set_option maxRecDepth 100000
set_option maxHeartbeats 4000000
/-! Layer B, part 8: op=, stores, loops. -/
namespace LB
open PySem PySem.Spec L2

section
variable {X : Cx} {κ : Kx} {W : WX} {e c o i : Expr} {ma mo mi : SE} {mc : SB} {pos : Pos} {st : Stmt} {rest body : List Stmt} {a b : SS}
/-! ### name op= e -/
def iaAdd : Store → D → D → Option D := fun _ a b => match a, b with
  | .int i, .int j => some (.int (i + j))
  | .str x, .str y => if x.length + y.length ≤ SL then some (.str (x ++ y)) else none
  | _, _ => none
def opIA : Operator → Option (Store → D → D → Option D)
  | .Add => some iaAdd
  | .Sub => some opSub
  | .FloorDiv => some opFdiv
  | .Mod => some opMod
  | _ => none
theorem ia_add : OpR X (inplaceOp .Add) (rOf κ iaAdd) := by
  intro pins s σ H x y v u Q I rx ry ⟨H0, H1, g, S, dx, dy, d, rs, r1, r2, e, k⟩
  cases dx with
  | int i =>
    cases dy with
    | int j =>
      cases r1.int; cases r2.int; cases e
      exact iop_add pins s σ H _ _ v u Q I rx ry ⟨i, j, rfl, rfl, k.pure rs (.int _)⟩
    | _ => cases e
  | str a =>
    cases dy with
    | str b =>
      cases r1.str; cases r2.str
      obtain ⟨hl, rfl⟩ := ite_some e
      refine iop_add_str pins s σ H _ _ v u Q I rx ry ⟨_, _, rfl, rfl, by rw [str_len, str_len, SL_eq]; exact hl, ?_⟩
      rw [str_app]
      exact k.pure rs (.str _)
    | _ => cases e
  | _ => cases e
theorem ia_sub : OpR X (inplaceOp .Sub) (rOf κ opSub) := by
  intro pins s σ H x y v u Q I rx ry ⟨H0, H1, g, S, dx, dy, d, rs, r1, r2, e, k⟩
  cases dx with
  | int i =>
    cases dy with
    | int j =>
      cases r1.int; cases r2.int; cases e
      exact iop_sub pins s σ H _ _ v u Q I rx ry ⟨i, j, rfl, rfl, k.pure rs (.int _)⟩
    | _ => cases e
  | _ => cases e
theorem ia_fdiv : OpR X (inplaceOp .FloorDiv) (rOf κ opFdiv) := by
  intro pins s σ H x y v u Q I rx ry ⟨H0, H1, g, S, dx, dy, d, rs, r1, r2, e, k⟩
  cases dx with
  | int i =>
    cases dy with
    | int j =>
      cases r1.int; cases r2.int
      obtain ⟨hl, rfl⟩ := ite_some e
      exact iop_fdiv pins s σ H _ _ v u Q I rx ry ⟨i, j, rfl, rfl, hl, k.pure rs (.int _)⟩
    | _ => cases e
  | _ => cases e
theorem ia_mod : OpR X (inplaceOp .Mod) (rOf κ opMod) := by
  intro pins s σ H x y v u Q I rx ry ⟨H0, H1, g, S, dx, dy, d, rs, r1, r2, e, k⟩
  cases dx with
  | int i =>
    cases dy with
    | int j =>
      cases r1.int; cases r2.int
      obtain ⟨hl, rfl⟩ := ite_some e
      exact iop_mod pins s σ H _ _ v u Q I rx ry ⟨i, j, rfl, rfl, hl, k.pure rs (.int _)⟩
    | _ => cases e
  | _ => cases e
theorem opIA_ok {op : Operator} {f : Store → D → D → Option D} (h : opIA op = some f) : PIp X op (rOf κ f) := by
  cases op <;> cases h
  · exact ia_add
  · exact ia_sub
  · exact ia_mod
  · exact ia_fdiv
def isVal : D → Bool
  | .int _ => true
  | .str _ => true
  | _ => false
def sAug (i : Nat) (f : Store → D → D → Option D) (m : SE) : SS := fun l S => match look l i with
  | some dx => (m l S).toO l fun dy S1 => match f S1 dx dy with
    | some d => if isVal d = true then .nx (l.set i (some d)) S1 else .bad
    | none => .bad
  | none => .bad
theorem s_aug {j : Nat} {x : Str} {op : Operator} {f : Store → D → D → Option D} {pos' : Pos} (hN : X.N.Nodup) (hi : X.N[j]? = some x) (hx : L2.Loc X.env.scope x) (he : PE X e (tM κ W ma)) (ho : opIA op = some f := by rfl) (hf : X.fn x = true ∨ X.env.scope.names.lookup x = some .local := by first | exact .inl rfl | exact .inr rfl | assumption) :
    PS X (.AugAssign (.Name x pos') op e pos) (tS κ W (sAug j f ma)) :=
  (ps_aug hN hi hx he (opIA_ok ho) hf).imp fun D' σ H ⟨g, l, S, s, fr, h⟩ => by
    unfold sAug at h
    cases q : look l j with
    | none => simp only [q] at h; exact h.elim
    | some dx =>
      simp only [q] at h
      obtain ⟨v, e1, r⟩ := fr.look q
      refine ⟨v, e1, g, l, S, s, fr, KG.imp (KO.of (rel := RT κ) s fr h) fun w H1 ⟨g1, S1, dy, _, x, s1, f1, r1, h1⟩ => ?_⟩
      cases q2 : f S1 dx dy with
      | none => simp only [q2] at h1; exact h1.elim
      | some d =>
        simp only [q2] at h1
        refine ⟨H, _, g1, S1, dx, dy, d, s1, .rd (r.ext s x), r1, q2, fun g2 z H2 x2 s2 r2 => ?_⟩
        by_cases hv : isVal d = true
        · rw [if_pos hv] at h1
          have r2 : RD κ g2 H2 d z := by
            cases r2 with
            | rd r2 => exact r2
            | tmp _ _ _ _ _ => cases hv
            | tdic _ _ _ _ _ _ => cases hv
          exact h1 g2 _ H2 x2 s2 ((f1.ext s1 x2).set r2)
        · rw [if_neg hv] at h1; exact h1.elim

/-! ### o[i] = e -/
def dkD : D → Option DK
  | .int i => some (.inl i)
  | .str s => some (.inr s)
  | _ => none
def hasK (ks : List DK) (q : DK) : Bool := ks.any fun k => decide (k = q)
def putKs (ks : List DK) (q : DK) : List DK := if hasK ks q = true then ks else ks ++ [q]
def putVs : List DK → List D → DK → D → List D
  | [], vs, _, d => vs ++ [d]
  | k :: ks, v :: vs, q, d => if k = q then d :: vs else v :: putVs ks vs q d
  | _ :: _, [], _, _ => []
def setQ (S : Store) (o i d : D) : Option Store := match o with
  | .ref n => match S[n]? with
    | some (.lst xs) => match i with
      | .int k => (ixN xs.length k).map fun j => S.set n (.lst (xs.set j d))
      | _ => none
    | some (.dic ks vs) => match dkD i with
      | some q => if ks.length < SL ∧ ks.Nodup then some (S.set n (.dic (putKs ks q) (putVs ks vs q d))) else none
      | none => none
    | none => none
  | _ => none
theorem fst_any {kvs : List (Key × V)} {ks : List DK} {q : DK} (e : kvs.map Prod.fst = ks.map keyK) : (kvs.any fun kv => decide (kv.1 = keyK q)) = hasK ks q := by
  have h1 : (kvs.any fun kv => decide (kv.1 = keyK q)) = ((kvs.map Prod.fst).any fun k => decide (k = keyK q)) := by
    rw [List.any_map]
    rfl
  rw [h1, e, List.any_map]
  unfold hasK
  rw [Bool.eq_iff_iff]
  simp only [List.any_eq_true, decide_eq_true_eq, Function.comp]
  exact ⟨fun ⟨x, h, z⟩ => ⟨x, h, keyK_inj z⟩, fun ⟨x, h, z⟩ => ⟨x, h, by rw [z]⟩⟩
theorem put_fst {kvs : List (Key × V)} {ks : List DK} {q : DK} {v : V} (e : kvs.map Prod.fst = ks.map keyK) : (putK kvs (keyK q) v).map Prod.fst = (putKs ks q).map keyK := by
  unfold putK putKs
  rw [fst_any e]
  by_cases h : hasK ks q = true
  · rw [if_pos h, if_pos h, ← e, List.map_map]
    refine List.map_congr_left fun kv _ => ?_
    show (if kv.1 = keyK q then (kv.1, v) else kv).1 = kv.1
    split <;> rfl
  · rw [if_neg h, if_neg h, List.map_append, List.map_append, e]
    rfl
theorem map_off {kvs : List (Key × V)} {k : Key} {v : V} (h : k ∉ kvs.map Prod.fst) : kvs.map (fun kv => if kv.1 = k then (kv.1, v) else kv) = kvs := by
  induction kvs with
  | nil => rfl
  | cons p r ih =>
    rw [List.map_cons] at h
    have h1 : ¬ p.1 = k := fun z => h (by rw [z]; exact List.mem_cons_self)
    rw [List.map_cons, if_neg h1, ih fun z => h (List.mem_cons_of_mem _ z)]
theorem put_snd {g : Gh} {H : Hp} {q : DK} {v : V} {d : D} (rd : RD κ g H d v) : ∀ {ks : List DK} {ds : List D} {kvs : List (Key × V)}, ks.Nodup → kvs.map Prod.fst = ks.map keyK → RDs κ g H ds (kvs.map Prod.snd) → RDs κ g H (putVs ks ds q d) ((putK kvs (keyK q) v).map Prod.snd)
  | [], ds, [], _, _, r => by
    cases r
    exact .cons rd .nil
  | [], _, _ :: _, _, e, _ => nomatch e
  | _ :: _, _, [], _, e, _ => nomatch e
  | k :: ks, ds, p :: kvs, nd, e, r => by
    rw [List.map_cons] at r
    cases r with
    | @cons d0 v0 ds vs0 r0 r =>
      have e1 : p.1 = keyK k := (List.cons.inj e).1
      have e2 : kvs.map Prod.fst = ks.map keyK := (List.cons.inj e).2
      have nd' := List.nodup_cons.mp nd
      by_cases h : k = q
      · subst h
        have hk : keyK k ∉ kvs.map Prod.fst := fun z => by
          rw [e2] at z
          obtain ⟨k', hk', z⟩ := List.mem_map.mp z
          rw [keyK_inj z] at hk'
          exact nd'.1 hk'
        have : putK (p :: kvs) (keyK k) v = (p.1, v) :: kvs := by
          unfold putK
          rw [if_pos (by simp [e1]), List.map_cons, if_pos e1, map_off hk]
        rw [this]
        show RDs κ g H (if k = k then d :: ds else d0 :: putVs ks ds k d) (v :: kvs.map Prod.snd)
        rw [if_pos rfl]
        exact .cons rd r
      · have h1 : ¬ p.1 = keyK q := fun z => h (keyK_inj (e1.symm.trans z))
        have ih := put_snd (q := q) rd nd'.2 e2 r
        have : putK (p :: kvs) (keyK q) v = p :: putK kvs (keyK q) v := by
          unfold putK
          rw [List.any_cons]
          have : decide (p.1 = keyK q) = false := decide_eq_false h1
          rw [this, Bool.false_or, List.map_cons, if_neg h1]
          split <;> rfl
        rw [this]
        show RDs κ g H (if k = q then d :: ds else d0 :: putVs ks ds q d) (p.2 :: (putK kvs (keyK q) v).map Prod.snd)
        rw [if_neg h]
        exact .cons r0 ih
def rPut (κ : Kx) : TSet := fun o i v H Q => ∃ H0 H1 g S do' di d S', RS κ g H S ∧ RT κ H0 g H do' o ∧ RT κ H1 g H di i ∧ RD κ g H d v ∧ setQ S do' di d = some S' ∧ ∀ H', Ext g H g H' → RS κ g H' S' → Q H'
theorem dk_ok {H0 : Hp} {g : Gh} {H : Hp} {d : D} {q : DK} {v : V} (r : RT κ H0 g H d v) (e : dkD d = some q) : v = kV (keyK q) := by
  cases d with
  | int i => cases e; rw [r.int]; rfl
  | str z => cases e; rw [r.str]; rfl
  | _ => cases e
theorem set_B (hu : X.A.units + 65 < cLine) : PSet X (rPut κ) := by
  intro pins s σ H o i v ov iv u Q I ro ri rv ⟨H0, H1, g, S, d1, d2, d3, S', rs, r1, r2, r3, e, k⟩
  cases d1 with
  | ref n =>
    cases r1 with
    | rd r1 =>
      cases r1 with
      | @ref _ p hp =>
        unfold setQ at e
        cases q : S[n]? with
        | none => simp [q] at e
        | some w =>
          have ob := rs.ob n p w hp q
          cases w with
          | lst xs =>
            simp only [q] at e
            cases d2 with
            | int kk =>
              obtain ⟨j, e1, rfl⟩ := Option.map_eq_some_iff.mp e
              obtain ⟨vs, h1, h2⟩ := ob
              cases r2.int
              refine set_list pins s σ H _ _ v ov iv u Q I ro ri rv ⟨p, vs, kk, j, rfl, rfl, h1, by rw [← h2.length]; exact e1, ?_⟩
              have x : Ext g H g (upd H p (.lst (vs.set j v))) := Ext.put hp
              exact k _ x (rs.put hp ⟨_, upd_same, (h2.set r3 j).ext rs x⟩)
            | _ => simp at e
          | dic ks xs =>
            simp only [q] at e
            cases e1 : dkD d2 with
            | none => simp [e1] at e
            | some kk =>
              simp only [e1] at e
              obtain ⟨⟨hl, nd⟩, rfl⟩ := ite_some e
              obtain ⟨kvs, h1, h2, h3⟩ := ob
              cases dk_ok r2 e1
              have el : kvs.length = ks.length := by
                have z := congrArg List.length h2
                rw [List.length_map, List.length_map] at z
                exact z
              have x : Ext g H g (upd H p (.dK (putK kvs (keyK kk) v))) := Ext.put hp
              refine set_dict (by omega) pins s σ H _ _ v ov iv u Q I ro ri rv ⟨p, _, rfl, DPut.k h1 (by rw [el, SL_eq]; exact hl), ?_⟩
              exact k _ x (rs.put hp ⟨_, upd_same, put_fst h2, (put_snd r3 nd h2 h3).ext rs x⟩)
  | _ => cases e
def sPut (k : Bool) (m mo mi : SE) : SS := fun l S => (mFix k m l S).toO l fun d S1 => (mo l S1).toO l fun o S2 => (mi l S2).toO l fun i S3 => match setQ S3 o i d with
  | some S4 => .nx l S4
  | none => .bad
theorem s_put {k : Bool} {p2 : Pos} (hu : X.A.units + 65 < cLine) (he : PE X e (tM κ W ma)) (ho : PE X o (tM κ W mo)) (hi : PE X i (tM κ W mi))
    (ha : ∀ v, assign (.Subscript o i p2) X.env v = (do
      let ov ← holding [v] (eval o X.env)
      let iv ← holding [v, ov] (eval i X.env)
      standAt p2
      holding [v, ov, iv] (setItem ov iv v)
      release [v, ov, iv] []) := by intro _; rfl)
    (hs : swapsWithSole [.Subscript o i p2] e pos.line X.env = pure false := by rfl) (hw : swappedStores [.Subscript o i p2] e X.env = pure none := by rfl)
    (h1 : (assignEach [.Subscript o i p2] X.env).map (·.2) = [assign (.Subscript o i p2) X.env] := by rfl) : PS X (.Assign [.Subscript o i p2] e pos) (tS κ W (sPut k ma mo mi)) :=
  (ps_asg he (pg_sub ho hi (set_B (κ := κ) hu) ha) hs hw h1).imp fun D' σ H ⟨g, l, S, s, fr, h⟩ => by
    refine ⟨g, l, S, s, fr, KG.imp (KO.fix s fr h) fun v H1 ⟨g1, S1, d, x1, s1, f1, r, h1⟩ => ?_⟩
    refine ⟨g1, l, S1, s1, f1, KG.imp (KO.of (rel := RT κ) s1 f1 h1) fun vo H2 ⟨g2, S2, do', _, x2, s2, f2, r2, h2⟩ => ?_⟩
    refine ⟨g2, l, S2, s2, f2, KG.imp (KO.of (rel := RT κ) s2 f2 h2) fun vi H3 ⟨g3, S3, di, _, x3, s3, f3, r3, h3⟩ => ?_⟩
    cases q : setQ S3 do' di d with
    | none => simp only [q] at h3; exact h3.elim
    | some S4 =>
      simp only [q] at h3
      exact ⟨_, _, g3, S3, do', di, d, S4, s3, r2.ext s2 x3, r3, (r.ext s1 x2).ext s2 x3, q, fun H4 x4 s4 => h3 g3 σ H4 x4 s4 (f3.ext s3 x4)⟩

/-! ### while -/
def wh (c : SB) (b : SS) : Nat → SS
  | 0 => fun _ _ => .bad
  | n + 1 => fun l S => (c l S).toO l fun k S1 => if k = true then (match b l S1 with
    | .nx l' S' => wh c b n l' S'
    | .cnt l' S' => wh c b n l' S'
    | .brk l' S' => .nx l' S'
    | .ret d S' => .ret d S'
    | .exc cc vs l' S' => .exc cc vs l' S'
    | .bad => .bad) else .nx l S1
theorem wh_mono {c : SB} {b : SS} : ∀ {n : Nat} {l : Loc} {S : Store}, wh c b n l S ≠ .bad → wh c b (n + 1) l S = wh c b n l S
  | 0, _, _, h => absurd rfl h
  | n + 1, l, S, h => by
    show ((c l S).toO l fun k S1 => if k = true then (match b l S1 with
      | .nx l' S' => wh c b (n + 1) l' S'
      | .cnt l' S' => wh c b (n + 1) l' S'
      | .brk l' S' => .nx l' S'
      | .ret d S' => .ret d S'
      | .exc cc vs l' S' => .exc cc vs l' S'
      | .bad => .bad) else .nx l S1) = ((c l S).toO l fun k S1 => if k = true then (match b l S1 with
      | .nx l' S' => wh c b n l' S'
      | .cnt l' S' => wh c b n l' S'
      | .brk l' S' => .nx l' S'
      | .ret d S' => .ret d S'
      | .exc cc vs l' S' => .exc cc vs l' S'
      | .bad => .bad) else .nx l S1)
    have h : ((c l S).toO l fun k S1 => if k = true then (match b l S1 with
      | .nx l' S' => wh c b n l' S'
      | .cnt l' S' => wh c b n l' S'
      | .brk l' S' => .nx l' S'
      | .ret d S' => .ret d S'
      | .exc cc vs l' S' => .exc cc vs l' S'
      | .bad => .bad) else .nx l S1) ≠ .bad := h
    cases q : c l S with
    | ok k S1 =>
      rw [q] at h
      simp only [R.toO] at h ⊢
      by_cases z : k = true
      · rw [if_pos z] at h ⊢
        rw [if_pos z]
        cases q2 : b l S1 with
        | nx l' S' => rw [q2] at h; exact wh_mono h
        | cnt l' S' => rw [q2] at h; exact wh_mono h
        | _ => rfl
      · rw [if_neg z, if_neg z]
    | _ => rfl
theorem wh_le {c : SB} {b : SS} {n m : Nat} {l : Loc} {S : Store} (h : wh c b n l S ≠ .bad) (hm : n ≤ m) : wh c b m l S = wh c b n l S := by
  obtain ⟨k, rfl⟩ := Nat.exists_eq_add_of_le hm
  induction k with
  | zero => rfl
  | succ k ih =>
    have e := ih (by omega)
    rw [← e]
    exact wh_mono (n := n + k) (by rw [e]; exact h)
open Classical in
noncomputable def sWh (c : SB) (b : SS) : SS := fun l S => if h : ∃ n, wh c b n l S ≠ .bad then wh c b (Classical.choose h) l S else .bad
theorem sWh_eq {c : SB} {b : SS} {n : Nat} {l : Loc} {S : Store} {o : O} (e : wh c b n l S = o) (h : o ≠ .bad) : sWh c b l S = o := by
  have hn : wh c b n l S ≠ .bad := by rw [e]; exact h
  have ex : ∃ n, wh c b n l S ≠ .bad := ⟨n, hn⟩
  unfold sWh
  rw [dif_pos ex]
  have hc := Classical.choose_spec ex
  rcases Nat.le_total n (Classical.choose ex) with z | z
  · rw [wh_le hn z, e]
  · rw [← wh_le hc z, e]
theorem sWh_fuel {c : SB} {b : SS} {l : Loc} {S : Store} : ∃ n, sWh c b l S = wh c b n l S := by
  unfold sWh
  split
  · exact ⟨_, rfl⟩
  · exact ⟨0, rfl⟩
theorem wh_ok {D' : Ends} (hD : True) : ∀ (n : Nat) (σ : L2.St) (H : Hp), tS κ W (wh mc b n) D' σ H → ∃ V : Nat → L2.St → Hp → Prop, (∃ m, V m σ H) ∧ ∀ m σ H, V m σ H →
    tT κ W mc σ H fun k H1 => if k = true then ∃ N : L2.St → Hp → Prop, (∀ σ' H', N σ' H' → ∃ m', m' < m ∧ V m' σ' H') ∧ tS κ W b { D' with nx := N, ct := N, bk := D'.nx } σ H1 else D'.nx σ H1 := fun n σ H h => by
  refine ⟨fun m σ H => tS κ W (wh mc b m) D' σ H, ⟨n, h⟩, ?_⟩
  rintro m σ H ⟨g, l, S, s, fr, h⟩
  cases m with
  | zero => exact h.elim
  | succ m =>
    refine ⟨g, l, S, s, fr, KG.imp (KO.of (rel := RB) s fr h) fun k H1 ⟨g1, S1, k', _, x1, s1, f1, r1, h1⟩ => ?_⟩
    cases r1
    cases k with
    | false => exact h1 g1 σ H1 (.refl _ _) s1 f1
    | true =>
      rw [if_pos rfl] at h1 ⊢
      refine ⟨fun σ' H' => tS κ W (wh mc b m) D' σ' H', fun σ' H' z => ⟨m, Nat.lt_succ_self _, z⟩, g1, l, S1, s1, f1, ?_⟩
      cases q : b l S1 with
      | nx l' S' => rw [q] at h1; exact fun g' σ' H' x s' f' => ⟨g', l', S', s', f', KO.on x h1⟩
      | cnt l' S' => rw [q] at h1; exact fun g' σ' H' x s' f' => ⟨g', l', S', s', f', KO.on x h1⟩
      | brk l' S' => rw [q] at h1; exact h1
      | ret d S' => rw [q] at h1; exact h1
      | exc cc vs l' S' => rw [q] at h1; exact h1
      | bad => rw [q] at h1; exact h1
theorem s_while (hp : PassesOwn (model X.prog X.w) X.A X.env X.xe) (hc : PT X c (tT κ W mc)) (hb : PSs X body (tS κ W b)) : PS X (.While c body [] pos) (tS κ W (sWh mc b)) :=
  (ps_while hp hc hb).imp fun D' σ H ⟨g, l, S, s, fr, h⟩ => by
    obtain ⟨n, e⟩ := sWh_fuel (c := mc) (b := b) (l := l) (S := S)
    rw [e] at h
    exact wh_ok trivial n σ H ⟨g, l, S, s, fr, h⟩
end
end LB
end

section
set_option Elab.async false
set_option linter.all false
set_option maxRecDepth 100000
set_option maxHeartbeats 4000000
/-! Layer B, part 9: what is walked; for; comprehensions. -/
namespace LB
open PySem PySem.Spec L2

abbrev Chk := Store → Prop
abbrev SI := Loc → Store → R (List D × Chk)
def ItOk (κ : Kx) (J : It) (g : Gh) (H : Hp) (p : List D × Chk) : Prop := ∀ g' H' S' i, Ext g H g' H' → RS κ g' H' S' → p.2 S' →
  (p.1.length ≤ i → J.stop i H') ∧ ∀ d, p.1[i]? = some d → J.go i H' ∧ ∀ x H'', J.yld i H' x H'' → ∃ g'', Ext g' H' g'' H'' ∧ RS κ g'' H'' S' ∧ RD κ g'' H'' d x
theorem ItOk.ext {κ : Kx} {J : It} {g g1 : Gh} {H H1 : Hp} {p : List D × Chk} (x : Ext g H g1 H1) (h : ItOk κ J g H p) : ItOk κ J g1 H1 p := fun g' H' S' i y => h g' H' S' i (x.trans y)
abbrev RI (κ : Kx) : Rel (List D × Chk) It := fun _ g H p J => ItOk κ J g H p
theorem back_RI {κ : Kx} : Back (RI κ) := fun _ _ _ _ _ _ _ _ _ r => r
def tI (κ : Kx) (W : WX) (m : SI) : TI := fun σ H Q => ∃ g l S, RS κ g H S ∧ FR κ g H l σ ∧ KG κ W σ g H (RI κ) (m l S) Q
theorem _root_.L2.PI.imp {X : Cx} {tg e : Expr} {t t' : TI} (h : PI X tg e t) (i : ∀ σ H Q, t' σ H Q → t σ H Q) : PI X tg e t' := ⟨fun pins s σ H R I w => h.run pins s σ H R I (i σ H R w)⟩

/-! ### sources -/
def chT : Chk := fun _ => True
def chS (S : Store) : D → Chk
  | .ref n => fun S' => S'[n]? = S[n]?
  | _ => chT
/-- the items of a sequence -/
def seqL (S : Store) : D → Option (List D)
  | .scr ns => some (ns.map .int)
  | a => viewL S a
def itS (S : Store) : D → Option (List D × Chk)
  | .tup xs => some (xs, chT)
  | .str z => some (z.map fun c => .str [c], chT)
  | a => (seqL S a).map fun xs => (xs, chS S a)
section
variable {X : Cx} {κ : Kx} {W : WX} {e e2 tg : Expr} {ma mb : SE} {as : List (Bool × SE)} {pos : Pos}
theorem seqL_ok {H0 : Hp} {g : Gh} {H : Hp} {S : Store} {d : D} {v : V} {xs : List D} (s : RS κ g H S) (r : RT κ H0 g H d v) (e : seqL S d = some xs) :
    ∃ p, v = .ref p ∧ ∀ g' H' S', Ext g H g' H' → RS κ g' H' S' → chS S d S' → ∃ vs, SqL κ.K H' p vs ∧ RDs κ g' H' xs vs := by
  cases d with
  | scr ns =>
    cases e
    cases r with
    | rd r =>
      cases r with
      | scr h => exact ⟨_, rfl, fun g' H' S' x _ _ => ⟨_, .inl (.inr ⟨_, x.keep _ _ h (s.not h (fun _ z => nomatch z) fun _ z => nomatch z)⟩), .ints ns⟩⟩
      | scrK h =>
        refine ⟨_, rfl, fun g' H' S' x _ _ => ⟨_, ?_, .ints ns⟩⟩
        rcases h with (h | ⟨o, h⟩) | h
        · cases h
        · cases h
        · exact .inr h
  | lst ys =>
    cases e
    cases r with
    | rd r =>
      cases r with
      | lst h f q => exact ⟨_, rfl, fun g' H' S' x _ _ => ⟨_, SqL.of (x.keep _ _ h (s.fr _ f)), q.ext s x⟩⟩
  | tmp ys =>
    cases e
    cases r with
    | rd r => cases r
    | tmp h n1 n2 n3 q => exact ⟨_, rfl, fun g' H' S' x _ _ => ⟨_, SqL.of (x.keep _ _ h n1), q.ext s x⟩⟩
  | ref n =>
    cases r with
    | rd r =>
      cases r with
      | @ref _ a h =>
        refine ⟨a, rfl, fun g' H' S' x s' c => ?_⟩
        have h' : g'.ι[n]? = some a := by
          obtain ⟨t, e⟩ := x.pre
          rw [← e]
          exact (List.getElem?_append_left (List.getElem?_eq_some_iff.mp h).1).trans h
        have c : S'[n]? = S[n]? := c
        have e : viewL S (.ref n) = some xs := e
        have e' : viewL S' (.ref n) = some xs := by
          have e : (match S[n]? with
            | some (SO.lst xs) => some xs
            | _ => none) = some xs := e
          rw [← c] at e
          exact e
        obtain ⟨p, vs, ev, h1, h2⟩ := viewL_ok s' (.rd (.ref h') : RT κ H' g' H' (.ref n) (.ref a)) e'
        cases ev
        exact ⟨vs, SqL.of h1, h2⟩
  | _ => cases e
theorem itL_ok {K : PySem.W.Frag} (hK : K = κ.K) {g : Gh} {H : Hp} {xs : List D} {a : Addr} {ch : Chk} (h : ∀ g' H' S', Ext g H g' H' → RS κ g' H' S' → ch S' → ∃ vs, SqL κ.K H' a vs ∧ RDs κ g' H' xs vs) : ItOk κ (Itl K a) g H (xs, ch) := by
  subst hK
  intro g' H' S' i x s c
  obtain ⟨vs, h1, h2⟩ := h g' H' S' x s c
  refine ⟨fun hi => ⟨vs, h1, by rw [← h2.length]; exact hi⟩, fun d e => ?_⟩
  obtain ⟨v, e1, r⟩ := h2.get e
  refine ⟨⟨vs, v, h1, e1⟩, fun y H'' ⟨e2, q⟩ => ?_⟩
  subst e2
  have := q vs h1
  rw [e1] at this
  cases this
  exact ⟨g', .refl _ _, s, r⟩
theorem itT_ok {K : PySem.W.Frag} (hK : K = κ.K) {g : Gh} {H : Hp} {S : Store} {xs : List D} {vs : List V} {a : Addr} {ch : Chk} (s0 : RS κ g H S) (h1 : SqT κ.K H a vs) (h2 : RDs κ g H xs vs) : ItOk κ (Itt K a) g H (xs, ch) := by
  subst hK
  intro g' H' S' i x s c
  have h1 := SqT.ext s0 x h1
  have h2 := h2.ext s0 x
  refine ⟨fun hi => ⟨vs, h1, by rw [← h2.length]; exact hi⟩, fun d e => ?_⟩
  obtain ⟨v, e1, r⟩ := h2.get e
  refine ⟨⟨vs, v, h1, e1⟩, fun y H'' ⟨e2, q⟩ => ?_⟩
  subst e2
  have := q vs h1
  rw [e1] at this
  cases this
  exact ⟨g', .refl _ _, s, r⟩
theorem itC_ok {g : Gh} {H : Hp} {z : List Nat} {ch : Chk} : ItOk κ (Its ⟨z.toArray⟩) g H (z.map fun c => .str [c], ch) := by
  intro g' H' S' i x s c
  refine ⟨fun hi => (by simpa using hi : (⟨z.toArray⟩ : Str).cps.size ≤ i), fun d e => ?_⟩
  have e : (z.map fun c => D.str [c])[i]? = some d := e
  rw [List.getElem?_map] at e
  obtain ⟨n, e1, rfl⟩ := Option.map_eq_some_iff.mp e
  have hl : i < z.length := (List.getElem?_eq_some_iff.mp e1).1
  refine ⟨(by simpa using hl : i < (⟨z.toArray⟩ : Str).cps.size), fun y H'' ⟨e2, n', e3, q⟩ => ?_⟩
  subst e2 q
  have e4 : z[i]? = some n' := by simpa using e3
  have : n = n' := by
    rw [e1] at e4
    exact Option.some.inj e4
  subst this
  exact ⟨g', .refl _ _, s, .str _⟩
/-- a list or a tuple or a text is walked, whichever it is -/
def iSq (K : PySem.W.Frag) (tl : TE) : TI := fun σ H R => tl σ H fun x H1 => (∃ a, x = .ref a ∧ (((∃ xs, SqL K H1 a xs) ∧ R (Itl K a) H1) ∨ ((∃ xs, SqT K H1 a xs) ∧ R (Itt K a) H1))) ∨ ∃ z, x = .str z ∧ R (Its z) H1
theorem iter_new {pins : List (Addr × Obj)} {σ : L2.St} {H : Hp} {s : Shared} {o : Obj} (I : Inv X pins σ H s) : (Inv X pins σ H { s with heap := s.heap.push o }) ∧ ∀ b ∈ [s.heap.objs.size], FpOk X pins H b :=
  ⟨I.kept (t' := s.toks) fun b u q => Heap.get?_push_of_some _ q, fun b hb => (List.mem_singleton.mp hb) ▸ I.fpOk (Nat.le_refl _) (I.hok.fresh (Nat.le_refl _))⟩
theorem pi_sq {te : TE} (he : PE X e te) : PI X tg e (iSq X.K te) := ⟨fun pins s σ H R I h => thn (he.run pins s σ H _ I h) fun v s1 ⟨x, H1, I1, r1, q⟩ => by
  rcases q with ⟨a, ea, q⟩ | ⟨z, ez, q⟩
  rotate_left
  · subst ez
    obtain ⟨t, rfl⟩ := r1
    cases ha : z.cps.all (· < 128)
    · exact wpAny_pyIter_wide ha (pi_one (tk := s1.toks) I1 _ (turn_str _ z t "str_iterator" (.inr rfl)) ⟨_, Heap.get?_push_size _ rfl, rfl, rfl⟩ q)
    · exact wpAny_pyIter_ascii ha (pi_one (tk := s1.toks) I1 _ (turn_str _ z t "str_ascii_iterator" (.inl rfl)) ⟨_, Heap.get?_push_size _ rfl, rfl, rfl⟩ q)
  subst ea
  cases r1
  rcases q with ⟨⟨xs, hq⟩, q⟩ | ⟨⟨xs, hq⟩, q⟩
  · obtain ⟨us, rv, p, _⟩ := I1.list hq
    have N := iter_new (o := { cls := .type "list_iterator", data := .fields #[.ref a, .int 0 0] }) I1
    exact wpAny_pyIter_list p.isList ⟨s1.heap.objs.size, [s1.heap.objs.size], _, _, H1, rfl, N.1, turn_list a _, ⟨_, Heap.get?_push_size _ rfl, rfl, rfl⟩, N.2, q⟩
  · obtain ⟨us, rv, p, _⟩ := I1.tuple hq
    have N := iter_new (o := { cls := .type "tuple_iterator", data := .fields #[.ref a, .int 0 0] }) I1
    exact wpAny_pyIter_tuple (show s1.heap.IsTuple a us.toArray from p) ⟨s1.heap.objs.size, [s1.heap.objs.size], _, _, H1, rfl, N.1, turn_tuple a _, ⟨_, Heap.get?_push_size _ rfl, rfl, rfl⟩, N.2, q⟩⟩
def mIt (m : SE) : SI := fun l S => (m l S).bind fun d S1 => R.of (itS S1 d) S1
theorem i_sq (hK : X.K = κ.K) (he : PE X e (tM κ W ma)) : PI X tg e (tI κ W (mIt ma)) :=
  (pi_sq he).imp fun σ H Q ⟨g, l, S, s, fr, h⟩ => by
    refine ⟨g, l, S, s, fr, KG.imp (KG.bind (rel1 := RT κ) back_RI h) fun v H1 ⟨g1, S1, d, x1, s1, r1, h1⟩ => ?_⟩
    obtain ⟨p, e1, k⟩ := KG.of h1
    have viaL : (seqL S1 d).map (fun xs => (xs, chS S1 d)) = some p → (∃ a, v = .ref a ∧ (((∃ xs, SqL X.K H1 a xs) ∧ Q (Itl X.K a) H1) ∨ ((∃ xs, SqT X.K H1 a xs) ∧ Q (Itt X.K a) H1))) ∨ ∃ z, v = .str z ∧ Q (Its z) H1 := fun e3 => by
      obtain ⟨xs, e2, ep⟩ := Option.map_eq_some_iff.mp e3
      obtain ⟨a, rfl, ok⟩ := seqL_ok s1 r1 e2
      subst ep
      have c0 : chS S1 d S1 := by cases d <;> first | exact trivial | rfl
      obtain ⟨vs, h1, _⟩ := ok g1 H1 S1 (.refl _ _) s1 c0
      exact .inl ⟨a, rfl, .inl ⟨⟨vs, by rw [hK]; exact h1⟩, k g1 _ H1 (.refl _ _) s1 (itL_ok hK ok)⟩⟩
    cases d with
    | tup xs =>
      cases e1
      obtain ⟨a, vs, rfl, h1, q1⟩ := r1.tup
      exact .inl ⟨a, rfl, .inr ⟨⟨vs, by rw [hK]; exact h1⟩, k g1 _ H1 (.refl _ _) s1 (itT_ok hK s1 h1 q1)⟩⟩
    | str z =>
      cases e1
      cases r1.str
      exact .inr ⟨_, rfl, k g1 _ H1 (.refl _ _) s1 itC_ok⟩
    | _ => exact viaL e1
/-! range -/
def rng (lo : Int) (n : Nat) : List D := (List.range n).map fun i => .int (lo + (i : Nat))
theorem itR_ok {g : Gh} {H : Hp} {lo : Int} {n : Nat} {ch : Chk} : ItOk κ (Itr lo n) g H (rng lo n, ch) := by
  intro g' H' S' i x s c
  refine ⟨fun hi => (by simpa [rng] using hi : n ≤ i), fun d e => ?_⟩
  have hl : i < n := by
    have := (List.getElem?_eq_some_iff.mp e).1
    simpa [rng] using this
  refine ⟨hl, fun y H'' ⟨e2, q⟩ => ?_⟩
  subst e2 q
  have : d = .int (lo + (i : Nat)) := by
    have e : (rng lo n)[i]? = some d := e
    simp [rng, hl] at e
    exact e.symm
  subst this
  exact ⟨g', .refl _ _, s, .int _⟩
def rg1 : List D → Option (List D × Chk)
  | [.int j] => if -4611686018427387904 ≤ j ∧ j < 4611686018427387904 then some (rng 0 j.toNat, chT) else none
  | _ => none
def rg2 : List D → Option (List D × Chk)
  | [.int i, .int j] => if -4611686018427387904 ≤ i ∧ i < 4611686018427387904 ∧ -4611686018427387904 ≤ j ∧ j < 4611686018427387904 then some (rng i (j - i).toNat, chT) else none
  | _ => none
def mRg (f : List D → Option (List D × Chk)) (as : List (Bool × SE)) : SI := fun l S => (mArgs as l S).bind fun ds S1 => R.of (f ds) S1
theorem i_rg1 {p : Pos} {a : Expr} (hg : Gl X "range") (hm : X.mg "range" = none) (ha : PA X [a] (tA κ W (mArgs as))) (hs : starEach [a] X.env = [(false, eval a X.env)] := by rfl) : PI X tg (.Call (.Name "range" p) [a] [] pos) (tI κ W (mRg rg1 as)) :=
  (pi_range1 hg hm ha hs).imp fun σ H Q ⟨g, l, S, s, fr, h⟩ => by
    refine ⟨g, l, S, s, fr, KG.imp (KG.bind (rel1 := RL κ) back_RI h) fun vs H1 ⟨g1, S1, ds, x1, s1, r1, h1⟩ => ?_⟩
    obtain ⟨p, e1, k⟩ := KG.of h1
    match ds, r1, e1 with
    | [.int j], r1, e1 =>
      obtain ⟨w, rfl, q⟩ := r1.one
      cases (toRT q).int
      obtain ⟨hl, rfl⟩ := ite_some e1
      exact ⟨j, rfl, by omega, by omega, k g1 _ H1 (.refl _ _) s1 itR_ok⟩
theorem i_rg2 {p : Pos} {a b : Expr} (hg : Gl X "range") (hm : X.mg "range" = none) (ha : PA X [a, b] (tA κ W (mArgs as))) (hs : starEach [a, b] X.env = [(false, eval a X.env), (false, eval b X.env)] := by rfl) (hs2 : starEach [b] X.env = [(false, eval b X.env)] := by rfl) : PI X tg (.Call (.Name "range" p) [a, b] [] pos) (tI κ W (mRg rg2 as)) :=
  (pi_range2 hg hm ha hs hs2).imp fun σ H Q ⟨g, l, S, s, fr, h⟩ => by
    refine ⟨g, l, S, s, fr, KG.imp (KG.bind (rel1 := RL κ) back_RI h) fun vs H1 ⟨g1, S1, ds, x1, s1, r1, h1⟩ => ?_⟩
    obtain ⟨p, e1, k⟩ := KG.of h1
    match ds, r1, e1 with
    | [.int i, .int j], r1, e1 =>
      obtain ⟨v, w, rfl, q, q2⟩ := r1.two
      cases (toRT q).int; cases (toRT q2).int
      obtain ⟨hl, rfl⟩ := ite_some e1
      exact ⟨i, j, rfl, ⟨by omega, by omega, by omega, by omega⟩, k g1 _ H1 (.refl _ _) s1 itR_ok⟩
/-! zip of two lists -/
def pairD (a b : D) : D := .tup [a, b]
def mZip (as : List (Bool × SE)) : SI := fun l S => (mArgs as l S).bind fun ds S1 => match ds with
  | [a, b] => match seqL S1 a, seqL S1 b with
    | some xs, some ys => .ok (List.zipWith pairD xs ys, fun S' => chS S1 a S' ∧ chS S1 b S') S1
    | _, _ => .bad
  | _ => .bad
theorem itZ_ok {g1 : Gh} {H1 : Hp} {xs ys : List D} {a b : Addr} {c1 c2 : Chk} (ok1 : ∀ g' H' S', Ext g1 H1 g' H' → RS κ g' H' S' → c1 S' → ∃ vs, SqL κ.K H' a vs ∧ RDs κ g' H' xs vs) (ok2 : ∀ g' H' S', Ext g1 H1 g' H' → RS κ g' H' S' → c2 S' → ∃ vs, SqL κ.K H' b vs ∧ RDs κ g' H' ys vs) : ItOk κ (Itz κ.K a b) g1 H1 (List.zipWith pairD xs ys, fun S' => c1 S' ∧ c2 S') := by
  intro g' H' S' i x s' c
  obtain ⟨us', y1, t1⟩ := ok1 g' H' S' x s' c.1
  obtain ⟨ws', y2, t2⟩ := ok2 g' H' S' x s' c.2
  refine ⟨fun hi => ⟨us', ws', y1, y2, ?_⟩, fun d ed => ?_⟩
  · rw [← t1.length, ← t2.length]
    have hi : (List.zipWith pairD xs ys).length ≤ i := hi
    rw [List.length_zipWith] at hi
    omega
  · have ed : (List.zipWith pairD xs ys)[i]? = some d := ed
    rw [List.getElem?_zipWith] at ed
    cases ex : xs[i]? with
    | none => simp [ex] at ed
    | some dx =>
      cases ey : ys[i]? with
      | none => simp [ex, ey] at ed
      | some dy =>
        simp [ex, ey] at ed
        subst ed
        obtain ⟨vx, f1, p1⟩ := t1.get ex
        obtain ⟨vy, f2, p2⟩ := t2.get ey
        refine ⟨⟨us', ws', vx, vy, y1, y2, f1, f2⟩, fun y H'' ⟨T, a', b', ey', hT, eH, g1', g2'⟩ => ?_⟩
        subst ey' eH
        have w1 := g1' us' y1
        have w2 := g2' ws' y2
        rw [f1] at w1; rw [f2] at w2
        cases w1; cases w2
        exact ⟨g', Ext.lay hT, s'.lay hT, lay_tup s' hT (.cons p1 (.cons p2 .nil))⟩

theorem chS_self (S : Store) (d : D) : chS S d S := by cases d <;> first | exact trivial | rfl
theorem i_zip {p tpos : Pos} {elts : List Expr} {kk : Nat} (hK : X.K = κ.K) (hg : Gl X "zip") (hm : X.mg "zip" = none) (ha : PA X [e, e2] (tA κ W (mArgs as))) (hs : starEach [e, e2] X.env = (false, eval e X.env) :: starEach [e2] X.env := by rfl) (hpl : (backTo pos (starEach [e2] X.env)).any (·.1) = false := by rfl) :
    PI X (.Tuple elts kk tpos) (.Call (.Name "zip" p) [e, e2] [] pos) (tI κ W (mZip as)) :=
  (pi_zip hg hm ha hs hpl).imp fun σ H Q ⟨g, l, S, s, fr, h⟩ => by
    refine ⟨g, l, S, s, fr, KG.imp (KG.bind (rel1 := RL κ) back_RI h) fun vs H1 ⟨g1, S1, ds, x1, s1, r1, h1⟩ => ?_⟩
    match ds, r1, h1 with
    | [], _, h1 => exact h1.elim
    | [_], _, h1 => exact h1.elim
    | _ :: _ :: _ :: _, _, h1 => exact h1.elim
    | [da, db], r1, h1 =>
      obtain ⟨v, w, rfl, q, q2⟩ := r1.two
      cases e1 : seqL S1 da with
      | none => simp [e1] at h1; exact h1.elim
      | some xs =>
        cases e2 : seqL S1 db with
        | none => simp [e1, e2] at h1; exact h1.elim
        | some ys =>
          simp only [e1, e2] at h1
          obtain ⟨a, rfl, ok1⟩ := seqL_ok s1 (toRT q) e1
          obtain ⟨b, rfl, ok2⟩ := seqL_ok s1 (toRT q2) e2
          obtain ⟨us, z1, _⟩ := ok1 g1 H1 S1 (.refl _ _) s1 (chS_self _ _)
          obtain ⟨ws, z2, _⟩ := ok2 g1 H1 S1 (.refl _ _) s1 (chS_self _ _)
          refine ⟨a, b, us, ws, rfl, by rw [hK]; exact z1, by rw [hK]; exact z2, h1 g1 _ H1 (.refl _ _) s1 ?_⟩
          rw [hK]
          exact itZ_ok ok1 ok2
/-! enumerate of a list -/
def mEn (as : List (Bool × SE)) : SI := fun l S => (mArgs as l S).bind fun ds S1 => match ds with
  | [a] => match seqL S1 a with
    | some xs => .ok (List.zipWith pairD (rng 0 xs.length) xs, chS S1 a) S1
    | _ => .bad
  | _ => .bad
theorem i_enum {p tpos : Pos} {elts : List Expr} {kk : Nat} (hK : X.K = κ.K) (hg : Gl X "enumerate") (hm : X.mg "enumerate" = none) (ha : PA X [e] (tA κ W (mArgs as))) (hs : starEach [e] X.env = [(false, eval e X.env)] := by rfl) :
    PI X (.Tuple elts kk tpos) (.Call (.Name "enumerate" p) [e] [] pos) (tI κ W (mEn as)) :=
  (pi_enum hg hm ha hs).imp fun σ H Q ⟨g, l, S, s, fr, h⟩ => by
    refine ⟨g, l, S, s, fr, KG.imp (KG.bind (rel1 := RL κ) back_RI h) fun vs H1 ⟨g1, S1, ds, x1, s1, r1, h1⟩ => ?_⟩
    match ds, r1, h1 with
    | [], _, h1 => exact h1.elim
    | _ :: _ :: _, _, h1 => exact h1.elim
    | [da], r1, h1 =>
      obtain ⟨v, rfl, q⟩ := r1.one
      cases e1 : seqL S1 da with
      | none => simp [e1] at h1; exact h1.elim
      | some xs =>
        simp only [e1] at h1
        obtain ⟨a, rfl, ok1⟩ := seqL_ok s1 (toRT q) e1
        obtain ⟨us, z1, _⟩ := ok1 g1 H1 S1 (.refl _ _) s1 (chS_self _ _)
        refine ⟨a, us, rfl, by rw [hK]; exact z1, h1 g1 _ H1 (.refl _ _) s1 ?_⟩
        rw [hK]
        intro g' H' S' i x s' c
        obtain ⟨us', y1, t1⟩ := ok1 g' H' S' x s' c
        refine ⟨fun hi => ⟨us', y1, ?_⟩, fun d ed => ?_⟩
        · rw [← t1.length]
          have hi : (List.zipWith pairD (rng 0 xs.length) xs).length ≤ i := hi
          rw [List.length_zipWith] at hi
          simp [rng] at hi
          exact hi
        · have ed : (List.zipWith pairD (rng 0 xs.length) xs)[i]? = some d := ed
          rw [List.getElem?_zipWith] at ed
          cases ex : xs[i]? with
          | none => simp [ex] at ed
          | some dx =>
            have hl := (List.getElem?_eq_some_iff.mp ex).1
            have er : (rng 0 xs.length)[i]? = some (.int (0 + (i : Nat))) := by simp [rng, hl]
            rw [er, ex] at ed
            have ed : some (pairD (.int (0 + (i : Nat))) dx) = some d := ed
            rw [Int.zero_add] at ed
            cases ed
            obtain ⟨vx, f1, p1⟩ := t1.get ex
            refine ⟨⟨us', vx, y1, f1⟩, fun y H'' ⟨T, a', ey', hT, eH, g1'⟩ => ?_⟩
            subst ey' eH
            have w1 := g1' us' y1
            rw [f1] at w1
            cases w1
            exact ⟨g', Ext.lay hT, s'.lay hT, lay_tup s' hT (.cons (.int _) (.cons p1 .nil))⟩

/-! ### for -/
open Classical in
noncomputable def lp (chk : Chk) (b : D → SS) : List D → SS
  | [] => fun l S => if chk S then .nx l S else .bad
  | d :: ds => fun l S => if chk S then (match b d l S with
    | .nx l' S' => lp chk b ds l' S'
    | .cnt l' S' => lp chk b ds l' S'
    | .brk l' S' => .nx l' S'
    | .ret d' S' => .ret d' S'
    | .exc cc vs l' S' => .exc cc vs l' S'
    | .bad => .bad) else .bad
def bodyOf (b : BG) (m : SS) : D → SS := fun d l S => match b.run d l with
  | some l' => m l' S
  | none => .bad
noncomputable def sFor (m : SI) (b : BG) (body : SS) : SS := fun l S => (m l S).toO l fun p S1 => lp p.2 (bodyOf b body) p.1 l S1
theorem s_for {iter : Expr} {body : List Stmt} {b : BG} {mb : SS} {mi : SI} (hp : PassesOwn (model X.prog X.w) X.A X.env X.xe) (hc : X.calm = true) (hi : PI X tg iter (tI κ W mi)) (hg : PG X tg (tG κ b)) (hb : PSs X body (tS κ W mb))
    (hs : ∀ x, foldedSetIterable iter X.env x = pure x := by intro _; rfl) : PS X (.For tg iter body [] pos) (tS κ W (sFor mi b mb)) :=
  (ps_for hp hc hi hg hb hs).imp fun D' σ H ⟨g, l, S, s, fr, h⟩ => by
    refine ⟨g, l, S, s, fr, KG.imp (KO.of (rel := RI κ) s fr h) fun J H1 ⟨g1, S1, p, _, x1, s1, f1, ok, h1⟩ => ?_⟩
    obtain ⟨items, chk⟩ := p
    refine ⟨fun i m σ H => m = items.length - i ∧ i ≤ items.length ∧ ∃ g' l' S', RS κ g' H S' ∧ FR κ g' H l' σ ∧ Ext g1 H1 g' H ∧ KO κ W g' H (lp chk (bodyOf b mb) (items.drop i) l' S') D', ⟨_, rfl, Nat.zero_le _, g1, l, S1, s1, f1, .refl _ _, h1⟩, ?_⟩
    rintro i m σ H ⟨rfl, hi, g', l', S', s', f', x', h'⟩
    rcases Nat.lt_or_ge i items.length with hlt | hge
    · have ed : items.drop i = items[i] :: items.drop (i + 1) := List.drop_eq_getElem_cons hlt
      rw [ed] at h'
      unfold lp at h'
      by_cases hk : chk S'
      · rw [if_pos hk] at h'
        obtain ⟨_, go⟩ := ok g' H S' i x' s' hk
        obtain ⟨go, yl⟩ := go items[i] (List.getElem?_eq_getElem hlt)
        refine .inr ⟨go, fun σ2 H2 => items.length - (i + 1) = items.length - (i + 1) ∧ i + 1 ≤ items.length ∧ ∃ g' l' S', RS κ g' H2 S' ∧ FR κ g' H2 l' σ2 ∧ Ext g1 H1 g' H2 ∧ KO κ W g' H2 (lp chk (bodyOf b mb) (items.drop (i + 1)) l' S') D', fun σ2 H2 z => ⟨_, by omega, z⟩, fun x H2 y => ?_⟩
        obtain ⟨g2, x2, s2, r2⟩ := yl x H2 y
        unfold bodyOf at h'
        cases eb : b.run items[i] l' with
        | none => simp only [eb] at h'; exact h'.elim
        | some l2 =>
          simp only [eb] at h'
          refine ⟨g2, l', S', items[i], l2, s2, f'.ext s' x2, r2, eb, fun σ3 _ f3 => ⟨g2, l2, S', s2, f3, ?_⟩⟩
          have h' := KO.on x2 h'
          have xx := x'.trans x2
          cases q : mb l2 S' with
          | nx l4 S4 => rw [q] at h'; exact fun g4 σ4 H4 x4 s4 f4 => ⟨rfl, hlt, g4, l4, S4, s4, f4, xx.trans x4, KO.on x4 h'⟩
          | cnt l4 S4 => rw [q] at h'; exact fun g4 σ4 H4 x4 s4 f4 => ⟨rfl, hlt, g4, l4, S4, s4, f4, xx.trans x4, KO.on x4 h'⟩
          | brk l4 S4 => rw [q] at h'; exact h'
          | ret d S4 => rw [q] at h'; exact h'
          | exc cc vs l4 S4 => rw [q] at h'; exact h'
          | bad => rw [q] at h'; exact h'
      · rw [if_neg hk] at h'; exact h'.elim
    · rw [List.drop_eq_nil_of_le hge] at h'
      unfold lp at h'
      by_cases hk : chk S'
      · rw [if_pos hk] at h'
        exact .inl ⟨(ok g' H S' i x' s' hk).1 hge, h' g' σ H (.refl _ _) s' f'⟩
      · rw [if_neg hk] at h'; exact h'.elim
end
end LB
end

section
set_option Elab.async false
set_option linter.all false
set_option maxRecDepth 100000
set_option maxHeartbeats 4000000
/-! Layer B, part 10: comprehensions. -/
namespace LB
open PySem PySem.Spec L2

section
variable {κ : Kx} {g : Gh} {H : Hp} {S : Store} {p : Addr} {w u : HO}
/-! ### a list or a dict that nobody knows is rewritten -/
def Loose : HO → Prop
  | .lst _ => True
  | .dK _ => True
  | _ => False
theorem Loose.ne {o : HO} {q : Addr} (lo : Loose w) (hp : H p = some w) (h : H q = some o) (k : ¬ Loose o) : upd H p u q = some o := by
  rw [upd_ne fun z => k (by rw [z, hp] at h; cases h; exact lo)]
  exact h
theorem SqT.priv {K : PySem.W.Frag} {q : Addr} {vs : List V} (lo : Loose w) (hp : H p = some w) (h : SqT K H q vs) : SqT K (upd H p u) q vs := by
  rcases h with (h | ⟨o, h⟩) | h
  · exact .inl (.inl (lo.ne hp h fun z => z))
  · exact .inl (.inr ⟨o, lo.ne hp h fun z => z⟩)
  · exact .inr h
mutual
theorem RD.priv (lo : Loose w) (hp : H p = some w) (hf : ¬ g.F p) : ∀ {d : D} {v : V}, RD κ g H d v → RD κ g (upd H p u) d v
  | _, _, .non => .non
  | _, _, .bl b => .bl b
  | _, _, .int i => .int i
  | _, _, .str t => .str t
  | _, _, .tup h r => .tup (SqT.priv lo hp h) (RDs.priv lo hp hf r)
  | _, _, .lst h f r => .lst (by rw [upd_ne fun z => hf (by rw [← z]; exact f)]; exact h) f (RDs.priv lo hp hf r)
  | _, _, .dic h f e r => .dic (by rw [upd_ne fun z => hf (by rw [← z]; exact f)]; exact h) f e (RDs.priv lo hp hf r)
  | _, _, .scr h => .scr (lo.ne hp h fun z => z)
  | _, _, .scrK h => .scrK h
  | _, _, .ref h => .ref h
  | _, _, .fn i => .fn i
  | _, _, .cls i => .cls i
  | _, _, .ty n => .ty n
theorem RDs.priv (lo : Loose w) (hp : H p = some w) (hf : ¬ g.F p) : ∀ {ds : List D} {vs : List V}, RDs κ g H ds vs → RDs κ g (upd H p u) ds vs
  | _, _, .nil => .nil
  | _, _, .cons h t => .cons (RD.priv lo hp hf h) (RDs.priv lo hp hf t)
end
theorem RS.priv (s : RS κ g H S) (lo : Loose w) (hp : H p = some w) (hn : p ∉ g.ι) (hf : ¬ g.F p) : RS κ g (upd H p u) S := by
  refine ⟨s.len, s.nd, fun n a o h1 h2 => ?_, s.fr, fun b hb => ?_, s.hx⟩
  · have q := s.ob n a o h1 h2
    have ne : a ≠ p := fun z => hn (by rw [← z]; exact List.mem_of_getElem? h1)
    cases o with
    | lst xs => obtain ⟨vs, h, r⟩ := q; exact ⟨vs, by rw [upd_ne ne]; exact h, r.priv lo hp hf⟩
    | dic ks xs => obtain ⟨kvs, h, e, r⟩ := q; exact ⟨kvs, by rw [upd_ne ne]; exact h, e, r.priv lo hp hf⟩
  · by_cases z : b = p
    · rw [z, upd_same]; exact fun z => nomatch z
    · rw [upd_ne z]; exact s.fl b hb
theorem Ext.priv {g0 : Gh} {H0 : Hp} (x : Ext g0 H0 g H) (h0 : H0 p = none) : Ext g0 H0 g (upd H p u) := by
  have ne : ∀ {b}, H0 b ≠ none → b ≠ p := fun {b} h z => h (by rw [z]; exact h0)
  refine ⟨x.pre, fun b o h k => ?_, fun b h => ?_, x.nw, x.fm, x.fn, x.xc⟩
  · rw [upd_ne (ne (by rw [h]; exact fun z => nomatch z))]; exact x.keep b o h k
  · rw [upd_ne (ne h)]; exact x.live b h
/-- a new thing stays as it is, unknown -/
theorem Ext.stays {ga gb : Gh} {Ha Hb : Hp} {o : HO} (x : Ext ga Ha gb Hb) (a1 : Ha p = some o) (a2 : p ∉ ga.ι) (a3 : ¬ ga.F p) : Hb p = some o ∧ p ∉ gb.ι ∧ ¬ gb.F p := by
  refine ⟨x.keep _ _ a1 a2, fun z => (x.nw _ z).elim a2 fun q => ?_, fun z => (x.fn _ z).elim a3 fun q => ?_⟩
  · rw [a1] at q; cases q
  · rw [a1] at q; cases q
end

def R.calm {α : Type} (r : R α) : R α := match r with
  | .ok a S => .ok a S
  | _ => .bad
abbrev WF : WX := fun _ _ _ _ => False
theorem KG.calm {α β γ δ : Type} {κ : Kx} {W : WX} {σ σ' : L2.St} {g : Gh} {H : Hp} {rel1 : Rel α β} {rel2 : Rel γ δ} (hb : Back rel2) {r : R α} {f : α → Store → R γ} {Q : δ → Hp → Prop} (h : KG κ W σ g H rel2 (r.calm.bind f) Q) :
    KG κ WF σ' g H rel1 r (fun b H1 => ∃ g1 S1 a, Ext g H g1 H1 ∧ RS κ g1 H1 S1 ∧ rel1 H g1 H1 a b ∧ KG κ W σ g1 H1 rel2 (f a S1) Q) := by
  cases r with
  | ok a S' => exact fun g' b H' x s q => ⟨g', S', a, x, s, q, KG.on hb x h⟩
  | exc c vs S' => exact h.elim
  | bad => exact h
theorem mFix_calm {κ : Kx} {W : WX} {σ σ' : L2.St} {g : Gh} {H : Hp} {l : Loc} {S : Store} {k : Bool} {ma : SE} {α β : Type} {rel : Rel α β} (hb : Back rel) {f : D → Store → R α} {Q : β → Hp → Prop} (h : KG κ W σ g H rel ((mFix k ma l S).calm.bind f) Q) :
    KG κ WF σ' g H (RT κ) (ma l S) fun v H1 => ∃ g1 S1 d, Ext g H g1 H1 ∧ RS κ g1 H1 S1 ∧ RD κ g1 H1 d v ∧ KG κ W σ g1 H1 rel (f d S1) Q := by
  unfold mFix at h
  cases e : ma l S with
  | ok d S1 =>
    rw [e] at h
    intro g1 v H1 x s r
    have h : KG κ W σ g H rel ((fixD k d S1).calm.bind f) Q := h
    have tot : ∃ d' S', fixD k d S1 = .ok d' S' := by
      unfold fixD
      cases d <;> first | exact ⟨_, _, rfl⟩ | (by_cases z : k = true <;> simp [z])
    obtain ⟨d0, S0, e0⟩ := tot
    obtain ⟨d', S', g', e1, x', s', r', _⟩ := fix_ok (W := W) (σ := σ) (Q := fun _ _ => True) x s r (by rw [e0]; exact fun _ _ _ _ _ _ => trivial)
    rw [e1] at h
    exact ⟨g', S', d', x', s', r', KG.on hb x' h⟩
  | exc c vs S1 => rw [e] at h; exact h.elim
  | bad => rw [e] at h; exact h.elim
def wipeL (l : Loc) : List Nat → Loc
  | [] => l
  | v :: vs => (wipeL l vs).set v none
theorem FR.wipe {κ : Kx} {g : Gh} {H : Hp} {l : Loc} {σ : L2.St} (h : FR κ g H l σ) : ∀ vs : List Nat, FR κ g H (wipeL l vs) (L2.wipe σ vs)
  | [] => h
  | v :: vs => (FR.wipe h vs).unset
theorem wipe_get (σ : L2.St) : ∀ (vs : List Nat) (j : Nat), (L2.wipe σ vs)[j]? = if j < σ.length then (if j ∈ vs then some none else σ[j]?) else none
  | [], j => by
    by_cases h : j < σ.length
    · rw [if_pos h, if_neg (by simp)]; rfl
    · rw [if_neg h]; exact List.getElem?_eq_none (Nat.le_of_not_lt h)
  | v :: vs, j => by
    have ih := wipe_get σ vs j
    have hl : (L2.wipe σ vs).length = σ.length := wipe_length σ vs
    by_cases hv : v = j
    · subst hv
      show ((L2.wipe σ vs).set v none)[v]? = _
      by_cases h : v < σ.length
      · rw [if_pos h, if_pos List.mem_cons_self, List.getElem?_set_self (by rw [hl]; exact h)]
      · rw [if_neg h]
        exact List.getElem?_eq_none (by rw [List.length_set, hl]; exact Nat.le_of_not_lt h)
    · show ((L2.wipe σ vs).set v none)[j]? = _
      rw [List.getElem?_set_ne hv, ih]
      by_cases h : j < σ.length
      · rw [if_pos h, if_pos h]
        by_cases m : j ∈ vs
        · rw [if_pos m, if_pos (List.mem_cons_of_mem _ m)]
        · rw [if_neg m, if_neg fun z => (List.mem_cons.mp z).elim (fun e => hv e.symm) m]
      · rw [if_neg h, if_neg h]
theorem wipe_off {is vs : List Nat} {σ σ2 : L2.St} (hs : ∀ i ∈ is, i ∈ vs) (h : Off is (L2.wipe σ vs) σ2) : L2.wipe σ2 vs = L2.wipe σ vs := by
  refine List.ext_getElem? fun j => ?_
  have hl : σ2.length = σ.length := by rw [h.1, wipe_length]
  rw [wipe_get, hl]
  by_cases hj : j < σ.length
  · rw [if_pos hj]
    by_cases m : j ∈ vs
    · rw [if_pos m, wipe_get, if_pos hj, if_pos m]
    · rw [if_neg m, h.2 j fun z => m (hs j z)]
  · rw [if_neg hj, wipe_get, if_neg hj]

open Classical in
noncomputable def lcl (chk : Chk) (b : BG) (l : Loc) (mt : SB) (me : SE) : List D → List D → Store → R D
  | [], acc, S => if chk S then .ok (.tmp acc) S else .bad
  | d :: ds, acc, S => if chk S then (match b.run d l with
    | some l' => (mt l' S).calm.bind fun k S1 => if k = true then (mFix false me l' S1).calm.bind fun y S2 => if acc.length < SL then lcl chk b l mt me ds (acc ++ [y]) S2 else .bad else lcl chk b l mt me ds acc S1
    | none => .bad) else .bad
noncomputable def mLc (mi : SI) (b : BG) (vs : List Nat) (mt : SB) (me : SE) : SE := fun l S => (mi l S).bind fun p S1 => lcl p.2 b (wipeL l vs) mt me p.1 [] S1
def mYes : SB := fun _ S => .ok true S
section
variable {X : Cx} {κ : Kx} {W : WX} {e c : Expr} {mt : SB} {me : SE} {pos : Pos}
theorem _root_.L2.PTs.imp {X : Cx} {e : List Expr} {t t' : TT} (h : PTs X e t) (i : ∀ σ H Q, t' σ H Q → t σ H Q) : PTs X e t' := ⟨fun pins s σ H Q I w => h.run pins s σ H Q I (i σ H Q w)⟩
theorem ts_nil : PTs X [] (tT κ WF mYes) := pts_nil.imp fun σ H Q ⟨g, l, S, s, fr, h⟩ => h g true H (.refl _ _) s rfl
theorem ts_one (h : PT X c (tT κ WF mt)) : PTs X [c] (tT κ WF mt) := pts_one h
theorem lcl_ok {K : PySem.W.Frag} {g1 : Gh} {H1 : Hp} {σ σk : L2.St} {l : Loc} {b : BG} {vs : List Nat} {items : List D} {chk : Chk} {S1 : Store} {J : It} {Q : VK} (hb : ∀ i ∈ b.ix, i ∈ vs) (s1 : RS κ g1 H1 S1) (f1 : FR κ g1 H1 l σ) (ok : ItOk κ J g1 H1 (items, chk))
    (h : KG κ W σk g1 H1 (RT κ) (lcl chk b (wipeL l vs) mt me items [] S1) Q) {D : Addr} (hD : H1 D = none) :
    ∃ V : Nat → Nat → Hp → Prop, (∃ m, V 0 m (upd H1 D (.lst []))) ∧ ∀ i m H, V i m H → (J.stop i H ∧ Q (.ref D) H) ∨ (J.go i H ∧ ∃ Nx : Hp → Prop, (∀ H', Nx H' → ∃ m', m' < m ∧ V (i + 1) m' H') ∧ ∀ x H', J.yld i H x H' → tG κ b x (wipe σ vs) H' fun σ2 H2 => wipe σ2 vs = wipe σ vs ∧ tT κ WF mt σ2 H2 fun k H3 =>
      if k = true then tM κ WF me σ2 H3 fun y H4 => ∃ acc, H4 D = some (.lst acc) ∧ acc.length < sizeLine ∧ Nx (upd H4 D (.lst (acc ++ [y]))) else Nx H3) := by
  refine ⟨fun i m H => m = items.length - i ∧ i ≤ items.length ∧ ∃ g' S' acc avs, RS κ g' H S' ∧ Ext g1 H1 g' H ∧ H D = some (.lst avs) ∧ D ∉ g'.ι ∧ ¬ g'.F D ∧ RDs κ g' H acc avs ∧
    KG κ W σk g1 H1 (RT κ) (lcl chk b (wipeL l vs) mt me (items.drop i) acc S') Q, ⟨_, rfl, Nat.zero_le _, g1, S1, [], [], s1.lay hD, Ext.lay hD, upd_same, fun z => s1.liveι z hD, fun z => s1.fl _ z hD, .nil, h⟩, ?_⟩
  rintro i m H ⟨rfl, hi, g', S', acc, avs, s', x', hd, n1, n2, ra, h'⟩
  rcases Nat.lt_or_ge i items.length with hlt | hge
  · have ed : items.drop i = items[i] :: items.drop (i + 1) := List.drop_eq_getElem_cons hlt
    rw [ed] at h'
    unfold lcl at h'
    by_cases hk : chk S'
    · rw [if_pos hk] at h'
      obtain ⟨_, go⟩ := ok g' H S' i x' s' hk
      obtain ⟨go, yl⟩ := go items[i] (List.getElem?_eq_getElem hlt)
      refine .inr ⟨go, fun H2 => items.length - (i + 1) = items.length - (i + 1) ∧ i + 1 ≤ items.length ∧ ∃ g' S' acc avs, RS κ g' H2 S' ∧ Ext g1 H1 g' H2 ∧ H2 D = some (.lst avs) ∧ D ∉ g'.ι ∧ ¬ g'.F D ∧ RDs κ g' H2 acc avs ∧
        KG κ W σk g1 H1 (RT κ) (lcl chk b (wipeL l vs) mt me (items.drop (i + 1)) acc S') Q, fun H2 z => ⟨_, by omega, z⟩, fun x H2 y => ?_⟩
      obtain ⟨g2, x2, s2, r2⟩ := yl x H2 y
      cases eb : b.run items[i] (wipeL l vs) with
      | none => simp only [eb] at h'; exact h'.elim
      | some l2 =>
        simp only [eb] at h'
        obtain ⟨d2, m1, m2⟩ := x2.stays hd n1 n2
        refine ⟨g2, wipeL l vs, S', items[i], l2, s2, (((f1.ext s1 x').ext s' x2).wipe vs), r2, eb, fun σ2 o2 f2 => ⟨wipe_off hb o2, ?_⟩⟩
        have x12 := x'.trans x2
        refine ⟨g2, l2, S', s2, f2, ?_⟩
        -- the test
        have go1 : ∀ {r : R Bool} (hr : mt l2 S' = r), KG κ WF σ2 g2 H2 RB r fun k H3 => if k = true then tM κ WF me σ2 H3 fun y H4 => ∃ acc, H4 D = some (.lst acc) ∧ acc.length < sizeLine ∧ (items.length - (i + 1) = items.length - (i + 1) ∧ i + 1 ≤ items.length ∧ ∃ g' S' acc2 avs, RS κ g' (upd H4 D (.lst (acc ++ [y]))) S' ∧ Ext g1 H1 g' (upd H4 D (.lst (acc ++ [y]))) ∧ (upd H4 D (.lst (acc ++ [y]))) D = some (.lst avs) ∧ D ∉ g'.ι ∧ ¬ g'.F D ∧ RDs κ g' (upd H4 D (.lst (acc ++ [y]))) acc2 avs ∧
            KG κ W σk g1 H1 (RT κ) (lcl chk b (wipeL l vs) mt me (items.drop (i + 1)) acc2 S') Q) else (items.length - (i + 1) = items.length - (i + 1) ∧ i + 1 ≤ items.length ∧ ∃ g' S' acc avs, RS κ g' H3 S' ∧ Ext g1 H1 g' H3 ∧ H3 D = some (.lst avs) ∧ D ∉ g'.ι ∧ ¬ g'.F D ∧ RDs κ g' H3 acc avs ∧
            KG κ W σk g1 H1 (RT κ) (lcl chk b (wipeL l vs) mt me (items.drop (i + 1)) acc S') Q) := fun {r} hr => by
          rw [hr] at h'
          cases r with
          | exc cc ws SS => exact h'.elim
          | bad => exact h'.elim
          | ok k S3 =>
            intro g3 k' H3 x3 s3 ek
            cases ek
            obtain ⟨d3, p1, p2⟩ := x3.stays d2 m1 m2
            have h' : KG κ W σk g1 H1 (RT κ) (if k = true then (mFix false me l2 S3).calm.bind fun y S2 => if acc.length < SL then lcl chk b (wipeL l vs) mt me (items.drop (i + 1)) (acc ++ [y]) S2 else .bad else lcl chk b (wipeL l vs) mt me (items.drop (i + 1)) acc S3) Q := h'
            cases k with
            | false => exact ⟨rfl, hlt, g3, S3, acc, avs, s3, x12.trans x3, d3, p1, p2, (ra.ext s' x2).ext s2 x3, h'⟩
            | true =>
              rw [if_pos rfl] at h' ⊢
              refine ⟨g3, l2, S3, s3, f2.ext s2 x3, ?_⟩
              unfold mFix at h'
              cases e4 : me l2 S3 with
              | exc cc ws SS => rw [e4] at h'; exact h'.elim
              | bad => rw [e4] at h'; exact h'.elim
              | ok d4 S4 =>
                rw [e4] at h'
                intro g4 y H4 x4 s4 r4
                have tot : ∃ d' S', fixD false d4 S4 = .ok d' S' := by
                  unfold fixD
                  cases d4 <;> first | exact ⟨_, _, rfl⟩ | simp
                obtain ⟨d0, S0, e0⟩ := tot
                obtain ⟨d', S5, g5, e5, x5, s5, r5, _⟩ := fix_ok (W := W) (σ := σk) (Q := fun _ _ => True) x4 s4 r4 (by rw [e0]; exact fun _ _ _ _ _ _ => trivial)
                obtain ⟨d6, q1, q2⟩ := x5.stays d3 p1 p2
                have h' : KG κ W σk g1 H1 (RT κ) ((fixD false d4 S4).calm.bind fun y S2 => if acc.length < SL then lcl chk b (wipeL l vs) mt me (items.drop (i + 1)) (acc ++ [y]) S2 else .bad) Q := h'
                rw [e5] at h'
                have h' : KG κ W σk g1 H1 (RT κ) (if acc.length < SL then lcl chk b (wipeL l vs) mt me (items.drop (i + 1)) (acc ++ [d']) S5 else .bad) Q := h'
                obtain ⟨hl, h'⟩ := KG.ite h'
                have ra5 := (((ra.ext s' x2).ext s2 x3).ext s3 x5)
                have x15 := (x12.trans x3).trans x5
                refine ⟨avs, d6, by rw [← ra5.length, SL_eq]; exact hl, rfl, hlt, g5, S5, acc ++ [d'], avs ++ [y], s5.priv (show Loose (.lst avs) from trivial) d6 q1 q2, x15.priv hD, upd_same, q1, q2, ?_, h'⟩
                exact RDs.append (ra5.priv (show Loose (.lst avs) from trivial) d6 q2) (.cons (r5.priv (show Loose (.lst avs) from trivial) d6 q2) .nil)
        exact go1 rfl
    · rw [if_neg hk] at h'; exact h'.elim
  · rw [List.drop_eq_nil_of_le hge] at h'
    unfold lcl at h'
    by_cases hk : chk S'
    · rw [if_pos hk] at h'
      exact .inl ⟨(ok g' H S' i x' s' hk).1 hge, h' g' _ H x' s' (.tmp hd n1 n2 hD ra)⟩
    · rw [if_neg hk] at h'; exact h'.elim
theorem mLc_ok {mi : SI} {b : BG} {vs : List Nat} (hb : ∀ i ∈ b.ix, i ∈ vs) (σ : L2.St) (H : Hp) (Q : VK) (h : tM κ W (mLc mi b vs mt me) σ H Q) : tLc (tI κ W mi) (tG κ b) (tT κ WF mt) (tM κ WF me) vs σ H Q := by
  obtain ⟨g, l, S, s, fr, h⟩ := h
  refine ⟨g, l, S, s, fr, KG.imp (KG.bind (rel1 := RI κ) back_RT h) fun J H1 ⟨g1, S1, p, x1, s1, ok, h1⟩ D hD => ?_⟩
  obtain ⟨items, chk⟩ := p
  exact lcl_ok (K := κ.K) hb s1 (fr.ext s x1) ok h1 hD
theorem p_lc {elt tg iter : Expr} {ifs : List Expr} {scope : Scope} {own : List (Str × Nat)} {mi : SI} {b : BG} (hc : X.calm = true) (hN : X.N.Nodup) (hi : PI X tg iter (tI κ W mi)) (ok : blkC X.N X.env.scope scope own = true)
    (hg : ∀ (s : Shared) (H : Hp) (C : Addr) (cl : List (Str × Addr)) (fp : List Addr), PG (X.blk s H scope (compEnvC scope cl C X.env) fp) tg (tG κ b))
    (ht : ∀ (s : Shared) (H : Hp) (C : Addr) (cl : List (Str × Addr)) (fp : List Addr), PTs (X.blk s H scope (compEnvC scope cl C X.env) fp) ifs (tT κ WF mt))
    (he : ∀ (s : Shared) (H : Hp) (C : Addr) (cl : List (Str × Addr)) (fp : List Addr), PE (X.blk s H scope (compEnvC scope cl C X.env) fp) elt (tM κ WF me))
    (hb : ∀ i ∈ b.ix, i ∈ own.map (·.2) := by decide) (hs : ∀ x, foldedSetIterable iter X.env x = pure x := by intro _; rfl) :
    PE X (.ListComp elt [⟨tg, iter, ifs, 0⟩] scope pos) (tM κ W (mLc mi b (own.map (·.2)) mt me)) :=
  (pe_lc hc hN hi (blkOk_by ok) hg ht he hs).imp (mLc_ok hb)
theorem s_setLc {i : Nat} {y : Str} {py : Pos} {elt tg iter : Expr} {ifs : List Expr} {scope : Scope} {own : List (Str × Nat)} {spos : Pos} {mi : SI} {b : BG} {k : Bool} (hc : X.calm = true) (hN : X.N.Nodup) (hy : X.N[i]? = some y) (hyl : X.env.scope.names.lookup y = some .local)
    (hsw : swapsWith (.ListComp elt [⟨tg, iter, ifs, 0⟩] scope pos) (some (.Name y py)) spos.line X.env = pure true) (hi : PI X tg iter (tI κ W mi)) (ok : blkC X.N X.env.scope scope own = true)
    (hg : ∀ (s : Shared) (H : Hp) (C : Addr) (cl : List (Str × Addr)) (fp : List Addr), PG (X.blk s H scope (compEnvC scope cl C X.env) fp) tg (tG κ b))
    (ht : ∀ (s : Shared) (H : Hp) (C : Addr) (cl : List (Str × Addr)) (fp : List Addr), PTs (X.blk s H scope (compEnvC scope cl C X.env) fp) ifs (tT κ WF mt))
    (he : ∀ (s : Shared) (H : Hp) (C : Addr) (cl : List (Str × Addr)) (fp : List Addr), PE (X.blk s H scope (compEnvC scope cl C X.env) fp) elt (tM κ WF me))
    (hb : ∀ i ∈ b.ix, i ∈ own.map (·.2) := by decide) (hs : ∀ x, foldedSetIterable iter X.env x = pure x := by intro _; rfl) :
    PS X (.Assign [.Name y py] (.ListComp elt [⟨tg, iter, ifs, 0⟩] scope pos) spos) (tS κ W (sAsg (bN i) k (mLc mi b (own.map (·.2)) mt me))) :=
  (ps_setLc hc hN hy hyl hsw hi (blkOk_by ok) hg ht he hs).imp fun D' σ H h => by
    refine mLc_ok hb σ H _ ?_
    obtain ⟨g, l, S, s, fr, h⟩ := h
    refine ⟨g, l, S, s, fr, KG.imp (KO.fix s fr h) fun v H1 ⟨g1, S1, d, x, s1, f1, r, h1⟩ => ?_⟩
    exact h1 g1 _ H1 (.refl _ _) s1 (f1.set r)
end
end LB
end

section
set_option Elab.async false
set_option linter.all false
set_option maxRecDepth 100000
set_option maxHeartbeats 4000000
/-! Layer B, part 11: xs[::-1], methods. -/
namespace LB
open PySem PySem.Spec L2
open PyProof.Rows hiding St

/-! ### a list takes a tuple's items -/
set_option maxRecDepth 8000 in
theorem ext_tup (l : Addr) (items : Array Value) (n : Nat) (b : Addr) (items2 : Array Value) (h0 : ¬(!items.isEmpty && Builtin.List.listTooLong (items.size + items2.size)) = true) (h1 : items.size ≤ sizeLine) (h2 : items.size + items2.size ≤ sizeLine + 1) :
    Meets (Builtin.«list.extend» ⟨[.ref l, .ref b], []⟩) (fun _ R s => s.heap.get? l = some { cls := .type "list", dict := none, data := .seq items n, slots := #[] } ∧ IsTup s.heap b items2 ∧ R (.ok (.ret Value.none)) { s with heap := s.heap.update l (Obj.mapSeq fun x => x ++ items2), toks := s.toks }) :=
  .of_wp fun prog w A R s h => by
    obtain ⟨hp, g, d, tk, os⟩ := s
    obtain ⟨hl, ⟨⟨oc, od, da, sl⟩, hb, rfl, n2, rfl⟩, h⟩ := h
    have f1 := AutoSeq1.idx_int; have f2 := AutoSeq1.sub_tuple_tuple; have f3 := AutoSeq1.sub_list_list; have f4 := AutoSeq1.sub_tuple_list; have f5 := AutoSeq1.sub_list_tuple
    have hz' : (items ++ items2).size ≤ sizeLine + 1 := by rw [Array.size_append]; exact h2
    wp_walk using (wpAny_updateSeq hl rfl (hz := h1) (_hz' := hz')), wpAny_loadPart' hl, wpAny_loadPart' hb
    exact ⟨_, rfl, h⟩

/-! ### t[::-1] of a tuple -/
section
variable {prog : Program} {w : World} {A : Around} {E : Value → Shared → Prop} {s : Shared}
theorem pick_back (xs : Array Value) : ((List.range xs.size).filterMap fun (m : Nat) => xs[(((xs.size : Int) - 1) + (m : Int) * (-1)).toNat]?).toArray = xs.toList.reverse.toArray := by
  have h := PySem.W.krv_all xs
  have e : (List.range xs.size).reverse.filterMap (xs[·]?) = xs.toList.reverse := by rw [List.filterMap_reverse, h]
  rw [← e, ← PySem.W.krv_range, List.filterMap_map]
  congr 1
  have go : ∀ (ms : List Nat), (∀ m ∈ ms, m < xs.size) → ms.filterMap (fun (m : Nat) => xs[(((xs.size : Int) - 1) + (m : Int) * (-1)).toNat]?) = ms.filterMap ((xs[·]?) ∘ fun k => xs.size - 1 - k) := by
    intro ms
    induction ms with
    | nil => intro _; rfl
    | cons m ms ih =>
      intro h
      have e : xs[(((xs.size : Int) - 1) + (m : Int) * (-1)).toNat]? = xs[xs.size - 1 - m]? := by
        congr 1
        have := h m List.mem_cons_self
        omega
      rw [List.filterMap_cons, List.filterMap_cons, e, ih fun k hk => h k (List.mem_cons_of_mem _ hk)]
      rfl
  exact go _ fun m hm => List.mem_range.mp hm
theorem slice_back {sl : Addr} {vs : Value} {n : Nat} {Q : Int × Int × Nat → Shared → Prop} (hs : s.heap.IsSliceOf sl .none .none vs) (ps : IsPart vs (some (-1)))
    (h : Q ((n : Int) - 1, -1, n) s) : wpAny (model prog w) A (Builtin.Slice.sliceApplied (.ref sl) (pure (n : Int))) Q E s := by
  obtain ⟨os, hos, hcs, hds⟩ := id hs
  unfold Builtin.Slice.sliceApplied Builtin.Slice.sliceFields
  refine wpAny_bind (wpAny_bind (wpAny_field hos hds (x := .none) rfl (wpAny_bind (wpAny_field hos hds (x := .none) rfl (wpAny_bind (wpAny_field hos hds (x := vs) rfl (wpAny_pure ?_)))))))
  refine wpAny_bind (HT.slicePart_ ps ?_)
  show wpAny _ _ (if ((-1 : Int) == 0) = true then _ else _) _ _ s
  rw [if_neg (by decide)]
  have pn : IsPart Value.none none := by first | exact .none | exact rfl | (unfold IsPart; exact rfl)
  refine wpAny_bind (HT.slicePart_ pn (wpAny_bind (HT.slicePart_ pn (wpAny_bind (wpAny_pure ?_)))))
  have e : Builtin.Slice.slicePlaces ((n : Int) - 1) (-1) (-1) = n := by
    unfold Builtin.Slice.slicePlaces
    rw [if_neg (by decide)]
    by_cases hz : n = 0
    · subst hz; rfl
    · rw [if_pos (by omega)]
      have : ((n : Int) - 1 - -1 - 1) / (- -1) + 1 = n := by
        rw [show (- -1 : Int) = 1 by decide, Int.ediv_one]
        omega
      rw [this]
      omega
  show wpAny _ _ (pure ((n : Int) - 1, (-1 : Int), Builtin.Slice.slicePlaces ((n : Int) - 1) (-1) (-1))) _ _ s
  rw [e]
  exact wpAny_pure h
theorem tuple_back {t sl : Addr} {items : Array Value} {vs : Value} {Q : Value → Shared → Prop} (ht : IsTup s.heap t items) (hs : s.heap.IsSliceOf sl .none .none vs) (ps : IsPart vs (some (-1)))
    (h : Q (.ref s.heap.objs.size) { s with heap := s.heap.push { cls := .type "tuple", data := .seq items.toList.reverse.toArray } }) (hz : items.size ≤ sizeLine) : wpAny (model prog w) A (getItem (.ref t) (.ref sl)) Q E s := by
  have hb : sizeOk (.seq items.toList.reverse.toArray) := by
    show items.toList.reverse.toArray.size ≤ sizeLine
    rw [List.size_toArray, List.length_reverse, Array.length_toList]
    exact hz
  obtain ⟨os, hos, hcs, hds⟩ := id hs
  have hT : s.TypeIs (.ref sl) "slice" := ⟨os, hos, hcs⟩
  unfold getItem
  try with_reducible refine wpAny_holding ?_
  first | refine wpAny_bind (wpAny_pure ?_) | skip
  refine wpAny_bind (wpAny_sequenceKey ht.typeIs (by decide) ?_)
  refine wpAny_bind (wpAny_callSpecial?_slot (name := Str.ofString "__getitem__") ht.typeIs PyProof.Rows.slot_tuple_getitem
    (wpAny_call_entry PyProof.Rows.slot_tuple_getitem ht.typeIs PyProof.Rows.entry_tuple_getitem ?_ (PyProof.Rows.args_tuple_getitem _ _)))
  show wpAny _ _ (Builtin.Tuple.tupleItemsOf (.ref t) >>= _) _ _ s
  refine wpAny_bind (PyProof.Rows.tupleItemsOf_ ht ?_)
  refine wpAny_bind (wpAny_typeOf hT ?_)
  rw [if_pos (by decide)]
  refine wpAny_bind (slice_back hs ps ?_)
  show wpAny _ _ (if (((items.size : Int) - 1) == 0 && (-1 : Int) == 1 && items.size == items.size) = true then _ else _) _ _ s
  have hno : ¬ ((((items.size : Int) - 1) == 0 && (-1 : Int) == 1 && items.size == items.size) = true) := by
    intro q
    rw [Bool.and_eq_true, Bool.and_eq_true] at q
    exact absurd q.1.2 (by decide)
  rw [if_neg hno, pick_back]
  first
    | exact wpAny_bind (m := Builtin.Tuple.tupleExact _) (wpAny_newObj_type (wpAny_pure ⟨_, rfl, wpAny_pure h⟩) hb)
    | exact wpAny_bind (m := Builtin.Tuple.tupleExact _) (wpAny_newObj_type (wpAny_bind (wpAny_pure (wpAny_pure ⟨_, rfl, wpAny_pure h⟩))) hb)
    | exact wpAny_bind (wpAny_bind (m := Builtin.Tuple.tupleExact _) (wpAny_newObj_type (wpAny_pure (wpAny_pure ⟨_, rfl, wpAny_pure h⟩)) hb))
    | exact wpAny_bind (wpAny_bind (m := Builtin.Tuple.tupleExact _) (wpAny_newObj_type (wpAny_pure ⟨_, rfl, wpAny_pure h⟩) hb))
end
section
variable {X : Cx} {κ : Kx} {W : WX} {e o : Expr} {ma mo : SE} {pos : Pos}
def tBack (K : PySem.W.Frag) (te : TE) : TE := fun σ H Q => te σ H fun x H1 => ∃ a xs, x = .ref a ∧ ((SqL K H1 a xs ∧ ∀ p, H1 p = none → Q (.ref p) (upd H1 p (.lst xs.reverse))) ∨ (SqT K H1 a xs ∧ ∀ p, H1 p = none → Q (.ref p) (upd H1 p (.tup xs.reverse))))
theorem pe_back {te : TE} {k : Nat} {p1 p2 p3 : Pos} (he : PE X e te) : PE X (.Subscript e (.Slice none none (some (.UnaryOp .USub (.Constant (.int 1) k p1) p2)) p3) pos) (tBack X.K te) := ⟨fun pins s σ H Q I h => by
  refine Subscript_ (thn (he.run pins s σ H _ I h) fun v s1 ⟨x, H1, I1, r1, a, xs, ex, q⟩ => ?_)
  subst ex
  cases r1
  have step : PO X (some (.UnaryOp .USub (.Constant (.int 1) k p1) p2)) (tPart (tUn (rU fun i => .int (-i)) (tC (.int 1)))) := po_some (pe_un un_neg pe_int)
  refine wpAny_Slice (thn (po_none.run pins s1 σ H1 (fun u G => u = none ∧ G = H1) I1 ⟨rfl, rfl⟩) fun vl s2 ⟨lo, H2, I2, pl, el, e2⟩ => ?_)
  subst el e2
  refine thn (po_none.run pins s2 σ H2 (fun u G => u = none ∧ G = H2) I2 ⟨rfl, rfl⟩) fun vu s3 ⟨hi, H3, I3, pu, eu, e3⟩ => ?_
  subst eu e3
  refine thn (step.run pins s3 σ H3 (fun u G => u = some (-1) ∧ G = H3) I3 ⟨1, rfl, -1, rfl, rfl, rfl⟩) fun vs s4 ⟨st, H4, I4, ps, es, e4⟩ => ?_
  subst es e4
  have J := I4.kept (h' := s4.heap.push { cls := .type "slice", data := .fields #[vl, vu, vs] }) (t' := s4.toks) fun b ob z => Heap.get?_push_of_some _ z
  show wpAny (model X.prog X.w) X.A (subscriptTail e (.Slice none none (some (.UnaryOp .USub (.Constant (.int 1) k p1) p2)) p3) (.ref a) (.ref s4.heap.objs.size)) (EP X pins σ Q) X.xe { s4 with heap := s4.heap.push { cls := .type "slice", data := .fields #[vl, vu, vs] } }
  rcases q with ⟨hx, q⟩ | ⟨hx, q⟩
  · obtain ⟨its, r, ht, hz⟩ := J.list hx
    have hlen := r.length
    refine tail_any (ops := [.ref a, .ref s4.heap.objs.size]) ht.isList.typeIs (PySem.slot_list_getitem.lookup) ?_ (by with_unfolding_all rfl)
    refine wpAny_getItem_list_slice ht.isList (Heap.IsSliceOf.new _ vl vu vs) pl pu ps (by decide) ?_ (by rw [List.size_toArray]; omega)
    rw [PySem.W.krv_pick]
    exact ⟨.ref _, _, J.laid (t' := s4.toks) (o := .lst xs.reverse) (fun b ob z => Heap.get?_push_of_some _ z) (Nat.le_refl _) ⟨by rw [List.length_reverse]; exact hz, _, 0, r.reverse, Heap.get?_push_size _ rfl⟩, rfl, q _ (J.hok.fresh (Nat.le_refl _))⟩
  · obtain ⟨its, r, ht, hz⟩ := J.tuple hx
    have hlen := r.length
    have el : vl = .none := by first | exact pl | (cases pl; rfl)
    have eu : vu = .none := by first | exact pu | (cases pu; rfl)
    subst el eu
    refine tail_any (ops := [.ref a, .ref s4.heap.objs.size]) ht.typeIs (PyProof.Rows.slot_tuple_getitem.lookup) ?_ (by with_unfolding_all rfl)
    refine tuple_back ht (Heap.IsSliceOf.new _ _ _ vs) ps ?_ (by rw [List.size_toArray]; omega)
    exact ⟨.ref _, _, J.laid (t' := s4.toks) (o := .tup xs.reverse) (fun b ob z => Heap.get?_push_of_some _ z) (Nat.le_refl _) ⟨by rw [List.length_reverse]; exact hz, _, r.reverse, _, Heap.get?_push_size _ rfl, rfl, 0, rfl⟩, rfl, q _ (J.hok.fresh (Nat.le_refl _))⟩⟩
def opBack (S : Store) : D → Option D
  | .tup xs => some (.tup xs.reverse)
  | a => (seqL S a).map fun xs => .tmp xs.reverse
theorem p_back {k : Nat} {p1 p2 p3 : Pos} (hK : X.K = κ.K) (he : PE X e (tM κ W ma)) : PE X (.Subscript e (.Slice none none (some (.UnaryOp .USub (.Constant (.int 1) k p1) p2)) p3) pos) (tM κ W (mUn opBack ma)) :=
  (pe_back he).imp fun σ H Q ⟨g, l, S, s, fr, h⟩ => by
    refine ⟨g, l, S, s, fr, KG.imp (KG.bind (rel1 := RT κ) back_RT h) fun v H1 ⟨g1, S1, d, x1, s1, r1, h1⟩ => ?_⟩
    obtain ⟨d', e1, k⟩ := KG.of h1
    have viaL : (seqL S1 d).map (fun xs => D.tmp xs.reverse) = some d' → ∃ a xs, v = .ref a ∧ ((SqL X.K H1 a xs ∧ ∀ p, H1 p = none → Q (.ref p) (upd H1 p (.lst xs.reverse))) ∨ (SqT X.K H1 a xs ∧ ∀ p, H1 p = none → Q (.ref p) (upd H1 p (.tup xs.reverse)))) := fun e3 => by
      obtain ⟨xs, e2, rfl⟩ := Option.map_eq_some_iff.mp e3
      obtain ⟨a, rfl, ok⟩ := seqL_ok s1 r1 e2
      obtain ⟨vs, h1, h2⟩ := ok g1 H1 S1 (.refl _ _) s1 (chS_self _ _)
      exact ⟨a, vs, rfl, .inl ⟨by rw [hK]; exact h1, fun p hp => k g1 _ _ (Ext.lay hp) (s1.lay hp) (lay_lst s1 hp h2.reverse)⟩⟩
    cases d with
    | tup xs =>
      cases e1
      obtain ⟨a, vs, rfl, h1, q1⟩ := r1.tup
      exact ⟨a, vs, rfl, .inr ⟨by rw [hK]; exact h1, fun p hp => k g1 _ _ (Ext.lay hp) (s1.lay hp) (.rd (lay_tup s1 hp q1.reverse))⟩⟩
    | _ => exact viaL e1

/-! ### methods of lists -/
def isLs (S : Store) : D → Bool
  | .ref n => match S[n]? with
    | some (.lst _) => true
    | _ => false
  | _ => false
theorem isLs_ok {K : PySem.W.Frag} {H0 : Hp} {g : Gh} {H : Hp} {S : Store} {d : D} {v : V} (s : RS κ g H S) (r : RT κ H0 g H d v) (e : isLs S d = true) : tyV K "list" v H := by
  cases d with
  | ref n =>
    cases r with
    | rd r =>
      cases r with
      | @ref _ a h =>
        unfold isLs at e
        cases q : S[n]? with
        | none => simp [q] at e
        | some u =>
          cases u with
          | dic ks vs => simp [q] at e
          | lst xs =>
            obtain ⟨vs, h1, _⟩ := s.ob n a _ h q
            exact .inl ⟨rfl, vs, SqL.of h1⟩
  | _ => cases e
/-- a method by values -/
def rMeth (κ : Kx) (f : Store → D → List D → R D) : V → List V → Hp → VK → Prop := fun x xs H Q => ∃ H0 g S dx ds d S', RS κ g H S ∧ RT κ H0 g H dx x ∧ RDs κ g H ds xs ∧ f S dx ds = .ok d S' ∧ ∀ g' v H', Ext g H g' H' → RS κ g' H' S' → RT κ H g' H' d v → Q v H'
def mMeth (t : Store → D → Bool) (f : Store → D → List D → R D) (mo : SE) (as : List (Bool × SE)) : SE := fun l S => (mo l S).bind fun o S1 => if t S1 o = true then (mArgs as l S1).bind fun ds S2 => (f S2 o ds).calm else .bad
theorem calm_ok {α : Type} {r : R α} {W : WX} {σ : L2.St} {g : Gh} {H : Hp} {rel : Rel α V} {Q : VK} (h : KG κ W σ g H rel r.calm Q) : ∃ a S, r = .ok a S ∧ ∀ g' b H', Ext g H g' H' → RS κ g' H' S → rel H g' H' a b → Q b H' := by
  cases r with
  | ok a S => exact ⟨a, S, rfl, h⟩
  | exc c vs S => exact h.elim
  | bad => exact h.elim
theorem mMeth_ok {t : Store → D → Bool} {f : Store → D → List D → R D} {as : List (Bool × SE)} (σ : L2.St) (H : Hp) (Q : VK) (h : tM κ W (mMeth t f mo as) σ H Q) {P : V → Hp → Prop} (ht : ∀ {H0 : Hp} {g : Gh} {H : Hp} {S : Store} {d : D} {v : V}, RS κ g H S → RT κ H0 g H d v → t S d = true → P v H) :
    tM κ W mo σ H fun x H1 => P x H1 ∧ tA κ W (mArgs as) σ H1 fun xs H2 => rMeth κ f x xs H2 Q := by
  obtain ⟨g, l, S, s, fr, h⟩ := h
  refine ⟨g, l, S, s, fr, KG.imp (KG.bind (rel1 := RT κ) back_RT h) fun v H1 ⟨g1, S1, d, x1, s1, r1, h1⟩ => ?_⟩
  obtain ⟨e1, h1⟩ := KG.ite h1
  refine ⟨ht s1 r1 e1, g1, l, S1, s1, fr.ext s x1, KG.imp (KG.bind (rel1 := RL κ) back_RT h1) fun vs H2 ⟨g2, S2, ds, x2, s2, r2, h2⟩ => ?_⟩
  obtain ⟨d', S3, e3, k⟩ := calm_ok h2
  exact ⟨_, g2, S2, d, ds, d', S3, s2, r1.ext s1 x2, r2, e3, k⟩
theorem mMeth0_ok {t : Store → D → Bool} {f : Store → D → List D → R D} (σ : L2.St) (H : Hp) (Q : VK) (h : tM κ W (mMeth t f mo []) σ H Q) {P : V → Hp → Prop} (ht : ∀ {H0 : Hp} {g : Gh} {H : Hp} {S : Store} {d : D} {v : V}, RS κ g H S → RT κ H0 g H d v → t S d = true → P v H) :
    tM κ W mo σ H fun x H1 => P x H1 ∧ rMeth κ f x [] H1 Q := by
  obtain ⟨g, l, S, s, fr, h⟩ := h
  refine ⟨g, l, S, s, fr, KG.imp (KG.bind (rel1 := RT κ) back_RT h) fun v H1 ⟨g1, S1, d, x1, s1, r1, h1⟩ => ?_⟩
  obtain ⟨e1, h1⟩ := KG.ite h1
  have h1 : KG κ W σ g1 H1 (RT κ) (f S1 d []).calm Q := h1
  obtain ⟨d', S3, e3, k⟩ := calm_ok h1
  exact ⟨ht s1 r1 e1, _, g1, S1, d, [], d', S3, s1, r1, .nil, e3, k⟩
def fApp (S : Store) (o : D) : List D → R D
  | [d] => match o with
    | .ref n => match S[n]? with
      | some (.lst xs) => if xs.length < SL then .ok .non (S.set n (.lst (xs ++ [d]))) else .bad
      | _ => .bad
    | _ => .bad
  | _ => .bad
def fExt (S : Store) (o : D) : List D → R D
  | [d] => match o with
    | .ref n => match S[n]? with
      | some (.lst xs) => match d with
        | .tup ys => if xs.length + ys.length ≤ SL then .ok .non (S.set n (.lst (xs ++ ys))) else .bad
        | d => match viewL S d with
          | some ys => if xs.length + ys.length ≤ SL then .ok .non (S.set n (.lst (xs ++ ys))) else .bad
          | none => .bad
      | _ => .bad
    | _ => .bad
  | _ => .bad
def fPop (S : Store) (o : D) : List D → R D
  | [] => match o with
    | .ref n => match S[n]? with
      | some (.lst xs) => match xs[xs.length - 1]? with
        | some d => .ok d (S.set n (.lst xs.dropLast))
        | none => .bad
      | _ => .bad
    | _ => .bad
  | _ => .bad
theorem R.ite_ok {α : Type} {c : Prop} [Decidable c] {d d' : α} {S S' : Store} (h : (if c then R.ok d S else .bad) = .ok d' S') : c ∧ d' = d ∧ S' = S := by
  by_cases q : c
  · rw [if_pos q] at h; cases h; exact ⟨q, rfl, rfl⟩
  · rw [if_neg q] at h; cases h
/-- the object of a handle -/
theorem ref_ok {H0 : Hp} {g : Gh} {H : Hp} {S : Store} {n : Nat} {v : V} {xs : List D} (s : RS κ g H S) (r : RT κ H0 g H (.ref n) v) (e : S[n]? = some (.lst xs)) : ∃ p vs, v = .ref p ∧ g.ι[n]? = some p ∧ H p = some (.lst vs) ∧ RDs κ g H xs vs := by
  cases r with
  | rd r =>
    cases r with
    | @ref _ a h =>
      obtain ⟨vs, h1, h2⟩ := s.ob n a _ h e
      exact ⟨a, vs, rfl, h, h1, h2⟩
theorem mt_app : MtM X "list.append" (rMeth κ fApp) := by
  intro pins s σ H x vs v us Q I rx rv ⟨H0, g, S, dx, ds, d, S', rs, r1, r2, e, k⟩
  match ds, r2, e with
  | [], _, e => cases e
  | _ :: _ :: _, _, e => cases e
  | [dy], r2, e =>
    obtain ⟨y, rfl, q⟩ := r2.one
    cases dx with
    | ref n =>
      unfold fApp at e
      cases en : S[n]? with
      | none => simp [en] at e
      | some w =>
        cases w with
        | dic ks ws => simp [en] at e
        | lst xs =>
          simp only [en] at e
          obtain ⟨hl, rfl, rfl⟩ := R.ite_ok e
          obtain ⟨p, us', rfl, hp, h1, h2⟩ := ref_ok rs r1 en
          have x : Ext g H g (upd H p (.lst (us' ++ [y]))) := Ext.put hp
          exact mt_append pins s σ H _ _ v us Q I rx rv ⟨p, us', y, rfl, rfl, h1, by rw [← h2.length, SL_eq]; exact hl, k g _ _ x (rs.put hp ⟨_, upd_same, (h2.append (.cons q .nil)).ext rs x⟩) (.rd .non)⟩
    | _ => cases e
theorem mt_pop1 : MtM X "list.pop" (rMeth κ fPop) := by
  intro pins s σ H x vs v us Q I rx rv ⟨H0, g, S, dx, ds, d, S', rs, r1, r2, e, k⟩
  match ds, r2, e with
  | _ :: _, _, e => cases e
  | [], r2, e =>
    cases r2
    cases dx with
    | ref n =>
      unfold fPop at e
      cases en : S[n]? with
      | none => simp [en] at e
      | some w =>
        cases w with
        | dic ks ws => simp [en] at e
        | lst xs =>
          simp only [en] at e
          cases e1 : xs[xs.length - 1]? with
          | none => simp [e1] at e
          | some d0 =>
            simp only [e1] at e
            cases e
            obtain ⟨p, us', rfl, hp, h1, h2⟩ := ref_ok rs r1 en
            obtain ⟨w, e2, q⟩ := h2.get e1
            have x : Ext g H g (upd H p (.lst us'.dropLast)) := Ext.put hp
            exact mt_pop pins s σ H _ _ v us Q I rx rv ⟨p, us', w, rfl, rfl, h1, by rw [← h2.length]; exact e2, k g _ _ x (rs.put hp ⟨_, upd_same, h2.dropLast.ext rs x⟩) (.rd (q.ext rs x))⟩
    | _ => cases e
/-- a list takes a tuple's items -/
theorem mt_extT {K : PySem.W.Frag} (hK : X.K = K) : MtM X "list.extend" (fun x vs H Q => ∃ l b xs zs, x = .ref l ∧ vs = [.ref b] ∧ H l = some (.lst xs) ∧ SqT K H b zs ∧ xs.length + zs.length ≤ sizeLine ∧ Q .non (upd H l (.lst (xs ++ zs)))) := by
  intro pins s σ H x vs v us Q I rx rv ⟨l, b, xs, zs, ex, ev, h1, h2, hz, q⟩
  subst hK ex ev
  cases rx
  obtain ⟨u, rfl, ru⟩ := rv.one
  cases ru
  obtain ⟨_, its, n, r, hl, eo⟩ := I.lstM h1
  obtain ⟨its2, r2, ht, hz2⟩ := I.tuple h2
  have hl2 := r2.length
  have hs : its.toArray.size + its2.toArray.size ≤ sizeLine := by rw [List.size_toArray, List.size_toArray]; omega
  have hn : ¬ (!its.toArray.isEmpty && Builtin.List.listTooLong (its.toArray.size + its2.toArray.size)) = true := by
    rw [notLongL hs, Bool.and_false]; exact Bool.false_ne_true
  refine call_meets F.slot_list_extend ⟨_, eo, rfl⟩ F.entry_list_extend (F.args_list_extend_2 _ _) (ext_tup l its.toArray n b its2.toArray hn (by rw [List.size_toArray]; omega) (by omega)) ⟨eo, ht, ?_⟩
  exact ⟨.non, _, I.lset (its' := its ++ its2) h1 eo (by simp) (r.append r2) (by rw [List.length_append]; omega), rfl, q⟩
theorem mt_ext (hK : X.K = κ.K) : MtM X "list.extend" (rMeth κ fExt) := by
  intro pins s σ H x vs v us Q I rx rv ⟨H0, g, S, dx, ds, d, S', rs, r1, r2, e, k⟩
  match ds, r2, e with
  | [], _, e => cases e
  | _ :: _ :: _, _, e => cases e
  | [dy], r2, e =>
    obtain ⟨y, rfl, q⟩ := r2.one
    cases dx with
    | ref n =>
      unfold fExt at e
      cases en : S[n]? with
      | none => simp [en] at e
      | some w =>
        cases w with
        | dic ks ws => simp [en] at e
        | lst xs =>
          simp only [en] at e
          obtain ⟨p, us', rfl, hp, h1, h2⟩ := ref_ok rs r1 en
          have viaL : (match viewL S dy with
            | some ys => if xs.length + ys.length ≤ SL then R.ok D.non (S.set n (.lst (xs ++ ys))) else .bad
            | none => .bad) = .ok d S' → wpAny (model X.prog X.w) X.A (call (.builtin "list.extend") (v :: us)) (EP X pins σ Q) X.xe s := fun e => by
            cases ey : viewL S dy with
            | none => simp [ey] at e
            | some ys =>
              simp only [ey] at e
              obtain ⟨hl, rfl, rfl⟩ := R.ite_ok e
              obtain ⟨b, ws, rfl, h3, h4⟩ := viewL_ok rs (toRT q) ey
              have x : Ext g H g (upd H p (.lst (us' ++ ws))) := Ext.put hp
              exact mt_extend pins s σ H _ _ v us Q I rx rv ⟨p, b, us', ws, rfl, rfl, h1, h3, by rw [← h2.length, ← h4.length, SL_eq]; exact hl, k g _ _ x (rs.put hp ⟨_, upd_same, (h2.append h4).ext rs x⟩) (.rd .non)⟩
          cases dy with
          | tup ys =>
            obtain ⟨hl, rfl, rfl⟩ := R.ite_ok e
            obtain ⟨b, ws, rfl, h3, h4⟩ := (toRT q).tup
            have x : Ext g H g (upd H p (.lst (us' ++ ws))) := Ext.put hp
            exact mt_extT hK pins s σ H _ _ v us Q I rx rv ⟨p, b, us', ws, rfl, rfl, h1, h3, by rw [← h2.length, ← h4.length, SL_eq]; exact hl, k g _ _ x (rs.put hp ⟨_, upd_same, (h2.append h4).ext rs x⟩) (.rd .non)⟩
          | _ => exact viaL e
    | _ => cases e
section
variable {as : List (Bool × SE)} {es : List Expr} {apos : Pos}
theorem p_app (hK : X.K = κ.K) (ho : PE X o (tM κ W mo)) (ha : PA X (e :: es) (tA κ W (mArgs as))) (hbase : attributeBase o "append" X.env (eval o X.env) = eval o X.env := by rfl)
    (hfew : ((backTo pos (starEach (e :: es) X.env)).all (fun x => !x.1) && (backToKw pos (keywordEach [] X.env)).all (fun x => x.1.isSome) && decide ((e :: es).length + ([] : List Keyword).length + (if ([] : List Keyword).isEmpty then 0 else 1) < 30)) = true := by rfl)
    (hline : (apos.endLine == pos.line) = true := by rfl) (hs : starEach (e :: es) X.env = (false, eval e X.env) :: starEach es X.env := by rfl) (hplain : (backTo pos (starEach es X.env)).any (·.1) = false := by rfl) :
    PE X (.Call (.Attribute o "append" apos) (e :: es) [] pos) (tM κ W (mMeth isLs fApp mo as)) :=
  (pe_bm PySem.F.plainAttrs_list PySem.F.slot_list_append PySem.F.type_list_append mt_app ho ha hbase hfew hline hs hplain).imp fun σ H Q h => mMeth_ok σ H Q h fun s r e => isLs_ok s r e
theorem p_ext (hK : X.K = κ.K) (ho : PE X o (tM κ W mo)) (ha : PA X (e :: es) (tA κ W (mArgs as))) (hbase : attributeBase o "extend" X.env (eval o X.env) = eval o X.env := by rfl)
    (hfew : ((backTo pos (starEach (e :: es) X.env)).all (fun x => !x.1) && (backToKw pos (keywordEach [] X.env)).all (fun x => x.1.isSome) && decide ((e :: es).length + ([] : List Keyword).length + (if ([] : List Keyword).isEmpty then 0 else 1) < 30)) = true := by rfl)
    (hline : (apos.endLine == pos.line) = true := by rfl) (hs : starEach (e :: es) X.env = (false, eval e X.env) :: starEach es X.env := by rfl) (hplain : (backTo pos (starEach es X.env)).any (·.1) = false := by rfl) :
    PE X (.Call (.Attribute o "extend" apos) (e :: es) [] pos) (tM κ W (mMeth isLs fExt mo as)) :=
  (pe_bm PySem.F.plainAttrs_list PySem.F.slot_list_extend PySem.F.type_list_extend (mt_ext hK) ho ha hbase hfew hline hs hplain).imp fun σ H Q h => mMeth_ok σ H Q h fun s r e => isLs_ok s r e
theorem p_pop (ho : PE X o (tM κ W mo)) (hbase : attributeBase o "pop" X.env (eval o X.env) = eval o X.env := by rfl) (hline : (apos.endLine == pos.line) = true := by rfl) : PE X (.Call (.Attribute o "pop" apos) [] [] pos) (tM κ W (mMeth isLs fPop mo [])) :=
  (pe_bm0 PySem.F.plainAttrs_list PySem.F.slot_list_pop PySem.F.type_list_pop mt_pop1 ho hbase hline).imp fun σ H Q h => mMeth0_ok σ H Q h fun s r e => isLs_ok s r e
end
end
end LB
end

section
set_option Elab.async false
set_option linter.all false
set_option maxRecDepth 100000
set_option maxHeartbeats 4000000
/-! Layer B, part 12: isinstance, dicts. -/
namespace LB
open PySem PySem.Spec L2
open PyProof.Rows hiding St

section
variable {X : Cx} {κ : Kx} {W : WX} {a b c e o : Expr} {ma mb mc : SE} {pos : Pos} {as : List (Bool × SE)} {es : List Expr}
/-! ### isinstance -/
def tyD (S : Store) : D → Option String
  | .non => some "NoneType"
  | .bl _ => some "bool"
  | .int _ => some "int"
  | .str _ => some "str"
  | .tup _ => some "tuple"
  | .lst _ => some "list"
  | .tmp _ => some "list"
  | .scr _ => some "list"
  | .dic _ _ => some "dict"
  | .tdic _ _ => some "dict"
  | .ref n => match S[n]? with
    | some (.lst _) => some "list"
    | some (.dic _ _) => some "dict"
    | none => none
  | _ => none
def isT (t n : String) : Bool := t == n || (t == "bool" && n == "int")
theorem tyD_ok {H0 : Hp} {g : Gh} {H : Hp} {S : Store} {d : D} {v : V} {t : String} (s : RS κ g H S) (r : RT κ H0 g H d v) (e : tyD S d = some t) : TyX κ.K H v (.type t) ∧ t ∈ ["NoneType", "bool", "int", "str", "tuple", "list", "dict"] := by
  have scr : ∀ {p : Addr} {vs : List V}, SqL κ.K H p vs → TyX κ.K H (.ref p) (.type "list") := fun h => by
    rcases h with (h | ⟨u, h⟩) | ⟨u, its, n, h, hc, _⟩
    · exact .base (.lst h)
    · exact .base (.frz h)
    · exact .kList h hc
  cases d with
  | non => cases e; cases r.non; exact ⟨.base .non, by decide⟩
  | bl b => cases e; cases r.bl; exact ⟨.base (.bl b), by decide⟩
  | int i => cases e; cases r.int; exact ⟨.base (.int i), by decide⟩
  | str z => cases e; cases r.str; exact ⟨.base (.str _), by decide⟩
  | tup xs =>
    cases e
    obtain ⟨p, vs, rfl, h1, _⟩ := r.tup
    refine ⟨?_, by decide⟩
    rcases h1 with (h | ⟨u, h⟩) | ⟨u, its, n, h, hc, _⟩
    · exact .base (.tup h)
    · exact .fTuple h
    · exact .kTuple h hc
  | lst xs =>
    cases e
    cases r with
    | rd r => cases r with | lst h f q => exact ⟨.base (.lst h), by decide⟩
  | tmp xs =>
    cases e
    cases r with
    | rd r => cases r
    | tmp h n1 n2 n3 q => exact ⟨.base (.lst h), by decide⟩
  | scr ns =>
    cases e
    obtain ⟨p, rfl, h1⟩ := r.scr
    exact ⟨scr h1, by decide⟩
  | dic ks xs =>
    cases e
    cases r with
    | rd r => cases r with | dic h f q1 q => exact ⟨.base (.dK h), by decide⟩
  | tdic ks xs =>
    cases e
    cases r with
    | rd r => cases r
    | tdic h n1 n2 n3 q1 q => exact ⟨.base (.dK h), by decide⟩
  | ref n =>
    cases r with
    | rd r =>
      cases r with
      | @ref _ a h =>
        unfold tyD at e
        cases q : S[n]? with
        | none => simp [q] at e
        | some w =>
          have ob := s.ob n a w h q
          cases w with
          | lst xs =>
            simp [q] at e
            subst e
            obtain ⟨vs, h1, _⟩ := ob
            exact ⟨.base (.lst h1), by decide⟩
          | dic ks xs =>
            simp [q] at e
            subst e
            obtain ⟨vs, h1, _⟩ := ob
            exact ⟨.base (.dK h1), by decide⟩
  | _ => cases e
theorem kit_is : ∀ t ∈ ["NoneType", "bool", "int", "str", "tuple", "list", "dict"], ∀ n ∈ ["bool", "int", "str", "tuple", "list", "dict"], kitB t n = some (isT t n) := by decide +kernel
theorem kit_any {K : PySem.W.Frag} {t : String} (ht : t ∈ ["NoneType", "bool", "int", "str", "tuple", "list", "dict"]) : ∀ ns : List String, (∀ n ∈ ns, n ∈ ["bool", "int", "str", "tuple", "list", "dict"]) → PySem.W.kitAny K (.type t) (ns.map Value.type) = some (ns.any (isT t))
  | [], _ => kitAny_nil
  | n :: ns, h => by
    have h1 := kit_ty (K := K) (kit_is t ht n (h n List.mem_cons_self))
    refine kitAny_cons h1 (fun z => ?_) fun z => ?_
    · rw [kit_any ht ns fun m hm => h m (List.mem_cons_of_mem _ hm), List.any_cons, z, Bool.false_or]
    · rw [List.any_cons, z, Bool.true_or]
def tTys (ns : List String) : TA := fun _ H Q => Q (ns.map V.ty) H
theorem ty_nil : PA X [] (tTys []) := pa_nil
theorem ty_cons {x : Str} {n : String} {ns : List String} {p : Pos} (hg : Gl X x) (hm : X.mg x = none) (hv : bootBuiltins x = some (.type n)) (hr : PA X es (tTys ns)) (hn : x ≠ "__name__" := by decide) (hd : (x == ("__debug__" : Str)) = false := by decide)
    (hs : starEach (.Name x p :: es) X.env = (false, eval (.Name x p) X.env) :: starEach es X.env := by rfl) : PA X (.Name x p :: es) (tTys (n :: ns)) :=
  (pa_cons (pe_bltn (v := .ty n) hg hm hv rfl hn hd) hr hs).imp fun σ H Q h => h
theorem tys_paired : ∀ ns : List String, Paired ClsV (ns.map V.ty) (ns.map Value.type)
  | [] => .nil
  | n :: ns => .cons (.ty n) (tys_paired ns)
def mIs (ns : List String) (ma : SE) : SE := fun l S => (ma l S).bind fun d S1 => match tyD S1 d with
  | some t => .ok (.bl (ns.any (isT t))) S1
  | none => .bad
theorem mIs_go {ns : List String} {σ : L2.St} {H : Hp} {Q : VK} (h : tM κ W (mIs ns ma) σ H Q) : tM κ W ma σ H fun x H1 => ∃ g S t, RS κ g H1 S ∧ TyX κ.K H1 x (.type t) ∧ t ∈ ["NoneType", "bool", "int", "str", "tuple", "list", "dict"] ∧ (∀ p vs, H1 p = none → TyX κ.K (upd H1 p (.tup vs)) x (.type t)) ∧
    KV κ g H1 S (.bl (ns.any (isT t))) Q := by
  obtain ⟨g, l, S, s, fr, h⟩ := h
  refine ⟨g, l, S, s, fr, KG.imp (KG.bind (rel1 := RT κ) back_RT h) fun v H1 ⟨g1, S1, d, x1, s1, r1, h1⟩ => ?_⟩
  cases e : tyD S1 d with
  | none => simp only [e] at h1; exact h1.elim
  | some t =>
    simp only [e] at h1
    obtain ⟨t1, t2⟩ := tyD_ok s1 r1 e
    exact ⟨g1, S1, t, s1, t1, t2, fun p vs hp => (tyD_ok (s1.lay hp) (r1.ext s1 (Ext.lay hp)) e).1, h1⟩
theorem p_is1 {n : String} {x : Str} {p p2 : Pos} (hK : X.K = κ.K) (hg : Gl X "isinstance") (hm : X.mg "isinstance" = none) (hgx : Gl X x) (hmx : X.mg x = none) (ha : PE X a (tM κ W ma)) (hv : bootBuiltins x = some (.type n)) (hn : n ∈ ["bool", "int", "str", "tuple", "list", "dict"] := by decide) (h1 : x ≠ "__name__" := by decide) (h2 : (x == ("__debug__" : Str)) = false := by decide)
    (he : starEach [a, .Name x p2] X.env = (false, eval a X.env) :: starEach [.Name x p2] X.env := by rfl) (hs : starEach [.Name x p2] X.env = (false, eval (.Name x p2) X.env) :: starEach [] X.env := by rfl) (hpl : (backTo pos (starEach [.Name x p2] X.env)).any (·.1) = false := by rfl) :
    PE X (.Call (.Name "isinstance" p) [a, .Name x p2] [] pos) (tM κ W (mIs [n] ma)) :=
  (pe_callB (call_isi (X := X)) hg hm boot_isinstance (pa_cons ha (ty_cons hgx hmx hv ty_nil h1 h2 hs) he) (by decide) (by decide) he hpl).imp fun σ H Q h => by
    obtain ⟨g, l, S, s, fr, h⟩ := mIs_go h
    refine ⟨g, l, S, s, fr, KG.imp h fun v H1 ⟨g1, S1, t, s1, t1, t2, _, k⟩ => ?_⟩
    refine ⟨v, .ty n, .type t, .type n, isT t n, rfl, .ty n, by rw [hK]; exact t1, kit_ty (kit_is t t2 n hn), ?_⟩
    have k : KV κ g1 H1 S1 (.bl (isT t n || false)) Q := k
    rw [Bool.or_false] at k
    exact k.pure s1 (.bl _)
theorem p_isT {ns : List String} {ts : List Expr} {k : Nat} {p p2 : Pos} (hK : X.K = κ.K) (hg : Gl X "isinstance") (hm : X.mg "isinstance" = none) (ha : PE X a (tM κ W ma)) (ht : PA X ts (tTys ns)) (hn : ∀ n ∈ ns, n ∈ ["bool", "int", "str", "tuple", "list", "dict"] := by decide) (hl : ns.length ≤ SL := by decide)
    (he : starEach [a, .Tuple ts k p2] X.env = (false, eval a X.env) :: starEach [.Tuple ts k p2] X.env := by rfl) (hs : starEach [.Tuple ts k p2] X.env = (false, eval (.Tuple ts k p2) X.env) :: starEach [] X.env := by rfl) (hpl : (backTo pos (starEach [.Tuple ts k p2] X.env)).any (·.1) = false := by rfl) :
    PE X (.Call (.Name "isinstance" p) [a, .Tuple ts k p2] [] pos) (tM κ W (mIs ns ma)) :=
  (pe_callB (call_isiT (X := X)) hg hm boot_isinstance (pa_cons ha (pa_cons (pe_tup ht) pa_nil hs) he) (by decide) (by decide) he hpl).imp fun σ H Q h => by
    obtain ⟨g, l, S, s, fr, h⟩ := mIs_go h
    refine ⟨g, l, S, s, fr, KG.imp h fun v H1 ⟨g1, S1, t, s1, t1, t2, t3, kk⟩ => ⟨by rw [List.length_map, SL_eq]; exact hl, fun q hq => ?_⟩⟩
    refine ⟨v, q, ns.map V.ty, .type t, ns.map Value.type, ns.any (isT t), rfl, upd_same, tys_paired ns, by rw [hK]; exact t3 q _ hq, kit_any t2 ns hn, ?_⟩
    exact kk g1 _ _ (Ext.lay hq) (s1.lay hq) (.rd (.bl _))

/-! ### dicts -/
theorem KG.bindN {α β γ δ : Type} {σ : L2.St} {g : Gh} {H : Hp} {rel1 : Rel α β} {rel2 : Rel γ δ} {r : R α} {f : α → Store → R γ} {Q : δ → Hp → Prop} (h : KG κ W σ g H rel2 (r.bind f) Q) :
    KG κ W σ g H rel1 r (fun b H1 => ∃ g1 S1 a, Ext g H g1 H1 ∧ RS κ g1 H1 S1 ∧ rel1 H g1 H1 a b ∧ KG κ W σ g H rel2 (f a S1) Q) := by
  cases r with
  | ok a S' => exact fun g' b H' x s q => ⟨g', S', a, x, s, q, h⟩
  | exc c vs S' => exact h
  | bad => exact h
theorem Ext.grow {g : Gh} {H H' : Hp} (h : ∀ b u, H b = some u → H' b = some u) : Ext g H g H' := by
  refine ⟨List.prefix_refl _, fun b u q _ => h b u q, fun b q => ?_, fun _ z => .inl z, fun _ z => z, fun _ z => .inl z, rfl⟩
  cases e : H b with
  | none => exact absurd e q
  | some u => rw [h b u e]; exact fun z => nomatch z
theorem RS.grow {g : Gh} {H H' : Hp} {S : Store} (s : RS κ g H S) (h : ∀ b u, H b = some u → H' b = some u) : RS κ g H' S := by
  have x : Ext g H g H' := Ext.grow h
  refine ⟨s.len, s.nd, fun n a u h1 h2 => RO.ext s x (s.ob n a u h1 h2) ?_, s.fr, fun b hb => x.live b (s.fl b hb), s.hx⟩
  cases e : H a with
  | none => exact absurd e (s.liveι (List.mem_of_getElem? h1))
  | some u => exact h a u e
def kD : DK → D
  | .inl i => .int i
  | .inr z => .str z
theorem kD_ok {g : Gh} {H : Hp} (q : DK) : RD κ g H (kD q) (kV (keyK q)) := by
  cases q with
  | inl i => exact .int i
  | inr z => exact .str z
def itemsD : List DK → List D → List D
  | k :: ks, v :: vs => .tup [kD k, v] :: itemsD ks vs
  | _, _ => []
def mItems (me : SE) : SE := fun l S => (me l S).bind fun d S1 => match viewD S1 d with
  | some (ks, vs) => .ok (.tmp (itemsD ks vs)) S1
  | none => .bad
theorem items_ok {g : Gh} {H : Hp} : ∀ {ks : List DK} {vs : List D} {kvs : List (Key × V)} {ts : List Addr}, kvs.map Prod.fst = ks.map keyK → RDs κ g H vs (kvs.map Prod.snd) → Paired (fun (t : Addr) (q : Key × V) => H t = some (.tup [kV q.1, q.2])) ts kvs → RDs κ g H (itemsD ks vs) (ts.map V.ref)
  | [], _, [], _, _, _, .nil => .nil
  | [], _, _ :: _, _, e, _, _ => nomatch e
  | _ :: _, _, [], _, e, _, _ => nomatch e
  | k :: ks, vs, q :: kvs, _, e, r, .cons h t => by
    rw [List.map_cons] at r
    cases r with
    | cons r0 r =>
      have e1 : q.1 = keyK k := (List.cons.inj e).1
      refine .cons (.tup (SqT.of h) (.cons ?_ (.cons r0 .nil))) (items_ok (List.cons.inj e).2 r t)
      rw [e1]
      exact kD_ok k
theorem p_items {p apos cpos : Pos} (hc : X.calm = true) (he : PE X e (tM κ W ma)) (hg : Gl X "list") (hm : X.mg "list" = none) (hv : bootBuiltins "list" = some (.type "list")) (hbase : attributeBase e "items" X.env (eval e X.env) = eval e X.env := by rfl) (hline : (apos.endLine == cpos.line) = true := by rfl)
    (hs : starEach [.Call (.Attribute e "items" apos) [] [] cpos] X.env = (false, eval (.Call (.Attribute e "items" apos) [] [] cpos) X.env) :: starEach [] X.env := by rfl) :
    PE X (.Call (.Name "list" p) [.Call (.Attribute e "items" apos) [] [] cpos] [] pos) (tM κ W (mItems ma)) :=
  (LiI.pe_listItems hc he hg hm hv hbase hline hs).imp fun σ H Q ⟨g, l, S, s, fr, h⟩ => by
    refine ⟨g, l, S, s, fr, KG.imp (KG.bind (rel1 := RT κ) back_RT h) fun v H1 ⟨g1, S1, d, x1, s1, r1, h1⟩ => ?_⟩
    cases e : viewD S1 d with
    | none => simp only [e] at h1; exact h1.elim
    | some q =>
      obtain ⟨ks, vs⟩ := q
      simp only [e] at h1
      obtain ⟨p, kvs, rfl, h2, q1, q2⟩ := viewD_ok s1 r1 e
      refine ⟨p, kvs, rfl, h2, fun H' q ts mono hq ht hn hl pr => ?_⟩
      have x : Ext g1 H1 g1 H' := Ext.grow mono
      exact h1 g1 _ H' x (s1.grow mono) (.tmp hl (fun z => s1.liveι z hq) (fun z => s1.fl _ z hq) hq (items_ok q1 (q2.ext s1 x) pr))
/-- d.get(k), d.get(k, x) -/
def isDc (S : Store) (d : D) : Bool := (viewD S d).isSome
theorem isDc_ok {H0 : Hp} {g : Gh} {H : Hp} {S : Store} {d : D} {v : V} (s : RS κ g H S) (r : RT κ H0 g H d v) (e : isDc S d = true) : ∃ a, v = .ref a ∧ IsD H a := by
  unfold isDc at e
  cases q : viewD S d with
  | none => rw [q] at e; cases e
  | some w =>
    obtain ⟨ks, vs⟩ := w
    obtain ⟨p, kvs, rfl, h, _, _⟩ := viewD_ok s r q
    exact ⟨p, rfl, .inl ⟨kvs, .inl h⟩⟩
def mGet2 (md mk mz : SE) : SE := fun l S => (md l S).bind fun d S1 => if isDc S1 d = true then (mk l S1).bind fun k S2 => (mz l S2).bind fun z S3 => match viewD S3 d with
  | some (ks, vs) => match dkD k with
    | some q => .ok ((getK ks vs q).getD z) S3
    | none => .bad
  | none => .bad else .bad
def mGet1 (md mk : SE) : SE := fun l S => (md l S).bind fun d S1 => if isDc S1 d = true then (mk l S1).bind fun k S2 => match viewD S2 d with
  | some (ks, vs) => match dkD k with
    | some q => .ok ((getK ks vs q).getD .non) S2
    | none => .bad
  | none => .bad else .bad
theorem p_get2 {apos cpos : Pos} (hu : X.A.units + 65 < cLine) (ho : PE X o (tM κ W ma)) (he : PE X e (tM κ W mb)) (hf : PE X c (tM κ W mc)) (m : M2 X o "get" apos e c cpos := by exact ⟨rfl, rfl, rfl, rfl⟩) : PE X (.Call (.Attribute o "get" apos) [e, c] [] cpos) (tM κ W (mGet2 ma mb mc)) :=
  (pe_dget2 (by omega) ho he hf m).imp fun σ H Q ⟨g, l, S, s, fr, h⟩ => by
    refine ⟨g, l, S, s, fr, KG.imp (KG.bind (rel1 := RT κ) back_RT h) fun v H1 ⟨g1, S1, d, x1, s1, r1, h1⟩ => ?_⟩
    obtain ⟨e1, h1⟩ := KG.ite h1
    obtain ⟨a, rfl, hd⟩ := isDc_ok s1 r1 e1
    refine ⟨a, rfl, hd, g1, l, S1, s1, fr.ext s x1, KG.imp (KG.bind (rel1 := RT κ) back_RT h1) fun y H2 ⟨g2, S2, k, x2, s2, r2, h2⟩ => ?_⟩
    refine ⟨g2, l, S2, s2, (fr.ext s x1).ext s1 x2, KG.imp (KG.bindN (rel1 := RT κ) h2) fun z H3 ⟨g3, S3, dz, x3, s3, r3, h3⟩ => ?_⟩
    cases ev : viewD S3 d with
    | none => simp only [ev] at h3; exact h3.elim
    | some w =>
      obtain ⟨ks, vs⟩ := w
      simp only [ev] at h3
      cases ek : dkD k with
      | none => simp only [ek] at h3; exact h3.elim
      | some q =>
        simp only [ek] at h3
        obtain ⟨p, kvs, ep, h4, q1, q2⟩ := viewD_ok s3 ((r1.ext s1 x2).ext s2 x3) ev
        cases ep
        cases dk_ok r2 ek
        refine ⟨valV kvs (keyK q), DGet.k h4, ?_⟩
        rcases getK_ok (k := q) q1 q2 with ⟨z1, z2⟩ | ⟨d', w, z1, z2, z3⟩
        · rw [z1] at h3; rw [z2]
          exact h3 g3 _ H3 x3 s3 r3
        · rw [z1] at h3; rw [z2]
          exact h3 g3 _ H3 x3 s3 (.rd z3)
theorem p_get1 {apos cpos : Pos} (hu : X.A.units + 65 < cLine) (ho : PE X o (tM κ W ma)) (he : PE X e (tM κ W mb)) (m : M1 X o "get" apos e cpos := by exact ⟨rfl, rfl, rfl, rfl⟩) : PE X (.Call (.Attribute o "get" apos) [e] [] cpos) (tM κ W (mGet1 ma mb)) :=
  (pe_dget1 (by omega) ho he m).imp fun σ H Q ⟨g, l, S, s, fr, h⟩ => by
    refine ⟨g, l, S, s, fr, KG.imp (KG.bind (rel1 := RT κ) back_RT h) fun v H1 ⟨g1, S1, d, x1, s1, r1, h1⟩ => ?_⟩
    obtain ⟨e1, h1⟩ := KG.ite h1
    obtain ⟨a, rfl, hd⟩ := isDc_ok s1 r1 e1
    refine ⟨a, rfl, hd, g1, l, S1, s1, fr.ext s x1, KG.imp (KG.bind (rel1 := RT κ) back_RT h1) fun y H2 ⟨g2, S2, k, x2, s2, r2, h2⟩ => ?_⟩
    cases ev : viewD S2 d with
    | none => simp only [ev] at h2; exact h2.elim
    | some w =>
      obtain ⟨ks, vs⟩ := w
      simp only [ev] at h2
      cases ek : dkD k with
      | none => simp only [ek] at h2; exact h2.elim
      | some q =>
        simp only [ek] at h2
        obtain ⟨p, kvs, ep, h4, q1, q2⟩ := viewD_ok s2 (r1.ext s1 x2) ev
        cases ep
        cases dk_ok r2 ek
        refine ⟨valV kvs (keyK q), DGet.k h4, ?_⟩
        rcases getK_ok (k := q) q1 q2 with ⟨z1, z2⟩ | ⟨d', w, z1, z2, z3⟩
        · rw [z1] at h2; rw [z2]
          exact h2 g2 _ H2 (.refl _ _) s2 (.rd .non)
        · rw [z1] at h2; rw [z2]
          exact h2 g2 _ H2 (.refl _ _) s2 (.rd z3)
/-! {k: v, ..} with constant keys -/
def mDis (ks : List DK) (as : List (Bool × SE)) : SE := fun l S => (mArgs as l S).bind fun ds S1 => .ok (.tdic ks ds) S1
/-- the pairs' readings -/
def trsOf (κ : Kx) (W : WX) : List DK → List (Bool × SE) → List (TE × TE)
  | k :: ks, (_, m) :: as => (tC (kV (keyK k)), tM κ W m) :: trsOf κ W ks as
  | _, _ => []
theorem tM_mono {m : SE} {σ : L2.St} {H : Hp} {Q Q' : VK} (i : ∀ v H, Q v H → Q' v H) (h : tM κ W m σ H Q) : tM κ W m σ H Q' := by
  obtain ⟨g, l, S, s, fr, h⟩ := h
  exact ⟨g, l, S, s, fr, KG.imp h i⟩
theorem tPairs_imp {σ : L2.St} : ∀ {Q Q' : List (V × V) → Hp → Prop} {H : Hp}, (∀ ps H, Q ps H → Q' ps H) → ∀ (ks : List DK) (as : List (Bool × SE)), tPairs (trsOf κ W ks as) σ H Q → tPairs (trsOf κ W ks as) σ H Q'
  | Q, Q', H, i, [], _, h => i _ _ h
  | Q, Q', H, i, _ :: _, [], h => i _ _ h
  | Q, Q', H, i, k :: ks, (b, m) :: as, h => by
    refine tM_mono (fun v H1 h1 => ?_) (show tM κ W m σ H _ from h)
    exact tPairs_imp (fun ps H2 h2 => i _ _ h2) ks as h1
theorem merge_new : ∀ {more acc : List (Key × V)}, ((acc ++ more).map Prod.fst).Nodup → mergeK acc more = acc ++ more
  | [], acc, _ => by simp [mergeK]
  | q :: more, acc, h => by
    have e : valV acc q.1 = none := by
      unfold valV
      rw [Option.map_eq_none_iff, List.find?_eq_none]
      intro p hp z
      have z : p.1 = q.1 := of_decide_eq_true z
      rw [List.map_append, List.map_cons, List.nodup_append] at h
      exact h.2.2 _ (List.mem_map_of_mem hp) _ List.mem_cons_self z
    have h' : (((acc ++ [q]) ++ more).map Prod.fst).Nodup := by rw [List.append_assoc]; exact h
    have ih := merge_new h'
    show mergeK (putK acc q.1 q.2) more = _
    rw [putK_new q.2 e]
    show mergeK (acc ++ [q]) more = _
    rw [ih, List.append_assoc]
    rfl
theorem pairs_ok : ∀ {ks : List DK} {as : List (Bool × SE)} {g : Gh} {l : Loc} {S : Store} {H : Hp} {σ : L2.St} {Q : List V → Hp → Prop}, ks.length = as.length → RS κ g H S → FR κ g H l σ → KG κ W σ g H (RL κ) (mArgs as l S) Q →
    tPairs (trsOf κ W ks as) σ H fun ps H2 => ∃ vs, vs.length = ks.length ∧ ps = List.zipWith (fun k v => (kV (keyK k), v)) ks vs ∧ Q vs H2
  | [], [], g, l, S, H, σ, Q, _, s, fr, h => ⟨[], rfl, rfl, h g [] H (.refl _ _) s .nil⟩
  | [], _ :: _, _, _, _, _, _, _, e, _, _, _ => nomatch e
  | _ :: _, [], _, _, _, _, _, _, e, _, _, _ => nomatch e
  | k :: ks, (b, m) :: as, g, l, S, H, σ, Q, e, s, fr, h => by
    refine ⟨g, l, S, s, fr, KG.imp (mFix_go back_RL h) fun v H1 ⟨g1, S1, d, x1, s1, r1, h1⟩ => ?_⟩
    have ih := pairs_ok (ks := ks) (as := as) (Nat.succ.inj e) s1 (fr.ext s x1) (KG.mapOk h1 s1 r1)
    exact tPairs_imp (fun ps H2 ⟨vs, z1, z2, z3⟩ => ⟨v :: vs, congrArg Nat.succ z1, by rw [z2]; rfl, z3⟩) ks as ih
theorem x_pairs_nil : PPs X pos [] [] (trsOf κ W [] []) := pps_nil
theorem x_pairs {x : Str} {j : Nat} {p : Pos} {ks : List DK} {kb : Bool} (z : List Nat) {keys : List (Option Expr)} {vals : List Expr} (hx : x = ⟨z.toArray⟩) (hv : PE X e (tM κ W ma)) (hr : PPs X pos keys vals (trsOf κ W ks as)) :
    PPs X pos (some (.Constant (.str x) j p) :: keys) (e :: vals) (trsOf κ W (.inr z :: ks) ((kb, ma) :: as)) :=
  pps_cons (pe_str.imp fun σ H Q h => by rw [hx]; exact h) hv hr
theorem zip_fst : ∀ {ks : List DK} {vs : List V}, vs.length = ks.length → (List.zipWith (fun k v => (keyK k, v)) ks vs).map Prod.fst = ks.map keyK
  | [], [], _ => rfl
  | k :: ks, v :: vs, e => congrArg (keyK k :: ·) (zip_fst (Nat.succ.inj e))
  | [], _ :: _, e => nomatch e
  | _ :: _, [], e => nomatch e
theorem zip_snd : ∀ {ks : List DK} {vs : List V}, vs.length = ks.length → (List.zipWith (fun k v => (keyK k, v)) ks vs).map Prod.snd = vs
  | [], [], _ => rfl
  | k :: ks, v :: vs, e => congrArg (v :: ·) (zip_snd (Nat.succ.inj e))
  | [], _ :: _, e => nomatch e
  | _ :: _, [], e => nomatch e
theorem zip_kv : ∀ {ks : List DK} {vs : List V}, List.zipWith (fun k v => (kV (keyK k), v)) ks vs = (List.zipWith (fun k v => (keyK k, v)) ks vs).map fun kv => (kV kv.1, kv.2)
  | [], [] => rfl
  | k :: ks, v :: vs => congrArg ((kV (keyK k), v) :: ·) zip_kv
  | [], _ :: _ => rfl
  | _ :: _, [] => rfl
theorem nodup_map {ks : List DK} (h : ks.Nodup) : (ks.map keyK).Nodup := by
  induction ks with
  | nil => simp
  | cons k ks ih =>
    rw [List.map_cons, List.nodup_cons]
    rw [List.nodup_cons] at h
    refine ⟨fun z => ?_, ih h.2⟩
    obtain ⟨k', hk, z⟩ := List.mem_map.mp z
    exact h.1 (keyK_inj z ▸ hk)
theorem p_disp {keys : List (Option Expr)} {vals : List Expr} {ks : List DK} (h : PPs X pos keys vals (trsOf κ W ks as)) (hall : keys.all (·.isSome) = true := by rfl) (hl : keys.length = vals.length := by rfl) (h0 : keys ≠ [] := by exact fun z => nomatch z) (h15 : keys.length ≤ 15 := by decide)
    (hka : ks.length = as.length := by rfl) (hk : ks.length ≤ 15 := by decide) (nd : ks.Nodup := by decide) : PE X (.Dict keys vals pos) (tM κ W (mDis ks as)) :=
  (pe_disp h hall hl h0 h15).imp fun σ H Q ⟨g, l, S, s, fr, h⟩ p hp => by
    have x0 : Ext g H g (upd H p (.dK [])) := Ext.lay hp
    have s0 := s.lay (o := .dK []) hp
    have n1 : p ∉ g.ι := fun z => s.liveι z hp
    have n2 : ¬ g.F p := fun z => s.fl _ z hp
    have h' : KG κ W σ g (upd H p (.dK [])) (RL κ) (mArgs as l S) fun vs H2 => vs.length = ks.length → H2 p = some (.dK []) ∧ Q (.ref p) (upd H2 p (.dK (List.zipWith (fun k v => (keyK k, v)) ks vs))) := by
      have hb := KG.bindN (rel1 := RL κ) h
      unfold mDis at h
      cases e : mArgs as l S with
      | ok ds S1 =>
        rw [e] at h
        intro g1 vs H2 x s2 r el
        obtain ⟨d1, m1, m2⟩ := x.stays upd_same n1 n2
        refine ⟨d1, h g1 _ _ ((x0.trans x).priv hp) (s2.priv (show Loose (.dK []) from trivial) d1 m1 m2) ?_⟩
        refine .tdic upd_same m1 m2 hp (zip_fst el) ?_
        rw [zip_snd el]
        exact RDs.priv (show Loose (.dK []) from trivial) d1 m2 r
      | exc cc ws S1 => rw [e] at h; exact fun g' dv H' x s' q => h g' dv H' (x0.trans x) s' q
      | bad => rw [e] at h; exact h
    refine tPairs_imp (fun ps H2 ⟨vs, z1, z2, z3⟩ => ?_) ks as (pairs_ok hka s0 (fr.ext s x0) h')
    obtain ⟨d1, q⟩ := z3 z1
    have nd' : (([] ++ List.zipWith (fun k v => (keyK k, v)) ks vs).map Prod.fst).Nodup := by
      rw [List.nil_append, zip_fst z1]
      exact nodup_map nd
    refine ⟨d1, List.zipWith (fun k v => (keyK k, v)) ks vs, by rw [z2, zip_kv], ?_, ?_⟩
    · rw [List.length_zipWith, z1]
      omega
    · rw [merge_new nd', List.nil_append]
      exact q
end
end LB
end

section
set_option Elab.async false
set_option linter.all false
set_option maxRecDepth 100000
set_option maxHeartbeats 4000000
/-! Layer B, part 13: raise, try. -/
namespace LB
open PySem PySem.Spec L2
open PyProof.Rows hiding St

/-! ### the exception in hand changes -/
section
variable {κ : Kx} {g : Gh} {H : Hp} {S : Store} {gx : Option (Addr × Nat × Option Addr) → Prop} {xc : Option (Addr × Nat × Option Addr)}
def Gh.hold (g : Gh) (xc : Option (Addr × Nat × Option Addr)) : Gh := { g with xc := xc }
mutual
theorem RD.hold : ∀ {d : D} {v : V}, RD κ g H d v → RD (κ.at gx) (g.hold xc) H d v
  | _, _, .non => .non
  | _, _, .bl b => .bl b
  | _, _, .int i => .int i
  | _, _, .str t => .str t
  | _, _, .tup h r => .tup h (RDs.hold r)
  | _, _, .lst h f r => .lst h f (RDs.hold r)
  | _, _, .dic h f e r => .dic h f e (RDs.hold r)
  | _, _, .scr h => .scr h
  | _, _, .scrK h => .scrK h
  | _, _, .ref h => .ref h
  | _, _, .fn i => RD.fn (κ := κ.at gx) i
  | _, _, .cls i => RD.cls (κ := κ.at gx) i
  | _, _, .ty n => .ty n
theorem RDs.hold : ∀ {ds : List D} {vs : List V}, RDs κ g H ds vs → RDs (κ.at gx) (g.hold xc) H ds vs
  | _, _, .nil => .nil
  | _, _, .cons h t => .cons (RD.hold h) (RDs.hold t)
end
theorem RS.hold (s : RS κ g H S) (h : gx xc) : RS (κ.at gx) (g.hold xc) H S := by
  refine ⟨s.len, s.nd, fun n a o e1 e2 => ?_, s.fr, s.fl, h⟩
  have q := s.ob n a o e1 e2
  cases o with
  | lst xs => obtain ⟨vs, h, r⟩ := q; exact ⟨vs, h, r.hold⟩
  | dic ks xs => obtain ⟨kvs, h, e, r⟩ := q; exact ⟨kvs, h, e, r.hold⟩
theorem XF.hold {c : Nat} {vs : List D} {dv : Option Addr} (h : XF κ g H c vs dv) : XF (κ.at gx) (g.hold xc) H c vs dv := by
  match vs, h with
  | [], h => exact h
  | [d], h =>
    obtain ⟨dx, v, e, h1, r⟩ := h
    exact ⟨dx, v, e, h1, r.hold⟩
theorem RT.hold {H0 : Hp} {d : D} {v : V} (r : RT κ H0 g H d v) : RT (κ.at gx) H0 (g.hold xc) H d v := by
  cases r with
  | rd r => exact .rd r.hold
  | tmp h n1 n2 n3 r => exact .tmp h n1 n2 n3 r.hold
  | tdic h n1 n2 n3 e r => exact .tdic h n1 n2 n3 e r.hold
def noX (l : Loc) : Loc := l.map fun o => match o with
  | some (.exn _ _) => none
  | o => o
/-- a frame forgets the exception in hand -/
theorem FR.hold {l : Loc} {σ : L2.St} (h : FR κ g H l σ) : FR (κ.at gx) (g.hold xc) H (noX l) σ := by
  refine ⟨by rw [← h.1]; exact List.length_map _, fun i d e => ?_⟩
  have e : (l[i]?).map (fun o => match o with
    | some (.exn _ _) => none
    | o => o) = some (some d) := by rw [← List.getElem?_map]; exact e
  obtain ⟨o, e1, e2⟩ := Option.map_eq_some_iff.mp e
  have : o = some d ∧ ∀ c vs, d ≠ .exn c vs := by
    cases o with
    | none => cases e2
    | some d' =>
      cases d' with
      | exn c vs => cases e2
      | _ => cases e2; exact ⟨rfl, fun _ _ z => nomatch z⟩
  obtain ⟨rfl, nx⟩ := this
  obtain ⟨v, e3, r⟩ := h.2 i d e1
  rcases r with r | ⟨c, vs, a, dx, rfl, _⟩
  · exact ⟨v, e3, .inl r.hold⟩
  · exact absurd rfl (nx c vs)
theorem Ext.hold {g' : Gh} {H' : Hp} (x : Ext (g.hold xc) H g' H') : Ext g H (g'.hold g.xc) H' := ⟨x.pre, x.keep, x.live, x.nw, x.fm, x.fn, rfl⟩
theorem Ext.held {xc : Option (Addr × Nat × Option Addr)} {g' : Gh} {H' : Hp} (x : Ext (g.hold xc) H g' H') : g'.xc = xc := x.xc
end

section
variable {X : Cx} {κ : Kx} {W : WX} {a b c e o : Expr} {ma mb mc : SE} {pos : Pos} {as : List (Bool × SE)} {es : List Expr}
/-! ### raise C(e) -/
/-- what __init__ of such a class keeps -/
def spIni (K : PySem.W.Frag) (C : Addr) (f : Str) : Sp := fun vs H Q _ => ∃ (a : Addr) (y : V), vs = [.ref a, y] ∧ H a = some (exo a C none) ∧ ∀ dx, H dx = none → dx ≠ a → Q .non (upd (upd H dx (exd dx [(f, y)])) a (exo a C (some dx)))
/-- what the written part says of such a class -/
structure XC (P : Program) (w : World) (K : PySem.W.Frag) (mg : Str → Option Value) (base : Heap) (k : Nat) (C : Addr) (f : Str) (fI : Addr) (fd : FuncData) (ps : List Str) : Prop where
  T : OexC K C
  i1 : PySem.W.findIn K (.ref C) "__init__" = some (some (.ref fI))
  i2 : PySem.W.typeIn K (.ref fI) = some (.type "function")
  F : FnOk P w K mg base (L2.CX P w) k fI fd ps (spIni K C f)
  b : Binds K fd ps []
  n : PySem.W.findIn K (.ref C) f = some none
  x : XfC K C
def sRaise (c : Nat) (m : SE) : SS := fun l S => (mFix false m l S).toO l fun d S1 => .exc c [d] l S1
theorem passE {X : Cx} : Passes (L2.CX X.prog X.w) X (fun _ _ _ => False) := fun _ _ _ _ _ _ _ ⟨_, _, _, _, _, _, _, _, _, _, _, _, h⟩ => h.elim
theorem s_raise {x : Str} {fl : Str} {ci k : Nat} {fI : Addr} {fd : FuncData} {ps : List Str} {p : Pos} (hc : X.calm = true) (tk : Takes X W) (C : XC X.prog X.w X.K X.mg X.base k (κ.clA ci) fl fI fd ps) (hf : κ.fld ci = fl) (hr : Room (k + 1) X.A) (hm : X.mg x = some (.ref (κ.clA ci))) (hg : Gl X x)
    (he : PE X e (tM κ W ma)) (hdb : (x == ("__debug__" : Str)) = false := by decide) (hs : starEach [e] X.env = (false, eval e X.env) :: starEach [] X.env := by rfl) (hpl : (backTo pos (starEach [] X.env)).any (·.1) = false := by rfl) {pos2 : Pos} :
    PS X (.Raise (some (.Call (.Name x p) [e] [] pos)) none pos2) (tS κ W (sRaise ci ma)) :=
  (ps_raise hc tk (pmk_oex (dvs := []) C.T C.i1 C.i2 C.F hr C.b .nil passE hg hm (pa_cons he pa_nil hs) hdb hs hpl)).imp fun D' σ H ⟨g, l, S, s, fr, h⟩ => by
    refine ⟨g, l, S, s, fr, KG.imp (KO.fix s fr h) fun v H1 ⟨g1, S1, d, x1, s1, f1, r, h1⟩ => ⟨(by decide : 1 ≤ 1000), fun a ha => ?_⟩⟩
    refine ⟨a, v, rfl, upd_same, fun dx hdx hne => ⟨rfl, dx, [(fl, v)], ?_, ?_, ?_, ?_⟩⟩
    · exact upd_same
    · rw [upd_ne hne]; exact upd_same
    · rw [upd_ne hne] at hdx; exact hdx
    · have hd1 : H1 dx = none := by rw [upd_ne hne] at hdx; exact hdx
      have eH : upd (del (upd (upd (upd H1 a (exo a (κ.clA ci) none)) dx (exd dx [(fl, v)])) a (exo a (κ.clA ci) (some dx))) a) dx (.xd [(fl, v)]) = upd H1 dx (.xd [(fl, v)]) := by
        funext b
        by_cases z : b = dx
        · rw [z, upd_same, upd_same]
        · rw [upd_ne z, upd_ne z]
          by_cases z2 : b = a
          · rw [z2, del_same, ha]
          · rw [del_ne z2, upd_ne z2, upd_ne z, upd_ne z2]
      rw [eH]
      have x2 : Ext g1 H1 g1 (upd H1 dx (.xd [(fl, v)])) := Ext.lay hd1
      exact h1 g1 σ (some dx) _ x2 (s1.lay hd1) (f1.ext s1 x2) ⟨dx, v, rfl, by rw [hf]; exact upd_same, r.ext s1 x2⟩

/-! ### try: .. except C as e: .. (several) -/
/-- the clauses: class, slot, suite -/
abbrev Hd := Nat × Nat × SS
/-- what a suite's end is for the frame -/
def O.out (i : Nat) : O → O
  | .nx l S => .nx (noX (l.set i none)) S
  | .ret d S => .ret d S
  | .brk l S => .brk (noX (l.set i none)) S
  | .cnt l S => .cnt (noX (l.set i none)) S
  | _ => .bad
def pick (sub : Nat → Nat → Bool) (c : Nat) (vs : List D) (l : Loc) (S : Store) : List Hd → O
  | [] => .exc c vs l S
  | (ch, i, m) :: r => if sub c ch = true then (m ((noX l).set i (some (.exn c vs))) S).out i else pick sub c vs l S r
def sTry (nC : Nat) (sub : Nat → Nat → Bool) (m : SS) (hs : List Hd) : SS := fun l S => match m l S with
  | .exc c vs l' S' => if c < nC then pick sub c vs l' S' hs else .bad
  | o => o
/-- the wish -/
def wAsM (K : PySem.W.Frag) (Wout : WX) (D : Ends) : List (Value × Nat × (Addr → Value → Option Addr → TS)) → WX
  | [] => Wout
  | (c, i, ts) :: r => fun cls d σ H => ∃ b, PySem.W.exmOne K cls c = some b ∧ (b = true → ∀ a, H a = none → ts a cls d { nx := fun σ' H' => D.nx (σ'.set i none) H', rt := D.rt, bk := fun σ' H' => D.bk (σ'.set i none) H', ct := fun σ' H' => D.ct (σ'.set i none) H' } (σ.set i (some (.ref a))) H) ∧ (b = false → wAsM K Wout D r cls d σ H)
inductive HdAs (X : Cx) : List ExceptHandler → List (Value × Nat × (Addr → Value → Option Addr → TS)) → Prop
  | nil : HdAs X [] []
  | cons {x n : Str} {c : Value} {i : Nat} {ts : Addr → Value → Option Addr → TS} {b₀ : Stmt} {suite : List Stmt} {np pos' : Pos} {hds : List ExceptHandler} {l : List (Value × Nat × (Addr → Value → Option Addr → TS))} (hc : Names X x c) (hi : X.N[i]? = some n) (hln : X.env.kindOf n = some .local)
      (hsu : ∀ (a : Addr) (oe : Obj) (cls : Value) (d : Option Addr) (pn : List (Addr × Obj)), Zc cls d oe → (∃ vs, oe.data = .fields vs) → PSs (X.suite a ((a, oe) :: pn)) (b₀ :: suite) (ts a cls d)) (r : HdAs X hds l) :
      HdAs X (.ExceptHandler (some (.Name x np)) (some n) (b₀ :: suite) pos' :: hds) ((c, i, ts) :: l)
theorem ps_tryAs {body : List Stmt} {h₀ : ExceptHandler} {hds : List ExceptHandler} {ls : List (Value × Nat × (Addr → Value → Option Addr → TS))} {tb : WX → TS} {Wout : WX} (hst : X.stack = X.env :: X.outer) (hf : X.env.frame = some X.env.locals) (hN : X.N.Nodup) (tk : Takes X Wout)
    (hb : ∀ (W : WX) (pn : List (Addr × Obj)) (xe : Value → Shared → Prop), Takes (X.tr pn xe) W → PassesOwn (model X.prog X.w) X.A X.env xe → PSs (X.tr pn xe) body (tb W))
    (hh : HdAs X (h₀ :: hds) ls) : PS X (.Try body (h₀ :: hds) [] [] pos) (fun D σ H => tb (wAsM X.K Wout D ls) D σ H) := by
  refine ⟨fun pins s σ H D I h => ?_⟩
  have ok := I.ok
  have frames : X.A.frames = some (X.env :: X.outer) := by rw [ok.frames, hst]
  refine wpAny_Try_except ?_
  refine wpAny_mono ((hb (wAsM X.K Wout D ls) (X.pn ++ pins) (fun e s1 => wpAny (model X.prog X.w) X.A (noteFrame e X.env) (fun _ s2 => wpAny (model X.prog X.w) X.A (setFlight e none) (fun _ s3 =>
    wpAny (model X.prog X.w) X.A (handleBy e X.env (h₀ :: hds)) (SP X pins D) X.xe s3) X.xe s2) X.xe s1) (fun u s' xx => ?_) PassesOwn.looking).run [] s σ H D (I.toTry _) h) (fun f s1 hsp => ?_) (fun _ _ z => z)
  · obtain ⟨a, B, sI, pZ, σ', H', cls, d, rfl, J', nb, up, sky, na, os, ag, w⟩ := xx
    have J : Inv X pins σ' H' sI := J'.ofTry ok
    have sky' : Sky B (X.env :: X.outer) a (Zc cls d) X.env.locals s'.heap := by rw [← hst]; exact sky
    show wpAny _ X.A (noteFrame (.ref a) X.env) _ _ _
    refine Sky.land Zc.steady frames hf sky' fun h3 fl3 up3 => ?_
    have J3 : Inv X pins σ' H' { s' with heap := h3 } := J.landed nb fl3.1 (up.trans up3) os ag
    obtain ⟨oe3, vs3, he3, hz3, hd3⟩ := fl3.there
    have away : a ∉ frs (X.env :: X.outer) := fun hm => by
      obtain ⟨_, o', e', hnf⟩ := fl3.2.2.1.mem hm
      rw [he3] at e'; cases e'
      exact hnf _ hd3
    have nL : a ≠ X.env.locals := fun z => away (List.mem_filterMap.mpr ⟨X.env, List.mem_cons_self, by rw [hf, z]⟩)
    have nF : a ∉ X.fs := fun hm => by
      obtain ⟨u, hu, q⟩ := List.mem_filterMap.mp hm
      exact away (List.mem_filterMap.mpr ⟨u, List.mem_cons_of_mem _ hu, q⟩)
    have S3 := J3.suite he3 hd3 na nL nF
    have go : ∀ {hs' : List ExceptHandler} {l' : List (Value × Nat × (Addr → Value → Option Addr → TS))}, HdAs X hs' l' → wAsM X.K Wout D l' cls d σ' H' → wpAny (model X.prog X.w) X.A (handleBy (.ref a) X.env hs') (SP X pins D) X.xe { s' with heap := h3 } := by
      intro hs' l' hk
      induction hk with
      | nil =>
        intro w
        refine wpAny_handleBy_nil ?_
        obtain ⟨k1, k2, k3, oe, vs, T, oT, ts', he, hz, hd, h1, hr⟩ := id fl3
        unfold PySem.passOn
        refine wpAny_bind (wpAny_field he hd h1 ?_)
        rw [if_neg (show ¬ ((Value.ref T == Value.none) = true) from by simp)]
        have fin : wpAny (model X.prog X.w) X.A (setFlight (.ref a) X.env.frame) (fun _ s4 => wpAny (model X.prog X.w) X.A (throw (.ref a) : Sem Flow) (SP X pins D) X.xe s4) X.xe { s' with heap := h3 } := by
          rw [hf]
          exact HandSPX.setFlight_upZ fl3 fun h4 hh4 up4 => wpAny_throw (tk _ _ ⟨a, B, sI, pins, σ', H', cls, d, rfl, J, nb, (up.trans up3).trans up4, .inr (.inr (by rw [hst]; exact hh4)), na, os, ag, w⟩)
        first
          | exact wpAny_bind (wpAny_pure (wpAny_bind fin))
          | exact wpAny_bind fin
      | @cons x n c i ts b₀ suite np pos' hds2 l2 hc hi hln hsu r ih =>
        intro w
        obtain ⟨b, hb1, hyes, hno⟩ := w
        refine wpAny_handleBy_cons (codeAny_handlers_test ?_) (by intro q; cases q)
        have LT : PySem.W.Looks (model X.prog X.w) h3 (typeOf (.ref a)) cls := fun _ _ _ _ k q => wpAny_typeOf_ref (k _ _ he3) (by rw [hz3.1]; exact q)
        have LM := PySem.W.exm_one (M := model X.prog X.w) (J3.kIn) LT hb1
        have test : ∀ {Q : Value → Shared → Prop} {E : Value → Shared → Prop}, Q c { s' with heap := h3 } → wpAny (model X.prog X.w) (X.A.mark (some (.ref a))) (eval (.Name x np) X.env) Q E { s' with heap := h3 } := fun {Q E} q => by
          obtain ⟨hg, hdbg, hm | ⟨hm, hv, hnn⟩⟩ := hc
          · exact ld_glob (X := X.suite a ((a, oe3) :: (X.pn ++ pins))) S3 hg hm q hdbg
          · exact ld_blt (X := X.suite a ((a, oe3) :: (X.pn ++ pins))) S3 hg hm hv q hnn hdbg
        refine test (LM.here ?_)
        cases b with
        | false =>
          show wpAny _ X.A (handleBy (.ref a) X.env hds2) _ _ _
          exact ih (hno rfl)
        | true =>
          refine codeAny_handlers_suite_as ?_
          refine HandSPX.lands_againZ fl3 fun h4 fl4 up4 => ?_
          have J4 : Inv X pins σ' H' { s' with heap := h4 } := J.landed nb fl4.1 ((up.trans up3).trans up4) os ag
          obtain ⟨oe4, vs4, he4, hz4, hd4⟩ := fl4.there
          have S4 := J4.suite he4 hd4 na nL nF
          refine store_ok (X := X.suite a ((a, oe4) :: (X.pn ++ pins))) (v := .ref a) S4 hN hi (.inl hln) rfl (fun s5 S5 => ?_) (.inr hln)
          refine wpAny_mono ((hsu a oe4 cls d (X.pn ++ pins) hz4 ⟨_, hd4⟩).run [] s5 _ H' _ S5 (hyes rfl a na)) (fun f s6 hsp => ?_) (fun _ _ z => z.elim)
          have leave : ∀ {σ6 : L2.St} {H6 : Hp} {Q : Shared → Prop}, Inv (X.suite a ((a, oe4) :: (X.pn ++ pins))) [] σ6 H6 s6 → (∀ s7, Inv X pins (σ6.set i none) H6 s7 → Q s7) →
              wpAny (model X.prog X.w) X.A (do bindName X.env n .none; unbindBehindTheSuite X.env n pos') (fun _ s7 => Q s7) X.xe s6 := fun {σ6 H6 Q} S6 hq => gone_ok (S6.unsuite ok) hN hi hln hq
          cases f with
          | ret u =>
            obtain ⟨v6, σ6, H6, S6, r6, q6⟩ := hsp
            exact leave S6 fun s7 J7 => ⟨_, _, _, J7, r6, q6⟩
          | next =>
            obtain ⟨σ6, H6, S6, q6⟩ := hsp
            exact leave S6 fun s7 J7 => ⟨_, _, J7, q6⟩
          | brk =>
            obtain ⟨σ6, H6, S6, q6⟩ := hsp
            exact leave S6 fun s7 J7 => ⟨_, _, J7, q6⟩
          | cont =>
            obtain ⟨σ6, H6, S6, q6⟩ := hsp
            exact leave S6 fun s7 J7 => ⟨_, _, J7, q6⟩
    exact go hh w
  · cases f with
    | ret u =>
      obtain ⟨v, σ', H', J', r, q⟩ := hsp
      exact ⟨v, σ', H', J'.ofTry ok, r, q⟩
    | next =>
      obtain ⟨σ', H', J', q⟩ := hsp
      exact wpAny_execs_nil ⟨σ', H', J'.ofTry ok, q⟩
    | brk =>
      obtain ⟨σ', H', J', q⟩ := hsp
      exact ⟨σ', H', J'.ofTry ok, q⟩
    | cont =>
      obtain ⟨σ', H', J', q⟩ := hsp
      exact ⟨σ', H', J'.ofTry ok, q⟩

/-! the pure side -/
/-- the clauses read -/
inductive HdB (X : Cx) (κ : Kx) (sub : Nat → Nat → Bool) (nC : Nat) : List ExceptHandler → List Hd → Prop
  | nil : HdB X κ sub nC [] []
  | cons {x n : Str} {ch i : Nat} {m : SS} {b₀ : Stmt} {suite : List Stmt} {np pos' : Pos} {hds : List ExceptHandler} {l : List Hd} (hc : Names X x (.ref (κ.clA ch))) (hi : X.N[i]? = some n) (hln : X.env.kindOf n = some .local)
      (hx : ∀ c, c < nC → PySem.W.exmOne X.K (.ref (κ.clA c)) (.ref (κ.clA ch)) = some (sub c ch))
      (hsu : ∀ (a : Addr) (oe : Obj) (c : Nat) (d : Option Addr) (pn : List (Addr × Obj)), Zc (.ref (κ.clA c)) d oe → (∃ vs, oe.data = .fields vs) → PSs (X.suite a ((a, oe) :: pn)) (b₀ :: suite) (tS (κ.at fun o => o = some (a, c, d)) WF m)) (r : HdB X κ sub nC hds l) :
      HdB X κ sub nC (.ExceptHandler (some (.Name x np)) (some n) (b₀ :: suite) pos' :: hds) ((ch, i, m) :: l)
/-- a suite's reading, by the exception -/
def tHd (κ : Kx) (m : SS) : Addr → Value → Option Addr → TS := fun a cls d D σ H => ∃ c, cls = .ref (κ.clA c) ∧ tS (κ.at fun o => o = some (a, c, d)) WF m D σ H
def lsOf (κ : Kx) : List Hd → List (Value × Nat × (Addr → Value → Option Addr → TS))
  | [] => []
  | (ch, i, m) :: r => (.ref (κ.clA ch), i, tHd κ m) :: lsOf κ r
theorem hdAs_of {sub : Nat → Nat → Bool} {nC : Nat} : ∀ {hds : List ExceptHandler} {hs : List Hd}, HdB X κ sub nC hds hs → HdAs X hds (lsOf κ hs)
  | _, _, .nil => .nil
  | _, _, .cons hc hi hln hx hsu r => .cons hc hi hln (fun a oe cls d pn hz hd => ⟨fun pins s σ H D I ⟨c, e, h⟩ => by
      subst e
      exact (hsu a oe c d pn hz hd).run pins s σ H D I h⟩) (hdAs_of r)
theorem pick_ok {sub : Nat → Nat → Bool} {nC c : Nat} {vs : List D} {D' : Ends} (hcn : c < nC) : ∀ {hds : List ExceptHandler} {hs : List Hd} {g : Gh} {H : Hp} {S : Store} {l : Loc} {σ : L2.St} {dv : Option Addr}, HdB X κ sub nC hds hs → RS κ g H S → FR κ g H l σ → XF κ g H c vs dv → κ.gx g.xc →
    KO κ W g H (pick sub c vs l S hs) D' → wAsM X.K W D' (lsOf κ hs) (.ref (κ.clA c)) dv σ H
  | _, _, g, H, S, l, σ, dv, .nil, s, fr, x, hg, h => h g σ dv H (.refl _ _) s fr x
  | _, _, g, H, S, l, σ, dv, .cons (ch := ch) (i := i) (m := m) hc hi hln hx hsu r, s, fr, x, hg, h => by
    refine ⟨sub c ch, hx c hcn, fun hb a ha => ?_, fun hb => ?_⟩
    · unfold pick at h
      rw [if_pos hb] at h
      refine ⟨c, rfl, g.hold (some (a, c, dv)), (noX l).set i (some (.exn c vs)), S, s.hold rfl, ?_, ?_⟩
      · have f1 : FR (κ.at fun o => o = some (a, c, dv)) (g.hold (some (a, c, dv))) H (noX l) σ := fr.hold
        exact f1.setX (.inr ⟨c, vs, a, dv, rfl, rfl, rfl, x.hold⟩)
      · have back : ∀ {g' : Gh} {H' : Hp} {S' : Store}, Ext (g.hold (some (a, c, dv))) H g' H' → RS (κ.at fun o => o = some (a, c, dv)) g' H' S' → RS κ (g'.hold g.xc) H' S' := fun x s => RS.hold (κ := κ.at fun o => o = some (a, c, dv)) (gx := κ.gx) s hg
        cases q : m ((noX l).set i (some (.exn c vs))) S with
        | nx l' S' => rw [q] at h; exact fun g' σ' H' x s f => h (g'.hold g.xc) _ H' x.hold (back x s) (FR.hold (κ := κ.at fun o => o = some (a, c, dv)) (gx := κ.gx) f.unset)
        | brk l' S' => rw [q] at h; exact fun g' σ' H' x s f => h (g'.hold g.xc) _ H' x.hold (back x s) (FR.hold (κ := κ.at fun o => o = some (a, c, dv)) (gx := κ.gx) f.unset)
        | cnt l' S' => rw [q] at h; exact fun g' σ' H' x s f => h (g'.hold g.xc) _ H' x.hold (back x s) (FR.hold (κ := κ.at fun o => o = some (a, c, dv)) (gx := κ.gx) f.unset)
        | ret d S' => rw [q] at h; exact fun g' v H' x s r => h (g'.hold g.xc) v H' x.hold (back x s) (RT.hold (κ := κ.at fun o => o = some (a, c, dv)) (gx := κ.gx) r)
        | exc cc ws l' S' => rw [q] at h; exact h.elim
        | bad => rw [q] at h; exact h.elim
    · unfold pick at h
      rw [if_neg (by rw [hb]; exact Bool.false_ne_true)] at h
      exact pick_ok hcn r s fr x hg h
theorem s_try {body : List Stmt} {h₀ : ExceptHandler} {hds : List ExceptHandler} {hs : List Hd} {sub : Nat → Nat → Bool} {nC : Nat} {mb : SS} (hst : X.stack = X.env :: X.outer) (hf : X.env.frame = some X.env.locals) (hN : X.N.Nodup) (tk : Takes X W)
    (hb : ∀ (W : WX) (pn : List (Addr × Obj)) (xe : Value → Shared → Prop), Takes (X.tr pn xe) W → PassesOwn (model X.prog X.w) X.A X.env xe → PSs (X.tr pn xe) body (tS κ W mb)) (hh : HdB X κ sub nC (h₀ :: hds) hs) :
    PS X (.Try body (h₀ :: hds) [] [] pos) (tS κ W (sTry nC sub mb hs)) :=
  (ps_tryAs (tb := fun W => tS κ W mb) hst hf hN tk hb (hdAs_of hh)).imp fun D' σ H ⟨g, l, S, s, fr, h⟩ => by
    refine ⟨g, l, S, s, fr, ?_⟩
    unfold sTry at h
    cases q : mb l S with
    | exc c vs l' S' =>
      rw [q] at h
      by_cases hc : c < nC
      · have h : KO κ W g H (if c < nC then pick sub c vs l' S' hs else .bad) D' := h
        rw [if_pos hc] at h
        exact fun g' σ' dv H' x s' f' xf => pick_ok hc hh s' f' xf s'.hx (KO.on x h)
      · have h : KO κ W g H (if c < nC then pick sub c vs l' S' hs else .bad) D' := h
        rw [if_neg hc] at h
        exact h.elim
    | nx l' S' => rw [q] at h; exact h
    | brk l' S' => rw [q] at h; exact h
    | cnt l' S' => rw [q] at h; exact h
    | ret d S' => rw [q] at h; exact h
    | bad => rw [q] at h; exact h
/-- e.f -/
def mXf (i c : Nat) : SE := fun l S => match l[i]? with
  | some (some (.exn c' [d])) => if c' = c then .ok d S else .bad
  | _ => .bad
theorem p_xf {a : Addr} {oe : Obj} {c0 c i : Nat} {d : Option Addr} {pn : List (Addr × Obj)} {x fl : Str} {p : Pos} (T : XfC X.K (κ.clA c)) (hno : PySem.W.findIn X.K (.ref (κ.clA c)) fl = some none) (hfl : κ.fld c = fl) (hz : Zc (.ref (κ.clA c0)) d oe) (hd : ∃ vs, oe.data = .fields vs)
    (hN : X.N[i]? = some x) (hv : Vis X.env.scope x) (hb : attributeBase (.Name x p) fl X.env (eval (.Name x p) X.env) = eval (.Name x p) X.env := by rfl) (h1 : (x == ("__debug__" : Str)) = false := by decide) (h2 : (x == ("__classdict__" : Str)) = false := by decide) :
    PE (X.suite a ((a, oe) :: pn)) (.Attribute (.Name x p) fl pos) (tM (κ.at fun o => o = some (a, c0, d)) WF (mXf i c)) := ⟨fun pins s σ H Q I ⟨g, l, S, s', fr, h⟩ => by
  unfold mXf at h
  have xc : g.xc = some (a, c0, d) := s'.hx
  split at h
  · rename_i c' d' e1
    obtain ⟨ec, hk⟩ := KG.ite h
    clear h
    obtain ⟨v, e3, r⟩ := fr.2 i _ e1
    rcases r with r | ⟨c2, vs, a2, dx, e4, e5, e6, e7⟩
    · cases r
    · cases e4
      subst e5
      rw [xc] at e6
      cases e6
      obtain ⟨dd, w, e8, e9, r⟩ := e7
      cases e8
      subst ec
      refine (pe_xf (n := fl) T hno hz hd (pe_var (X := X.suite a ((a, oe) :: pn)) hN hv h1 h2) hb).run pins s σ H Q I ⟨.ref a, e3, rfl, rfl, dd, [(κ.fld _, w)], w, rfl, e9, ?_, hk g w H (.refl _ _) s' (.rd r)⟩
      show List.lookup fl [(κ.fld _, w)] = some w
      rw [hfl]
      simp [List.lookup]
  · exact h.elim⟩
end
end LB
end

section
set_option Elab.async false
set_option linter.all false
set_option maxRecDepth 100000
set_option maxHeartbeats 4000000
/-! Layer B, part 14: a def by its body; handles that nobody has any more. -/
namespace LB
open PySem PySem.Spec L2
open PyProof.Rows hiding St

/-! ### handles that are let go -/
mutual
def low (n : Nat) : D → Bool
  | .tup xs => lows n xs
  | .lst xs => lows n xs
  | .dic _ xs => lows n xs
  | .tmp xs => lows n xs
  | .tdic _ xs => lows n xs
  | .ref m => decide (m < n)
  | .exn _ xs => lows n xs
  | .non => true
  | .bl _ => true
  | .int _ => true
  | .str _ => true
  | .scr _ => true
  | .fn _ => true
  | .cls _ => true
  | .ty _ => true
def lows (n : Nat) : List D → Bool
  | [] => true
  | d :: ds => low n d && lows n ds
end
def lowO (n : Nat) : SO → Bool
  | .lst xs => lows n xs
  | .dic _ xs => lows n xs
/-- a handle's place is taken by what it holds; top: the handle that may not occur -/
def unref (n : Nat) (top : Option Nat) (S : Store) (m : Nat) : Option D := if m < n then some (.ref m) else if some m = top then none else match S[m]? with
  | some (.lst xs) => if lows n xs = true then some (.lst xs) else none
  | some (.dic ks xs) => if lows n xs = true then some (.dic ks xs) else none
  | none => none
mutual
def conv (n : Nat) (top : Option Nat) (S : Store) : D → Option D
  | .tup xs => (convs n top S xs).map .tup
  | .lst xs => (convs n top S xs).map .lst
  | .dic ks xs => (convs n top S xs).map (.dic ks)
  | .ref m => unref n top S m
  | .tmp _ => none
  | .tdic _ _ => none
  | .exn _ _ => none
  | .non => some .non
  | .bl b => some (.bl b)
  | .int i => some (.int i)
  | .str z => some (.str z)
  | .scr ns => some (.scr ns)
  | .fn i => some (.fn i)
  | .cls i => some (.cls i)
  | .ty t => some (.ty t)
def convs (n : Nat) (top : Option Nat) (S : Store) : List D → Option (List D)
  | [] => some []
  | d :: ds => match conv n top S d, convs n top S ds with
    | some d', some ds' => some (d' :: ds')
    | _, _ => none
end
def convT (n : Nat) (S : Store) : D → Option D
  | .tmp xs => (convs n none S xs).map .tmp
  | .tdic ks xs => (convs n none S xs).map (.tdic ks)
  | .ref m => if m < n then some (.ref m) else match S[m]? with
    | some (.lst xs) => (convs n (some m) S xs).map .tmp
    | some (.dic ks xs) => (convs n (some m) S xs).map (.tdic ks)
    | none => none
  | d => conv n none S d
open Classical in
noncomputable def oldOk (S S' : Store) : Bool := if S'.take S.length = S then true else (S'.take S.length).all (lowO S.length)
noncomputable def gc (S : Store) (d : D) (S' : Store) : R D := if S'.length = S.length then .ok d S' else if oldOk S S' = true then match convT S.length S' d with
  | some d' => .ok d' (S'.take S.length)
  | none => .bad else .bad
noncomputable def gcX (S : Store) (c : Nat) (vs : List D) (S' : Store) : R D := if S'.length = S.length then .exc c vs S' else if oldOk S S' = true then match convs S.length none S' vs with
  | some vs' => .exc c vs' (S'.take S.length)
  | none => .bad else .bad
section
variable {κ : Kx} {g g' : Gh} {H H' : Hp} {S S' : Store}
mutual
theorem RD.low : ∀ {d : D} {v : V}, RD κ g H d v → low g.ι.length d = true
  | _, _, .non => rfl
  | _, _, .bl b => rfl
  | _, _, .int i => rfl
  | _, _, .str t => rfl
  | _, _, .tup h r => RDs.low r
  | _, _, .lst h f r => RDs.low r
  | _, _, .dic h f e r => RDs.low r
  | _, _, .scr h => rfl
  | _, _, .scrK h => rfl
  | _, _, .ref h => decide_eq_true (List.getElem?_eq_some_iff.mp h).1
  | _, _, .fn i => rfl
  | _, _, .cls i => rfl
  | _, _, .ty n => rfl
theorem RDs.low : ∀ {ds : List D} {vs : List V}, RDs κ g H ds vs → lows g.ι.length ds = true
  | _, _, .nil => rfl
  | _, _, .cons h t => Bool.and_eq_true_iff.mpr ⟨RD.low h, RDs.low t⟩
end
/-- the state after the release -/
def Gh.cut (g : Gh) (n : Nat) (p : Option Addr) : Gh := ⟨g.ι.take n, fun b => g.F b ∨ (b ∈ g.ι.drop n ∧ some b ≠ p), g.xc⟩
mutual
theorem RD.cut {n : Nat} {p : Option Addr} : ∀ {d : D} {v : V}, RD κ g H d v → low n d = true → RD κ (g.cut n p) H d v
  | _, _, .non, _ => .non
  | _, _, .bl b, _ => .bl b
  | _, _, .int i, _ => .int i
  | _, _, .str t, _ => .str t
  | _, _, .tup h r, l => .tup h (RDs.cut r l)
  | _, _, .lst h f r, l => .lst h (.inl f) (RDs.cut r l)
  | _, _, .dic h f e r, l => .dic h (.inl f) e (RDs.cut r l)
  | _, _, .scr h, _ => .scr h
  | _, _, .scrK h, _ => .scrK h
  | _, _, .ref h, l => .ref (by
      have l := of_decide_eq_true l
      show (g.ι.take n)[_]? = _
      rw [List.getElem?_take, if_pos l]
      exact h)
  | _, _, .fn i, _ => .fn i
  | _, _, .cls i, _ => .cls i
  | _, _, .ty n, _ => .ty n
theorem RDs.cut {n : Nat} {p : Option Addr} : ∀ {ds : List D} {vs : List V}, RDs κ g H ds vs → lows n ds = true → RDs κ (g.cut n p) H ds vs
  | _, _, .nil, _ => .nil
  | _, _, .cons h t, l => .cons (RD.cut h (Bool.and_eq_true_iff.mp l).1) (RDs.cut t (Bool.and_eq_true_iff.mp l).2)
end
/-- top and its address go together -/
def TopOk (g : Gh) (top : Option Nat) (p : Option Addr) : Prop := ∀ m a, some m ≠ top → g.ι[m]? = some a → some a ≠ p
theorem unref_ok {n m : Nat} {top : Option Nat} {p : Option Addr} {d' : D} {v : V} (s : RS κ g H S) (ht : TopOk g top p) (r : RD κ g H (.ref m) v) (e : unref n top S m = some d') : RD κ (g.cut n p) H d' v := by
  unfold unref at e
  by_cases h1 : m < n
  · rw [if_pos h1] at e
    cases e
    exact r.cut (decide_eq_true h1)
  · rw [if_neg h1] at e
    by_cases h2 : some m = top
    · rw [if_pos h2] at e; cases e
    · rw [if_neg h2] at e
      cases r with
      | @ref _ a h =>
        have hd : a ∈ g.ι.drop n := by
          refine List.mem_of_getElem? (i := m - n) ?_
          rw [List.getElem?_drop]
          have : n + (m - n) = m := by omega
          rw [this]
          exact h
        have hf : (g.cut n p).F a := .inr ⟨hd, ht m a h2 h⟩
        cases q : S[m]? with
        | none => simp [q] at e
        | some w =>
          have ob := s.ob m a w h q
          cases w with
          | lst xs =>
            simp only [q] at e
            obtain ⟨hl, rfl⟩ := ite_some e
            obtain ⟨vs, h3, h4⟩ := ob
            exact .lst h3 hf (h4.cut hl)
          | dic ks xs =>
            simp only [q] at e
            obtain ⟨hl, rfl⟩ := ite_some e
            obtain ⟨vs, h3, h5, h4⟩ := ob
            exact .dic h3 hf h5 (h4.cut hl)
mutual
theorem conv_ok {n : Nat} {top : Option Nat} {p : Option Addr} (s : RS κ g H S) (ht : TopOk g top p) : ∀ {d d' : D} {v : V}, RD κ g H d v → conv n top S d = some d' → RD κ (g.cut n p) H d' v
  | .tup xs, _, _, .tup h r, e => by
    obtain ⟨ys, e1, rfl⟩ := Option.map_eq_some_iff.mp e
    exact .tup h (convs_ok s ht r e1)
  | .lst xs, _, _, .lst h f r, e => by
    obtain ⟨ys, e1, rfl⟩ := Option.map_eq_some_iff.mp e
    exact .lst h (.inl f) (convs_ok s ht r e1)
  | .dic ks xs, _, _, .dic h f q r, e => by
    obtain ⟨ys, e1, rfl⟩ := Option.map_eq_some_iff.mp e
    exact .dic h (.inl f) q (convs_ok s ht r e1)
  | .ref m, _, _, r, e => unref_ok s ht r e
  | .non, _, _, .non, e => by cases e; exact .non
  | .bl b, _, _, .bl _, e => by cases e; exact .bl b
  | .int i, _, _, .int _, e => by cases e; exact .int i
  | .str z, _, _, .str _, e => by cases e; exact .str z
  | .scr ns, _, _, .scr h, e => by cases e; exact .scr h
  | .scr ns, _, _, .scrK h, e => by cases e; exact .scrK h
  | .fn i, _, _, .fn _, e => by cases e; exact .fn i
  | .cls i, _, _, .cls _, e => by cases e; exact .cls i
  | .ty t, _, _, .ty _, e => by cases e; exact .ty t
theorem convs_ok {n : Nat} {top : Option Nat} {p : Option Addr} (s : RS κ g H S) (ht : TopOk g top p) : ∀ {ds ds' : List D} {vs : List V}, RDs κ g H ds vs → convs n top S ds = some ds' → RDs κ (g.cut n p) H ds' vs
  | [], _, _, .nil, e => by cases e; exact .nil
  | d :: ds, _, _, .cons h t, e => by
    unfold convs at e
    cases e1 : conv n top S d with
    | none => simp [e1] at e
    | some d' =>
      cases e2 : convs n top S ds with
      | none => simp [e1, e2] at e
      | some ds' =>
        simp [e1, e2] at e
        subst e
        exact .cons (conv_ok s ht h e1) (convs_ok s ht t e2)
end
theorem nodup_cut {l : List Addr} {n : Nat} {a : Addr} (h : l.Nodup) (h1 : a ∈ l.drop n) : a ∉ l.take n := fun h2 => by
  rw [← List.take_append_drop n l, List.nodup_append] at h
  exact h.2.2 a h2 a h1 rfl
theorem cut_ok {p : Option Addr} (s0 : RS κ g H S) (x : Ext g H g' H') (s : RS κ g' H' S') (ok : oldOk S S' = true) : Ext g H (g'.cut S.length p) H' ∧ RS κ (g'.cut S.length p) H' (S'.take S.length) := by
  obtain ⟨t, et⟩ := x.pre
  have etk : g'.ι.take S.length = g.ι := by rw [← s0.len, ← et, List.take_left]
  have edr : g'.ι.drop S.length = t := by rw [← s0.len, ← et, List.drop_left]
  have new : ∀ {b}, b ∈ g'.ι.drop S.length → H b = none := fun {b} hb => by
    rcases x.nw b (List.mem_of_mem_drop hb) with q | q
    · exact absurd (etk ▸ q) (nodup_cut s.nd hb)
    · exact q
  refine ⟨⟨by show g.ι <+: g'.ι.take S.length; rw [etk]; exact List.prefix_refl _, x.keep, x.live, fun b hb => .inl (etk ▸ hb), fun b hb => .inl (x.fm b hb), fun b hb => ?_, x.xc⟩, ?_⟩
  · rcases hb with hb | ⟨hb, _⟩
    · exact x.fn b hb
    · exact .inr (new hb)
  · have lowS : ∀ (n : Nat) (o : SO), (S'.take S.length)[n]? = some o → lowO S.length o = true := fun n o e => by
      unfold oldOk at ok
      split at ok
      · rename_i hS
        rw [hS] at e
        have hn : n < g.ι.length := by rw [s0.len]; exact (List.getElem?_eq_some_iff.mp e).1
        have ob := s0.ob n _ o (List.getElem?_eq_getElem hn) e
        cases o with
        | lst xs => obtain ⟨vs, _, r⟩ := ob; rw [← s0.len]; exact r.low
        | dic ks xs => obtain ⟨kvs, _, _, r⟩ := ob; rw [← s0.len]; exact r.low
      · exact List.all_eq_true.mp ok o (List.mem_of_getElem? e)
    refine ⟨?_, ?_, fun n a o h1 h2 => ?_, fun b hb => ?_, fun b hb => ?_, s.hx⟩
    · show (g'.ι.take S.length).length = (S'.take S.length).length
      rw [List.length_take, List.length_take, s.len]
    · exact s.nd.sublist (List.take_sublist _ _)
    · have h1 : (g'.ι.take S.length)[n]? = some a := h1
      have lo := lowS n o h2
      rw [List.getElem?_take] at h1 h2
      by_cases hn : n < S.length
      · rw [if_pos hn] at h1 h2
        have ob := s.ob n a o h1 h2
        cases o with
        | lst xs => obtain ⟨vs, h, r⟩ := ob; exact ⟨vs, h, r.cut lo⟩
        | dic ks xs => obtain ⟨kvs, h, e, r⟩ := ob; exact ⟨kvs, h, e, r.cut lo⟩
      · rw [if_neg hn] at h1; cases h1
    · rcases hb with hb | ⟨hb, _⟩
      · exact fun z => s.fr b hb (List.mem_of_mem_take z)
      · exact nodup_cut s.nd hb
    · rcases hb with hb | ⟨hb, _⟩
      · exact s.fl b hb
      · exact s.liveι (List.mem_of_mem_drop hb)
theorem topNone : TopOk g' none none := fun _ _ _ _ => fun z => nomatch z
theorem gc_ok {d d2 : D} {v : V} {S2 : Store} (s0 : RS κ g H S) (x : Ext g H g' H') (s : RS κ g' H' S') (r : RT κ H g' H' d v) (e : gc S d S' = .ok d2 S2) : ∃ g2, Ext g H g2 H' ∧ RS κ g2 H' S2 ∧ RT κ H g2 H' d2 v := by
  unfold gc at e
  by_cases hl : S'.length = S.length
  · rw [if_pos hl] at e
    cases e
    exact ⟨g', x, s, r⟩
  · rw [if_neg hl] at e
    by_cases ok : oldOk S S' = true
    · rw [if_pos ok] at e
      cases ec : convT S.length S' d with
      | none => simp [ec] at e
      | some d' =>
        simp only [ec] at e
        cases e
        have plain : RD κ g' H' d v → conv S.length none S' d = some d2 → ∃ g2, Ext g H g2 H' ∧ RS κ g2 H' (S'.take S.length) ∧ RT κ H g2 H' d2 v := fun r e => by
          obtain ⟨x2, s2⟩ := cut_ok (p := none) s0 x s ok
          exact ⟨_, x2, s2, .rd (conv_ok s topNone r e)⟩
        cases r with
        | rd r =>
          cases d with
          | ref m =>
            have ec : (if m < S.length then some (D.ref m) else match S'[m]? with
              | some (.lst xs) => (convs S.length (some m) S' xs).map .tmp
              | some (.dic ks xs) => (convs S.length (some m) S' xs).map (.tdic ks)
              | none => none) = some d2 := ec
            by_cases hm : m < S.length
            · rw [if_pos hm] at ec
              cases ec
              exact plain r (by show unref _ _ _ _ = _; unfold unref; rw [if_pos hm])
            · rw [if_neg hm] at ec
              cases r with
              | @ref _ a h =>
                obtain ⟨x2, s2⟩ := cut_ok (p := some a) s0 x s ok
                have top : TopOk g' (some m) (some a) := fun m' a' h1 h2 z => by
                  cases z
                  obtain ⟨l1, q1⟩ := List.getElem?_eq_some_iff.mp h
                  obtain ⟨l2, q2⟩ := List.getElem?_eq_some_iff.mp h2
                  exact h1 (congrArg some ((List.getElem_inj s.nd).mp (q2.trans q1.symm)))
                have hd : a ∈ g'.ι.drop S.length := by
                  refine List.mem_of_getElem? (i := m - S.length) ?_
                  rw [List.getElem?_drop]
                  have : S.length + (m - S.length) = m := by omega
                  rw [this]
                  exact h
                have n1 : a ∉ (g'.cut S.length (some a)).ι := nodup_cut s.nd hd
                have n2 : ¬ (g'.cut S.length (some a)).F a := fun z => z.elim (fun z => s.fr a z (List.mem_of_getElem? h)) fun z => z.2 rfl
                have n3 : H a = none := by
                  rcases x.nw a (List.mem_of_getElem? h) with q | q
                  · obtain ⟨t, et⟩ := x.pre
                    exact absurd (by rw [← s0.len, ← et, List.take_left]; exact q) (nodup_cut s.nd hd)
                  · exact q
                cases q : S'[m]? with
                | none => simp [q] at ec
                | some w =>
                  have ob := s.ob m a w h q
                  cases w with
                  | lst xs =>
                    simp only [q] at ec
                    obtain ⟨ys, e1, rfl⟩ := Option.map_eq_some_iff.mp ec
                    obtain ⟨vs, h3, h4⟩ := ob
                    exact ⟨_, x2, s2, .tmp h3 n1 n2 n3 (convs_ok s top h4 e1)⟩
                  | dic ks xs =>
                    simp only [q] at ec
                    obtain ⟨ys, e1, rfl⟩ := Option.map_eq_some_iff.mp ec
                    obtain ⟨vs, h3, h5, h4⟩ := ob
                    exact ⟨_, x2, s2, .tdic h3 n1 n2 n3 h5 (convs_ok s top h4 e1)⟩
          | tmp xs => cases r
          | tdic ks xs => cases r
          | _ => exact plain r ec
        | tmp h n1 n2 n3 r =>
          obtain ⟨ys, e1, rfl⟩ := Option.map_eq_some_iff.mp ec
          obtain ⟨x2, s2⟩ := cut_ok (p := none) s0 x s ok
          refine ⟨_, x2, s2, .tmp h (fun z => n1 (List.mem_of_mem_take z)) (fun z => ?_) n3 (convs_ok s topNone r e1)⟩
          exact z.elim n2 fun z => n1 (List.mem_of_mem_drop z.1)
        | tdic h n1 n2 n3 q r =>
          obtain ⟨ys, e1, rfl⟩ := Option.map_eq_some_iff.mp ec
          obtain ⟨x2, s2⟩ := cut_ok (p := none) s0 x s ok
          refine ⟨_, x2, s2, .tdic h (fun z => n1 (List.mem_of_mem_take z)) (fun z => ?_) n3 q (convs_ok s topNone r e1)⟩
          exact z.elim n2 fun z => n1 (List.mem_of_mem_drop z.1)
    · rw [if_neg ok] at e; cases e
theorem gc_ne {S S' S2 : Store} {d : D} {c : Nat} {vs : List D} : gc S d S' ≠ .exc c vs S2 := fun e => by
  unfold gc at e
  by_cases h1 : S'.length = S.length
  · rw [if_pos h1] at e; cases e
  · rw [if_neg h1] at e
    by_cases h2 : oldOk S S' = true
    · rw [if_pos h2] at e
      cases q : convT S.length S' d <;> simp only [q] at e <;> cases e
    · rw [if_neg h2] at e; cases e
theorem gcX_ne {S S' S2 : Store} {d : D} {c : Nat} {vs : List D} : gcX S c vs S' ≠ .ok d S2 := fun e => by
  unfold gcX at e
  by_cases h1 : S'.length = S.length
  · rw [if_pos h1] at e; cases e
  · rw [if_neg h1] at e
    by_cases h2 : oldOk S S' = true
    · rw [if_pos h2] at e
      cases q : convs S.length none S' vs <;> simp only [q] at e <;> cases e
    · rw [if_neg h2] at e; cases e
theorem gcX_ok {c c2 : Nat} {vs vs2 : List D} {dv : Option Addr} {S2 : Store} (s0 : RS κ g H S) (x : Ext g H g' H') (s : RS κ g' H' S') (f : XF κ g' H' c vs dv) (e : gcX S c vs S' = .exc c2 vs2 S2) : ∃ g2, Ext g H g2 H' ∧ RS κ g2 H' S2 ∧ XF κ g2 H' c2 vs2 dv := by
  unfold gcX at e
  by_cases hl : S'.length = S.length
  · rw [if_pos hl] at e
    cases e
    exact ⟨g', x, s, f⟩
  · rw [if_neg hl] at e
    by_cases ok : oldOk S S' = true
    · rw [if_pos ok] at e
      cases ec : convs S.length none S' vs with
      | none => simp [ec] at e
      | some ws =>
        simp only [ec] at e
        cases e
        obtain ⟨x2, s2⟩ := cut_ok (p := none) s0 x s ok
        refine ⟨_, x2, s2, ?_⟩
        match vs, f, ec with
        | [], f, ec => cases ec; exact f
        | [d], f, ec =>
          obtain ⟨dx, v, e1, e2, r⟩ := f
          unfold convs at ec
          cases q : conv S.length none S' d with
          | none => simp [q] at ec
          | some d' =>
            simp [q, convs] at ec
            subst ec
            exact ⟨dx, v, e1, e2, conv_ok s topNone r q⟩
    · rw [if_neg ok] at e; cases e
end

/-! ### a def -/
noncomputable def runD (m : Nat) (body : SS) : Fun := fun ds S => match body (ds.map some ++ List.replicate (m - ds.length) none) S with
  | .nx _ S' => gc S .non S'
  | .ret d S' => gc S d S'
  | .exc c vs _ S' => gcX S c vs S'
  | _ => .bad
theorem fr_start {κ : Kx} {g : Gh} {H : Hp} {ds : List D} {vs : List V} {N : List Str} (r : RDs κ g H ds vs) : FR κ g H (ds.map some ++ List.replicate (N.length - ds.length) none) (L2.start N vs) := by
  unfold L2.start
  rw [r.length]
  refine ⟨by simp [r.length], fun i d e => ?_⟩
  by_cases hi : i < ds.length
  · rw [List.getElem?_append_left (by simpa using hi)] at e
    rw [List.getElem?_append_left (by simpa [← r.length] using hi)]
    rw [List.getElem?_map] at e ⊢
    obtain ⟨d', e1, e2⟩ := Option.map_eq_some_iff.mp e
    cases e2
    obtain ⟨v, e3, q⟩ := r.get e1
    exact ⟨v, by rw [e3]; rfl, .inl q⟩
  · rw [List.getElem?_append_right (by simpa using hi)] at e
    rw [List.getElem?_replicate] at e
    split at e
    · cases e
    · cases e
section
variable {P : Program} {w : World} {K : PySem.W.Frag} {mg : Str → Option Value} {base : Heap} {x qual : Str} {params : Arguments} {body : List Stmt} {scope : Scope} {dvs : List V} {kws : List (Str × V)} {f : Addr} {fd : FuncData}
/-- the facts that a body may use of its context -/
structure Fx (X : Cx) (κ : Kx) (W : WX) (k : Nat) : Prop where
  hK : X.K = κ.K
  hu : X.A.units + 65 < cLine
  nd : X.N.Nodup
  hr : Room k X.A
  tk : Takes X W
theorem Fx.blk {X : Cx} {κ : Kx} {W : WX} {k : Nat} (h : Fx X κ W k) (s : Shared) (H : Hp) (scope : Scope) (ce : Env) (fp : List Addr) : Fx (X.blk s H scope ce fp) κ WF k := ⟨h.hK, h.hu, h.nd, h.hr, takes0⟩
theorem Fx.tr {X : Cx} {κ : Kx} {W W' : WX} {k : Nat} (h : Fx X κ W k) {pn : List (Addr × Obj)} {xe : Value → Shared → Prop} (t : Takes (X.tr pn xe) W') : Fx (X.tr pn xe) κ W' k := ⟨h.hK, h.hu, h.nd, h.hr, t⟩
theorem fn_ok {κ : Kx} {N ps : List Str} {k n : Nat} {m : SS} (F : FunD κ.K x qual params body scope dvs kws f fd) (S : FnScope N ps scope) (hn : ps.length = n)
    (hb : ∀ (gx : Option (Addr × Nat × Option Addr) → Prop) (cdv : Value) (A : Around) (outer : List Env) (s : Shared) (H : Hp) (E : XK), Fx (cxOf (L2.CX P w) P w κ.K mg base N qual scope f cdv A outer s H E) (κ.at gx) (fun cls d _ H' => E cls d H') k →
      PSs (cxOf (L2.CX P w) P w κ.K mg base N qual scope f cdv A outer s H E) body (tS (κ.at gx) (fun cls d _ H' => E cls d H') m)) : FnOk P w κ.K mg base (L2.CX P w) (k + 1) f fd ps (spOf κ n (runD N.length m)) := by
  refine F.ok S (fun vs H Q E h => h.1.trans hn.symm) fun cdv A outer s H vs Q E hr ⟨hl, gx, g, S0, ds, rs, rd, h⟩ => ?_
  refine ⟨_, hb gx cdv A outer s H E ⟨rfl, (show (A.deeper _).units + 65 < cLine by have := hr.un; omega), S.nd, hr, takes_of rfl rfl rfl rfl⟩, g, _, S0, rs, fr_start rd, ?_⟩
  unfold runD at h
  cases q : m (ds.map some ++ List.replicate (N.length - ds.length) none) S0 with
  | nx l S' =>
    simp only [q] at h
    intro g' σ' H' x' s' _
    cases e : gc S0 .non S' with
    | ok d2 S2 =>
      rw [e] at h
      obtain ⟨g2, x2, s2, r2⟩ := gc_ok rs x' s' (.rd .non : RT (κ.at gx) H g' H' .non .non) e
      exact h g2 _ H' x2 s2 r2
    | exc c vs S2 => exact absurd e gc_ne
    | bad => rw [e] at h; exact h.elim
  | ret d S' =>
    simp only [q] at h
    intro g' v H' x' s' r
    cases e : gc S0 d S' with
    | ok d2 S2 =>
      rw [e] at h
      obtain ⟨g2, x2, s2, r2⟩ := gc_ok rs x' s' r e
      exact h g2 _ H' x2 s2 r2
    | exc c vs S2 => exact absurd e gc_ne
    | bad => rw [e] at h; exact h.elim
  | exc c vs l S' =>
    simp only [q] at h
    intro g' σ' dv H' x' s' _ xf
    cases e : gcX S0 c vs S' with
    | exc c2 vs2 S2 =>
      rw [e] at h
      have ec : c2 = c := by
        unfold gcX at e
        split at e
        · cases e; rfl
        · split at e
          · split at e <;> cases e; rfl
          · cases e
      subst ec
      obtain ⟨g2, x2, s2, r2⟩ := gcX_ok rs x' s' xf e
      exact h g2 _ H' x2 s2 r2
    | ok d2 S2 => exact absurd e gcX_ne
    | bad => rw [e] at h; exact h.elim
  | brk l S' => simp only [q] at h; exact h.elim
  | cnt l S' => simp only [q] at h; exact h.elim
  | bad => simp only [q] at h; exact h.elim
end
end LB
end

section
set_option Elab.async false
set_option linter.all false
set_option maxRecDepth 100000
set_option maxHeartbeats 4000000
/-! Layer B, part 15: exception classes, the head. -/
namespace LB
open PySem PySem.Spec L2
open PyProof.Rows hiding St

/-! ### exception classes by a look -/
def oxB (K : PySem.W.Frag) (C : Addr) : Bool := (match K.lookup C with
  | some ⟨.type "type", _, .cls cd, sl⟩ => (match cd.mro, sl.toList with
    | .ref C' :: bm, [_, _, _, _, some (.builtin n), _] => C' == C && (n == "ValueError.__new__" && (!cd.hasDel && (cd.hasDict && PySem.HandSPX.refsVE bm)))
    | _, _ => false)
  | _ => false) && (decide (PySem.W.findIn K (.ref C) "__setattr__" = some (some (.builtin "object.__setattr__"))) && (decide (PySem.W.subIn K (.ref C) (.type "BaseException") = some true) && (decide (PySem.W.typeIn K (.ref C) = some (.type "type")) && PySem.W.keepIn K (.ref C))))
theorem oxB_ok {K : PySem.W.Frag} {C : Addr} (q : oxB K C = true) : OexC K C := by
  obtain ⟨q1, q⟩ := Bool.and_eq_true_iff.mp q
  obtain ⟨q2, q⟩ := Bool.and_eq_true_iff.mp q
  obtain ⟨q3, q⟩ := Bool.and_eq_true_iff.mp q
  obtain ⟨q4, q5⟩ := Bool.and_eq_true_iff.mp q
  refine ⟨?_, of_decide_eq_true q2, of_decide_eq_true q3, of_decide_eq_true q4, q5⟩
  split at q1
  · rename_i dd cd sl ho
    split at q1
    · rename_i C' bm k0 k1 k2 k3 n k5 hm hs
      simp only [Bool.and_eq_true, beq_iff_eq, Bool.not_eq_true'] at q1
      obtain ⟨rfl, rfl, hdel, hdic, ht⟩ := q1
      obtain ⟨nm, bs, mro, ns, qn, hd, sn, sub, ab, col, del⟩ := cd
      dsimp only at hm hdel hdic
      subst hm hdel hdic
      obtain ⟨l⟩ := sl
      have hs : l = [k0, k1, k2, k3, some (.builtin "ValueError.__new__"), k5] := hs
      subst hs
      exact ⟨nm, qn, ns, bs, bm, sn, sub, ab, col, dd, k0, k1, k2, k3, k5, ho, ht⟩
    · cases q1
  · cases q1
/-- what is looked up of the exception class of the name x with the field f -/
def xcB (K : PySem.W.Frag) (x f : Str) : Bool := oxB K (He.ga K x) && (decide (PySem.W.findIn K (.ref (He.ga K x)) "__init__" = some (some (.ref (He.ma K (He.ga K x) "__init__")))) && (decide (PySem.W.typeIn K (.ref (He.ma K (He.ga K x) "__init__")) = some (.type "function")) && (decide (PySem.W.findIn K (.ref (He.ga K x)) f = some none) && xfB K (He.ga K x))))
theorem ini_ok {P : Program} {w : World} {K : PySem.W.Frag} {mg : Str → Option Value} {base : Heap} {C fI : Addr} {fd : FuncData} {f a b qual : Str} {params : Arguments} {scope : Scope} {p1 p2 p3 pos : Pos} (T : OexC K C) (hno : PySem.W.findIn K (.ref C) f = some none)
    (F : FunD K "__init__" qual params [.Assign [.Attribute (.Name a p1) f p2] (.Name b p3) pos] scope [] [] fI fd) (S : FnScope [a, b] [a, b] scope) (va : Vis scope a) (vb : Vis scope b)
    (ha : (a == ("__debug__" : Str)) = false ∧ (a == ("__classdict__" : Str)) = false) (hb : (b == ("__debug__" : Str)) = false ∧ (b == ("__classdict__" : Str)) = false) (hs : ∀ env : Env, swapsWith (.Name b p3) (some (.Attribute (.Name a p1) f p2)) pos.line env = pure false) :
    FnOk P w K mg base (L2.CX P w) 1 fI fd [a, b] (spIni K C f) := by
  refine F.ok S (fun vs H Q E h => ?_) fun cdv A outer s H vs Q E hr h => ⟨tOst K f (tVar 0) (tVar 1), ?_, ?_⟩
  · obtain ⟨x, y, rfl, _⟩ := h
    rfl
  · exact pss_one (ps_ost (pe_var rfl va ha.1 ha.2) (pe_var rfl vb hb.1 hb.2) (hs _))
  · obtain ⟨x, y, rfl, hx, q⟩ := h
    exact ⟨y, rfl, .ref x, rfl, x, C, rfl, T, hno, .inl ⟨hx, q⟩⟩
theorem xcB_ok {P : Program} {w : World} {K : PySem.W.Frag} {mg : Str → Option Value} {base : Heap} {x f : Str} {fd : FuncData} {ps : List Str} (h : xcB K x f = true) (k : Nat)
    (F : OexC K (He.ga K x) → PySem.W.findIn K (.ref (He.ga K x)) f = some none → FnOk P w K mg base (L2.CX P w) 1 (He.ma K (He.ga K x) "__init__") fd ps (spIni K (He.ga K x) f)) (b : Binds K fd ps []) :
    XC P w K mg base (k + 1) (He.ga K x) f (He.ma K (He.ga K x) "__init__") fd ps := by
  obtain ⟨h1, h⟩ := Bool.and_eq_true_iff.mp h
  obtain ⟨h2, h⟩ := Bool.and_eq_true_iff.mp h
  obtain ⟨h3, h⟩ := Bool.and_eq_true_iff.mp h
  obtain ⟨h4, h5⟩ := Bool.and_eq_true_iff.mp h
  have T := oxB_ok h1
  have n := of_decide_eq_true h4
  exact ⟨T, of_decide_eq_true h2, of_decide_eq_true h3, (F T n).mono (Nat.succ_le_succ (Nat.zero_le k)), b, n, xfB_ok h5⟩

/-! ### tables of the top -/
section
variable {X : Cx} {κ : Kx} {W : WX} {pos : Pos}
theorem p_gtup {x : Str} {vs : List V} {ds : List D} {a : Addr} (hg : Gl X x) (hm : X.mg x = some (.ref a)) (h : ∀ H, SqT κ.K H a vs) (r : ∀ g H, RDs κ g H ds vs) (hd : (x == ("__debug__" : Str)) = false := by decide) : PE X (.Name x pos) (tM κ W (mC (.tup ds))) :=
  (pe_glob hg hm (v := .ref a) rfl hd).imp (tM_C fun g H => .tup (h H) (r g H))
theorem p_gint {x : Str} {i : Int} (hg : Gl X x) (hm : ∃ t, X.mg x = some (.int i t)) (hd : (x == ("__debug__" : Str)) = false := by decide) : PE X (.Name x pos) (tM κ W (mC (.int i))) := by
  obtain ⟨t, hm⟩ := hm
  exact (pe_glob hg hm (v := .int i) ⟨t, rfl⟩ hd).imp (tM_C fun _ _ => .int i)
theorem p_gstr {x : Str} {y : Str} (z : List Nat) (hg : Gl X x) (hm : ∃ t, X.mg x = some (.str y t)) (e : y = ⟨z.toArray⟩) (hd : (x == ("__debug__" : Str)) = false := by decide) : PE X (.Name x pos) (tM κ W (mC (.str z))) := by
  obtain ⟨t, hm⟩ := hm
  subst e
  exact (pe_glob hg hm (v := .str ⟨z.toArray⟩) ⟨t, rfl⟩ hd).imp (tM_C fun _ _ => .str z)
end

/-! ### the hook: defs, facts, a further look -/
def obB (n : Nat) (fa : List He.Fa) (fn : List He.DefD) (bs : PySem.W.Frag → Bool) (g : Addr → Option Obj) : He.AlD × Bool := (He.obsDG n fa fn g, bs (He.frG g (He.asD g n)))
def hookB (n : Nat) (fa : List He.Fa) (fn : List He.DefD) (bs : PySem.W.Frag → Bool) : PySem.W.Hook where
  α := He.AlD × Bool
  obs := fun s => obB n fa fn bs s.heap.get?
  val := fun _ => (He.valD fn, true)
  says := fun _ h => ∃ K : PySem.W.Frag, K.In h ∧ He.SaysD fa fn K ∧ bs K = true
  of := fun _ _ e => ⟨_, He.frG_in, congrArg Prod.fst e, congrArg Prod.snd e⟩
  keeps := fun _ _ _ ⟨K, hK, c⟩ k => ⟨K, PySem.W.Frag.In.keeps hK k, c⟩
theorem obB_eq {n : Nat} {fa : List He.Fa} {fn : List He.DefD} {bs : PySem.W.Frag → Bool} (s : PySem.W.SharedT) : obB n fa fn bs (HandSHeadRun.getT s) = (hookB n fa fn bs).obs s.abs := by
  have e : HandSHeadRun.getT s = s.abs.heap.get? := funext (HandSHeadRun.getT_eq s)
  rw [e] <;> rfl
/-! ### the script -/
theorem law_sp {κ : Kx} {F : Fun} {H : Hp} {a : Addr} {ns : List Int} (hx : κ.gx = fun _ => True) (hO : Only H) (hS : SqL κ.K H a (ns.map V.int)) (h : F [.scr ns] [] = .ok (.bl true) []) : spOf κ 1 F [.ref a] H (fun v _ => v = .bl true) fun _ _ _ => False := by
  refine ⟨rfl, fun _ => True, ⟨[], fun _ => False, none⟩, [], [.scr ns], ⟨rfl, List.nodup_nil, fun n a o h => by simp at h, fun _ z => z.elim, fun _ z => z.elim, trivial⟩, ?_, ?_⟩
  · refine .cons ?_ .nil
    rcases hS with (h | ⟨o, h⟩) | h
    · rcases hO a with z | ⟨o, xs, z⟩
      · rw [z] at h; cases h
      · rw [z] at h; cases h
    · exact .scr h
    · exact .scrK (.inr h)
  · rw [h]
    intro g' v H' x s r
    exact r.bl
/-- what a law may let out: the same, of some world -/
def CXe (P : Program) : CXT := fun outer H s E e s' => ∃ w, L2.CX P w outer H s E e s'
theorem cx0 {P : Program} (H : Hp) (s : Shared) (e : Value) (s' : Shared) (h : CXe P [] H s (fun _ _ _ => False) e s') : False := by
  obtain ⟨_, _, _, _, _, _, _, _, _, _, _, _, _, h⟩ := h
  exact h
theorem fn_cx {P : Program} {w : World} {K : PySem.W.Frag} {mg : Str → Option Value} {base : Heap} {k : Nat} {f : Addr} {fd : FuncData} {ps : List Str} {sp : Sp} (F : FnOk P w K mg base (L2.CX P w) k f fd ps sp) : FnOk P w K mg base (CXe P) k f fd ps sp :=
  ⟨F.len, fun A outer s H args us vs Q E hr he hb hv hs => codeAny_mono (F.run A outer s H args us vs Q E hr he hb hv hs) fun r s' h => match r, h with
    | .ok (.ret _), h => h
    | .ok .next, h => h
    | .ok .brk, h => h
    | .ok .cont, h => h
    | .error _, h => ⟨w, h⟩⟩
end LB
end

section
set_option Elab.async false
set_option linter.all false
set_option maxRecDepth 100000
set_option maxHeartbeats 4000000
/-! Layer B, part 16: a, b = x, y; keyword calls; an iterator by a name. -/
namespace LB
open PySem PySem.Spec L2
open PyProof.Rows hiding St

section
variable {X : Cx} {κ : Kx} {W : WX} {a b c e e2 : Expr} {ma mb mc : SE} {pos : Pos} {as : List (Bool × SE)} {es : List Expr}
/-! ### a, b = x, y -/
def sPar (is : List Nat) (as : List (Bool × SE)) : SS := fun l S => (mArgs as l S).toO l fun ds S1 => match bAll (is.map bN) ds l with
  | some l' => .nx l' S1
  | none => .bad
theorem s_par {i j : Nat} {x y : Str} {px py pt : Pos} {kt k2 : Nat} {pt2 : Pos} (hc : X.calm = true) (hN : X.N.Nodup) (ha : PA X [a, b] (tA κ W (mArgs as))) (hi : X.N[i]? = some x := by rfl) (hj : X.N[j]? = some y := by rfl) (hij : i ≠ j := by decide)
    (hx : X.env.scope.names.lookup x = some .local := by rfl) (hy : X.env.scope.names.lookup y = some .local := by rfl)
    (hw : swappedStores [.Tuple [.Name x px, .Name y py] kt pt] (.Tuple [a, b] k2 pt2) X.env = pure (some [x, y]) := by rfl)
    (hs : swapsWithSole [.Tuple [.Name x px, .Name y py] kt pt] (.Tuple [a, b] k2 pt2) pos.line X.env = pure false := by rfl) :
    PS X (.Assign [.Tuple [.Name x px, .Name y py] kt pt] (.Tuple [a, b] k2 pt2) pos) (tS κ W (sPar [i, j] as)) :=
  (ps_par hc hN hi hj hij hx hy ha hw hs).imp fun D' σ H ⟨g, l, S, s, fr, h⟩ => by
    refine ⟨g, l, S, s, fr, KG.imp (KO.of (rel := RL κ) s fr h) fun vs H1 ⟨g1, S1, ds, _, x1, s1, f1, r, h1⟩ => ?_⟩
    match ds, r, h1 with
    | [], _, h1 => exact h1.elim
    | [_], _, h1 => exact h1.elim
    | _ :: _ :: _ :: _, _, h1 => exact h1.elim
    | [d1, d2], r, h1 =>
      obtain ⟨v, w, rfl, q1, q2⟩ := r.two
      exact ⟨v, w, rfl, h1 g1 _ H1 (.refl _ _) s1 ((f1.set q1).set q2)⟩
theorem s_par3 {i j m : Nat} {x y z : Str} {px py pz pt : Pos} {kt k2 : Nat} {pt2 : Pos} (hc : X.calm = true) (hN : X.N.Nodup) (ha : PA X [a, b, c] (tA κ W (mArgs as))) (hi : X.N[i]? = some x := by rfl) (hj : X.N[j]? = some y := by rfl) (hm : X.N[m]? = some z := by rfl) (hij : i ≠ j := by decide) (him : i ≠ m := by decide) (hjm : j ≠ m := by decide)
    (hx : X.env.scope.names.lookup x = some .local := by rfl) (hy : X.env.scope.names.lookup y = some .local := by rfl) (hz : X.env.scope.names.lookup z = some .local := by rfl)
    (hw : swappedStores [.Tuple [.Name x px, .Name y py, .Name z pz] kt pt] (.Tuple [a, b, c] k2 pt2) X.env = pure (some [x, y, z]) := by rfl)
    (hs : swapsWithSole [.Tuple [.Name x px, .Name y py, .Name z pz] kt pt] (.Tuple [a, b, c] k2 pt2) pos.line X.env = pure false := by rfl) :
    PS X (.Assign [.Tuple [.Name x px, .Name y py, .Name z pz] kt pt] (.Tuple [a, b, c] k2 pt2) pos) (tS κ W (sPar [i, j, m] as)) :=
  (ps_par3 hc hN hi hj hm hij him hjm hx hy hz ha hw hs).imp fun D' σ H ⟨g, l, S, s, fr, h⟩ => by
    refine ⟨g, l, S, s, fr, KG.imp (KO.of (rel := RL κ) s fr h) fun vs H1 ⟨g1, S1, ds, _, x1, s1, f1, r, h1⟩ => ?_⟩
    match ds, r, h1 with
    | [], _, h1 => exact h1.elim
    | [_], _, h1 => exact h1.elim
    | [_, _], _, h1 => exact h1.elim
    | _ :: _ :: _ :: _ :: _, _, h1 => exact h1.elim
    | [d1, d2, d3], .cons (v := v) q1 (.cons (v := w) q2 (.cons (v := u) q3 .nil)), h1 =>
      exact ⟨v, w, u, rfl, h1 g1 _ H1 (.refl _ _) s1 (((f1.set q1).set q2).set q3)⟩

/-! ### f(k = v, ..) -/
def perm {α : Type} (pm : List Nat) (xs : List α) : List α := pm.filterMap fun i => xs[i]?
theorem RDs.perm {g : Gh} {H : Hp} {ds : List D} {vs : List V} (r : RDs κ g H ds vs) : ∀ pm : List Nat, RDs κ g H (LB.perm pm ds) (LB.perm pm vs)
  | [] => .nil
  | i :: pm => by
    have ih := RDs.perm r pm
    unfold LB.perm at ih ⊢
    cases e : ds[i]? with
    | none =>
      have hv : vs[i]? = none := by
        rw [List.getElem?_eq_none_iff] at e ⊢
        rw [← r.length]; exact e
      rw [List.filterMap_cons_none e, List.filterMap_cons_none hv]
      exact ih
    | some d =>
      obtain ⟨v, ev, q⟩ := r.get e
      rw [List.filterMap_cons_some e, List.filterMap_cons_some ev]
      exact .cons q ih
theorem perm_vals {vs : List V} {us : List Value} (r : Vals vs us) : ∀ pm : List Nat, Vals (LB.perm pm vs) (LB.perm pm us)
  | [] => .nil
  | i :: pm => by
    have ih := perm_vals r pm
    unfold LB.perm at ih ⊢
    cases e : vs[i]? with
    | none =>
      have hv : us[i]? = none := by
        rw [List.getElem?_eq_none_iff] at e ⊢
        rw [← r.length]; exact e
      rw [List.filterMap_cons_none e, List.filterMap_cons_none hv]
      exact ih
    | some d =>
      obtain ⟨v, ev, q⟩ := r.get e
      rw [List.filterMap_cons_some e, List.filterMap_cons_some ev]
      exact .cons q ih
/-- how keywords alone are bound -/
def KwB (K : PySem.W.Frag) (fd : FuncData) (ps ks : List Str) (pm : List Nat) : Prop := ∀ (s : Shared) (ws : List Value), K.In s.heap → ws.length = ks.length → BindsTo s fd ⟨[], ks.zip ws⟩ (ps.zip (perm pm ws))
theorem kwB_of {K : PySem.W.Frag} {x qual : Str} {params : Arguments} {body : List Stmt} {scope : Scope} {kws : List (Str × V)} {f : Addr} {fd : FuncData} {ps ks : List Str} {pm : List Nat} (F : FunD K x qual params body scope [] kws f fd)
    (h : ∀ (kV doc pm' : Value) (an : Option Addr) (cdv ct : Value) (ws : List Value), ws.length = ks.length → bindArgs (PySem.W.fnOf x qual params body scope .none kV doc pm' an cdv ct) ⟨[], ks.zip ws⟩ = pure (ps.zip (perm pm ws))) : KwB K fd ps ks pm := by
  obtain ⟨oc, od, dV, kV, doc, pm', an, cdv, ct, osl, rfl, lk, hcd, hD, hK⟩ := F.ex
  rcases hD with ⟨_, rfl⟩ | ⟨e, _⟩
  · exact fun s ws _ hl => .of_eq (h kV doc pm' an cdv ct ws hl)
  · exact absurd rfl e
def mCallP (F : Fun) (pm : List Nat) (as : List (Bool × SE)) : SE := fun l S => (mArgs as l S).bind fun ds S1 => F (perm pm ds) S1
theorem p_callP {n k : Nat} {F : Fun} {f : Addr} {fd : FuncData} {ps ks : List Str} {pm : List Nat} {x : Str} {p : Pos} {kws : List Keyword} (Fk : FnOk X.prog X.w X.K X.mg X.base (L2.CX X.prog X.w) k f fd ps (spOf κ n F)) (hr : Room k X.A) (tk : Takes X W) (hk : PySem.W.keepIn X.K (.ref f) = true) (hb : KwB X.K fd ps ks pm)
    (hm : X.mg x = some (.ref f)) (hkw : PK X kws (tA κ W (mArgs as))) (hg : Gl X x := by rfl) (hn : as.length = ks.length := by rfl) (hpm : pm.length = n ∧ ∀ i ∈ pm, i < ks.length := by decide) (hall : (backToKw pos (keywordEach kws X.env)).all (·.1.isSome) = true := by rfl) (hks : (backToKw pos (keywordEach kws X.env)).filterMap (·.1) = ks := by rfl)
    (hdb : (x == ("__debug__" : Str)) = false := by decide) (hpl : ((backTo pos (starEach [] X.env)).any (·.1) || (backToKw pos (keywordEach kws X.env)).any (·.1.isNone)) = false := by rfl) :
    PE X (.Call (.Name x p) [] kws pos) (tM κ W (mCallP F pm as)) := ⟨fun pins s σ H Q I ⟨g, l, S, s0, fr, h⟩ => by
  have h2 : tA κ W (mArgs as) σ H fun vs H1 => vs.length = ks.length ∧ spOf κ n F (perm pm vs) H1 Q (WE W σ) := by
    refine ⟨g, l, S, s0, fr, KG.imp (KG.bindE (rel1 := RL κ) back_RT h) fun vs H1 ⟨g1, S1, ds, e1, x1, s1, r1, h1⟩ => ?_⟩
    have el : vs.length = ks.length := by rw [← r1.length, mArgs_len e1]; exact hn
    have pl : (perm pm vs).length = n := by
      rw [← hpm.1]
      have : ∀ pm' : List Nat, (∀ i ∈ pm', i < ks.length) → (perm pm' vs).length = pm'.length := by
        intro pm'
        induction pm' with
        | nil => intro _; rfl
        | cons i pm' ih =>
          intro hh
          have hi : i < vs.length := by rw [el]; exact hh i List.mem_cons_self
          unfold LB.perm at ih ⊢
          rw [List.filterMap_cons_some (List.getElem?_eq_getElem hi), List.length_cons, List.length_cons, ih fun j hj => hh j (List.mem_cons_of_mem _ hj)]
      exact this pm hpm.2
    refine ⟨el, pl, κ.gx, g1, S1, perm pm ds, s1, r1.perm pm, ?_⟩
    revert h1
    cases F (perm pm ds) S1 with
    | ok d S2 => exact fun h1 => h1
    | exc c vs S2 => exact fun h1 => h1
    | bad => exact fun h1 => h1
  refine wpAny_Call_Name_kw (ld_glob I hg hm ?_ hdb)
  refine PySem.W.callWith_KW0 (h₀ := X.base) I.ok.mod.kin hk hall (thn (hkw.run pos pins s σ H _ I h2) fun ws s2 ⟨vs, H2, I2, r2, el, hsp⟩ => ⟨I2.kIn, ?_⟩) hpl
  rw [hks]
  have ew : ws.length = ks.length := r2.length.symm.trans el
  refine wpAny_call (codeAny_mono (Fk.run X.A X.stack s2 H2 ⟨[], ks.zip ws⟩ (perm pm ws) (perm pm vs) Q (WE W σ) hr I2.env0 (hb s2 ws I2.kIn ew) (perm_vals r2 pm) hsp) fun r s' hq => ?_)
  cases r with
  | error u => exact passAt tk σ pins H2 s2 u s' I2 hq
  | ok fl =>
    cases fl with
    | ret u => exact I2.after hq
    | next => exact hq.elim
    | brk => exact hq.elim
    | cont => exact hq.elim⟩

/-! ### rows = zip(a, b); return [.. for x, y in rows] -/
def zL (n a : Nat) : HO := .ext fun h => h.IsListIter n a 0
def zP (n : Nat) (x y : Value) : HO := .ext fun h => PySem.IsPair h n x y
def zZ (n : Nat) : HO := .ext fun h => PySem.IsZip h (n + 4) (n + 2) (n + 3) .none
def zipH (H : Hp) (n a b : Addr) : Hp := upd (upd (upd (upd (upd H n (zL n a)) (n + 1) (zL (n + 1) b)) (n + 2) (zP (n + 2) (.ref n) (.ref (n + 1)))) (n + 3) (zP (n + 3) .none .none)) (n + 4) (zZ n)
end
end LB
end

section
set_option Elab.async false
set_option linter.all false
set_option maxRecDepth 100000
set_option maxHeartbeats 4000000
/-! Layer B, part 17: rows = zip(a, b); return [.. for x, y in rows]. -/
namespace LB
open PySem PySem.Spec L2
open PyProof.Rows hiding St

theorem ad {a b : Nat} (h : a ≠ b) : @Ne Addr a b := h
theorem al {a b : Nat} (h : a ≤ b) : @LE.le Addr _ a b := h
section
variable {H : Hp} {n a b c : Addr} {o : HO}
theorem zipH_old (h : H c = some o) (hn : ∀ c, n ≤ c → H c = none) : zipH H n a b c = some o := by
  have lt : @LT.lt Nat _ c n := Nat.lt_of_not_le fun z => by rw [hn c z] at h; cases h
  unfold zipH
  rw [upd_ne (ad (by omega)), upd_ne (ad (by omega)), upd_ne (ad (by omega)), upd_ne (ad (by omega)), upd_ne (ad (by omega))]
  exact h
theorem zipH_off (h : c < n) : zipH H n a b c = H c := by
  have h : @LT.lt Nat _ c n := h
  unfold zipH
  rw [upd_ne (ad (by omega)), upd_ne (ad (by omega)), upd_ne (ad (by omega)), upd_ne (ad (by omega)), upd_ne (ad (by omega))]
end
section
variable {X : Cx} {κ : Kx} {W : WX} {e e2 : Expr} {ta : TA} {pos : Pos} {pins : List (Addr × Obj)} {σ : L2.St} {H : Hp} {s : Shared} {as : List (Bool × SE)}
/-- a thing as it stands -/
theorem ext_ok {P : Program} {w : World} {H : Hp} {h : Heap} {c : Addr} {o : Obj} {φ : Heap → Prop} (p : φ h) (e : h.get? c = some o) (st : ∀ h h' : Heap, φ h → (∀ o, h.get? c = some o → h'.get? c = some o) → φ h') : ObjOk P w H h c (.ext φ) := ⟨p, ⟨o, e⟩, st⟩
theorem inv_zip {a b : Addr} {h' : Heap} (I : Inv X pins σ H s) (hz : PySem.IsZip h' (s.heap.objs.size + 4) (s.heap.objs.size + 2) (s.heap.objs.size + 3) .none) (hTI : PySem.IsPair h' (s.heap.objs.size + 2) (.ref s.heap.objs.size) (.ref (s.heap.objs.size + 1)))
    (hTO : PySem.IsPair h' (s.heap.objs.size + 3) .none .none) (h1 : h'.IsListIter s.heap.objs.size a 0) (h2 : h'.IsListIter (s.heap.objs.size + 1) b 0) (hk : ∀ c o, s.heap.get? c = some o → h'.get? c = some o) : Inv X pins σ (zipH H s.heap.objs.size a b) { s with heap := h' } := by
  have fresh : ∀ c, s.heap.objs.size ≤ c → H c = none := fun c hc => I.hok.fresh hc
  have off : ∀ {c o}, s.heap.get? c = some o → zipH H s.heap.objs.size a b c = H c := fun {c o} e => zipH_off (Heap.lt_size e)
  refine I.un (t' := s.toks) ⟨fun c o e _ _ _ => hk c o e, fun c o e _ _ _ => ⟨o.slots, hk c o e⟩, fun c o e z _ => (off e).trans z, fun c o e _ => ⟨o, hk c o e⟩, fun c xs e => zipH_old e fresh, fun c o u e => zipH_old e fresh, fun c ps e => ⟨#[], by rw [zipH_old e fresh]; simp⟩⟩ ?_
  have old : ∀ c u, H c = some u → ObjOk X.prog X.w (zipH H s.heap.objs.size a b) h' c u := fun c u e => (I.hok c u e).stay (fun d v _ q => hk d v q) (fun d z => zipH_old z fresh) fun d xs z => zipH_old z fresh
  intro c u e
  unfold zipH at e
  by_cases e4 : c = s.heap.objs.size + 4
  · subst e4
    rw [upd_same] at e; cases e
    exact ext_ok hz hz fun _ _ z k => k _ z
  · rw [upd_ne e4] at e
    by_cases e3 : c = s.heap.objs.size + 3
    · subst e3
      rw [upd_same] at e; cases e
      exact ext_ok hTO hTO fun _ _ z k => k _ z
    · rw [upd_ne e3] at e
      by_cases e2 : c = s.heap.objs.size + 2
      · subst e2
        rw [upd_same] at e; cases e
        exact ext_ok hTI hTI fun _ _ z k => k _ z
      · rw [upd_ne e2] at e
        by_cases e1 : c = s.heap.objs.size + 1
        · subst e1
          rw [upd_same] at e; cases e
          obtain ⟨o2, q2, _⟩ := id h2
          exact ext_ok h2 q2 fun _ _ z k => z.at k
        · rw [upd_ne e1] at e
          by_cases e0 : c = s.heap.objs.size
          · subst e0
            rw [upd_same] at e; cases e
            obtain ⟨o1, q1, _⟩ := id h1
            exact ext_ok h1 q1 fun _ _ z k => z.at k
          · rw [upd_ne e0] at e
            exact old c u e
def tZO (X : Cx) (ta : TA) : TE := fun σ H Q => ta σ H fun vs H1 => ∃ (a b : Addr) (xs ys : List V), vs = [.ref a, .ref b] ∧ SqL X.K H1 a xs ∧ SqL X.K H1 b ys ∧
  ∀ n, (∀ c, n ≤ c → H1 c = none) → X.s_0.heap.objs.size ≤ n → a < n → b < n → Q (.ref (n + 4)) (zipH H1 n a b)
theorem pe_zipO {p : Pos} (hg : Gl X "zip") (hm : X.mg "zip" = none) (ha : PA X [e, e2] ta) (hs : starEach [e, e2] X.env = (false, eval e X.env) :: starEach [e2] X.env := by rfl) (hpl : (backTo pos (starEach [e2] X.env)).any (·.1) = false := by rfl) :
    PE X (.Call (.Name "zip" p) [e, e2] [] pos) (tZO X ta) := ⟨fun pins s σ H Q I h => by
  refine Call_ (ld_blt I hg hm PyProof.Rows.boot_zip (PyProof.Rows.callWith_type1 (thn (ha.run pos pins s σ H _ I h) fun us s1 ⟨vs, H1, I1, r1, a, b, xs, ys, ev, hx, hy, q⟩ => ?_) hs hpl))
  subst ev
  cases r1 with
  | cons r r1 =>
    cases r1 with
    | cons r' r1 =>
      cases r1
      cases r
      cases r'
      obtain ⟨_, _, p1, _⟩ := I1.list hx
      obtain ⟨_, _, p2, _⟩ := I1.list hy
      exact call_zip_2 p1.isList p2.isList fun h' hz hTI hTO h1 h2 _ hk => ⟨.ref _, _, inv_zip I1 hz hTI hTO h1 h2 hk, rfl, q _ (fun c hc => I1.hok.fresh hc) I1.sz p1.lt p2.lt⟩⟩
/-- such an iterator by a name -/
def iZN (X : Cx) (i : Nat) : TI := fun σ H R => ∃ (n a b : Addr) (xs ys : List V) (Hz : Hp), σ[i]? = some (some (.ref (n + 4))) ∧ H = zipH Hz n a b ∧ SqL X.K Hz a xs ∧ SqL X.K Hz b ys ∧ (∀ c, n ≤ c → Hz c = none) ∧ X.s_0.heap.objs.size ≤ n ∧ a < n ∧ b < n ∧ R (Itz X.K a b) Hz
theorem pi_zN {i : Nat} {x : Str} {elts : List Expr} {kk : Nat} {tpos : Pos} (hN : X.N[i]? = some x) (hv : Vis X.env.scope x) (h1 : (x == ("__debug__" : Str)) = false := by decide) (h2 : (x == ("__classdict__" : Str)) = false := by decide) : PI X (.Tuple elts kk tpos) (.Name x pos) (iZN X i) := ⟨fun pins s σ H R I ⟨n, a, b, xs, ys, Hz, ei, eH, hx, hy, hn, h0, la, lb, q⟩ => by
  subst eH
  refine thn ((pe_var (pos := pos) hN hv h1 h2).run pins s σ _ (fun v H' => v = .ref (n + 4) ∧ H' = zipH Hz n a b) I ⟨_, ei, rfl, rfl⟩) fun v s1 ⟨x, H1, I1, r1, e1, e2⟩ => ?_
  subst e1 e2
  cases r1
  have at4 : zipH Hz n a b (n + 4) = some (zZ n) := upd_same
  have at3 : zipH Hz n a b (n + 3) = some (zP (n + 3) .none .none) := by unfold zipH; rw [upd_ne (ad (by omega)), upd_same]
  have at2 : zipH Hz n a b (n + 2) = some (zP (n + 2) (.ref n) (.ref (n + 1))) := by unfold zipH; rw [upd_ne (ad (by omega)), upd_ne (ad (by omega)), upd_same]
  have at1 : zipH Hz n a b (n + 1) = some (zL (n + 1) b) := by unfold zipH; rw [upd_ne (ad (by omega)), upd_ne (ad (by omega)), upd_ne (ad (by omega)), upd_same]
  have at0 : zipH Hz n a b n = some (zL n a) := by unfold zipH; rw [upd_ne (ad (by omega)), upd_ne (ad (by omega)), upd_ne (ad (by omega)), upd_ne (ad (by omega)), upd_same]
  have hz : PySem.IsZip s1.heap (n + 4) (n + 2) (n + 3) .none := (I1.hok _ _ at4).1
  have hTO : PySem.IsPair s1.heap (n + 3) .none .none := (I1.hok _ _ at3).1
  have hTI : PySem.IsPair s1.heap (n + 2) (.ref n) (.ref (n + 1)) := (I1.hok _ _ at2).1
  have l2 : s1.heap.IsListIter (n + 1) b 0 := (I1.hok _ _ at1).1
  have l1 : s1.heap.IsListIter n a 0 := (I1.hok _ _ at0).1
  have fp : ∀ c ∈ [n + 4, n + 2, n + 3, n, n + 1], FpOk X pins Hz c := fun c hc => by
    have go : ∀ {u : HO}, zipH Hz n a b c = some u → n ≤ c → FpOk X pins Hz c := fun e le => by
      obtain ⟨_, f1, f2, f3, f4, f5⟩ := ItX.inv_fp I1 e (Nat.le_trans h0 le)
      exact ⟨hn c le, f1, f2, f3, f4, f5⟩
    have hc : c = n + 4 ∨ c = n + 2 ∨ c = n + 3 ∨ c = n ∨ c = n + 1 := by simpa using hc
    rcases hc with z | z | z | z | z
    · subst z; exact go at4 (Nat.le_add_right _ _)
    · subst z; exact go at2 (Nat.le_add_right _ _)
    · subst z; exact go at3 (Nat.le_add_right _ _)
    · subst z; exact go at0 (Nat.le_refl _)
    · subst z; exact go at1 (Nat.le_add_right _ _)
  have I2 := ItX.inv_drop I1 at4
  unfold zipH at I2
  rw [ItX.dropH_upd (by rw [upd_ne (ad (by omega)), upd_ne (ad (by omega)), upd_ne (ad (by omega)), upd_ne (ad (by omega))]; exact hn _ (Nat.le_add_right _ _))] at I2
  have I3 := ItX.inv_drop I2 (a := n + 3) upd_same
  rw [ItX.dropH_upd (by rw [upd_ne (ad (by omega)), upd_ne (ad (by omega)), upd_ne (ad (by omega))]; exact hn _ (Nat.le_add_right _ _))] at I3
  have I4 := ItX.inv_drop I3 (a := n + 2) upd_same
  rw [ItX.dropH_upd (by rw [upd_ne (ad (by omega)), upd_ne (ad (by omega))]; exact hn _ (Nat.le_add_right _ _))] at I4
  have I5 := ItX.inv_drop I4 (a := n + 1) upd_same
  rw [ItX.dropH_upd (by rw [upd_ne (ad (by omega))]; exact hn _ (Nat.le_add_right _ _))] at I5
  have I6 := ItX.inv_drop I5 (a := n) upd_same
  rw [ItX.dropH_upd (hn _ (Nat.le_refl _))] at I6
  exact wpAny_pyIter_zip hz ⟨n + 4, [n + 4, n + 2, n + 3, n, n + 1], _, _, Hz, rfl, I6, turn_zip (PySem.W.ktu_apart n a b la lb), ⟨hz, hTI, ⟨_, _, hTO⟩, l1, l2⟩, fp, q⟩⟩
theorem pz_lc {elt tg iter : Expr} {ifs : List Expr} {scope : Scope} {own : List (Str × Nat)} {mt : SB} {me : SE} {b : BG} {wi : TI} (hc : X.calm = true) (hN : X.N.Nodup) (hi : PI X tg iter wi) (ok : blkC X.N X.env.scope scope own = true)
    (hg : ∀ (s : Shared) (H : Hp) (C : Addr) (cl : List (Str × Addr)) (fp : List Addr), PG (X.blk s H scope (compEnvC scope cl C X.env) fp) tg (tG κ b))
    (ht : ∀ (s : Shared) (H : Hp) (C : Addr) (cl : List (Str × Addr)) (fp : List Addr), PTs (X.blk s H scope (compEnvC scope cl C X.env) fp) ifs (tT κ WF mt))
    (he : ∀ (s : Shared) (H : Hp) (C : Addr) (cl : List (Str × Addr)) (fp : List Addr), PE (X.blk s H scope (compEnvC scope cl C X.env) fp) elt (tM κ WF me)) (hs : ∀ x, foldedSetIterable iter X.env x = pure x := by intro _; rfl) :
    PE X (.ListComp elt [⟨tg, iter, ifs, 0⟩] scope pos) (tLc wi (tG κ b) (tT κ WF mt) (tM κ WF me) (own.map (·.2))) := pe_lc hc hN hi (blkOk_by ok) hg ht he hs
noncomputable def sZip (i : Nat) (as : List (Bool × SE)) (b : BG) (vs : List Nat) (mt : SB) (me : SE) : SS := fun l S => ((mZip as l S).bind fun p S1 => lcl p.2 b (wipeL (l.set i none) vs) mt me p.1 [] S1).toO l fun d S1 => .ret d S1
theorem FR.blot {g : Gh} {l : Loc} {i : Nat} {v : V} (h : FR κ g H l σ) : FR κ g H (l.set i none) (σ.set i (some v)) := by
  refine ⟨by simpa using h.1, fun j d q => ?_⟩
  by_cases hj : i = j
  · subst hj
    by_cases hl : i < l.length
    · rw [List.getElem?_set_self hl] at q; cases q
    · rw [List.getElem?_eq_none (by simpa using hl)] at q; cases q
  · rw [List.getElem?_set_ne hj] at q ⊢
    exact h.2 j d q
theorem s_zipRet {i : Nat} {x : Str} {px p p2 p3 : Pos} {lc : Expr} {b : BG} {vs : List Nat} {mt : SB} {me : SE} (hK : X.K = κ.K) (hN : X.N.Nodup) (hi : X.N[i]? = some x) (hx : L2.Loc X.env.scope x) (hg : Gl X "zip") (hm : X.mg "zip" = none) (ha : PA X [e, e2] (tA κ W (mArgs as)))
    (hl : PE X lc (tLc (iZN X i) (tG κ b) (tT κ WF mt) (tM κ WF me) vs)) (hb : ∀ j ∈ b.ix, j ∈ vs := by decide) (hs : swapsWith (.Call (.Name "zip" p) [e, e2] [] pos) (some (.Name x px)) p2.line X.env = pure false := by rfl) (hf : X.fn x = true ∨ X.env.scope.names.lookup x = some .local := by first | exact .inl rfl | exact .inr rfl | assumption)
    (hst : starEach [e, e2] X.env = (false, eval e X.env) :: starEach [e2] X.env := by rfl) (hpl : (backTo pos (starEach [e2] X.env)).any (·.1) = false := by rfl) :
    PSs X [.Assign [.Name x px] (.Call (.Name "zip" p) [e, e2] [] pos) p2, .Return (some lc) p3] (fun D' σ H => i < σ.length ∧ tS κ W (sZip i as b vs mt me) D' σ H) :=
  (pss_cons (ps_set hN hi hx (pe_zipO hg hm ha hst hpl) hs hf) (pss_one (ps_ret hl))).imp fun D' σ H ⟨hlen, g, l, S, s, fr, h⟩ => by
    have h : KG κ W σ g H (RT κ) ((mZip as l S).bind fun p S1 => lcl p.2 b (wipeL (l.set i none) vs) mt me p.1 [] S1) D'.rt := by
      unfold sZip at h
      cases q : (mZip as l S).bind fun p S1 => lcl p.2 b (wipeL (l.set i none) vs) mt me p.1 [] S1 with
      | ok d S1 => rw [q] at h; exact h
      | exc cc ws S1 => rw [q] at h; exact fun g' dv H' x s' q => h g' σ dv H' x s' (fr.ext s x) q
      | bad => rw [q] at h; exact h
    unfold mZip at h
    have h : KG κ W σ g H (RT κ) ((mArgs as l S).bind fun ds S1 => (match ds with
      | [a, b] => match seqL S1 a, seqL S1 b with
        | some xs, some ys => R.ok (List.zipWith pairD xs ys, (fun S' => chS S1 a S' ∧ chS S1 b S' : Chk)) S1
        | _, _ => .bad
      | _ => .bad).bind fun p S1 => lcl p.2 b (wipeL (l.set i none) vs) mt me p.1 [] S1) D'.rt := by
      cases q : mArgs as l S with
      | ok ds S1 => rw [q] at h; exact h
      | exc cc ws S1 => rw [q] at h; exact h
      | bad => rw [q] at h; exact h
    refine ⟨g, l, S, s, fr, KG.imp (KG.bind (rel1 := RL κ) back_RT h) fun us H1 ⟨g1, S1, ds, x1, s1, r1, h1⟩ => ?_⟩
    match ds, r1, h1 with
    | [], _, h1 => exact h1.elim
    | [_], _, h1 => exact h1.elim
    | _ :: _ :: _ :: _, _, h1 => exact h1.elim
    | [da, db], r1, h1 =>
      obtain ⟨v, w, rfl, q, q2⟩ := r1.two
      cases e1 : seqL S1 da with
      | none => simp only [e1] at h1; exact h1.elim
      | some xs =>
        cases e2 : seqL S1 db with
        | none => simp only [e1, e2] at h1; exact h1.elim
        | some ys =>
          simp only [e1, e2] at h1
          obtain ⟨a, rfl, ok1⟩ := seqL_ok s1 (toRT q) e1
          obtain ⟨b', rfl, ok2⟩ := seqL_ok s1 (toRT q2) e2
          obtain ⟨us, z1, _⟩ := ok1 g1 H1 S1 (.refl _ _) s1 (chS_self _ _)
          obtain ⟨ws, z2, _⟩ := ok2 g1 H1 S1 (.refl _ _) s1 (chS_self _ _)
          refine ⟨a, b', us, ws, rfl, by rw [hK]; exact z1, by rw [hK]; exact z2, fun n hn h0 la lb => ?_⟩
          show tLc (iZN X i) (tG κ b) (tT κ WF mt) (tM κ WF me) vs (σ.set i (some (.ref (n + 4)))) (zipH H1 n a b') D'.rt
          refine ⟨n, a, b', us, ws, H1, List.getElem?_set_self hlen, rfl, by rw [hK]; exact z1, by rw [hK]; exact z2, hn, h0, la, lb, fun D hD => ?_⟩
          have h1 : KG κ W σ g1 H1 (RT κ) (lcl (fun S' => chS S1 da S' ∧ chS S1 db S') b (wipeL (l.set i none) vs) mt me (List.zipWith pairD xs ys) [] S1) D'.rt := h1
          refine lcl_ok (K := κ.K) hb s1 ((fr.ext s x1).blot) ?_ h1 hD
          rw [hK]
          exact itZ_ok ok1 ok2
noncomputable def sZipG (i : Nat) (as : List (Bool × SE)) (b : BG) (vs : List Nat) (mt : SB) (me : SE) : SS := fun l S => if i < l.length then sZip i as b vs mt me l S else .bad
theorem s_zip {i : Nat} {x : Str} {px p p2 p3 : Pos} {lc : Expr} {b : BG} {vs : List Nat} {mt : SB} {me : SE} (hK : X.K = κ.K) (hN : X.N.Nodup) (hi : X.N[i]? = some x) (hx : L2.Loc X.env.scope x) (hg : Gl X "zip") (hm : X.mg "zip" = none) (ha : PA X [e, e2] (tA κ W (mArgs as)))
    (hl : PE X lc (tLc (iZN X i) (tG κ b) (tT κ WF mt) (tM κ WF me) vs)) (hb : ∀ j ∈ b.ix, j ∈ vs := by decide) (hs : swapsWith (.Call (.Name "zip" p) [e, e2] [] pos) (some (.Name x px)) p2.line X.env = pure false := by rfl) (hf : X.fn x = true ∨ X.env.scope.names.lookup x = some .local := by first | exact .inl rfl | exact .inr rfl | assumption)
    (hst : starEach [e, e2] X.env = (false, eval e X.env) :: starEach [e2] X.env := by rfl) (hpl : (backTo pos (starEach [e2] X.env)).any (·.1) = false := by rfl) :
    PSs X [.Assign [.Name x px] (.Call (.Name "zip" p) [e, e2] [] pos) p2, .Return (some lc) p3] (tS κ W (sZipG i as b vs mt me)) :=
  (s_zipRet hK hN hi hx hg hm ha hl hb hs hf hst hpl).imp fun D' σ H ⟨g, l, S, s, fr, h⟩ => by
    unfold sZipG at h
    by_cases q : i < l.length
    · rw [if_pos q] at h
      exact ⟨by rw [← fr.1]; exact q, g, l, S, s, fr, h⟩
    · rw [if_neg q] at h; exact h.elim
end
end LB
end

section
set_option Elab.async false
set_option linter.all false
set_option maxRecDepth 100000
set_option maxHeartbeats 4000000
/-! Layer B, part 18: sorted texts, dict(pairs), list.index. -/
namespace LB
open PySem PySem.Spec L2
open PyProof.Rows hiding St

/-! ### texts in order -/
def leC (a b : List Nat) : Prop := ltCps b a = false
theorem leC_total : ∀ a b : List Nat, ltCps a b = true → ltCps b a = false
  | [], [], h => by cases h
  | [], _ :: _, _ => rfl
  | _ :: _, [], h => by cases h
  | x :: a, y :: b, h => by
    simp only [ltCps, Bool.or_eq_true, Bool.and_eq_true, decide_eq_true_eq, beq_iff_eq] at h
    simp only [ltCps, Bool.or_eq_false_iff, decide_eq_false_iff_not]
    rcases h with h | ⟨h1, h2⟩
    · refine ⟨by omega, ?_⟩
      have : (y == x) = false := by simp; omega
      rw [this, Bool.false_and]
    · subst h1
      exact ⟨by omega, by rw [leC_total a b h2, Bool.and_false]⟩
theorem leC_anti : ∀ a b : List Nat, leC a b → leC b a → a = b
  | [], [], _, _ => rfl
  | [], _ :: _, _, h => by cases h
  | _ :: _, [], h, _ => by cases h
  | x :: a, y :: b, h1, h2 => by
    unfold leC at h1 h2
    simp only [ltCps, Bool.or_eq_false_iff, decide_eq_false_iff_not] at h1 h2
    have e : x = y := by omega
    subst e
    have r : (x == x) = true := by simp
    rw [r, Bool.true_and] at h1 h2
    rw [leC_anti a b h1.2 h2.2]
theorem leC_trans : ∀ a b c : List Nat, leC a b → leC b c → leC a c
  | [], _, [], _, _ => rfl
  | [], _, _ :: _, _, _ => rfl
  | _ :: _, [], _, h, _ => by cases h
  | _ :: _, _ :: _, [], _, h => by cases h
  | x :: a, y :: b, z :: c, h1, h2 => by
    unfold leC at h1 h2 ⊢
    simp only [ltCps, Bool.or_eq_false_iff, decide_eq_false_iff_not] at h1 h2 ⊢
    refine ⟨by omega, ?_⟩
    by_cases e : z = x
    · have e1 : y = x := by omega
      subst e e1
      have r : (y == y) = true := by simp
      rw [r, Bool.true_and] at h1 h2 ⊢
      exact leC_trans a b c h1.2 h2.2
    · have : (z == x) = false := by simp; exact e
      rw [this, Bool.false_and]
def insS (x : List Nat) : List (List Nat) → List (List Nat)
  | [] => [x]
  | y :: r => if ltCps y x = true then y :: insS x r else x :: y :: r
def srtS : List (List Nat) → List (List Nat)
  | [] => []
  | x :: r => insS x (srtS r)
theorem insS_perm (x : List Nat) : ∀ r : List (List Nat), (insS x r).Perm (x :: r)
  | [] => .refl _
  | y :: r => by
    unfold insS
    split
    · exact ((insS_perm x r).cons y).trans (.swap x y r)
    · exact .refl _
theorem srtS_perm : ∀ r : List (List Nat), (srtS r).Perm r
  | [] => .refl _
  | x :: r => (insS_perm x (srtS r)).trans ((srtS_perm r).cons x)
theorem insS_sorted (x : List Nat) : ∀ r : List (List Nat), r.Pairwise leC → (insS x r).Pairwise leC
  | [], _ => by simp [insS]
  | y :: r, h => by
    obtain ⟨h1, h2⟩ := List.pairwise_cons.mp h
    unfold insS
    split
    · rename_i c
      refine List.pairwise_cons.mpr ⟨fun z hz => ?_, insS_sorted x r h2⟩
      rcases List.mem_cons.mp ((insS_perm x r).mem_iff.mp hz) with rfl | hz
      · exact leC_total _ _ c
      · exact h1 z hz
    · rename_i c
      have c : leC x y := Bool.eq_false_iff.mpr c
      refine List.pairwise_cons.mpr ⟨fun z hz => ?_, h⟩
      rcases List.mem_cons.mp hz with rfl | hz
      · exact c
      · exact leC_trans x y z c (h1 z hz)
theorem srtS_sorted : ∀ r : List (List Nat), (srtS r).Pairwise leC
  | [] => List.Pairwise.nil
  | x :: r => insS_sorted x _ (srtS_sorted r)
theorem srtS_uniq {ys zs : List (List Nat)} (h : ys.Perm zs) (s : ys.Pairwise leC) : ys = srtS zs :=
  List.Perm.eq_of_pairwise (fun a b _ _ => leC_anti a b) s (srtS_sorted zs) (h.trans (srtS_perm zs).symm)
theorem risingS_pw : ∀ (ys : List Str) (p : Str), risingS p ys = true → ((p :: ys).map fun s => s.cps.toList).Pairwise leC
  | [], p, _ => by simp
  | x :: r, p, h => by
    unfold risingS at h
    rw [Bool.and_eq_true, Bool.not_eq_true'] at h
    have ih := risingS_pw r x h.2
    rw [List.map_cons]
    refine List.pairwise_cons.mpr ⟨fun z hz => ?_, ih⟩
    rw [List.map_cons] at hz ih
    rcases List.mem_cons.mp hz with rfl | hz
    · exact h.1
    · exact leC_trans _ _ _ h.1 ((List.pairwise_cons.mp ih).1 z hz)
theorem sortedS_pw {ys : List Str} (h : sortedS ys = true) : (ys.map fun s => s.cps.toList).Pairwise leC := by
  cases ys with
  | nil => exact List.Pairwise.nil
  | cons x r => exact risingS_pw r x h
def toS (z : List Nat) : Str := ⟨z.toArray⟩
theorem toS_back (s : Str) : toS s.cps.toList = s := by cases s; simp [toS]
theorem sorted_is {ys : List Str} {zs : List (List Nat)} (h : ys.Perm (zs.map toS)) (s : sortedS ys = true) : ys = (srtS zs).map toS := by
  have h2 : (ys.map fun s => s.cps.toList).Perm zs := by
    have e := h.map fun s : Str => s.cps.toList
    rw [List.map_map] at e
    have i : zs.map ((fun s : Str => s.cps.toList) ∘ toS) = zs := by
      conv => rhs; rw [← List.map_id zs]
      exact List.map_congr_left fun z _ => by simp [toS]
    rw [i] at e
    exact e
  have e := srtS_uniq h2 (sortedS_pw s)
  rw [← e, List.map_map]
  conv => lhs; rw [← List.map_id ys]
  exact List.map_congr_left fun z _ => (toS_back z).symm
theorem srtS_len (zs : List (List Nat)) : (srtS zs).length = zs.length := (srtS_perm zs).length_eq
theorem srtS_mem {x : List Nat} {zs : List (List Nat)} : x ∈ srtS zs ↔ x ∈ zs := (srtS_perm zs).mem_iff

/-! ### sorted(..) -/
section
variable {X : Cx} {κ : Kx} {W : WX}
def strsD : List D → Option (List (List Nat))
  | [] => some []
  | .str z :: r => (strsD r).map (z :: ·)
  | _ :: _ => none
def strsK : List DK → Option (List (List Nat))
  | [] => some []
  | .inr z :: r => (strsK r).map (z :: ·)
  | .inl _ :: _ => none
theorem strsD_ok {g : Gh} {H : Hp} : ∀ {ds : List D} {vs : List V} {zs : List (List Nat)}, RDs κ g H ds vs → strsD ds = some zs → vs = (zs.map toS).map V.str
  | [], _, _, r, e => by cases e; cases r; rfl
  | d :: ds, _, _, .cons h t, e => by
    cases d with
    | str z =>
      obtain ⟨zs, e1, rfl⟩ := Option.map_eq_some_iff.mp (show (strsD ds).map (z :: ·) = some _ from e)
      rw [strsD_ok t e1]
      cases h
      rfl
    | _ => cases e
theorem strsK_ok : ∀ {ks : List DK} {zs : List (List Nat)}, strsK ks = some zs → ks.map keyK = (zs.map toS).map Sum.inr
  | [], _, e => by cases e; rfl
  | k :: ks, _, e => by
    cases k with
    | inr z =>
      obtain ⟨zs, e1, rfl⟩ := Option.map_eq_some_iff.mp (show (strsK ks).map (z :: ·) = some _ from e)
      rw [List.map_cons, strsK_ok e1]
      rfl
    | inl i => cases e
theorem RDs.strsS {g : Gh} {H : Hp} : ∀ zs : List (List Nat), RDs κ g H (zs.map .str) ((zs.map toS).map V.str)
  | [] => .nil
  | z :: zs => .cons (.str z) (RDs.strsS zs)
def srtO (o : Option (List (List Nat))) : Option D := match o with
  | some zs => if zs.length < 64 then some (.tmp ((srtS zs).map .str)) else none
  | none => none
theorem srtO_ok {o : Option (List (List Nat))} {d : D} (e : srtO o = some d) : ∃ zs, o = some zs ∧ zs.length < 64 ∧ d = .tmp ((srtS zs).map .str) := by
  cases o with
  | none => cases e
  | some zs =>
    by_cases c : zs.length < 64
    · have e : (if zs.length < 64 then some (D.tmp ((srtS zs).map .str)) else none) = some d := e
      rw [if_pos c] at e
      cases e
      exact ⟨zs, rfl, c, rfl⟩
    · have e : (if zs.length < 64 then some (D.tmp ((srtS zs).map .str)) else none) = some d := e
      rw [if_neg c] at e
      cases e
def fSorted (S : Store) : List D → Option D
  | [a] => match viewL S a with
    | some xs => srtO (strsD xs)
    | none => match viewD S a with
      | some (ks, _) => srtO (strsK ks)
      | none => none
  | _ => none
theorem fSorted_ok (hc : X.calm = true) : CallR X (.builtin "sorted") (rCall κ fSorted) := by
  intro pins s σ H xs us Q I r ⟨g, S, ds, d, rs, r1, e, k⟩
  match ds, r1, e with
  | [], _, e => cases e
  | _ :: _ :: _, _, e => cases e
  | [dx], r1, e =>
    obtain ⟨x, rfl, q⟩ := r1.one
    unfold fSorted at e
    cases e1 : viewL S dx with
    | some ys =>
      simp only [e1] at e
      obtain ⟨zs, e2, hl, rfl⟩ := srtO_ok e
      obtain ⟨p, vs, rfl, h1, q1⟩ := viewL_ok rs (toRT q) e1
      have ev := strsD_ok q1 e2
      subst ev
      refine cr_sortedS pins s σ H _ us Q I r ⟨p, zs.map toS, rfl, SqL.of h1, by rw [List.length_map]; exact hl, fun ys p hp hs hn => ?_⟩
      rw [sorted_is hp hs]
      exact k g _ _ (Ext.lay hn) (rs.lay hn) (lay_lst rs hn (RDs.strsS _))
    | none =>
      simp only [e1] at e
      cases e3 : viewD S dx with
      | none => simp [e3] at e
      | some w =>
        obtain ⟨ks, ws⟩ := w
        simp only [e3] at e
        obtain ⟨zs, e2, hl, rfl⟩ := srtO_ok e
        obtain ⟨p, kvs, rfl, h1, q1, q2⟩ := viewD_ok rs (toRT q) e3
        refine call_sortedD hc pins s σ H _ us Q I r ⟨p, kvs, zs.map toS, rfl, .inl h1, by rw [← strsK_ok e2]; exact q1, by rw [List.length_map]; exact hl, fun ys p hp hs hn => ?_⟩
        rw [sorted_is hp hs]
        exact k g _ _ (Ext.lay hn) (rs.lay hn) (lay_lst rs hn (RDs.strsS _))

/-! ### dict(pairs) -/
def pairsD : List D → Option (List (DK × D))
  | [] => some []
  | .tup [a, v] :: r => match dkD a with
    | some q => (pairsD r).map ((q, v) :: ·)
    | none => none
  | _ :: _ => none
def merD : List (DK × D) → List DK → List D → List DK × List D
  | [], ks, vs => (ks, vs)
  | (q, v) :: r, ks, vs => merD r (putKs ks q) (putVs ks vs q v)
def fDict1 (S : Store) (d : D) : Option D := match viewL S d with
  | some xs => match pairsD xs with
    | some ps => some (.tdic (merD ps [] []).1 (merD ps [] []).2)
    | none => none
  | none => none
def fDict (S : Store) : List D → Option D
  | [d] => fDict1 S d
  | _ => none
theorem dkD_ok {g : Gh} {H : Hp} {a : D} {u : V} {q : DK} (r : RD κ g H a u) (e : dkD a = some q) : u = kV (keyK q) := by
  cases a with
  | int i => cases e; cases r; rfl
  | str z => cases e; cases r; rfl
  | _ => cases e
theorem pairsD_ok {g : Gh} {H : Hp} : ∀ {ds : List D} {vs : List V} {ps : List (DK × D)}, RDs κ g H ds vs → pairsD ds = some ps → ∃ (as : List Addr) (kvs : List (Key × V)), vs = as.map V.ref ∧ Paired (fun p (kv : Key × V) => SqT κ.K H p [kV kv.1, kv.2]) as kvs ∧ kvs.map Prod.fst = (ps.map Prod.fst).map keyK ∧ RDs κ g H (ps.map Prod.snd) (kvs.map Prod.snd)
  | [], _, _, r, e => by cases e; cases r; exact ⟨[], [], rfl, .nil, rfl, .nil⟩
  | d :: ds, _, ps, .cons h t, e => by
    have go : ∀ (a v : D), d = .tup [a, v] → pairsD (d :: ds) = some ps → ∃ q ps', dkD a = some q ∧ pairsD ds = some ps' ∧ ps = (q, v) :: ps' := fun a v hd e => by
      subst hd
      unfold pairsD at e
      cases e1 : dkD a with
      | none => simp [e1] at e
      | some q =>
        simp only [e1] at e
        obtain ⟨ps', e2, e3⟩ := Option.map_eq_some_iff.mp e
        exact ⟨q, ps', rfl, e2, e3.symm⟩
    match d, h, e, go with
    | .tup [a, v], h, e, go =>
      obtain ⟨q, ps', e1, e2, rfl⟩ := go a v rfl e
      obtain ⟨as, kvs, rfl, p1, p2, p3⟩ := pairsD_ok t e2
      cases h with
      | tup h r =>
        obtain ⟨u, w, rfl, r1, r2⟩ := r.two
        have eu := dkD_ok r1 e1
        subst eu
        exact ⟨_ :: as, (keyK q, w) :: kvs, rfl, .cons h p1, by rw [List.map_cons, p2]; rfl, .cons r2 p3⟩
theorem putKs_nodup {ks : List DK} {q : DK} (h : ks.Nodup) : (putKs ks q).Nodup := by
  unfold putKs
  split
  · exact h
  · rename_i c
    rw [List.nodup_append]
    refine ⟨h, by simp, fun a ha b hb e => c ?_⟩
    have := List.mem_singleton.mp hb
    subst this e
    exact List.any_eq_true.mpr ⟨a, ha, by simp⟩
theorem merD_ok {g : Gh} {H : Hp} : ∀ {ps : List (DK × D)} {more : List (Key × V)} {ks : List DK} {vs : List D} {kvs : List (Key × V)}, more.map Prod.fst = (ps.map Prod.fst).map keyK → RDs κ g H (ps.map Prod.snd) (more.map Prod.snd) → ks.Nodup → kvs.map Prod.fst = ks.map keyK → RDs κ g H vs (kvs.map Prod.snd) →
    (mergeK kvs more).map Prod.fst = (merD ps ks vs).1.map keyK ∧ RDs κ g H (merD ps ks vs).2 ((mergeK kvs more).map Prod.snd)
  | [], [], ks, vs, kvs, _, _, _, e, r => ⟨e, r⟩
  | [], _ :: _, _, _, _, e, _, _, _, _ => nomatch e
  | _ :: _, [], _, _, _, e, _, _, _, _ => nomatch e
  | (q, v) :: ps, (k, u) :: more, ks, vs, kvs, e0, r0, nd, e, r => by
    rw [List.map_cons, List.map_cons] at r0
    have e1 : k = keyK q := (List.cons.inj e0).1
    subst e1
    cases r0 with
    | cons r1 r2 =>
      exact merD_ok (ps := ps) (more := more) (List.cons.inj e0).2 r2 (putKs_nodup nd) (put_fst e) (put_snd r1 nd e r)
theorem fDict_ok (hc : X.calm = true) (hK : X.K = κ.K) : CallR X (.type "dict") (rCall κ fDict) := by
  intro pins s σ H xs us Q I r ⟨g, S, ds, d, rs, r1, e, k⟩
  match ds, r1, e with
  | [], _, e => cases e
  | _ :: _ :: _, _, e => cases e
  | [dx], r1, e =>
    obtain ⟨x, rfl, q⟩ := r1.one
    have e : fDict1 S dx = some d := e
    unfold fDict1 at e
    cases e1 : viewL S dx with
    | none => simp [e1] at e
    | some ys =>
      simp only [e1] at e
      cases e2 : pairsD ys with
      | none => simp [e2] at e
      | some ps =>
        simp only [e2] at e
        cases e
        obtain ⟨p, vs, rfl, h1, q1⟩ := viewL_ok rs (toRT q) e1
        obtain ⟨as, kvs, rfl, p1, p2, p3⟩ := pairsD_ok q1 e2
        refine call_dictP hc pins s σ H _ us Q I r ⟨p, as, kvs, rfl, SqL.of h1, by rw [hK]; exact p1, fun p hp => ?_⟩
        obtain ⟨m1, m2⟩ := merD_ok (ks := []) (vs := []) (kvs := []) p2 p3 List.nodup_nil rfl .nil
        exact k g _ _ (Ext.lay hp) (rs.lay hp) (lay_dic rs hp m1 m2)

/-! ### xs.index(x) -/
def isL (S : Store) (d : D) : Bool := (viewL S d).isSome
theorem isL_ok {K : PySem.W.Frag} {H0 : Hp} {g : Gh} {H : Hp} {S : Store} {d : D} {v : V} (s : RS κ g H S) (r : RT κ H0 g H d v) (e : isL S d = true) : tyV K "list" v H := by
  unfold isL at e
  cases q : viewL S d with
  | none => rw [q] at e; cases e
  | some xs =>
    obtain ⟨p, vs, rfl, h, _⟩ := viewL_ok s r q
    exact .inl ⟨rfl, vs, SqL.of h⟩
def ixF (y : D) : List D → Option Nat
  | [] => none
  | x :: r => if eqF x y = true then some 0 else (ixF y r).map (· + 1)
def fIndex (S : Store) (o : D) : List D → R D
  | [d] => match viewL S o with
    | some xs => if flatD d = true ∧ xs.all flatD = true then (match ixF d xs with
      | some j => .ok (.int (j : Nat)) S
      | none => .bad) else .bad
    | none => .bad
  | _ => .bad
theorem ixF_ok {H0 : Hp} {g : Gh} {H : Hp} {y : D} {u : V} (q : RT κ H0 g H y u) (f2 : flatD y = true) : ∀ {ds : List D} {vs : List V} {j : Nat}, RDs κ g H ds vs → ds.all flatD = true → ixF y ds = some j → ∃ z, vs[j]? = some z ∧ eqV z u = true ∧ ∀ (m : Nat) (z' : V), m < j → vs[m]? = some z' → eqV z' u = false
  | [], _, _, _, _, e => by cases e
  | d :: ds, _, j, .cons h t, f, e => by
    rw [List.all_cons, Bool.and_eq_true] at f
    have ev := eqF_ok (H0 := fun _ => none) (.rd h) q f.1 f2
    unfold ixF at e
    by_cases c : eqF d y = true
    · rw [if_pos c] at e
      cases e
      exact ⟨_, rfl, by rw [ev]; exact c, fun m z' hm => absurd hm (Nat.not_lt_zero m)⟩
    · rw [if_neg c] at e
      obtain ⟨i, e1, rfl⟩ := Option.map_eq_some_iff.mp e
      obtain ⟨z, h1, h2, h3⟩ := ixF_ok q f2 t f.2 e1
      refine ⟨z, h1, h2, fun m z' hm hz => ?_⟩
      cases m with
      | zero =>
        rw [List.getElem?_cons_zero] at hz
        cases hz
        rw [ev]
        exact Bool.eq_false_iff.mpr c
      | succ m => exact h3 m z' (by omega) hz
theorem flatV_ok {H0 : Hp} {g : Gh} {H : Hp} {d : D} {v : V} (r : RT κ H0 g H d v) (f : flatD d = true) : flatV v = true := by
  cases d with
  | non => cases r.non; rfl
  | bl b => cases r.bl; rfl
  | int i => cases r.int; rfl
  | str z => cases r.str; rfl
  | _ => cases f
theorem flatVs_ok {g : Gh} {H : Hp} : ∀ {ds : List D} {vs : List V}, RDs κ g H ds vs → ds.all flatD = true → vs.all flatV = true
  | _, _, .nil, _ => rfl
  | _, _, .cons h t, f => by
    rw [List.all_cons, Bool.and_eq_true] at f
    rw [List.all_cons, flatV_ok (H0 := fun _ => none) (.rd h) f.1, flatVs_ok t f.2]
    rfl
theorem mt_idx : MtR X "list.index" (rMeth κ fIndex) := by
  intro pins s σ H x vs v us Q I rx rv ⟨H0, g, S, dx, ds, d, S', rs, r1, r2, e, k⟩
  match ds, r2, e with
  | [], _, e => cases e
  | _ :: _ :: _, _, e => cases e
  | [dy], r2, e =>
    obtain ⟨y, rfl, q⟩ := r2.one
    unfold fIndex at e
    cases e1 : viewL S dx with
    | none => simp [e1] at e
    | some xs =>
      simp only [e1] at e
      by_cases c : flatD dy = true ∧ xs.all flatD = true
      · rw [if_pos c] at e
        cases e2 : ixF dy xs with
        | none => simp [e2] at e
        | some j =>
          simp only [e2] at e
          cases e
          obtain ⟨p, ws, rfl, h1, q1⟩ := viewL_ok rs r1 e1
          obtain ⟨z, z1, z2, z3⟩ := ixF_ok (toRT q) c.1 q1 c.2 e2
          exact mt_index pins s σ H _ _ v us Q I rx rv ⟨p, ws, y, j, z, rfl, rfl, SqL.of h1, flatV_ok (toRT q) c.1, flatVs_ok q1 c.2, z1, z2, z3, k g _ _ (Ext.refl _ _) rs (.rd (.int _))⟩
      · rw [if_neg c] at e; cases e
variable {e o : Expr} {mo : SE} {as : List (Bool × SE)} {es : List Expr} {apos pos : Pos}
theorem p_index (ho : PE X o (tM κ W mo)) (ha : PA X (e :: es) (tA κ W (mArgs as))) (hbase : attributeBase o "index" X.env (eval o X.env) = eval o X.env := by rfl)
    (hfew : ((backTo pos (starEach (e :: es) X.env)).all (fun x => !x.1) && (backToKw pos (keywordEach [] X.env)).all (fun x => x.1.isSome) && decide ((e :: es).length + ([] : List Keyword).length + (if ([] : List Keyword).isEmpty then 0 else 1) < 30)) = true := by rfl)
    (hline : (apos.endLine == pos.line) = true := by rfl) (hs : starEach (e :: es) X.env = (false, eval e X.env) :: starEach es X.env := by rfl) (hplain : (backTo pos (starEach es X.env)).any (·.1) = false := by rfl) :
    PE X (.Call (.Attribute o "index" apos) (e :: es) [] pos) (tM κ W (mMeth isL fIndex mo as)) :=
  (pe_bm PySem.F.plainAttrs_list PySem.F.slot_list_index PySem.F.type_list_index mt_idx ho ha hbase hfew hline hs hplain).imp fun σ H Q h => mMeth_ok σ H Q h fun s r e => isL_ok s r e
end
end LB
end

section
set_option Elab.async false
set_option linter.all false
set_option maxRecDepth 100000
set_option maxHeartbeats 4000000
/-! Layer B, part 19: sorted(set(texts)). -/
namespace LB
open PySem PySem.Spec L2
open PyProof.Rows hiding St
open PySem.Froz

/-! ### the set of texts at an address -/
def TxR (P : Program) (w : World) (h : Heap) (a : Addr) (L : List Str) : Prop :=
  ∃ D : SD, h.get? a = some (sObj "set" D) ∧ TxOk P w D L ∧ L.Nodup ∧ Ris D.2.2.place.toList ∧ (w.params.followText "set-order" = true ∨ D.2.2.led = true)
section
variable {P : Program} {w : World} {A : Around} {E : Value → Shared → Prop} {s : Shared} {a : Addr} {L : List Str}
theorem TxR.move {h h' : Heap} (R : TxR P w h a L) (k : ∀ o, h.get? a = some o → h'.get? a = some o) : TxR P w h' a L := by
  obtain ⟨D, e, q⟩ := R
  exact ⟨D, k _ e, q⟩
/-- the table behind an add -/
theorem addTx_tab (x : Int) (v : Value) (D : SD) (r : Ris D.2.2.place.toList) : Ris (addTx x v D).2.2.place.toList ∧ (addTx x v D).2.2.led = D.2.2.led := by
  obtain ⟨es, ep, t⟩ := D
  have r1 := layNew_ris t es x v r
  have l1 := layNew_led t es x v
  have tab : ∀ t2 : SetTable, Ris t2.place.toList → t2.led = t.led → ∀ (es1 : Array (Int × Value)) (b : Bool), Ris (tailTx ep es1 t2 b).2.2.place.toList ∧ (tailTx ep es1 t2 b).2.2.led = t.led := fun t2 h1 h2 es1 b => by
    unfold tailTx
    by_cases c : (!b && t2.tooFull) = true
    · rw [if_pos c]; exact ⟨relayAll_ris t2 es1 _, (relayAll_led t2 es1 _).trans h2⟩
    · rw [if_neg c]; exact ⟨h1, h2⟩
  show Ris (tailTx ep _ (if (layNew t es x v).2.1.plain = true then { (layNew t es x v).2.1 with plain := false } else (layNew t es x v).2.1) _).2.2.place.toList ∧ (tailTx ep _ (if (layNew t es x v).2.1.plain = true then { (layNew t es x v).2.1 with plain := false } else (layNew t es x v).2.1) _).2.2.led = t.led
  by_cases c : (layNew t es x v).2.1.plain = true
  · rw [if_pos c]; exact tab { (layNew t es x v).2.1 with plain := false } r1 l1 _ _
  · rw [if_neg c]; exact tab _ r1 l1 _ _
/-- a text that is there already -/
theorem tx_old {k : Str} {u : Tok} {D : SD} {Q : Bool → Shared → Prop} (ho : s.heap.get? a = some (sObj "set" D)) (F : TxOk P w D L) (hk : k ∈ L) (hb : L.length < scanBound) (h : Q false s) : wpAny (model P w) A (setAddHashed a (.str k u) (hashStr w k)) Q E s := by
  obtain ⟨es, ep, t⟩ := D
  have fit : t.fits es.size = true := F.fit
  have els : ElemsOf (strKind P w) es.toList := F.el
  have siz : es.size = L.length := F.sz
  have key : (strKind P w).is k (.str k u) = true := is_str k u
  obtain ⟨e, he, q⟩ := (F.mem k).mp hk
  have found : ∃ j, List.findIdx? (fun e => (strKind P w).is k e.2) es.toList = some j := by
    cases c : List.findIdx? (fun e => (strKind P w).is k e.2) es.toList with
    | some j => exact ⟨j, rfl⟩
    | none =>
      have := List.findIdx?_eq_none_iff.mp c e he
      rw [q] at this
      cases this
  obtain ⟨j, ej⟩ := found
  unfold setAddHashed setAddHashedIn
  refine wpAny_holding (wpAny_bind (wpAny_setState_of (t := t) ho rfl fit ?_))
  dsimp only
  rw [byScan_of (x := .str k u) rfl (show es.size < scanBound by omega) els]
  simp only [↓reduceIte]
  unfold setAddByScan
  refine wpAny_bind (wpAny_bind (wpAny_rule (wpAny_bind (wpAny_setScan_of (knd := strKind P w) (k := k) key ho (show (sObj "set" (es, ep, t)).data = _ from rfl) fit els ?_))))
  rw [ej]
  dsimp only
  exact wpAny_pure (wpAny_pure h)
/-- a text put in -/
theorem tx_add {k : Str} {u : Tok} {Q : Bool → Shared → Prop} (R : TxR P w s.heap a L) (hb : L.length + 1 < scanBound)
    (h : ∀ h' b, Heap.SameBut a s.heap h' → TxR P w h' a (if k ∈ L then L else k :: L) → Q b { s with heap := h' }) : wpAny (model P w) A (setAddHashed a (.str k u) (hashStr w k)) Q E s := by
  obtain ⟨D, ho, F, nd, ri, le⟩ := R
  by_cases c : k ∈ L
  · refine tx_old ho F c (by omega) ?_
    have q := h s.heap false (Heap.SameBut.refl a s.heap)
    rw [if_pos c] at q
    exact q ⟨D, ho, F, nd, ri, le⟩
  · refine add_x ho F c hb ?_
    have q := h (s.heap.update a fun _ => sObj "set" (addTx (hashStr w k) (.str k u) D)) true (Heap.SameBut.update s.heap a _)
    rw [if_neg c] at q
    obtain ⟨r2, l2⟩ := addTx_tab (hashStr w k) (.str k u) D ri
    exact q ⟨_, get_upd _ ho rfl, add_ok u F, List.nodup_cons.mpr ⟨c, nd⟩, r2, le.imp id fun z => l2.trans z⟩
/-- the texts so far -/
def gath : List Str → List Str → List Str
  | [], L => L
  | k :: r, L => gath r (if k ∈ L then L else k :: L)
theorem gath_mem {x : Str} : ∀ {r L : List Str}, x ∈ gath r L ↔ x ∈ r ∨ x ∈ L
  | [], L => by simp [gath]
  | k :: r, L => by
    show x ∈ gath r _ ↔ _
    rw [gath_mem]
    by_cases c : k ∈ L
    · rw [if_pos c]
      constructor
      · rintro (h | h)
        · exact .inl (List.mem_cons_of_mem _ h)
        · exact .inr h
      · rintro (h | h)
        · rcases List.mem_cons.mp h with rfl | h
          · exact .inr c
          · exact .inl h
        · exact .inr h
    · rw [if_neg c]
      simp only [List.mem_cons]
      constructor
      · rintro (h | h | h)
        · exact .inl (.inr h)
        · exact .inl (.inl h)
        · exact .inr h
      · rintro ((h | h) | h)
        · exact .inr (.inl h)
        · exact .inl h
        · exact .inr (.inr h)
theorem gath_len : ∀ (r L : List Str), (gath r L).length ≤ r.length + L.length
  | [], L => by simp [gath]
  | k :: r, L => by
    show (gath r _).length ≤ _
    refine Nat.le_trans (gath_len r _) ?_
    split <;> simp <;> omega
/-- set.update's loop -/
theorem tx_loop {I : Addr} {fp wr : List Addr} {G : Array GenState → Array GenState → Prop} {n : Nat} {Pv : Nat → Value → Prop} {St : Nat → Shared → Prop} {R : Result → Shared → Prop}
    (W : WalksS P w A.in1 I fp wr G n Pv St) (S : Addr) (hS : S ∉ fp) : ∀ (ks : List Str) (i : Nat) (L : List Str) (s : Shared), i + ks.length = n → (∀ j v, Pv (i + j) v → ∃ k t, ks[j]? = some k ∧ v = .str k t) → St i s → L.length + ks.length + 1 < scanBound → TxR P w s.heap S L →
      (∀ s', Moved (S :: wr) G s s' → TxR P w s'.heap S (gath ks L) → R (.ok (.ret .none)) s') → codeAny (model P w) A (.builtin "set.update.loop" ⟨[.ref S, .ref I], []⟩) R s
  | [], i, L, s, hi, _, hst, _, T, hR => by
    have e : i = n := hi
    subst e
    refine codeAny_builtin F.entry_set_update_loop ?_
    rw [Around.under_plainId F.plain_set_update_loop _]
    show wpAny _ A.in1 (pyNext (.ref I) >>= fun x => _) _ _ s
    exact wpAny_bind (W.done s _ _ hst fun s' hm => wpAny_pure (hR s' (hm.mono fun b hb => List.mem_cons_of_mem _ hb) (T.move fun o e => hm.heap S o (fun z => hS (W.sub _ z)) e)))
  | k :: ks, i, L, s, hi, hv, hst, hb, T, hR => by
    rw [List.length_cons] at hi hb
    have lt : i < n := by omega
    refine codeAny_builtin F.entry_set_update_loop ?_
    rw [Around.under_plainId F.plain_set_update_loop _]
    show wpAny _ A.in1 (pyNext (.ref I) >>= fun x => _) _ _ s
    refine wpAny_bind (W.item i s _ _ lt hst fun v s' hP hst' hm => ?_)
    obtain ⟨k', t, e1, e2⟩ := hv 0 v hP
    cases e1
    subst e2
    have T' : TxR P w s'.heap S L := T.move fun o e => hm.heap S o (fun z => hS (W.sub _ z)) e
    show wpAny _ A.in1 (holding [Value.str k t] (setAdd S (.str k t)) >>= fun x => _) _ _ s'
    refine wpAny_bind (wpAny_holding ?_)
    unfold setAdd
    refine wpAny_holding (wpAny_bind ((strKind P w).pyHash (k := k) (is_str k t) ?_))
    refine tx_add (s := { s' with toks := s'.toks + 1 }) T' (by omega) fun h' b sb T2 => wpAny_pure ⟨plainId_quiet F.plain_set_update_loop _, ?_⟩
    have fr : St (i + 1) { s' with heap := h', toks := s'.toks + 1 } := W.frame _ s' _ _ hst' (Nat.le_succ _) fun b hb o e => by
      rw [sb.2 b (fun z => hS (z ▸ hb))]; exact e
    refine tx_loop W S hS ks (i + 1) _ _ (by omega) (fun j v hj => hv (j + 1) v (by rw [show i + (j + 1) = i + 1 + j by omega]; exact hj)) fr ?_ T2 fun s2 hm2 T3 => hR s2 (Moved.trans W.gtrans ((hm.mono fun b hb => List.mem_cons_of_mem _ hb).then_heap (Nat.le_succ _) fun b o hb e => ?_) hm2) T3
    · by_cases c : k ∈ L
      · rw [if_pos c]; omega
      · rw [if_neg c, List.length_cons]; omega
    · rw [sb.2 b (fun z => hb (by rw [z]; exact List.mem_cons_self))]; exact e
theorem tx_fresh {h : Heap} (ho : h.get? a = some { cls := .type "set", dict := none, data := .set #[] 0 (.fresh 0 0 (!w.params.followText "set-order")) }) : TxR P w h a [] := by
  refine ⟨(#[], 0, .fresh 0 0 (!w.params.followText "set-order")), ho, TxOk.nil rfl, List.nodup_nil, List.Pairwise.nil, ?_⟩
  show _ ∨ (!w.params.followText "set-order") = true
  cases w.params.followText "set-order"
  · exact .inr rfl
  · exact .inl rfl
end
end LB
end

section
set_option Elab.async false
set_option linter.all false
set_option maxRecDepth 100000
set_option maxHeartbeats 4000000
/-! Layer B, part 20: set(texts), sorted of it. -/
namespace LB
open PySem PySem.Spec L2
open PyProof.Rows hiding St
open PySem.Froz

section
variable {P : Program} {w : World} {A : Around} {E : Value → Shared → Prop} {s : Shared}
/-- an empty set, as it is made -/
abbrev setO (w : World) : Obj := { cls := .type "set", dict := none, data := .set #[] 0 (.fresh 0 0 (!w.params.followText "set-order")) }
/-- what the making of the set comes to -/
def MadeS (P : Program) (w : World) (s : Shared) (ks : List Str) (s₂ : Shared) : Prop := ∃ h' tk, s₂ = { s with heap := h', toks := tk } ∧ TxR P w h' s.heap.objs.size (gath ks []) ∧ ∀ b o, s.heap.get? b = some o → h'.get? b = some o
theorem strs_get : ∀ {vs : List Value} {ks : List Str} {j : Nat} {v : Value}, StrsAre vs ks → vs[j]? = some v → ∃ k t, ks[j]? = some k ∧ v = .str k t
  | _, _, _, _, .nil, h => by simp at h
  | _, _, 0, _, .cons k t _, h => by
    rw [List.getElem?_cons_zero] at h
    cases h
    exact ⟨k, t, rfl, rfl⟩
  | _, _, j + 1, _, .cons k t r, h => strs_get (j := j) r (by rw [List.getElem?_cons_succ] at h; exact h)
/-- set.__init__ of a list of texts -/
theorem set_init_tx {l : Addr} {items : Array Value} {ks : List Str} (hh : A.handled = none) (hl : s.heap.IsList l items) (hi : StrsAre items.toList ks) (hb : ks.length + 2 < scanBound) {Rr : Result → Shared → Prop}
    (hR : ∀ s₂, MadeS P w s ks s₂ → Rr (.ok (.ret .none)) s₂) : codeAny (model P w) A (.builtin "set.__init__" ⟨[.ref s.heap.objs.size, .ref l], []⟩) Rr { s with heap := s.heap.push (setO w) } := by
  obtain ⟨⟨oc, od, da, os⟩, hol, hcl, nl, hdl⟩ := hl
  simp only at hcl hdl
  subst hcl hdl
  have isz : items.size = ks.length := by rw [← StrsAre.len_eq hi, Array.length_toList]
  have lS : l < s.heap.objs.size := Heap.lt_size hol
  have hS : (s.heap.push (setO w)).get? s.heap.objs.size = some (setO w) := Heap.get?_push_size _ rfl
  have hol2 : (s.heap.push (setO w)).get? l = some { cls := .type "list", dict := od, data := .seq items nl, slots := os } := Heap.get?_push_of_some _ hol
  have hl2 : (s.heap.push (setO w)).IsList l items := ⟨_, hol2, rfl, nl, rfl⟩
  have a1 := F.sub_list_set
  have a2 := F.sub_list_frozenset
  have a3 : (Value.type "list" == Value.type "dict") = false := by decide
  refine codeAny_builtin F.entry_set_init ?_
  rw [Around.under_plainId F.called_set.init.plain _]
  unfold Builtin.«set.__init__» noKeywords Builtin.Frozenset.updateFrom
  generalize hPI : pyIter = PI
  wp_walk
  subst hPI
  refine wpAny_pyIter_list hl2 (wpAny_bind (wpAny_runValue ?_))
  have nI : l ≠ (s.heap.push (setO w)).objs.size := by
    rw [Heap.size_push]; exact fun z => absurd (z ▸ lS) (Nat.not_lt.mpr (Nat.le_succ _))
  have nS : s.heap.objs.size ∉ [(s.heap.push (setO w)).objs.size, l] := by
    rw [Heap.size_push]
    intro z
    rcases List.mem_cons.mp z with z | z
    · exact absurd z (Nat.ne_of_lt (Nat.lt_succ_self _))
    · exact absurd (List.mem_singleton.mp z) (Nat.ne_of_gt lS)
  refine tx_loop ((Walks.list (by simp [hh]) _ l nI items).toS) s.heap.objs.size nS ks 0 [] _ (by omega) (fun j v hj => ?_) ⟨⟨_, Heap.get?_push_size _ rfl, rfl, rfl⟩, hl2.push _⟩ (by simp; omega) (tx_fresh (Heap.get?_push_of_some _ hS)) fun s' hm T => ?_
  · rw [Nat.zero_add] at hj
    exact strs_get hi (by rw [Array.getElem?_toList]; exact hj)
  · refine wpAny_pure (wpAny_pure (hR s' ⟨s'.heap, s'.toks, ?_, T, fun b o e => ?_⟩))
    · have e1 := hm.gens
      have e2 := hm.drawn
      have e3 := hm.os
      cases s'
      cases s
      cases e1
      cases e2
      cases e3
      rfl
    · have lb : b < s.heap.objs.size := Heap.lt_size e
      refine hm.heap b o (fun z => ?_) (Heap.get?_push_of_some _ (Heap.get?_push_of_some _ e))
      rcases List.mem_cons.mp z with z | z
      · exact absurd z (Nat.ne_of_lt lb)
      · rw [Heap.size_push] at z
        exact absurd (List.mem_singleton.mp z) (Nat.ne_of_lt (Nat.lt_succ_of_lt lb))
/-- set(xs) of a list of texts -/
theorem set_of_tx {l : Addr} {items : Array Value} {ks : List Str} {Q : Value → Shared → Prop} (hh : A.handled = none) (hl : s.heap.IsList l items) (hi : StrsAre items.toList ks) (hb : ks.length + 2 < scanBound)
    (h : ∀ s₂, MadeS P w s ks s₂ → Q (.ref s.heap.objs.size) s₂) : wpAny (model P w) A (call (.type "set") [.ref l]) Q E s := by
  obtain ⟨c, tl, hmro⟩ := F.called_set.mro
  have b1 := F.called_set.made
  have b2 := F.called_set.sub
  have b3 := F.called_set.notType
  have b4 := F.called_set.canCreate
  have b5 := F.typeCall_set_1 (.ref l)
  have b6 := F.called_set.init.lookup
  refine wpAny_call (codeAny_of_tree ?_)
  show wpAny _ _ (callAny (.type "set") ⟨[.ref l], []⟩) _ _ s
  refine wpAny_pure ⟨Code.quiet_builtin _ (by decide +kernel), codeAny_builtin PySem.F.entry_type_call ?_⟩
  rw [Around.under_plain (weight_type_call_type "set" [.ref l] []) rfl]
  repeat (any_goals (first | assumption | wp_step))
  refine codeAny_mono (code_set_led1 (.ref l) (E := E) (Q₁ := fun x s1 => x = .ref s.heap.objs.size ∧ s1 = { s with heap := s.heap.push (setO w) }) ⟨rfl, rfl⟩) fun r s1 hr => ?_
  match r, hr with
  | .error e, hr => exact hr
  | .ok (.ret x), hr =>
    obtain ⟨e1, e2⟩ := hr
    subst e1 e2
    have ty : Shared.TypeIs { s with heap := s.heap.push (setO w) } (.ref s.heap.objs.size) "set" := ⟨_, Heap.get?_push_size _ rfl, rfl⟩
    have b7 := F.called_set.init.bind (.ref s.heap.objs.size)
    repeat (any_goals (first | assumption | wp_step))
    refine codeAny_mono (codeAny_call_builtin_code (R := wants (fun r s2 => r = .none ∧ MadeS P w s ks s2) E) (plainId_quiet F.called_set.init.plain _) (check_set_init_1 ty (set_init_tx (by simp [hh]) hl hi hb fun s2 m => ⟨rfl, m⟩))) fun r s2 hr => ?_
    match r, hr with
    | .error e, hr => exact hr
    | .ok (.ret x), hr =>
      obtain ⟨e1, m⟩ := hr
      subst e1
      repeat (any_goals (first | assumption | wp_step))
      exact h _ m
    | .ok .next, hr => exact hr.elim
    | .ok .brk, hr => exact hr.elim
    | .ok .cont, hr => exact hr.elim
  | .ok .next, hr => exact hr.elim
  | .ok .brk, hr => exact hr.elim
  | .ok .cont, hr => exact hr.elim
/-! sorted -/
theorem perm_by : ∀ {L K : List Str}, L.Nodup → (∀ x ∈ L, x ∈ K) → K.length ≤ L.length → K.Perm L
  | [], K, _, _, h => by
    have e : K = [] := List.eq_nil_of_length_eq_zero (by simpa using h)
    subst e
    exact .refl _
  | x :: L, K, nd, hs, h => by
    obtain ⟨n1, n2⟩ := List.nodup_cons.mp nd
    have hx := hs x List.mem_cons_self
    have p := List.perm_cons_erase hx
    have le := List.length_erase_of_mem hx
    refine p.trans ((perm_by n2 (fun y hy => (List.mem_erase_of_ne fun z : y = x => n1 (by rw [← z]; exact hy)).mpr (hs y (List.mem_cons_of_mem _ hy))) ?_).cons x)
    rw [List.length_cons] at h
    omega
theorem strs_of : ∀ {vs : List Value}, (∀ v ∈ vs, ∃ k t, v = .str k t) → StrsAre vs (vs.map strOf)
  | [], _ => .nil
  | v :: vs, h => by
    obtain ⟨k, t, e⟩ := h v List.mem_cons_self
    subst e
    exact .cons k t (strs_of fun u hu => h u (List.mem_cons_of_mem _ hu))
/-- sorted of a set of texts -/
theorem sorted_of_tx {a : Addr} {L : List Str} {Q : Value → Shared → Prop} (R : TxR P w s.heap a L) (hh : A.handled = none) (h64 : L.length < 64)
    (h : ∀ s' p (out : Array Value) (c : Nat) (ys : List Str), (∀ b o, s.heap.get? b = some o → s'.heap.get? b = some o) → s'.gens = s.gens → s'.os = s.os → s.heap.objs.size ≤ p → s'.heap.get? p = some (seqObj "list" out c) → StrsAre out.toList ys → ys.Perm L → sortedS ys = true → Q (.ref p) s') :
    wpAny (model P w) A (call (.builtin "sorted") [.ref a]) Q E s := by
  obtain ⟨⟨es, ep, t⟩, ho, T, nd, ri, le⟩ := R
  have esz : es.size = L.length := T.sz
  have str : ∀ e ∈ es.toList, ∃ k u, e.2 = .str k u := fun e he => by
    obtain ⟨⟨k, q, _⟩, _⟩ := T.el e he
    have q : Value.isStrOf k e.2 = true := q
    cases hv : e.2 <;> rw [hv] at q <;> first | exact ⟨_, _, rfl⟩ | cases q
  have mem : ∀ x ∈ L, x ∈ (es.toList.map (·.2)).map strOf := fun x hx => by
    obtain ⟨e, he, q⟩ := (T.mem x).mp hx
    obtain ⟨k, u, hv⟩ := str e he
    refine List.mem_map.mpr ⟨e.2, List.mem_map.mpr ⟨e, he, rfl⟩, ?_⟩
    have q : Value.isStrOf x e.2 = true := q
    rw [hv] at q ⊢
    have : k = x := by simpa [Value.isStrOf] using q
    exact this
  have pL : ((es.toList.map (·.2)).map strOf).Perm L := perm_by nd mem (by simp [esz])
  refine Calls.call_function_entry kind_sorted plain_sorted entry_sorted (args_sorted1 _) ?_
  unfold Builtin.«sorted»
  refine wpAny_bind (m := checkCount "sorted" 1 1 _) (wpAny_pure (wpAny_bind (collect_set (A := A.in1) hh ⟨_, ho, rfl, rfl⟩ T.fit (by show es.size < scanBound; unfold scanBound; omega) ri le fun s1 vs k1 z1 g1 o1 pm => ?_)))
  have vl : vs.length = L.length := by rw [pm.length_eq, List.length_map, Array.length_toList]; exact esz
  have vS : StrsAre vs (vs.map strOf) := strs_of fun v hv => by
    obtain ⟨e, he, q⟩ := List.mem_map.mp (pm.mem_iff.mp hv)
    rw [← q]
    exact str e he
  refine wpAny_bind (wpAny_newList ?_ (by rw [vl, sizeLine_eq]; omega))
  have oL : (s1.heap.push (seqObj "list" vs.toArray 0)).get? s1.heap.objs.size = some (seqObj "list" vs.toArray 0) := Heap.get?_push_size _ rfl
  refine wpAny_bind (wpAny_holding (wpAny_call_entry slot_list_sort ⟨_, oL, rfl⟩ entry_list_sort (list_sort_treeK strKind_oneLt oL vS.keysOf (fun v₁ v₂ rest e => keyKind_strs (by rw [← e]; exact vS)) (by rw [vl]; exact h64) fun st hp hs => ⟨_, rfl, ?_⟩) (args_list_sort _)))
  obtain ⟨ys, y1, y2, y3⟩ := sorted_out_str vS hp hs
  obtain ⟨c, hc⟩ := sortedHeap_at (vs := vs) (out := (arrOf st).map (·.2)) oL
  refine wpAny_pure ⟨_, rfl, h _ s1.heap.objs.size ((arrOf st).map (·.2)) c ys (fun b u e => ?_) g1 o1 z1 hc y1 (y2.trans ((pm.map strOf).trans pL)) y3⟩
  have q := k1 b u e
  have lt := Heap.lt_size q
  show (sortedHeap (s1.heap.push (seqObj "list" vs.toArray 0)) s1.heap.objs.size vs _).get? b = some u
  rw [sortedHeap_old (Nat.ne_of_lt lt) (by rw [size_push']; exact Nat.lt_succ_of_lt lt)]
  exact Heap.get?_push_of_some _ q
end
end LB
end

section
set_option Elab.async false
set_option linter.all false
set_option maxRecDepth 100000
set_option maxHeartbeats 4000000
/-! Layer B, part 21: sorted(set(e)), e a list of texts. -/
namespace LB
open PySem PySem.Spec L2
open PyProof.Rows hiding St

section
variable {X : Cx} {κ : Kx} {W : WX} {e : Expr} {as : List (Bool × SE)} {pos : Pos}
def TxO (P : Program) (w : World) (a : Addr) (L : List Str) : HO := .ext fun h => TxR P w h a L
theorem txO_new {P : Program} {w : World} {H : Hp} {h : Heap} {a : Addr} {L : List Str} (R : TxR P w h a L) : ObjOk P w H h a (TxO P w a L) := by
  obtain ⟨D, ho, _⟩ := id R
  exact ⟨R, ⟨_, ho⟩, fun h1 h2 p k => TxR.move p k⟩
def rSetTx (K : PySem.W.Frag) (P : Program) (w : World) : List V → Hp → VK → Prop := fun vs H Q => ∃ (l : Addr) (ks : List Str), vs = [V.ref l] ∧ SqL K H l (ks.map V.str) ∧ ks.length < 64 ∧ ∀ a, H a = none → Q (.ref a) (upd H a (TxO P w a (gath ks [])))
theorem cr_setTx (hc : X.calm = true) : CallR X (.type "set") (rSetTx X.K X.prog X.w) := by
  intro pins s σ H vs us Q I r ⟨l, ks, ev, hl, hf, q⟩
  subst ev
  rw [Vals.ref1 r]
  obtain ⟨its, rv, pl, hz⟩ := I.list hl
  refine set_of_tx (I.ok.hd hc) pl.isList rv.strs (by unfold scanBound; omega) fun s₂ ⟨h', tk, e, T, k⟩ => ?_
  subst e
  exact ⟨.ref s.heap.objs.size, _, I.laid (t' := tk) k (Nat.le_refl _) (txO_new T), rfl, q _ (I.hok.fresh (Nat.le_refl _))⟩
def rSortedTx (P : Program) (w : World) : List V → Hp → VK → Prop := fun vs H Q => ∃ (a : Addr) (L : List Str), vs = [V.ref a] ∧ H a = some (TxO P w a L) ∧ L.length < 64 ∧ ∀ (ys : List Str) (p : Addr), ys.Perm L → sortedS ys = true → H p = none → Q (.ref p) (upd H p (.lst (ys.map V.str)))
theorem cr_sortedTx (hc : X.calm = true) : CallR X (.builtin "sorted") (rSortedTx X.prog X.w) := by
  intro pins s σ H vs us Q I r ⟨a, L, ev, ha, h64, q⟩
  subst ev
  rw [Vals.ref1 r]
  have T : TxR X.prog X.w s.heap a L := (I.hok a _ ha).1
  refine sorted_of_tx T (I.ok.hd hc) h64 fun s' p out c ys k g o hp hg hS pm so => ?_
  have hn : H p = none := I.hok.fresh hp
  have len : (ys.map V.str).length ≤ sizeLine := by rw [List.length_map, pm.length_eq, sizeLine_eq]; omega
  have J : Inv X pins σ (upd H p (.lst (ys.map V.str))) { s with heap := s'.heap, gens := s'.gens, drawn := s'.drawn, toks := s'.toks } :=
    I.call (ch := []) (Un.laid k hp hn) (I.hok.laid k hp ⟨len, out.toList, c, vals_of_strs hS, hg⟩) (by rw [g]; exact I.bare) fun _ z => nomatch z
  have es : s' = { s with heap := s'.heap, gens := s'.gens, drawn := s'.drawn, toks := s'.toks } := by
    cases s'
    cases s
    cases o
    rfl
  rw [es]
  exact ⟨.ref p, _, J, rfl, q ys p pm so hn⟩
/-- each text once -/
def gthS : List (List Nat) → List (List Nat) → List (List Nat)
  | [], L => L
  | k :: r, L => gthS r (if k ∈ L then L else k :: L)
theorem toS_inj {a b : List Nat} (h : toS a = toS b) : a = b := by
  have := congrArg (fun s : Str => s.cps.toList) h
  simpa [toS] using this
theorem toS_mem {k : List Nat} {L : List (List Nat)} : toS k ∈ L.map toS ↔ k ∈ L := by
  rw [List.mem_map]
  exact ⟨fun ⟨x, hx, e⟩ => toS_inj e ▸ hx, fun h => ⟨k, h, rfl⟩⟩
theorem gath_map : ∀ (r L : List (List Nat)), gath (r.map toS) (L.map toS) = (gthS r L).map toS
  | [], L => rfl
  | k :: r, L => by
    show gath (r.map toS) (if toS k ∈ L.map toS then L.map toS else toS k :: L.map toS) = (gthS r (if k ∈ L then L else k :: L)).map toS
    by_cases c : k ∈ L
    · rw [if_pos (toS_mem.mpr c), if_pos c, gath_map r L]
    · rw [if_neg fun z => c (toS_mem.mp z), if_neg c]
      exact gath_map r (k :: L)
theorem gthS_mem {x : List Nat} {r : List (List Nat)} : x ∈ gthS r [] ↔ x ∈ r := by
  rw [← toS_mem, ← gath_map, gath_mem, toS_mem]
  simp
theorem gthS_len (r : List (List Nat)) : (gthS r []).length ≤ r.length := by
  have := gath_len (r.map toS) ([].map toS)
  rw [gath_map, List.length_map, List.length_map] at this
  simpa using this
def fSortSet (S : Store) : List D → Option D
  | [d] => match viewL S d with
    | some xs => match strsD xs with
      | some zs => if zs.length < 64 then some (.tmp ((srtS (gthS zs [])).map .str)) else none
      | none => none
    | none => none
  | _ => none
theorem sortSet_ok {P : Program} {w : World} {vs : List V} {H : Hp} {Q : VK} {K : PySem.W.Frag} (h : rCall κ fSortSet vs H Q) : rSetTx K P w vs H fun x H2 => rSortedTx P w [x] H2 Q := by
  obtain ⟨g, S, ds, d, rs, r1, e, k⟩ := h
  match ds, r1, e with
  | [], _, e => cases e
  | _ :: _ :: _, _, e => cases e
  | [dx], r1, e =>
    obtain ⟨x, rfl, q⟩ := r1.one
    unfold fSortSet at e
    cases e1 : viewL S dx with
    | none => simp [e1] at e
    | some ys =>
      simp only [e1] at e
      cases e2 : strsD ys with
      | none => simp [e2] at e
      | some zs =>
        simp only [e2] at e
        obtain ⟨hl, ed⟩ := ite_some e
        subst ed
        obtain ⟨p, ws, rfl, h1, q1⟩ := viewL_ok rs (toRT q) e1
        have ev := strsD_ok q1 e2
        subst ev
        refine ⟨p, zs.map toS, rfl, SqL.of h1, by rw [List.length_map]; exact hl, fun a ha => ?_⟩
        have gl := gthS_len zs
        have gm := gath_map zs []
        rw [List.map_nil] at gm
        refine ⟨a, gath (zs.map toS) [], rfl, upd_same, by rw [gm, List.length_map]; omega, fun us b hp hs hn => ?_⟩
        rw [gm] at hp
        rw [sorted_is hp hs]
        have x1 : Ext g H g (upd H a (TxO P w a (gath (zs.map toS) []))) := Ext.lay ha
        have s1 := rs.lay (o := TxO P w a (gath (zs.map toS) [])) ha
        have hb : H b = none := by
          have ne : b ≠ a := fun z => by rw [z, upd_same] at hn; cases hn
          rw [upd_ne ne] at hn
          exact hn
        refine k g _ _ (x1.trans (Ext.lay hn)) (s1.lay hn) ?_
        cases lay_lst s1 hn (RDs.strsS (srtS (gthS zs []))) with
        | rd r => cases r
        | tmp a1 a2 a3 a4 a5 => exact .tmp a1 a2 a3 hb a5
theorem p_sortSet {p1 p2 pos2 : Pos} (hc : X.calm = true) (hg : Gl X "sorted") (hm : X.mg "sorted" = none) (hv : bootBuiltins "sorted" = some (.builtin "sorted")) (hg2 : Gl X "set") (hm2 : X.mg "set" = none) (hv2 : bootBuiltins "set" = some (.type "set")) (ha : PA X [e] (tA κ W (mArgs as)))
    (he : starEach [e] X.env = (false, eval e X.env) :: starEach [] X.env := by rfl) (hpl : (backTo pos2 (starEach [] X.env)).any (·.1) = false := by rfl)
    (he1 : starEach [.Call (.Name "set" p2) [e] [] pos2] X.env = (false, eval (.Call (.Name "set" p2) [e] [] pos2) X.env) :: starEach [] X.env := by rfl) (hpl1 : (backTo pos (starEach [] X.env)).any (·.1) = false := by rfl) :
    PE X (.Call (.Name "sorted" p1) [.Call (.Name "set" p2) [e] [] pos2] [] pos) (tM κ W (mCallB fSortSet as)) :=
  (pe_callB (cr_sortedTx hc) hg hm hv (pa_cons (pe_callTy (cr_setTx hc) hg2 hm2 hv2 ha (by decide) (by decide) he hpl) pa_nil he1) (by decide) (by decide) he1 hpl1).imp fun σ H Q h => by
    obtain ⟨g, l, S, s, fr, h⟩ := mCallB_ok σ H Q h
    exact ⟨g, l, S, s, fr, KG.imp h fun vs H1 q => sortSet_ok q⟩
end
end LB
end

section
set_option Elab.async false
set_option linter.all false
set_option maxRecDepth 100000
set_option maxHeartbeats 4000000
/-! Evaluation of meanings, step by step. -/
namespace LB
open PySem PySem.Spec L2

section
variable {α β : Type} {S S1 : Store} {l : Loc}
@[simp] theorem bind_okE (a : α) (f : α → Store → R β) : (R.ok a S).bind f = f a S := id rfl
@[simp] theorem bind_excE (c : Nat) (vs : List D) (f : α → Store → R β) : (R.exc c vs S : R α).bind f = .exc c vs S := id rfl
@[simp] theorem bind_badE (f : α → Store → R β) : (R.bad : R α).bind f = .bad := id rfl
@[simp] theorem of_someE (a : α) : R.of (some a) S = .ok a S := id rfl
@[simp] theorem of_noneE : (R.of none S : R α) = .bad := id rfl
@[simp] theorem toO_okE (a : α) (f : α → Store → O) : (R.ok a S).toO l f = f a S := id rfl
@[simp] theorem toO_excE (c : Nat) (vs : List D) (f : α → Store → O) : (R.exc c vs S : R α).toO l f = .exc c vs l S := id rfl
@[simp] theorem toO_badE (f : α → Store → O) : (R.bad : R α).toO l f = .bad := id rfl
@[simp] theorem calm_okE (a : α) : (R.ok a S).calm = .ok a S := id rfl
@[simp] theorem calm_excE (c : Nat) (vs : List D) : (R.exc c vs S : R α).calm = .bad := id rfl
@[simp] theorem calm_badE : (R.bad : R α).calm = .bad := id rfl
end
/-- values as they lie in names -/
def isR : D → Bool
  | .tmp _ => false
  | .tdic _ _ => false
  | .exn _ _ => false
  | _ => true
section
variable {S : Store} {l : Loc}
@[simp] theorem mC_E (d : D) : mC d l S = .ok d S := id rfl
@[simp] theorem mVar_E (i : Nat) : mVar i l S = R.of (look l i) S := id rfl
theorem look_R {i : Nat} {d : D} (h : l[i]? = some (some d)) (r : isR d = true) : look l i = some d := by
  unfold look
  rw [h]
  cases d <;> first | rfl | cases r
theorem look0 (d : D) (l : Loc) (r : isR d = true) : look (some d :: l) 0 = some d := look_R rfl r
@[simp] theorem look0_non  (l : Loc) : look (some (.non) :: l) 0 = some (.non) := id rfl
@[simp] theorem look0_bl (b : Bool) (l : Loc) : look (some (.bl b) :: l) 0 = some (.bl b) := id rfl
@[simp] theorem look0_int (b : Int) (l : Loc) : look (some (.int b) :: l) 0 = some (.int b) := id rfl
@[simp] theorem look0_str (b : List Nat) (l : Loc) : look (some (.str b) :: l) 0 = some (.str b) := id rfl
@[simp] theorem look0_tup (b : List D) (l : Loc) : look (some (.tup b) :: l) 0 = some (.tup b) := id rfl
@[simp] theorem look0_lst (b : List D) (l : Loc) : look (some (.lst b) :: l) 0 = some (.lst b) := id rfl
@[simp] theorem look0_dic (k : List DK) (b : List D) (l : Loc) : look (some (.dic k b) :: l) 0 = some (.dic k b) := id rfl
@[simp] theorem look0_ref (b : Nat) (l : Loc) : look (some (.ref b) :: l) 0 = some (.ref b) := id rfl
@[simp] theorem look0_scr (b : List Int) (l : Loc) : look (some (.scr b) :: l) 0 = some (.scr b) := id rfl
@[simp] theorem lookS (o : Option D) (l : Loc) (i : Nat) : look (o :: l) (i + 1) = look l i := by
  unfold look
  rw [List.getElem?_cons_succ]
@[simp] theorem isR_non : isR .non = true := id rfl
@[simp] theorem isR_bl (b : Bool) : isR (.bl b) = true := id rfl
@[simp] theorem isR_int (b : Int) : isR (.int b) = true := id rfl
@[simp] theorem isR_str (b : List Nat) : isR (.str b) = true := id rfl
@[simp] theorem isR_tup (b : List D) : isR (.tup b) = true := id rfl
@[simp] theorem isR_lst (b : List D) : isR (.lst b) = true := id rfl
@[simp] theorem isR_dic (k : List DK) (b : List D) : isR (.dic k b) = true := id rfl
@[simp] theorem isR_ref (b : Nat) : isR (.ref b) = true := id rfl
@[simp] theorem isR_scr (b : List Int) : isR (.scr b) = true := id rfl
theorem fix_R {b : Bool} {d : D} (r : isR d = true) : fixD b d S = .ok d S := by cases d <;> first | rfl | cases r
@[simp] theorem fix_non (f : Bool)  : fixD f (.non) S = .ok (.non) S := id rfl
@[simp] theorem fix_bl (f : Bool) (b : Bool) : fixD f (.bl b) S = .ok (.bl b) S := id rfl
@[simp] theorem fix_int (f : Bool) (b : Int) : fixD f (.int b) S = .ok (.int b) S := id rfl
@[simp] theorem fix_str (f : Bool) (b : List Nat) : fixD f (.str b) S = .ok (.str b) S := id rfl
@[simp] theorem fix_tup (f : Bool) (b : List D) : fixD f (.tup b) S = .ok (.tup b) S := id rfl
@[simp] theorem fix_lst (f : Bool) (b : List D) : fixD f (.lst b) S = .ok (.lst b) S := id rfl
@[simp] theorem fix_dic (f : Bool) (k : List DK) (b : List D) : fixD f (.dic k b) S = .ok (.dic k b) S := id rfl
@[simp] theorem fix_ref (f : Bool) (b : Nat) : fixD f (.ref b) S = .ok (.ref b) S := id rfl
@[simp] theorem fix_scr (f : Bool) (b : List Int) : fixD f (.scr b) S = .ok (.scr b) S := id rfl
@[simp] theorem fix_tmpF (xs : List D) : fixD false (.tmp xs) S = .ok (.lst xs) S := id rfl
@[simp] theorem fix_tmpT (xs : List D) : fixD true (.tmp xs) S = .ok (.ref S.length) (S ++ [.lst xs]) := id rfl
@[simp] theorem fix_tdicF (ks : List DK) (xs : List D) : fixD false (.tdic ks xs) S = .ok (.dic ks xs) S := id rfl
@[simp] theorem fix_tdicT (ks : List DK) (xs : List D) : fixD true (.tdic ks xs) S = .ok (.ref S.length) (S ++ [.dic ks xs]) := id rfl
@[simp] theorem mFix_E (b : Bool) (m : SE) : mFix b m l S = (m l S).bind (fixD b) := id rfl
@[simp] theorem mOp2_E (f : Store → D → D → Option D) (a b : SE) : mOp2 f a b l S = (a l S).bind fun x S1 => (b l S1).bind fun y S2 => R.of (f S2 x y) S2 := id rfl
@[simp] theorem mUn_E (f : Store → D → Option D) (a : SE) : mUn f a l S = (a l S).bind fun x S1 => R.of (f S1 x) S1 := id rfl
@[simp] theorem mB_E (a : SE) : mB a l S = (a l S).bind fun x S1 => match x with
  | .bl k => .ok k S1
  | _ => .bad := id rfl
@[simp] theorem mTru_E (a : SE) : mTru a l S = (a l S).bind fun x S1 => R.of (truS S1 x) S1 := id rfl
@[simp] theorem mAnd_E (a b : SB) : mAnd a b l S = (a l S).bind fun k S1 => if k = true then b l S1 else .ok false S1 := id rfl
@[simp] theorem mOr_E (a b : SB) : mOr a b l S = (a l S).bind fun k S1 => if k = true then .ok true S1 else b l S1 := id rfl
@[simp] theorem mNot_E (a : SB) : mNot a l S = (a l S).bind fun k S1 => .ok (!k) S1 := id rfl
@[simp] theorem mAndV_E (a b : SE) : mAndV a b l S = (a l S).bind fun x S1 => match x with
  | .bl k => if k = true then b l S1 else .ok (.bl false) S1
  | _ => .bad := id rfl
@[simp] theorem mOrV_E (a b : SE) : mOrV a b l S = (a l S).bind fun x S1 => match x with
  | .bl k => if k = true then .ok (.bl true) S1 else b l S1
  | _ => .bad := id rfl
@[simp] theorem mNotV_E (a : SE) : mNotV a l S = (a l S).bind fun x S1 => match truS S1 x with
  | some k => .ok (.bl (!k)) S1
  | none => .bad := id rfl
@[simp] theorem mIf_E (c : SB) (a b : SE) : mIf c a b l S = (c l S).bind fun k S1 => if k = true then a l S1 else b l S1 := id rfl
@[simp] theorem mChain_E (f f' : Store → D → D → Option D) (a b c : SE) : mChain f f' a b c l S = (a l S).bind fun x S1 => (b l S1).bind fun y S2 => match f S2 x y with
  | some (.bl k) => if k = true then (c l S2).bind fun z S3 => R.of (f' S3 y z) S3 else .ok (.bl false) S2
  | _ => .bad := id rfl
@[simp] theorem mArgs_nil : mArgs [] l S = .ok [] S := id rfl
@[simp] theorem mArgs_cons (k : Bool) (m : SE) (r : List (Bool × SE)) : mArgs ((k, m) :: r) l S = (mFix k m l S).bind fun d S1 => (mArgs r l S1).bind fun ds S2 => .ok (d :: ds) S2 := id rfl
@[simp] theorem mTup_E (as : List (Bool × SE)) : mTup as l S = (mArgs as l S).bind fun ds S1 => .ok (.tup ds) S1 := id rfl
@[simp] theorem mLst_E (as : List (Bool × SE)) : mLst as l S = (mArgs as l S).bind fun ds S1 => .ok (.tmp ds) S1 := id rfl
@[simp] theorem mDic0_E : mDic0 l S = .ok (.tdic [] []) S := id rfl
@[simp] theorem mCall_E (F : Fun) (as : List (Bool × SE)) : mCall F as l S = (mArgs as l S).bind fun ds S1 => F ds S1 := id rfl
@[simp] theorem mCallP_E (F : Fun) (pm : List Nat) (as : List (Bool × SE)) : mCallP F pm as l S = (mArgs as l S).bind fun ds S1 => F (perm pm ds) S1 := id rfl
@[simp] theorem mCallB_E (f : Store → List D → Option D) (as : List (Bool × SE)) : mCallB f as l S = (mArgs as l S).bind fun ds S1 => R.of (f S1 ds) S1 := id rfl
@[simp] theorem mMeth_E (t : Store → D → Bool) (f : Store → D → List D → R D) (o : SE) (as : List (Bool × SE)) : mMeth t f o as l S = (o l S).bind fun o S1 => if t S1 o = true then (mArgs as l S1).bind fun ds S2 => (f S2 o ds).calm else .bad := id rfl
@[simp] theorem mIs_E (ns : List String) (a : SE) : mIs ns a l S = (a l S).bind fun d S1 => match tyD S1 d with
  | some t => .ok (.bl (ns.any (isT t))) S1
  | none => .bad := id rfl
@[simp] theorem mItems_E (a : SE) : mItems a l S = (a l S).bind fun d S1 => match viewD S1 d with
  | some (ks, vs) => .ok (.tmp (itemsD ks vs)) S1
  | none => .bad := id rfl
@[simp] theorem mGet2_E (d k z : SE) : mGet2 d k z l S = (d l S).bind fun d S1 => if isDc S1 d = true then (k l S1).bind fun k S2 => (z l S2).bind fun z S3 => match viewD S3 d with
  | some (ks, vs) => match dkD k with
    | some q => .ok ((getK ks vs q).getD z) S3
    | none => .bad
  | none => .bad else .bad := id rfl
@[simp] theorem mDis_E (ks : List DK) (as : List (Bool × SE)) : mDis ks as l S = (mArgs as l S).bind fun ds S1 => .ok (.tdic ks ds) S1 := id rfl
@[simp] theorem mNo_E : mNo l S = .ok none S := id rfl
@[simp] theorem mPart_E (m : SE) : mPart m l S = (m l S).bind fun x S1 => match x with
  | .int i => .ok (some i) S1
  | _ => .bad := id rfl
@[simp] theorem mSl_E (a : SE) (lo hi : SO') : mSl a lo hi l S = (a l S).bind fun x S1 => (lo l S1).bind fun i S2 => (hi l S2).bind fun j S3 => R.of (opSl S3 x i j) S3 := id rfl
@[simp] theorem mIt_E (m : SE) : mIt m l S = (m l S).bind fun d S1 => R.of (itS S1 d) S1 := id rfl
@[simp] theorem mRg_E (f : List D → Option (List D × Chk)) (as : List (Bool × SE)) : mRg f as l S = (mArgs as l S).bind fun ds S1 => R.of (f ds) S1 := id rfl
/-! statements -/
@[simp] theorem sNx_E : sNx l S = .nx l S := id rfl
@[simp] theorem sSeq_E (a b : SS) : sSeq a b l S = match a l S with
  | .nx l' S' => b l' S'
  | o => o := id rfl
@[simp] theorem sRet_E (m : SE) : sRet m l S = (m l S).toO l fun d S1 => .ret d S1 := id rfl
@[simp] theorem sRetN_E : sRetN l S = .ret .non S := id rfl
@[simp] theorem sDrop_E (m : SE) : sDrop m l S = (m l S).toO l fun _ S1 => .nx l S1 := id rfl
@[simp] theorem sIf_E (c : SB) (a b : SS) : sIf c a b l S = (c l S).toO l fun k S1 => if k = true then a l S1 else b l S1 := id rfl
@[simp] theorem sAsg_E (b : BG) (k : Bool) (m : SE) : sAsg b k m l S = ((m l S).bind (fixD k)).toO l fun d S1 => match b.run d l with
  | some l' => .nx l' S1
  | none => .bad := id rfl
@[simp] theorem bN_E (i : Nat) (d : D) : (bN i).run d l = some (l.set i (some d)) := id rfl
@[simp] theorem bT_E (bs : List BG) (ds : List D) : (bT bs).run (.tup ds) l = bAll bs ds l := id rfl
@[simp] theorem bAll_nil : bAll [] [] l = some l := id rfl
@[simp] theorem bAll_cons (b : BG) (bs : List BG) (d : D) (ds : List D) : bAll (b :: bs) (d :: ds) l = (b.run d l).bind (bAll bs ds) := id rfl
@[simp] theorem sPar_E (is : List Nat) (as : List (Bool × SE)) : sPar is as l S = (mArgs as l S).toO l fun ds S1 => match bAll (is.map bN) ds l with
  | some l' => .nx l' S1
  | none => .bad := id rfl
@[simp] theorem sAug_E (i : Nat) (f : Store → D → D → Option D) (m : SE) : sAug i f m l S = match look l i with
  | some dx => (m l S).toO l fun dy S1 => match f S1 dx dy with
    | some d => if isVal d = true then .nx (l.set i (some d)) S1 else .bad
    | none => .bad
  | none => .bad := id rfl
@[simp] theorem sPut_E (k : Bool) (m o i : SE) : sPut k m o i l S = ((m l S).bind (fixD k)).toO l fun d S1 => (o l S1).toO l fun o S2 => (i l S2).toO l fun i S3 => match setQ S3 o i d with
  | some S4 => .nx l S4
  | none => .bad := id rfl
@[simp] theorem sRaise_E (c : Nat) (m : SE) : sRaise c m l S = ((m l S).bind (fixD false)).toO l fun d S1 => .exc c [d] l S1 := id rfl
@[simp] theorem sFor_E (m : SI) (b : BG) (body : SS) : sFor m b body l S = (m l S).toO l fun p S1 => lp p.2 (bodyOf b body) p.1 l S1 := id rfl
@[simp] theorem bodyOf_E (b : BG) (m : SS) (d : D) : bodyOf b m d l S = match b.run d l with
  | some l' => m l' S
  | none => .bad := id rfl
@[simp] theorem mLc_E (mi : SI) (b : BG) (vs : List Nat) (mt : SB) (me : SE) : mLc mi b vs mt me l S = (mi l S).bind fun p S1 => lcl p.2 b (wipeL l vs) mt me p.1 [] S1 := id rfl
@[simp] theorem mYes_E : mYes l S = .ok true S := id rfl
@[simp] theorem wipeL_nil : wipeL l [] = l := id rfl
@[simp] theorem wipeL_cons (v : Nat) (vs : List Nat) : wipeL l (v :: vs) = (wipeL l vs).set v none := id rfl
/-! loops -/
theorem lp_nil {b : D → SS} : lp chT b [] l S = .nx l S := by unfold lp; rw [if_pos (show chT S from trivial)]
theorem lp_cons {b : D → SS} {d : D} {ds : List D} : lp chT b (d :: ds) l S = match b d l S with
  | .nx l' S' => lp chT b ds l' S'
  | .cnt l' S' => lp chT b ds l' S'
  | .brk l' S' => .nx l' S'
  | .ret d' S' => .ret d' S'
  | .exc cc vs l' S' => .exc cc vs l' S'
  | .bad => .bad := by
  conv => lhs; unfold lp
  rw [if_pos (show chT S from trivial)]
  all_goals (cases b d l S <;> rfl)
theorem lcl_nil {b : BG} {mt : SB} {me : SE} {acc : List D} : lcl chT b l mt me [] acc S = .ok (.tmp acc) S := by unfold lcl; rw [if_pos (show chT S from trivial)]
theorem lcl_cons {b : BG} {mt : SB} {me : SE} {d : D} {ds acc : List D} : lcl chT b l mt me (d :: ds) acc S = match b.run d l with
  | some l' => (mt l' S).calm.bind fun k S1 => if k = true then (mFix false me l' S1).calm.bind fun y S2 => if acc.length < SL then lcl chT b l mt me ds (acc ++ [y]) S2 else .bad else lcl chT b l mt me ds acc S1
  | none => .bad := by
  conv => lhs; unfold lcl
  rw [if_pos (show chT S from trivial)]
  all_goals (cases b.run d l <;> rfl)
/-- one turn of a while -/
theorem sWh_step {c : SB} {b : SS} : sWh c b l S = (c l S).toO l fun k S1 => if k = true then (match b l S1 with
  | .nx l' S' => sWh c b l' S'
  | .cnt l' S' => sWh c b l' S'
  | .brk l' S' => .nx l' S'
  | .ret d S' => .ret d S'
  | .exc cc vs l' S' => .exc cc vs l' S'
  | .bad => .bad) else .nx l S1 := by
  by_cases h : ∃ n, wh c b n l S ≠ .bad
  · obtain ⟨n, hn⟩ := h
    rw [sWh_eq (n := n) rfl hn]
    cases n with
    | zero => exact absurd rfl hn
    | succ n =>
      have e : wh c b (n + 1) l S = (c l S).toO l fun k S1 => if k = true then (match b l S1 with
        | .nx l' S' => wh c b n l' S'
        | .cnt l' S' => wh c b n l' S'
        | .brk l' S' => .nx l' S'
        | .ret d S' => .ret d S'
        | .exc cc vs l' S' => .exc cc vs l' S'
        | .bad => .bad) else .nx l S1 := id rfl
      rw [e] at hn ⊢
      cases q : c l S with
      | ok k S1 =>
        rw [q] at hn
        simp only [toO_okE] at hn ⊢
        by_cases z : k = true
        · rw [if_pos z] at hn ⊢
          rw [if_pos z]
          cases q2 : b l S1 with
          | nx l' S' => rw [q2] at hn; exact (sWh_eq rfl hn).symm
          | cnt l' S' => rw [q2] at hn; exact (sWh_eq rfl hn).symm
          | _ => rfl
        · rw [if_neg z, if_neg z]
      | _ => rfl
  · have e0 : sWh c b l S = .bad := by unfold sWh; rw [dif_neg h]
    rw [e0]
    have all : ∀ n, wh c b n l S = .bad := fun n => Classical.byContradiction fun z => h ⟨n, z⟩
    have e : ∀ n, (c l S).toO l (fun k S1 => if k = true then (match b l S1 with
        | .nx l' S' => wh c b n l' S'
        | .cnt l' S' => wh c b n l' S'
        | .brk l' S' => .nx l' S'
        | .ret d S' => .ret d S'
        | .exc cc vs l' S' => .exc cc vs l' S'
        | .bad => .bad) else .nx l S1) = .bad := fun n => all (n + 1)
    cases q : c l S with
    | ok k S1 =>
      rw [q] at e
      simp only [toO_okE] at e ⊢
      by_cases z : k = true
      · rw [if_pos z]
        cases q2 : b l S1 with
        | nx l' S' =>
          rw [q2] at e
          obtain ⟨n, en⟩ := sWh_fuel (c := c) (b := b) (l := l') (S := S')
          have := e n
          rw [if_pos z] at this
          show O.bad = sWh c b l' S'
          rw [en]; exact this.symm
        | cnt l' S' =>
          rw [q2] at e
          obtain ⟨n, en⟩ := sWh_fuel (c := c) (b := b) (l := l') (S := S')
          have := e n
          rw [if_pos z] at this
          show O.bad = sWh c b l' S'
          rw [en]; exact this.symm
        | _ => first | rfl | (have w := e 0; rw [q2, if_pos z] at w; exact w.symm) | (have w := e 0; rw [q2] at w; simp only [z, if_true] at w; exact w.symm)
      · have := e 0
        rw [if_neg z] at this
        cases this
    | exc cc vs S1 => rw [q] at e; exact (e 0).symm
    | bad => rfl
/-! operators -/
@[simp] theorem ix_tupE (xs : List D) (i : Int) : opIx S (.tup xs) (.int i) = atI xs i := id rfl
theorem ixN_lit (n i : Nat) (h : i < n) : ixN n (i : Int) = some i := by
  unfold ixN
  rw [if_pos (by omega), if_pos (by omega)]
  simp
@[simp] theorem at0 {α : Type} (x : α) (xs : List α) : atI (x :: xs) 0 = some x := by
  unfold atI
  rw [show (0 : Int) = ((0 : Nat) : Int) from rfl, ixN_lit _ 0 (by simp)]
  rfl
@[simp] theorem at1 {α : Type} (x y : α) (xs : List α) : atI (x :: y :: xs) 1 = some y := by
  unfold atI
  rw [show (1 : Int) = ((1 : Nat) : Int) from rfl, ixN_lit _ 1 (by simp)]
  rfl
@[simp] theorem at2 {α : Type} (x y z : α) (xs : List α) : atI (x :: y :: z :: xs) 2 = some z := by
  unfold atI
  rw [show (2 : Int) = ((2 : Nat) : Int) from rfl, ixN_lit _ 2 (by simp)]
  rfl
@[simp] theorem at3 {α : Type} (x y z w : α) (xs : List α) : atI (x :: y :: z :: w :: xs) 3 = some w := by
  unfold atI
  rw [show (3 : Int) = ((3 : Nat) : Int) from rfl, ixN_lit _ 3 (by simp)]
  rfl
theorem sh_int (i : Int) : SeqAt.shaped (.int i) = true := by simp [SeqAt.shaped, PyData.canLay0, PyData.depth]
theorem deep_int (i j : Int) : deepQ S (.int i) (.int j) = some (decide (i = j)) := by
  unfold deepQ
  simp only [toPS, toP]
  rw [if_pos ⟨sh_int i, sh_int j⟩, PyData.eqv]
  rfl
@[simp] theorem eq_int (i j : Int) : opEq S (.int i) (.int j) = some (.bl (decide (i = j))) := by
  unfold opEq opEqq
  show (deepQ S (.int i) (.int j)).map D.bl = _
  rw [deep_int]
  rfl
@[simp] theorem ne_int (i j : Int) : opNe S (.int i) (.int j) = some (.bl (!decide (i = j))) := by
  unfold opNe opEqq
  show (deepQ S (.int i) (.int j)).map (fun k => D.bl (!k)) = _
  rw [deep_int]
  rfl
@[simp] theorem eq_str (i j : List Nat) : opEq S (.str i) (.str j) = some (.bl (decide (i = j))) := id rfl
@[simp] theorem ne_str (i j : List Nat) : opNe S (.str i) (.str j) = some (.bl (!decide (i = j))) := id rfl
@[simp] theorem lt_int (i j : Int) : opLt S (.int i) (.int j) = some (.bl (decide (i < j))) := id rfl
@[simp] theorem le_int (i j : Int) : opLe S (.int i) (.int j) = some (.bl (decide (i ≤ j))) := id rfl
@[simp] theorem gt_int (i j : Int) : opGt S (.int i) (.int j) = some (.bl (decide (j < i))) := id rfl
@[simp] theorem ge_int (i j : Int) : opGe S (.int i) (.int j) = some (.bl (decide (j ≤ i))) := id rfl
@[simp] theorem add_int (i j : Int) : opAdd S (.int i) (.int j) = some (.int (i + j)) := id rfl
@[simp] theorem sub_int (i j : Int) : opSub S (.int i) (.int j) = some (.int (i - j)) := id rfl
@[simp] theorem neg_int (i : Int) : opNeg S (.int i) = some (.int (-i)) := id rfl
/-- xs != [], xs == [] -/
theorem ne_nil {d : D} {xs : List D} (h : viewL S d = some xs) : opNe S d (.tmp []) = some (.bl (!xs.isEmpty)) := by
  unfold opNe opEqq lenQ
  rw [h]
  cases xs with
  | nil => rfl
  | cons x xs => rfl
theorem eq_nil {d : D} {xs : List D} (h : viewL S d = some xs) : opEq S d (.tmp []) = some (.bl xs.isEmpty) := by
  unfold opEq opEqq lenQ
  rw [h]
  cases xs with
  | nil => rfl
  | cons x xs => rfl
@[simp] theorem is_nonE : opIs S .non .non = some (.bl true) := id rfl
theorem ix_ref {n : Nat} {xs : List D} (h : S[n]? = some (.lst xs)) (i : Int) : opIx S (.ref n) (.int i) = atI xs i := by
  show (match viewL S (.ref n) with
    | some xs => atI xs i
    | none => match viewD S (.ref n) with
      | some (ks, vs) => getK ks vs (.inl i)
      | none => none) = _
  have : viewL S (.ref n) = some xs := by
    show (match S[n]? with
      | some (.lst xs) => some xs
      | _ => none) = _
    rw [h]
  rw [this]
theorem view_ref {n : Nat} {xs : List D} (h : S[n]? = some (.lst xs)) : viewL S (.ref n) = some xs := by
  show (match S[n]? with
    | some (.lst xs) => some xs
    | _ => none) = _
  rw [h]
theorem set_ref {n : Nat} {xs : List D} (h : S[n]? = some (.lst xs)) (i : Int) (d : D) : setQ S (.ref n) (.int i) d = (ixN xs.length i).map fun j => S.set n (.lst (xs.set j d)) := by
  unfold setQ
  simp only [h]
theorem isLs_ref {n : Nat} {xs : List D} (h : S[n]? = some (.lst xs)) : isLs S (.ref n) = true := by
  unfold isLs
  simp only [h]
theorem app_ref {n : Nat} {xs : List D} (h : S[n]? = some (.lst xs)) (d : D) (hl : xs.length < SL) : fApp S (.ref n) [d] = .ok .non (S.set n (.lst (xs ++ [d]))) := by
  unfold fApp
  simp only [h]
  rw [if_pos hl]
theorem extT_ref {n : Nat} {xs : List D} (h : S[n]? = some (.lst xs)) (ys : List D) (hl : xs.length + ys.length ≤ SL) : fExt S (.ref n) [.tup ys] = .ok .non (S.set n (.lst (xs ++ ys))) := by
  unfold fExt
  simp only [h]
  rw [if_pos hl]
theorem extL_ref {n : Nat} {xs : List D} (h : S[n]? = some (.lst xs)) (ys : List D) (hl : xs.length + ys.length ≤ SL) : fExt S (.ref n) [.lst ys] = .ok .non (S.set n (.lst (xs ++ ys))) := by
  unfold fExt
  simp only [h]
  show (if xs.length + ys.length ≤ SL then R.ok D.non (S.set n (.lst (xs ++ ys))) else .bad) = _
  rw [if_pos hl]
theorem pop_ref {n : Nat} {xs : List D} {d : D} (h : S[n]? = some (.lst (xs ++ [d]))) : fPop S (.ref n) [] = .ok d (S.set n (.lst xs)) := by
  unfold fPop
  simp only [h]
  simp
@[simp] theorem tru_bl (b : Bool) : truS S (.bl b) = some b := id rfl
@[simp] theorem fInt_int (i : Int) : fInt S [.int i] = some (.int i) := id rfl
@[simp] theorem fInt_bl (b : Bool) : fInt S [.bl b] = some (.int (if b = true then 1 else 0)) := id rfl
theorem pow_int {i j : Int} (h : 0 ≤ j ∧ j ≤ 1000000 ∧ i.natAbs < 18446744073709551616) : opPow S (.int i) (.int j) = some (.int (i ^ j.toNat)) := by
  show (if 0 ≤ j ∧ j ≤ 1000000 ∧ i.natAbs < 18446744073709551616 then some (D.int (i ^ j.toNat)) else none) = _
  rw [if_pos h]
theorem mul_int {i j : Int} (h : i.natAbs < 18446744073709551616 ∨ j.natAbs < 18446744073709551616) : opMul S (.int i) (.int j) = some (.int (i * j)) := by
  show (if i.natAbs < 18446744073709551616 ∨ j.natAbs < 18446744073709551616 then some (D.int (i * j)) else none) = _
  rw [if_pos h]
theorem mod_int {i j : Int} (h : 0 < j) : opMod S (.int i) (.int j) = some (.int (i % j)) := by
  show (if 0 < j then some (D.int (i % j)) else none) = _
  rw [if_pos h]
theorem fdiv_int {i j : Int} (h : 0 < j ∧ j < 1073741824) : opFdiv S (.int i) (.int j) = some (.int (i / j)) := by
  show (if 0 < j ∧ j < 1073741824 then some (D.int (i / j)) else none) = _
  rw [if_pos h]
@[simp] theorem len_tupE (xs : List D) : fLen S [.tup xs] = some (.int xs.length) := id rfl
@[simp] theorem len_lstE (xs : List D) : fLen S [.lst xs] = some (.int xs.length) := id rfl
@[simp] theorem len_scrE (xs : List Int) : fLen S [.scr xs] = some (.int xs.length) := id rfl
theorem len_strE {z : List Nat} (h : z.length ≤ SL) : fLen S [.str z] = some (.int z.length) := by
  show (if z.length ≤ SL then some (D.int z.length) else none) = _
  rw [if_pos h]
@[simp] theorem ty_non  : tyD S (.non) = some "NoneType" := id rfl
@[simp] theorem ty_bl (b : Bool) : tyD S (.bl b) = some "bool" := id rfl
@[simp] theorem ty_int (b : Int) : tyD S (.int b) = some "int" := id rfl
@[simp] theorem ty_str (b : List Nat) : tyD S (.str b) = some "str" := id rfl
@[simp] theorem ty_tup (b : List D) : tyD S (.tup b) = some "tuple" := id rfl
@[simp] theorem ty_lst (b : List D) : tyD S (.lst b) = some "list" := id rfl
@[simp] theorem ty_tmp (b : List D) : tyD S (.tmp b) = some "list" := id rfl
@[simp] theorem ty_dic (k : List DK) (b : List D) : tyD S (.dic k b) = some "dict" := id rfl
@[simp] theorem ty_tdic (k : List DK) (b : List D) : tyD S (.tdic k b) = some "dict" := id rfl
@[simp] theorem ty_scr (b : List Int) : tyD S (.scr b) = some "list" := id rfl
theorem sh_bl (b : Bool) : SeqAt.shaped (.bool b) = true := by simp [SeqAt.shaped, PyData.canLay0, PyData.depth]
theorem deep_bl (i j : Bool) : deepQ S (.bl i) (.bl j) = some (i == j) := by
  unfold deepQ
  simp only [toPS, toP]
  rw [if_pos ⟨sh_bl i, sh_bl j⟩, PyData.eqv]
@[simp] theorem eq_bl (i j : Bool) : opEq S (.bl i) (.bl j) = some (.bl (i == j)) := by
  unfold opEq opEqq
  show (deepQ S (.bl i) (.bl j)).map D.bl = _
  rw [deep_bl]
  rfl
@[simp] theorem ne_bl (i j : Bool) : opNe S (.bl i) (.bl j) = some (.bl (!(i == j))) := by
  unfold opNe opEqq
  show (deepQ S (.bl i) (.bl j)).map (fun k => D.bl (!k)) = _
  rw [deep_bl]
  rfl
@[simp] theorem eq_nil2 : opEq S (.tmp []) (.tmp []) = some (.bl true) := id rfl
@[simp] theorem viewD_dic (ks : List DK) (vs : List D) : viewD S (.dic ks vs) = some (ks, vs) := id rfl
@[simp] theorem viewD_tdic (ks : List DK) (vs : List D) : viewD S (.tdic ks vs) = some (ks, vs) := id rfl
@[simp] theorem ix_lst (xs : List D) (i : Int) : opIx S (.lst xs) (.int i) = atI xs i := id rfl
@[simp] theorem ix_tmp (xs : List D) (i : Int) : opIx S (.tmp xs) (.int i) = atI xs i := id rfl
@[simp] theorem itS_tup (xs : List D) : itS S (.tup xs) = some (xs, chT) := id rfl
@[simp] theorem itS_lst (xs : List D) : itS S (.lst xs) = some (xs, chT) := id rfl
@[simp] theorem itS_str (z : List Nat) : itS S (.str z) = some (z.map fun c => .str [c], chT) := id rfl
@[simp] theorem in_str1 (c : Nat) (z : List Nat) : opIn S (.str [c]) (.str z) = some (.bl (decide (c ∈ z))) := id rfl
@[simp] theorem notin_str1 (c : Nat) (z : List Nat) : opNotIn S (.str [c]) (.str z) = some (.bl (!decide (c ∈ z))) := id rfl
@[simp] theorem itS_tmp (xs : List D) : itS S (.tmp xs) = some (xs, chT) := id rfl
theorem sl_strE {z : List Nat} (h : z.length ≤ SL) (lo hi : Option Int) : opSl S (.str z) lo hi = some (.str (cutD z lo hi)) := by
  show (if z.length ≤ SL then some (D.str (cutD z lo hi)) else none) = _
  rw [if_pos h]
@[simp] theorem sl_tupE (xs : List D) (lo hi : Option Int) : opSl S (.tup xs) lo hi = some (.tup (cutD xs lo hi)) := id rfl
theorem ix_strE {z : List Nat} (h : z.length ≤ SL) (i : Int) : opIx S (.str z) (.int i) = (atI z i).map fun c => .str [c] := by
  show (if z.length ≤ SL then (atI z i).map fun c => D.str [c] else none) = _
  rw [if_pos h]
/-! returns -/
theorem gc_same (d : D) : gc S d S = .ok d S := by unfold gc; rw [if_pos rfl]
theorem gcX_same (c : Nat) (vs : List D) : gcX S c vs S = .exc c vs S := by unfold gcX; rw [if_pos rfl]
theorem old_app (T : Store) : oldOk S (S ++ T) = true := by
  unfold oldOk
  rw [if_pos (by rw [List.take_left])]
/-- data without handles -/
theorem gc_app {d d' : D} {T : Store} (hT : T ≠ []) (h : convT S.length (S ++ T) d = some d') : gc S d (S ++ T) = .ok d' S := by
  unfold gc
  rw [if_neg (by
    intro z
    rw [List.length_append] at z
    exact hT (List.eq_nil_of_length_eq_zero (by omega))), if_pos (old_app T), h, List.take_left]
end
mutual
/-- plain data: no handle, nothing new -/
def pl : D → Bool
  | .tup xs => pls xs
  | .lst xs => pls xs
  | .dic _ xs => pls xs
  | .ref _ => false
  | .tmp _ => false
  | .tdic _ _ => false
  | .exn _ _ => false
  | .non => true
  | .bl _ => true
  | .int _ => true
  | .str _ => true
  | .scr _ => true
  | .fn _ => true
  | .cls _ => true
  | .ty _ => true
def pls : List D → Bool
  | [] => true
  | d :: ds => pl d && pls ds
end
mutual
theorem conv_pl {n : Nat} {top : Option Nat} {S : Store} : ∀ {d : D}, pl d = true → conv n top S d = some d
  | .tup xs, h => by unfold conv; rw [convs_pl (show pls xs = true from h)]; rfl
  | .lst xs, h => by unfold conv; rw [convs_pl (show pls xs = true from h)]; rfl
  | .dic ks xs, h => by unfold conv; rw [convs_pl (show pls xs = true from h)]; rfl
  | .non, _ => rfl
  | .bl _, _ => rfl
  | .int _, _ => rfl
  | .str _, _ => rfl
  | .scr _, _ => rfl
  | .fn _, _ => rfl
  | .cls _, _ => rfl
  | .ty _, _ => rfl
theorem convs_pl {n : Nat} {top : Option Nat} {S : Store} : ∀ {ds : List D}, pls ds = true → convs n top S ds = some ds
  | [], _ => rfl
  | d :: ds, h => by
    obtain ⟨h1, h2⟩ := Bool.and_eq_true_iff.mp (show (pl d && pls ds) = true from h)
    unfold convs
    rw [conv_pl h1, convs_pl h2]
end
theorem pl_R {d : D} (h : pl d = true) : isR d = true := by cases d <;> first | rfl | cases h
theorem convT_pl {n : Nat} {S : Store} {d : D} (h : pl d = true) : convT n S d = some d := by
  cases d <;> first | exact conv_pl h | cases h
theorem convT_ref {S T : Store} {m : Nat} {xs : List D} (hm : S.length ≤ m) (h : (S ++ T)[m]? = some (.lst xs)) (hp : pls xs = true) : convT S.length (S ++ T) (.ref m) = some (.tmp xs) := by
  show (if m < S.length then some (D.ref m) else match (S ++ T)[m]? with
    | some (.lst xs) => (convs S.length (some m) (S ++ T) xs).map .tmp
    | some (.dic ks xs) => (convs S.length (some m) (S ++ T) xs).map (.tdic ks)
    | none => none) = _
  rw [if_neg (by omega), h]
  show (convs S.length (some m) (S ++ T) xs).map D.tmp = _
  rw [convs_pl hp]
  rfl
end LB
end

section
set_option Elab.async false
set_option linter.all false
set_option maxRecDepth 100000
set_option maxHeartbeats 4000000
/-! Layer B, evaluation, part 2: a plain value equals itself. -/
namespace LB
open PySem PySem.Spec L2

mutual
def plain : D → Bool
  | .non => true
  | .bl _ => true
  | .int _ => true
  | .str s => (PyData.str ⟨s.toArray⟩).canLay0
  | .tup xs => plains xs
  | .lst xs => plains xs
  | _ => false
def plains : List D → Bool
  | [] => true
  | d :: ds => plain d && plains ds
end
mutual
def pdep : D → Nat
  | .tup xs => pdeps xs + 1
  | .lst xs => pdeps xs + 1
  | _ => 0
def pdeps : List D → Nat
  | [] => 0
  | d :: ds => max (pdep d) (pdeps ds)
end
mutual
theorem toP_plain : ∀ {d : D}, plain d = true → ∃ p, toP d = some p ∧ p.canLay0 = true ∧ p.depth ≤ pdep d
  | .non, _ => ⟨_, rfl, rfl, Nat.zero_le _⟩
  | .bl _, _ => ⟨_, rfl, rfl, Nat.zero_le _⟩
  | .int _, _ => ⟨_, rfl, rfl, Nat.zero_le _⟩
  | .str _, h => ⟨_, rfl, h, Nat.zero_le _⟩
  | .tup xs, h => by
    obtain ⟨ps, e, c, dd⟩ := toPs_plain (ds := xs) h
    refine ⟨.tuple ps, by simp [toP, e], c, ?_⟩
    simp only [PyData.depth, pdep]
    omega
  | .lst xs, h => by
    obtain ⟨ps, e, c, dd⟩ := toPs_plain (ds := xs) h
    refine ⟨.list ps, by simp [toP, e], c, ?_⟩
    simp only [PyData.depth, pdep]
    omega
  | .tmp _, h | .dic _ _, h | .tdic _ _, h | .scr _, h | .ref _, h | .fn _, h | .cls _, h | .ty _, h | .exn _ _, h => by simp [plain] at h
theorem toPs_plain : ∀ {ds : List D}, plains ds = true → ∃ ps, toPs ds = some ps ∧ PyData.canLayAll0 ps = true ∧ PyData.depthAll ps ≤ pdeps ds
  | [], _ => ⟨[], rfl, rfl, Nat.zero_le _⟩
  | d :: ds, h => by
    have h : (plain d && plains ds) = true := h
    rw [Bool.and_eq_true] at h
    obtain ⟨p, e1, c1, d1⟩ := toP_plain h.1
    obtain ⟨ps, e2, c2, d2⟩ := toPs_plain h.2
    refine ⟨p :: ps, by simp [toPs, e1, e2], by simp [PyData.canLayAll0, c1, c2], ?_⟩
    simp only [PyData.depthAll, pdeps]
    omega
end
theorem eqq_self {S : Store} {d : D} (h : plain d = true) (hd : pdep d ≤ 64) : opEqq S d d = some true := by
  obtain ⟨p, e, c, dd⟩ := toP_plain h
  have sh : SeqAt.shaped p = true := by
    unfold SeqAt.shaped
    rw [c, Bool.true_and]
    exact decide_eq_true (by omega)
  have es : toPS S d = some p := by
    cases d <;> first | exact e | simp [plain] at h
  have dq : deepQ S d d = some true := by
    unfold deepQ
    rw [es]
    show (if SeqAt.shaped p = true ∧ SeqAt.shaped p = true then some (PyData.eqv p p) else none) = _
    rw [if_pos ⟨sh, sh⟩, SeqAt.eqv_refl p c]
  unfold opEqq
  have hl : lenQ S d d = none ∨ lenQ S d d = some true := by
    unfold lenQ
    cases viewL S d with
    | none => exact .inl rfl
    | some xs =>
      show (if xs.length = xs.length then (if xs.length = 0 then some true else none) else some false) = none ∨ (if xs.length = xs.length then (if xs.length = 0 then some true else none) else some false) = some true
      rw [if_pos rfl]
      by_cases c : xs.length = 0
      · rw [if_pos c]; exact .inr rfl
      · rw [if_neg c]; exact .inl rfl
  rcases hl with e1 | e1
  · rw [e1]
    show (match strQ d d with
      | some k => some k
      | none => deepQ S d d) = _
    rw [dq]
    cases d <;> first | rfl | skip
    simp [strQ]
  · rw [e1]
theorem eq_self {S : Store} {d : D} (h : plain d = true) (hd : pdep d ≤ 64) : opEq S d d = some (.bl true) := by
  unfold opEq
  rw [eqq_self h hd]
  rfl
theorem ne_self {S : Store} {d : D} (h : plain d = true) (hd : pdep d ≤ 64) : opNe S d d = some (.bl false) := by
  unfold opNe
  rw [eqq_self h hd]
  rfl
end LB
end

section
set_option Elab.async false
set_option linter.all false
set_option maxRecDepth 100000
set_option maxHeartbeats 4000000
/-! Layer B, evaluation, part 3: first things first. The continuation is an argument that a later one's type looks at, so that it is left alone until it is asked. -/
namespace LB
open PySem PySem.Spec L2

def Dm {α : Sort u} (_ : α) : Type := Unit
def dm {α : Sort u} (a : α) : Dm a := ()
def R.bd {α β : Type} (f : α → Store → R β) (_ : Dm f) (r : R α) : R β := r.bind f
def R.tb {α : Type} (f : α → Store → O) (_ : Dm f) (l : Loc) (r : R α) : O := r.toO l f
def O.sq (f : Loc → Store → O) (_ : Dm f) (o : O) : O := match o with
  | .nx l S => f l S
  | o => o
/-- both ways, left alone -/
def cd {α : Type} (p : α × α) (_ : Dm p) (k : Bool) : α := if k = true then p.1 else p.2
section
variable {α β : Type} {S S1 : Store} {l : Loc}
theorem bd_ok (a : α) (f : α → Store → R β) (w : Dm f) : R.bd f w (R.ok a S) = f a S := id rfl
theorem bd_exc (c : Nat) (vs : List D) (f : α → Store → R β) (w : Dm f) : R.bd f w (R.exc c vs S : R α) = .exc c vs S := id rfl
theorem tb_ok (a : α) (f : α → Store → O) (w : Dm f) : R.tb f w l (R.ok a S) = f a S := id rfl
theorem tb_exc (c : Nat) (vs : List D) (f : α → Store → O) (w : Dm f) : R.tb f w l (R.exc c vs S : R α) = .exc c vs l S := id rfl
theorem sq_nx (f : Loc → Store → O) (w : Dm f) : O.sq f w (.nx l S) = f l S := id rfl
theorem sq_ret (d : D) (f : Loc → Store → O) (w : Dm f) : O.sq f w (.ret d S) = .ret d S := id rfl
theorem sq_brk (f : Loc → Store → O) (w : Dm f) : O.sq f w (.brk l S) = .brk l S := id rfl
theorem sq_cnt (f : Loc → Store → O) (w : Dm f) : O.sq f w (.cnt l S) = .cnt l S := id rfl
theorem sq_exc (c : Nat) (vs : List D) (f : Loc → Store → O) (w : Dm f) : O.sq f w (.exc c vs l S) = .exc c vs l S := id rfl
theorem cd_t (p : α × α) (w : Dm p) : cd p w true = p.1 := id rfl
theorem cd_f (p : α × α) (w : Dm p) : cd p w false = p.2 := id rfl
theorem mFix_K (b : Bool) (m : SE) : mFix b m l S = R.bd (fixD b) (dm _) (m l S) := id rfl
theorem mOp2_K (f : Store → D → D → Option D) (a b : SE) : mOp2 f a b l S = R.bd (fun x S1 => R.bd (fun y S2 => R.of (f S2 x y) S2) (dm _) (b l S1)) (dm _) (a l S) := id rfl
theorem mUn_K (f : Store → D → Option D) (a : SE) : mUn f a l S = R.bd (fun x S1 => R.of (f S1 x) S1) (dm _) (a l S) := id rfl
def bOf (d : D) (S : Store) : R Bool := match d with
  | .bl k => .ok k S
  | _ => .bad
theorem bOf_bl (k : Bool) : bOf (.bl k) S = .ok k S := id rfl
theorem mB_K (a : SE) : mB a l S = R.bd bOf (dm _) (a l S) := id rfl
theorem mTru_K (a : SE) : mTru a l S = R.bd (fun x S1 => R.of (truS S1 x) S1) (dm _) (a l S) := id rfl
theorem mAnd_K (a b : SB) : mAnd a b l S = R.bd (fun k S1 => cd (b l S1, .ok false S1) (dm _) k) (dm _) (a l S) := id rfl
theorem mOr_K (a b : SB) : mOr a b l S = R.bd (fun k S1 => cd (.ok true S1, b l S1) (dm _) k) (dm _) (a l S) := id rfl
theorem mNot_K (a : SB) : mNot a l S = R.bd (fun k S1 => .ok (!k) S1) (dm _) (a l S) := id rfl
def andOf (b : SE) (l : Loc) (d : D) (S : Store) : R D := match d with
  | .bl k => if k = true then b l S else .ok (.bl false) S
  | _ => .bad
def orOf (b : SE) (l : Loc) (d : D) (S : Store) : R D := match d with
  | .bl k => if k = true then .ok (.bl true) S else b l S
  | _ => .bad
theorem andOf_bl (b : SE) (k : Bool) : andOf b l (.bl k) S = cd (b l S, .ok (.bl false) S) (dm _) k := id rfl
theorem orOf_bl (b : SE) (k : Bool) : orOf b l (.bl k) S = cd (.ok (.bl true) S, b l S) (dm _) k := id rfl
theorem mAndV_K (a b : SE) : mAndV a b l S = R.bd (andOf b l) (dm _) (a l S) := id rfl
theorem mOrV_K (a b : SE) : mOrV a b l S = R.bd (orOf b l) (dm _) (a l S) := id rfl
def notOf (o : Option Bool) (S : Store) : R D := match o with
  | some k => .ok (.bl (!k)) S
  | none => .bad
theorem notOf_some (k : Bool) : notOf (some k) S = .ok (.bl (!k)) S := id rfl
theorem mNotV_K (a : SE) : mNotV a l S = R.bd (fun x S1 => notOf (truS S1 x) S1) (dm _) (a l S) := id rfl
theorem mIf_K (c : SB) (a b : SE) : mIf c a b l S = R.bd (fun k S1 => cd (a l S1, b l S1) (dm _) k) (dm _) (c l S) := id rfl
def chOf (c : Loc → Store → R D) (f : Store → D → Option D) (l : Loc) (o : Option D) (S : Store) : R D := match o with
  | some (.bl k) => if k = true then (c l S).bind fun z S3 => R.of (f S3 z) S3 else .ok (.bl false) S
  | _ => .bad
theorem chOf_bl (c : Loc → Store → R D) (f : Store → D → Option D) (k : Bool) : chOf c f l (some (.bl k)) S = cd (R.bd (fun z S3 => R.of (f S3 z) S3) (dm _) (c l S), .ok (.bl false) S) (dm _) k := id rfl
theorem mChain_K (f f' : Store → D → D → Option D) (a b c : SE) : mChain f f' a b c l S = R.bd (fun x S1 => R.bd (fun y S2 => chOf c (fun S3 z => f' S3 y z) l (f S2 x y) S2) (dm _) (b l S1)) (dm _) (a l S) := id rfl
theorem mArgs_K (k : Bool) (m : SE) (r : List (Bool × SE)) : mArgs ((k, m) :: r) l S = R.bd (fun d S1 => R.bd (fun ds S2 => .ok (d :: ds) S2) (dm _) (mArgs r l S1)) (dm _) (R.bd (fixD k) (dm _) (m l S)) := id rfl
theorem mTup_K (as : List (Bool × SE)) : mTup as l S = R.bd (fun ds S1 => .ok (.tup ds) S1) (dm _) (mArgs as l S) := id rfl
theorem mLst_K (as : List (Bool × SE)) : mLst as l S = R.bd (fun ds S1 => .ok (.tmp ds) S1) (dm _) (mArgs as l S) := id rfl
theorem mCall_K (F : Fun) (as : List (Bool × SE)) : mCall F as l S = R.bd (fun ds S1 => F ds S1) (dm _) (mArgs as l S) := id rfl
theorem mCallP_K (F : Fun) (pm : List Nat) (as : List (Bool × SE)) : mCallP F pm as l S = R.bd (fun ds S1 => F (perm pm ds) S1) (dm _) (mArgs as l S) := id rfl
theorem mCallB_K (f : Store → List D → Option D) (as : List (Bool × SE)) : mCallB f as l S = R.bd (fun ds S1 => R.of (f S1 ds) S1) (dm _) (mArgs as l S) := id rfl
theorem mMeth_K (t : Store → D → Bool) (f : Store → D → List D → R D) (o : SE) (as : List (Bool × SE)) : mMeth t f o as l S = R.bd (fun o S1 => cd (R.bd (fun ds S2 => (f S2 o ds).calm) (dm _) (mArgs as l S1), .bad) (dm _) (t S1 o)) (dm _) (o l S) := id rfl
def isOf (ns : List String) (o : Option String) (S : Store) : R D := match o with
  | some t => .ok (.bl (ns.any (isT t))) S
  | none => .bad
theorem isOf_some (ns : List String) (t : String) : isOf ns (some t) S = .ok (.bl (ns.any (isT t))) S := id rfl
theorem mIs_K (ns : List String) (a : SE) : mIs ns a l S = R.bd (fun d S1 => isOf ns (tyD S1 d) S1) (dm _) (a l S) := id rfl
def itmOf (o : Option (List DK × List D)) (S : Store) : R D := match o with
  | some (ks, vs) => .ok (.tmp (itemsD ks vs)) S
  | none => .bad
theorem itmOf_some (ks : List DK) (vs : List D) : itmOf (some (ks, vs)) S = .ok (.tmp (itemsD ks vs)) S := id rfl
theorem mItems_K (a : SE) : mItems a l S = R.bd (fun d S1 => itmOf (viewD S1 d) S1) (dm _) (a l S) := id rfl
def getOf (o : Option (List DK × List D)) (q : Option DK) (z : D) (S : Store) : R D := match o with
  | some (ks, vs) => match q with
    | some q => .ok ((getK ks vs q).getD z) S
    | none => .bad
  | none => .bad
theorem getOf_some (ks : List DK) (vs : List D) (q : DK) (z : D) : getOf (some (ks, vs)) (some q) z S = .ok ((getK ks vs q).getD z) S := id rfl
theorem mGet2_K (d k z : SE) : mGet2 d k z l S = R.bd (fun d S1 => cd (R.bd (fun k S2 => R.bd (fun z S3 => getOf (viewD S3 d) (dkD k) z S3) (dm _) (z l S2)) (dm _) (k l S1), .bad) (dm _) (isDc S1 d)) (dm _) (d l S) := id rfl
theorem mGet1_K (d k : SE) : mGet1 d k l S = R.bd (fun d S1 => cd (R.bd (fun k S2 => getOf (viewD S2 d) (dkD k) .non S2) (dm _) (k l S1), .bad) (dm _) (isDc S1 d)) (dm _) (d l S) := id rfl
theorem mDis_K (ks : List DK) (as : List (Bool × SE)) : mDis ks as l S = R.bd (fun ds S1 => .ok (.tdic ks ds) S1) (dm _) (mArgs as l S) := id rfl
def prOf (d : D) (S : Store) : R (Option Int) := match d with
  | .int i => .ok (some i) S
  | _ => .bad
theorem prOf_int (i : Int) : prOf (.int i) S = .ok (some i) S := id rfl
theorem mPart_K (m : SE) : mPart m l S = R.bd prOf (dm _) (m l S) := id rfl
theorem mSl_K (a : SE) (lo hi : SO') : mSl a lo hi l S = R.bd (fun x S1 => R.bd (fun i S2 => R.bd (fun j S3 => R.of (opSl S3 x i j) S3) (dm _) (hi l S2)) (dm _) (lo l S1)) (dm _) (a l S) := id rfl
theorem mIt_K (m : SE) : mIt m l S = R.bd (fun d S1 => R.of (itS S1 d) S1) (dm _) (m l S) := id rfl
theorem mRg_K (f : List D → Option (List D × Chk)) (as : List (Bool × SE)) : mRg f as l S = R.bd (fun ds S1 => R.of (f ds) S1) (dm _) (mArgs as l S) := id rfl
theorem sSeq_K (a b : SS) : sSeq a b l S = O.sq (fun l' S' => b l' S') (dm _) (a l S) := id rfl
theorem sRet_K (m : SE) : sRet m l S = R.tb (fun d S1 => .ret d S1) (dm _) l (m l S) := id rfl
theorem sDrop_K (m : SE) : sDrop m l S = R.tb (fun _ S1 => .nx l S1) (dm _) l (m l S) := id rfl
theorem sIf_K (c : SB) (a b : SS) : sIf c a b l S = R.tb (fun k S1 => cd (a l S1, b l S1) (dm _) k) (dm _) l (c l S) := id rfl
def nxOf (o : Option Loc) (S : Store) : O := match o with
  | some l => .nx l S
  | none => .bad
theorem nxOf_some : nxOf (some l) S = .nx l S := id rfl
theorem sAsg_K (b : BG) (k : Bool) (m : SE) : sAsg b k m l S = R.tb (fun d S1 => nxOf (b.run d l) S1) (dm _) l (R.bd (fixD k) (dm _) (m l S)) := id rfl
theorem sPar_K (is : List Nat) (as : List (Bool × SE)) : sPar is as l S = R.tb (fun ds S1 => nxOf (bAll (is.map bN) ds l) S1) (dm _) l (mArgs as l S) := id rfl
def augOf (i : Nat) (l : Loc) (o : Option D) (S : Store) : O := match o with
  | some d => if isVal d = true then .nx (l.set i (some d)) S else .bad
  | none => .bad
theorem augOf_some (i : Nat) (d : D) : augOf i l (some d) S = cd (.nx (l.set i (some d)) S, .bad) (dm _) (isVal d) := id rfl
def augIn (i : Nat) (f : Store → D → D → Option D) (m : SE) (l : Loc) (S : Store) (o : Option D) : O := match o with
  | some dx => (m l S).toO l fun dy S1 => augOf i l (f S1 dx dy) S1
  | none => .bad
theorem augIn_some (i : Nat) (f : Store → D → D → Option D) (m : SE) (dx : D) : augIn i f m l S (some dx) = R.tb (fun dy S1 => augOf i l (f S1 dx dy) S1) (dm _) l (m l S) := id rfl
theorem sAug_K (i : Nat) (f : Store → D → D → Option D) (m : SE) : sAug i f m l S = augIn i f m l S (look l i) := id rfl
theorem isVal_int (i : Int) : isVal (.int i) = true := id rfl
theorem isVal_str (i : List Nat) : isVal (.str i) = true := id rfl
def nxSt (o : Option Store) (l : Loc) : O := match o with
  | some S => .nx l S
  | none => .bad
theorem nxSt_some : nxSt (some S) l = .nx l S := id rfl
theorem sPut_K (k : Bool) (m o i : SE) : sPut k m o i l S = R.tb (fun d S1 => R.tb (fun o S2 => R.tb (fun i S3 => nxSt (setQ S3 o i d) l) (dm _) l (i l S2)) (dm _) l (o l S1)) (dm _) l (R.bd (fixD k) (dm _) (m l S)) := id rfl
theorem sRaise_K (c : Nat) (m : SE) : sRaise c m l S = R.tb (fun d S1 => .exc c [d] l S1) (dm _) l (R.bd (fixD false) (dm _) (m l S)) := id rfl
theorem sFor_K (m : SI) (b : BG) (body : SS) : sFor m b body l S = R.tb (fun p S1 => lp p.2 (bodyOf b body) p.1 l S1) (dm _) l (m l S) := id rfl
theorem mLc_K (mi : SI) (b : BG) (vs : List Nat) (mt : SB) (me : SE) : mLc mi b vs mt me l S = R.bd (fun p S1 => lcl p.2 b (wipeL l vs) mt me p.1 [] S1) (dm _) (mi l S) := id rfl
/-! tries -/
def O.tr (p : (Nat → Nat → Bool) × List Hd) (_ : Dm p) (nC : Nat) (o : O) : O := match o with
  | .exc c vs l' S' => if c < nC then pick p.1 c vs l' S' p.2 else .bad
  | o => o
theorem sTry_K (nC : Nat) (sub : Nat → Nat → Bool) (m : SS) (hs : List Hd) : sTry nC sub m hs l S = O.tr (sub, hs) (dm _) nC (m l S) := id rfl
theorem tr_nx (p : (Nat → Nat → Bool) × List Hd) (w : Dm p) (nC : Nat) : O.tr p w nC (.nx l S) = .nx l S := id rfl
theorem tr_ret (p : (Nat → Nat → Bool) × List Hd) (w : Dm p) (nC : Nat) (d : D) : O.tr p w nC (.ret d S) = .ret d S := id rfl
theorem tr_exc (sub : Nat → Nat → Bool) (hs : List Hd) (w : Dm (sub, hs)) (nC c : Nat) (vs : List D) : O.tr (sub, hs) w nC (.exc c vs l S) = cd (pick sub c vs l S hs, .bad) (dm _) (decide (c < nC)) := by
  unfold O.tr cd
  by_cases h : c < nC
  · simp [h]
  · simp [h]
theorem pick_nil (sub : Nat → Nat → Bool) (c : Nat) (vs : List D) : pick sub c vs l S [] = .exc c vs l S := id rfl
theorem pick_K (sub : Nat → Nat → Bool) (c : Nat) (vs : List D) (ch i : Nat) (m : SS) (r : List Hd) : pick sub c vs l S ((ch, i, m) :: r) = cd ((m ((noX l).set i (some (.exn c vs))) S).out i, pick sub c vs l S r) (dm _) (sub c ch) := id rfl
theorem out_nx (i : Nat) : O.out i (.nx l S) = .nx (noX (l.set i none)) S := id rfl
theorem out_ret (i : Nat) (d : D) : O.out i (.ret d S) = .ret d S := id rfl
theorem noX_cons {d : D} (r : isR d = true) : noX (some d :: l) = some d :: noX l := by cases d <;> first | rfl | cases r
theorem noX_none : noX (none :: l) = none :: noX l := id rfl
theorem noX_nil : noX [] = [] := id rfl
def xfOf (c : Nat) (o : Option (Option D)) (S : Store) : R D := match o with
  | some (some (.exn c' [d])) => if c' = c then .ok d S else .bad
  | _ => .bad
theorem xfOf_exn (c : Nat) (d : D) : xfOf c (some (some (.exn c [d]))) S = .ok d S := by
  unfold xfOf
  simp
theorem mXf_K (i c : Nat) : mXf i c l S = xfOf c l[i]? S := id rfl
/-! loops -/
def lcIn (F : Loc → R D) (_ : Dm F) (o : Option Loc) : R D := match o with
  | some l' => F l'
  | none => .bad
theorem lcIn_some (F : Loc → R D) (w : Dm F) : lcIn F w (some l) = F l := id rfl
theorem lcl_K {b : BG} {mt : SB} {me : SE} {d : D} {ds acc : List D} : lcl chT b l mt me (d :: ds) acc S = lcIn (fun l' => R.bd (fun k S1 => cd (R.bd (fun y S2 => cd (lcl chT b l mt me ds (acc ++ [y]) S2, .bad) (dm _) (decide (acc.length < SL))) (dm _) (mFix false me l' S1).calm, lcl chT b l mt me ds acc S1) (dm _) k) (dm _) (mt l' S).calm) (dm _) (b.run d l) := by
  rw [lcl_cons]
  unfold lcIn R.bd cd
  cases b.run d l with
  | none => rfl
  | some l' => simp only [decide_eq_true_eq]
def O.lpk (F : Loc → Store → O) (_ : Dm F) (o : O) : O := match o with
  | .nx l S => F l S
  | .cnt l S => F l S
  | .brk l S => .nx l S
  | .ret d S => .ret d S
  | .exc c vs l S => .exc c vs l S
  | .bad => .bad
theorem lpk_nx (F : Loc → Store → O) (w : Dm F) : O.lpk F w (.nx l S) = F l S := id rfl
theorem lpk_cnt (F : Loc → Store → O) (w : Dm F) : O.lpk F w (.cnt l S) = F l S := id rfl
theorem lpk_brk (F : Loc → Store → O) (w : Dm F) : O.lpk F w (.brk l S) = .nx l S := id rfl
theorem lpk_ret (F : Loc → Store → O) (w : Dm F) (d : D) : O.lpk F w (.ret d S) = .ret d S := id rfl
theorem lpk_exc (F : Loc → Store → O) (w : Dm F) (c : Nat) (vs : List D) : O.lpk F w (.exc c vs l S) = .exc c vs l S := id rfl
theorem lp_K {b : D → SS} {d : D} {ds : List D} : lp chT b (d :: ds) l S = O.lpk (fun l' S' => lp chT b ds l' S') (dm _) (b d l S) := by
  rw [lp_cons]
  unfold O.lpk
  cases b d l S <;> rfl
def nxBd (b : BG) (m : SS) (_ : Dm m) (S : Store) (o : Option Loc) : O := match o with
  | some l => m l S
  | none => .bad
theorem nxBd_some (b : BG) (m : SS) (w : Dm m) : nxBd b m w S (some l) = m l S := id rfl
theorem bodyOf_K (b : BG) (m : SS) (d : D) : bodyOf b m d l S = nxBd b m (dm _) S (b.run d l) := id rfl
theorem sWh_K {c : SB} {b : SS} : sWh c b l S = R.tb (fun k S1 => cd (O.lpk (fun l' S' => sWh c b l' S') (dm _) (b l S1), .nx l S1) (dm _) k) (dm _) l (c l S) := by
  rw [sWh_step]
  cases c l S with
  | ok k S1 =>
    by_cases z : k = true
    · subst z
      show (match b l S1 with
        | .nx l' S' => sWh c b l' S'
        | .cnt l' S' => sWh c b l' S'
        | .brk l' S' => .nx l' S'
        | .ret d S' => .ret d S'
        | .exc cc vs l' S' => .exc cc vs l' S'
        | .bad => .bad) = O.lpk (fun l' S' => sWh c b l' S') (dm _) (b l S1)
      cases b l S1 <;> rfl
    · have z := Bool.eq_false_iff.mpr z
      subst z
      rfl
  | _ => rfl
/-! operators -/
theorem ne_tmpnil (xs : List D) : opNe S (.tmp xs) (.tmp []) = some (.bl (!xs.isEmpty)) := ne_nil rfl
theorem ne_lstnil (xs : List D) : opNe S (.lst xs) (.tmp []) = some (.bl (!xs.isEmpty)) := ne_nil rfl
theorem eq_tmpnil (xs : List D) : opEq S (.tmp xs) (.tmp []) = some (.bl xs.isEmpty) := eq_nil rfl
theorem eq_lstnil (xs : List D) : opEq S (.lst xs) (.tmp []) = some (.bl xs.isEmpty) := eq_nil rfl
theorem at_lit {α : Type} (xs : List α) (n : Nat) : atI xs (@OfNat.ofNat Int n instOfNat) = xs[n]? := by
  show atI xs (n : Int) = _
  unfold atI
  by_cases h : n < xs.length
  · rw [ixN_lit _ n h]; rfl
  · have : ixN xs.length (n : Int) = none := by
      unfold ixN
      rw [if_pos (by omega), if_neg (by omega)]
    rw [this, List.getElem?_eq_none (by omega)]
    rfl
theorem beq_tt : (true == true) = true := rfl
theorem beq_tf : (true == false) = false := rfl
theorem beq_ft : (false == true) = false := rfl
theorem beq_ff : (false == false) = true := rfl
end
end LB
end

section
set_option Elab.async false
set_option linter.all false
set_option maxRecDepth 100000
set_option maxHeartbeats 4000000
/-! k03: what each def of the linked text means. Printed by gen.py. -/
namespace k03
open PySem PySem.Spec L2 LB

abbrev nC : Nat := 2
def subC : Nat → Nat → Bool := fun a b => match a, b with
  | 0, 0 => true
  | 1, 0 => true
  | 1, 1 => true
  | _, _ => false
/-- is_letters(value, most); 0 value, 1 most, 2 sign -/
noncomputable def b_0 (Φ : Nat → Fun) : SS := sRet (mAndV (mIs ["str"] (mVar 0)) (mAndV (mChain opLe opLe (mC (.int 1)) (mCallB fLen [(false, mVar 0)]) (mVar 1)) (mCallB fAll [(false, mLc (mIt (mVar 0)) (bN 2) [2] (mYes) (mOp2 opIn (mVar 2) (mC (.str [97, 98, 99, 100, 101, 102, 103, 104, 105, 106, 107, 108, 109, 110, 111, 112, 113, 114, 115, 116, 117, 118, 119, 120, 121, 122]))))])))
/-- is_name(value); 0 value -/
noncomputable def b_1 (Φ : Nat → Fun) : SS := sRet (mCall (Φ 0) [(false, mVar 0), (false, mC (.int 4))])
/-- name_at(index); 0 index, 1 found, 2 left -/
noncomputable def b_2 (Φ : Nat → Fun) : SS := sSeq (sPar [1, 2] [(false, mC (.str [])), (false, mOp2 opAdd (mVar 0) (mC (.int 1)))]) (sSeq (sWh (mB (mOp2 opGt (mVar 2) (mC (.int 0)))) (sSeq (sAsg (bN 1) false (mOp2 opAdd (mOp2 opIx (mC (.str [97, 98, 99, 100, 101, 102, 103, 104, 105, 106, 107, 108, 109, 110, 111, 112, 113, 114, 115, 116, 117, 118, 119, 120, 121, 122])) (mOp2 opMod (mOp2 opSub (mVar 2) (mC (.int 1))) (mCallB fLen [(false, mC (.str [97, 98, 99, 100, 101, 102, 103, 104, 105, 106, 107, 108, 109, 110, 111, 112, 113, 114, 115, 116, 117, 118, 119, 120, 121, 122]))]))) (mVar 1))) (sAsg (bN 2) false (mOp2 opFdiv (mOp2 opSub (mVar 2) (mC (.int 1))) (mCallB fLen [(false, mC (.str [97, 98, 99, 100, 101, 102, 103, 104, 105, 106, 107, 108, 109, 110, 111, 112, 113, 114, 115, 116, 117, 118, 119, 120, 121, 122]))]))))) (sRet (mVar 1)))
/-- fresh_names(used, many); 0 used, 1 many, 2 taken, 3 found, 4 index, 5 name -/
noncomputable def b_3 (Φ : Nat → Fun) : SS := sSeq (sPar [2, 3, 4] [(false, mCallB fDict [(false, mLc (mIt (mVar 0)) (bN 5) [5] (mYes) (mTup [(false, mVar 5), (false, mC (.bl true))]))]), (true, mLst []), (false, mC (.int 0))]) (sSeq (sWh (mB (mOp2 opLt (mCallB fLen [(false, mVar 3)]) (mVar 1))) (sSeq (sIf (mB (mOp2 opNotIn (mCall (Φ 2) [(false, mVar 4)]) (mVar 2))) (sDrop (mMeth isLs fApp (mVar 3) [(false, mCall (Φ 2) [(false, mVar 4)])])) (sNx)) (sAug 4 iaAdd (mC (.int 1))))) (sRet (mVar 3)))
/-- parts_of(part); 0 part -/
noncomputable def b_4 (Φ : Nat → Fun) : SS := sSeq (sIf (mB (mOp2 opEq (mOp2 opIx (mVar 0) (mC (.int 0))) (mC (.str [97, 112, 112])))) (sRet (mSl (mVar 0) (mPart (mC (.int 1))) (mNo))) (sNx)) (sRet (mIf (mB (mOp2 opEq (mOp2 opIx (mVar 0) (mC (.int 0))) (mC (.str [108, 97, 109])))) (mSl (mVar 0) (mPart (mUn opNeg (mC (.int 1)))) (mNo)) (mTup [])))
/-- count_of(head); 0 head -/
noncomputable def b_5 (Φ : Nat → Fun) : SS := sSeq (sIf (mB (mOp2 opEq (mOp2 opIx (mVar 0) (mC (.int 0))) (mC (.str [97, 112, 112])))) (sRet (mC (.int 2))) (sNx)) (sRet (mIf (mB (mOp2 opEq (mOp2 opIx (mVar 0) (mC (.int 0))) (mC (.str [108, 97, 109])))) (mC (.int 1)) (mC (.int 0))))
/-- built(heads); 0 heads, 1 done, 2 head, 3 parts, 4 _ -/
noncomputable def b_6 (Φ : Nat → Fun) : SS := sSeq (sAsg (bN 1) true (mLst [])) (sSeq (sFor (mIt (mUn opBack (mVar 0))) (bN 2) (sSeq (sAsg (bN 3) false (mLc (mRg rg1 [(false, mCall (Φ 5) [(false, mVar 2)])]) (bN 4) [4] (mYes) (mMeth isLs fPop (mVar 1) []))) (sDrop (mMeth isLs fApp (mVar 1) [(false, mOp2 opAdd (mVar 2) (mCallB fTuple [(false, mVar 3)]))])))) (sRet (mOp2 opIx (mVar 1) (mC (.int 0)))))
/-- depths_of(heads); 0 heads, 1 found, 2 waiting, 3 head, 4 depth -/
noncomputable def b_7 (Φ : Nat → Fun) : SS := sSeq (sPar [1, 2] [(true, mLst []), (true, mLst [(false, mC (.int 0))])]) (sSeq (sFor (mIt (mVar 0)) (bN 3) (sSeq (sAsg (bN 4) false (mMeth isLs fPop (mVar 2) [])) (sSeq (sDrop (mMeth isLs fApp (mVar 1) [(false, mVar 4)])) (sDrop (mMeth isLs fExt (mVar 2) [(false, mOp2 opMul (mLst [(false, mOp2 opAdd (mVar 4) (mIf (mB (mOp2 opEq (mOp2 opIx (mVar 3) (mC (.int 0))) (mC (.str [108, 97, 109])))) (mC (.int 1)) (mC (.int 0))))]) (mCall (Φ 5) [(false, mVar 3)]))]))))) (sRet (mVar 1)))
/-- numbered_heads(term); 0 term, 1 found, 2 waiting, 3 around, 4 depth, 5 part, 6 rows -/
noncomputable def b_8 (Φ : Nat → Fun) : SS := sSeq (sAsg (bT [bN 1, bN 2, bN 3, bN 4]) false (mTup [(true, mLst []), (true, mLst [(false, mVar 0)]), (true, mDic0), (false, mC (.int 0))])) (sSeq (sWh (mB (mOp2 opNe (mVar 2) (mLst []))) (sSeq (sAsg (bN 5) false (mMeth isLs fPop (mVar 2) [])) (sIf (mB (mOp2 opEq (mOp2 opIx (mVar 5) (mC (.int 0))) (mC (.str [118, 97, 114])))) (sSeq (sAsg (bN 6) false (mGet2 (mVar 3) (mOp2 opIx (mVar 5) (mC (.int 1))) (mLst []))) (sDrop (mMeth isLs fApp (mVar 1) [(false, mIf (mB (mOp2 opNe (mVar 6) (mLst []))) (mTup [(false, mC (.str [110, 117, 109])), (false, mOp2 opSub (mOp2 opSub (mVar 4) (mC (.int 1))) (mOp2 opIx (mVar 6) (mUn opNeg (mC (.int 1)))))]) (mTup [(false, mC (.str [102, 114, 101, 101])), (false, mOp2 opIx (mVar 5) (mC (.int 1)))]))]))) (sIf (mB (mOp2 opEq (mOp2 opIx (mVar 5) (mC (.int 0))) (mC (.str [97, 112, 112])))) (sSeq (sDrop (mMeth isLs fApp (mVar 1) [(false, mC (.tup [.str [97, 112, 112]]))])) (sDrop (mMeth isLs fExt (mVar 2) [(false, mLst [(false, mOp2 opIx (mVar 5) (mC (.int 2))), (false, mOp2 opIx (mVar 5) (mC (.int 1)))])]))) (sIf (mB (mOp2 opEq (mOp2 opIx (mVar 5) (mC (.int 0))) (mC (.str [108, 97, 109])))) (sSeq (sDrop (mMeth isLs fApp (mVar 1) [(false, mC (.tup [.str [108, 97, 109]]))])) (sSeq (sPut false (mOp2 opAdd (mGet2 (mVar 3) (mOp2 opIx (mVar 5) (mC (.int 1))) (mLst [])) (mLst [(false, mVar 4)])) (mVar 3) (mOp2 opIx (mVar 5) (mC (.int 1)))) (sSeq (sAug 4 iaAdd (mC (.int 1))) (sDrop (mMeth isLs fExt (mVar 2) [(false, mLst [(false, mTup [(false, mC (.str [101, 110, 100])), (false, mOp2 opIx (mVar 5) (mC (.int 1)))]), (false, mOp2 opIx (mVar 5) (mC (.int 2)))])]))))) (sSeq (sPut false (mSl (mOp2 opIx (mVar 3) (mOp2 opIx (mVar 5) (mC (.int 1)))) (mNo) (mPart (mUn opNeg (mC (.int 1))))) (mVar 3) (mOp2 opIx (mVar 5) (mC (.int 1)))) (sAug 4 opSub (mC (.int 1))))))))) (sRet (mVar 1)))
/-- free_in(heads); 0 heads, 1 head -/
noncomputable def b_9 (Φ : Nat → Fun) : SS := sRet (mCallB fSorted [(false, mCallB fDict [(false, mLc (mIt (mVar 0)) (bN 1) [1] (mB (mOp2 opEq (mOp2 opIx (mVar 1) (mC (.int 0))) (mC (.str [102, 114, 101, 101])))) (mTup [(false, mOp2 opIx (mVar 1) (mC (.int 1))), (false, mC (.bl true))]))])])
/-- named_heads(heads, names); 0 heads, 1 names, 2 found, 3 head, 4 depth -/
noncomputable def b_10 (Φ : Nat → Fun) : SS := sSeq (sAsg (bN 2) true (mLst [])) (sSeq (sFor (mZip [(false, mVar 0), (false, mCall (Φ 7) [(false, mVar 0)])]) (bT [bN 3, bN 4]) (sIf (mB (mOp2 opEq (mOp2 opIx (mVar 3) (mC (.int 0))) (mC (.str [108, 97, 109])))) (sDrop (mMeth isLs fApp (mVar 2) [(false, mTup [(false, mC (.str [108, 97, 109])), (false, mOp2 opIx (mVar 1) (mVar 4))])])) (sIf (mB (mOp2 opEq (mOp2 opIx (mVar 3) (mC (.int 0))) (mC (.str [110, 117, 109])))) (sDrop (mMeth isLs fApp (mVar 2) [(false, mTup [(false, mC (.str [118, 97, 114])), (false, mOp2 opIx (mVar 1) (mOp2 opSub (mOp2 opSub (mVar 4) (mC (.int 1))) (mOp2 opIx (mVar 3) (mC (.int 1)))))])])) (sDrop (mMeth isLs fApp (mVar 2) [(false, mIf (mB (mOp2 opEq (mOp2 opIx (mVar 3) (mC (.int 0))) (mC (.str [102, 114, 101, 101])))) (mTup [(false, mC (.str [118, 97, 114])), (false, mOp2 opIx (mVar 3) (mC (.int 1)))]) (mVar 3))]))))) (sRet (mVar 2)))
/-- has_form(value); 0 value -/
noncomputable def b_11 (Φ : Nat → Fun) : SS := sSeq (sIf (mOr (mNot (mTru (mIs ["tuple"] (mVar 0)))) (mOr (mNot (mB (mChain opLe opLe (mC (.int 2)) (mCallB fLen [(false, mVar 0)]) (mC (.int 3))))) (mNot (mTru (mIs ["str"] (mOp2 opIx (mVar 0) (mC (.int 0)))))))) (sRet (mC (.bl false))) (sNx)) (sSeq (sIf (mB (mOp2 opEq (mOp2 opIx (mVar 0) (mC (.int 0))) (mC (.str [97, 112, 112])))) (sRet (mOp2 opEq (mCallB fLen [(false, mVar 0)]) (mC (.int 3)))) (sNx)) (sRet (mAndV (mOp2 opEq (mCallB fLen [(false, mVar 0)]) (mGet2 (mDis [.inr [118, 97, 114], .inr [108, 97, 109]] [(false, mC (.int 2)), (false, mC (.int 3))]) (mOp2 opIx (mVar 0) (mC (.int 0))) (mC (.int 0)))) (mCall (Φ 1) [(false, mOp2 opIx (mVar 0) (mC (.int 1)))]))))
/-- fits_term(value); 0 value, 1 waiting, 2 count, 3 item -/
noncomputable def b_12 (Φ : Nat → Fun) : SS := sSeq (sPar [1, 2] [(true, mLst [(false, mVar 0)]), (false, mC (.int 0))]) (sSeq (sWh (mB (mOp2 opNe (mVar 1) (mLst []))) (sSeq (sAsg (bN 3) false (mMeth isLs fPop (mVar 1) [])) (sSeq (sAug 2 iaAdd (mC (.int 1))) (sSeq (sIf (mOr (mB (mOp2 opGt (mVar 2) (mC (.int 2000)))) (mNot (mTru (mCall (Φ 11) [(false, mVar 3)])))) (sRet (mC (.bl false))) (sNx)) (sDrop (mMeth isLs fExt (mVar 1) [(false, mCall (Φ 4) [(false, mVar 3)])])))))) (sRet (mC (.bl true))))
/-- check_term(term); 0 term -/
noncomputable def b_13 (Φ : Nat → Fun) : SS := sIf (mNot (mTru (mCall (Φ 12) [(false, mVar 0)]))) (sRaise 1 (mVar 0)) (sNx)
/-- free_of(term); 0 term -/
noncomputable def b_14 (Φ : Nat → Fun) : SS := sRet (mCall (Φ 9) [(false, mCall (Φ 8) [(false, mVar 0)])])
/-- in_normal_names(heads); 0 heads, 1 many, 2 head -/
noncomputable def b_15 (Φ : Nat → Fun) : SS := sSeq (sAsg (bN 1) false (mCallB fLen [(false, mLc (mIt (mVar 0)) (bN 2) [2] (mB (mOp2 opEq (mOp2 opIx (mVar 2) (mC (.int 0))) (mC (.str [108, 97, 109])))) (mVar 2))])) (sRet (mCall (Φ 6) [(false, mCall (Φ 10) [(false, mVar 0), (false, mCall (Φ 3) [(false, mCall (Φ 9) [(false, mVar 0)]), (false, mVar 1)])])]))
/-- normal_names(term); 0 term -/
noncomputable def b_16 (Φ : Nat → Fun) : SS := sSeq (sDrop (mCall (Φ 13) [(false, mVar 0)])) (sRet (mCall (Φ 15) [(false, mCall (Φ 8) [(false, mVar 0)])]))
/-- closure(term); 0 term, 1 found, 2 name -/
noncomputable def b_17 (Φ : Nat → Fun) : SS := sSeq (sDrop (mCall (Φ 13) [(false, mVar 0)])) (sSeq (sAsg (bN 1) false (mVar 0)) (sSeq (sFor (mIt (mUn opBack (mCall (Φ 14) [(false, mVar 0)]))) (bN 2) (sAsg (bN 1) false (mTup [(false, mC (.str [108, 97, 109])), (false, mVar 2), (false, mVar 1)]))) (sRet (mVar 1))))
/-- _law_cell(script, k); 0 script, 1 k -/
noncomputable def b_18 (Φ : Nat → Fun) : SS := sRet (mIf (mB (mOp2 opLt (mVar 1) (mCallB fLen [(false, mVar 0)]))) (mOp2 opIx (mVar 0) (mVar 1)) (mOp2 opAdd (mOp2 opMul (mC (.int 6653)) (mVar 1)) (mOp2 opMod (mCallB fInt [(false, mCallB fSum [(false, mSl (mVar 0) (mNo) (mPart (mC (.int 1))))])]) (mC (.int 1000033)))))
/-- _law_box(great); 0 great -/
noncomputable def b_19 (Φ : Nat → Fun) : SS := sRet (mLst [(false, mCallB fAbs [(false, mVar 0)]), (false, mOp2 opGe (mCallB fAbs [(false, mVar 0)]) (mOp2 opPow (mC (.int 10)) (mC (.int 18)))), (false, mOp2 opMod (mCallB fInt [(false, mCallB fAbs [(false, mVar 0)])]) (mC (.int 2147483629))), (false, mC (.int 0))])
/-- _law_take(box, many); 0 box, 1 many, 2 digit, 3 mixed -/
noncomputable def b_20 (Φ : Nat → Fun) : SS := sSeq (sIf (mAnd (mTru (mOp2 opIx (mVar 0) (mC (.int 1)))) (mB (mOp2 opGt (mOp2 opIx (mVar 0) (mC (.int 0))) (mC (.int 0))))) (sSeq (sAsg (bN 2) false (mOp2 opMod (mCallB fInt [(false, mOp2 opIx (mVar 0) (mC (.int 0)))]) (mVar 1))) (sSeq (sPut false (mOp2 opFdiv (mOp2 opIx (mVar 0) (mC (.int 0))) (mVar 1)) (mVar 0) (mC (.int 0))) (sRet (mVar 2)))) (sNx)) (sSeq (sPut false (mOp2 opAdd (mOp2 opIx (mVar 0) (mC (.int 3))) (mC (.int 1))) (mVar 0) (mC (.int 3))) (sSeq (sAsg (bN 3) false (mOp2 opMod (mCallB fInt [(false, mOp2 opPow (mOp2 opAdd (mOp2 opAdd (mOp2 opIx (mVar 0) (mC (.int 2))) (mOp2 opMul (mC (.int 15487069)) (mOp2 opIx (mVar 0) (mC (.int 3))))) (mC (.int 170357766))) (mC (.int 5)))]) (mC (.int 2147483647)))) (sRet (mOp2 opMod (mCallB fInt [(false, mOp2 opFdiv (mOp2 opMod (mCallB fInt [(false, mOp2 opPow (mOp2 opAdd (mOp2 opMul (mVar 3) (mC (.int 48271))) (mOp2 opMul (mC (.int 104729)) (mOp2 opIx (mVar 0) (mC (.int 3))))) (mC (.int 3)))]) (mC (.int 2147483587))) (mC (.int 64)))]) (mVar 1)))))
/-- _law_same(told, due); 0 told, 1 due, 2 same, 3 k -/
noncomputable def b_21 (Φ : Nat → Fun) : SS := sSeq (sIf (mOr (mB (mOp2 opIs (mVar 1) (mC .non))) (mTru (mIs ["bool"] (mVar 1)))) (sRet (mIf (mB (mOp2 opIs (mVar 1) (mC .non))) (mOp2 opIs (mVar 0) (mC .non)) (mAndV (mIs ["bool"] (mVar 0)) (mOp2 opEq (mOp2 opIs (mVar 0) (mC (.bl true))) (mOp2 opIs (mVar 1) (mC (.bl true))))))) (sNx)) (sSeq (sIf (mTru (mIs ["int"] (mVar 1))) (sRet (mAndV (mIs ["int"] (mVar 0)) (mAndV (mNotV (mIs ["bool"] (mVar 0))) (mOp2 opEq (mOp2 opSub (mCallB fInt [(false, mVar 0)]) (mVar 1)) (mC (.int 0)))))) (sNx)) (sSeq (sIf (mTru (mIs ["str"] (mVar 1))) (sSeq (sAsg (bN 2) false (mAndV (mIs ["str"] (mVar 0)) (mOp2 opEq (mCallB fLen [(false, mVar 0)]) (mCallB fLen [(false, mVar 1)])))) (sRet (mAndV (mVar 2) (mOp2 opEq (mLc (mRg rg1 [(false, mCallB fLen [(false, mVar 1)])]) (bN 3) [3] (mB (mOp2 opNe (mSl (mVar 0) (mPart (mVar 3)) (mPart (mOp2 opAdd (mVar 3) (mC (.int 1))))) (mOp2 opIx (mVar 1) (mVar 3)))) (mVar 3)) (mLst []))))) (sNx)) (sSeq (sIf (mTru (mIs ["dict"] (mVar 1))) (sRet (mAndV (mIs ["dict"] (mVar 0)) (mCall (Φ 21) [(false, mItems (mVar 0)), (false, mItems (mVar 1))]))) (sNx)) (sSeq (sIf (mOr (mB (mOp2 opNe (mIs ["list"] (mVar 0)) (mIs ["list"] (mVar 1)))) (mB (mOp2 opNe (mIs ["tuple"] (mVar 0)) (mIs ["tuple"] (mVar 1))))) (sRet (mC (.bl false))) (sNx)) (sSeq (sIf (mOr (mNot (mTru (mIs ["list", "tuple"] (mVar 0)))) (mB (mOp2 opNe (mCallB fLen [(false, mVar 0)]) (mCallB fLen [(false, mVar 1)])))) (sRet (mC (.bl false))) (sNx)) (sRet (mOp2 opEq (mLc (mRg rg1 [(false, mCallB fLen [(false, mVar 1)])]) (bN 3) [3] (mNot (mTru (mCall (Φ 21) [(false, mOp2 opIx (mVar 0) (mVar 3)), (false, mOp2 opIx (mVar 1) (mVar 3))]))) (mVar 3)) (mLst []))))))))
/-- _law_numbered(term, around); 0 term, 1 around -/
noncomputable def b_22 (Φ : Nat → Fun) : SS := sSeq (sIf (mB (mOp2 opEq (mOp2 opIx (mVar 0) (mC (.int 0))) (mC (.str [118, 97, 114])))) (sRet (mIf (mB (mOp2 opIn (mOp2 opIx (mVar 0) (mC (.int 1))) (mVar 1))) (mTup [(false, mC (.str [110, 117, 109])), (false, mMeth isL fIndex (mVar 1) [(false, mOp2 opIx (mVar 0) (mC (.int 1)))])]) (mTup [(false, mC (.str [102, 114, 101, 101])), (false, mOp2 opIx (mVar 0) (mC (.int 1)))]))) (sNx)) (sSeq (sIf (mB (mOp2 opEq (mOp2 opIx (mVar 0) (mC (.int 0))) (mC (.str [108, 97, 109])))) (sRet (mTup [(false, mC (.str [108, 97, 109])), (false, mCall (Φ 22) [(false, mOp2 opIx (mVar 0) (mC (.int 2))), (false, mOp2 opAdd (mLst [(false, mOp2 opIx (mVar 0) (mC (.int 1)))]) (mVar 1))])])) (sNx)) (sRet (mTup [(false, mC (.str [97, 112, 112])), (false, mCall (Φ 22) [(false, mOp2 opIx (mVar 0) (mC (.int 1))), (false, mVar 1)]), (false, mCall (Φ 22) [(false, mOp2 opIx (mVar 0) (mC (.int 2))), (false, mVar 1)])])))
/-- _law_free(term, around); 0 term, 1 around -/
noncomputable def b_23 (Φ : Nat → Fun) : SS := sSeq (sIf (mB (mOp2 opEq (mOp2 opIx (mVar 0) (mC (.int 0))) (mC (.str [118, 97, 114])))) (sRet (mOp2 opMul (mLst [(false, mOp2 opIx (mVar 0) (mC (.int 1)))]) (mCallB fInt [(false, mOp2 opNotIn (mOp2 opIx (mVar 0) (mC (.int 1))) (mVar 1))]))) (sNx)) (sSeq (sIf (mB (mOp2 opEq (mOp2 opIx (mVar 0) (mC (.int 0))) (mC (.str [108, 97, 109])))) (sRet (mCall (Φ 23) [(false, mOp2 opIx (mVar 0) (mC (.int 2))), (false, mOp2 opAdd (mVar 1) (mLst [(false, mOp2 opIx (mVar 0) (mC (.int 1)))]))])) (sNx)) (sRet (mCallB fSortSet [(false, mOp2 opAdd (mCall (Φ 23) [(false, mOp2 opIx (mVar 0) (mC (.int 1))), (false, mVar 1)]) (mCall (Φ 23) [(false, mOp2 opIx (mVar 0) (mC (.int 2))), (false, mVar 1)]))])))
/-- _law_term(box, size, names); 0 box, 1 size, 2 names, 3 way, 4 name, 5 left -/
noncomputable def b_24 (Φ : Nat → Fun) : SS := sSeq (sIf (mB (mOp2 opLe (mVar 1) (mC (.int 1)))) (sRet (mTup [(false, mC (.str [118, 97, 114])), (false, mOp2 opIx (mVar 2) (mCall (Φ 20) [(true, mVar 0), (false, mCallB fLen [(false, mVar 2)])]))])) (sNx)) (sSeq (sAsg (bN 3) false (mCall (Φ 20) [(true, mVar 0), (false, mC (.int 5))])) (sSeq (sIf (mOr (mB (mOp2 opLt (mVar 3) (mC (.int 2)))) (mB (mOp2 opEq (mVar 1) (mC (.int 2))))) (sSeq (sAsg (bN 4) false (mOp2 opIx (mC (.str [120, 121, 122, 117, 118, 119])) (mCall (Φ 20) [(true, mVar 0), (false, mC (.int 6))]))) (sRet (mTup [(false, mC (.str [108, 97, 109])), (false, mVar 4), (false, mCall (Φ 24) [(true, mVar 0), (false, mOp2 opSub (mVar 1) (mC (.int 1))), (false, mOp2 opAdd (mVar 2) (mLst [(false, mVar 4), (false, mVar 4)]))])]))) (sNx)) (sSeq (sAsg (bN 5) false (mOp2 opAdd (mC (.int 1)) (mCall (Φ 20) [(true, mVar 0), (false, mOp2 opSub (mVar 1) (mC (.int 2)))]))) (sSeq (sIf (mAnd (mB (mOp2 opEq (mVar 3) (mC (.int 4)))) (mB (mOp2 opGt (mVar 5) (mC (.int 2))))) (sSeq (sAsg (bN 4) false (mOp2 opIx (mC (.str [120, 121, 122, 117, 118, 119])) (mCall (Φ 20) [(true, mVar 0), (false, mC (.int 6))]))) (sRet (mTup [(false, mC (.str [97, 112, 112])), (false, mTup [(false, mC (.str [108, 97, 109])), (false, mVar 4), (false, mCall (Φ 24) [(true, mVar 0), (false, mOp2 opSub (mVar 5) (mC (.int 1))), (false, mOp2 opAdd (mVar 2) (mLst [(false, mVar 4), (false, mVar 4)]))])]), (false, mCall (Φ 24) [(true, mVar 0), (false, mOp2 opSub (mOp2 opSub (mVar 1) (mC (.int 1))) (mVar 5)), (false, mVar 2)])]))) (sNx)) (sRet (mTup [(false, mC (.str [97, 112, 112])), (false, mCall (Φ 24) [(true, mVar 0), (false, mVar 5), (false, mVar 2)]), (false, mCall (Φ 24) [(true, mVar 0), (false, mOp2 opSub (mOp2 opSub (mVar 1) (mC (.int 1))) (mVar 5)), (false, mVar 2)])]))))))
/-- _law_some(box); 0 box, 1 size -/
noncomputable def b_25 (Φ : Nat → Fun) : SS := sSeq (sAsg (bN 1) false (mOp2 opIx (mLst [(false, mC (.int 7)), (false, mC (.int 10)), (false, mC (.int 5)), (false, mC (.int 12)), (false, mC (.int 9)), (false, mC (.int 15)), (false, mOp2 opAdd (mC (.int 1)) (mCall (Φ 20) [(true, mVar 0), (false, mC (.int 3))])), (false, mOp2 opAdd (mC (.int 16)) (mCall (Φ 20) [(true, mVar 0), (false, mC (.int 25))]))]) (mCall (Φ 20) [(true, mVar 0), (false, mC (.int 8))]))) (sRet (mCall (Φ 24) [(true, mVar 0), (false, mVar 1), (false, mOp2 opIx (mLst [(false, mLst [(false, mC (.str [120])), (false, mC (.str [121]))]), (false, mLst [(false, mC (.str [120])), (false, mC (.str [121])), (false, mC (.str [122]))]), (false, mLst [(false, mC (.str [97])), (false, mC (.str [98])), (false, mC (.str [120]))]), (false, mLst [(false, mC (.str [121]))])]) (mCall (Φ 20) [(true, mVar 0), (false, mC (.int 4))]))]))
/-- _law_is_name(value); 0 value, 1 sign -/
noncomputable def b_26 (Φ : Nat → Fun) : SS := sRet (mAndV (mIs ["str"] (mVar 0)) (mAndV (mChain opLe opLe (mC (.int 1)) (mCallB fLen [(false, mVar 0)]) (mC (.int 4))) (mOp2 opEq (mLc (mIt (mVar 0)) (bN 1) [1] (mB (mOp2 opNotIn (mVar 1) (mC (.str [97, 98, 99, 100, 101, 102, 103, 104, 105, 106, 107, 108, 109, 110, 111, 112, 113, 114, 115, 116, 117, 118, 119, 120, 121, 122])))) (mVar 1)) (mLst []))))
/-- _law_is_term(value); 0 value, 1 waiting, 2 count, 3 item -/
noncomputable def b_27 (Φ : Nat → Fun) : SS := sSeq (sPar [1, 2] [(true, mLst [(false, mVar 0)]), (false, mC (.int 0))]) (sSeq (sWh (mB (mOp2 opNe (mVar 1) (mLst []))) (sSeq (sAsg (bN 3) false (mMeth isLs fPop (mVar 1) [])) (sSeq (sAsg (bN 2) false (mOp2 opAdd (mVar 2) (mC (.int 1)))) (sSeq (sIf (mOr (mB (mOp2 opGt (mVar 2) (mC (.int 2000)))) (mOr (mNot (mTru (mIs ["tuple"] (mVar 3)))) (mOr (mB (mOp2 opNotIn (mCallB fLen [(false, mVar 3)]) (mTup [(false, mC (.int 2)), (false, mC (.int 3))]))) (mNot (mTru (mIs ["str"] (mOp2 opIx (mVar 3) (mC (.int 0))))))))) (sRet (mC (.bl false))) (sNx)) (sSeq (sIf (mOr (mB (mOp2 opNotIn (mOp2 opIx (mVar 3) (mC (.int 0))) (mTup [(false, mC (.str [118, 97, 114])), (false, mC (.str [108, 97, 109])), (false, mC (.str [97, 112, 112]))]))) (mOr (mB (mOp2 opNe (mCallB fLen [(false, mVar 3)]) (mOp2 opAdd (mC (.int 2)) (mCallB fInt [(false, mOp2 opNe (mOp2 opIx (mVar 3) (mC (.int 0))) (mC (.str [118, 97, 114])))])))) (mAnd (mB (mOp2 opNe (mOp2 opIx (mVar 3) (mC (.int 0))) (mC (.str [97, 112, 112])))) (mNot (mTru (mCall (Φ 26) [(false, mOp2 opIx (mVar 3) (mC (.int 1)))])))))) (sRet (mC (.bl false))) (sNx)) (sDrop (mMeth isLs fExt (mVar 1) [(false, mIf (mB (mOp2 opEq (mOp2 opIx (mVar 3) (mC (.int 0))) (mC (.str [97, 112, 112])))) (mCallB fList [(false, mSl (mVar 3) (mPart (mC (.int 1))) (mNo))]) (mCallB fList [(false, mSl (mVar 3) (mPart (mC (.int 2))) (mNo))]))]))))))) (sRet (mC (.bl true))))
/-- _law_walk(term); 0 term, 1 found, 2 waiting, 3 place, 4 part -/
noncomputable def b_28 (Φ : Nat → Fun) : SS := sSeq (sPar [1, 2] [(true, mLst []), (true, mLst [(false, mTup [(false, mC (.str [])), (false, mVar 0)])])]) (sSeq (sWh (mB (mOp2 opNe (mVar 2) (mLst []))) (sSeq (sAsg (bT [bN 3, bN 4]) false (mMeth isLs fPop (mVar 2) [])) (sSeq (sDrop (mMeth isLs fApp (mVar 1) [(false, mTup [(false, mVar 3), (false, mVar 4)])])) (sSeq (sIf (mB (mOp2 opEq (mOp2 opIx (mVar 4) (mC (.int 0))) (mC (.str [108, 97, 109])))) (sDrop (mMeth isLs fApp (mVar 2) [(false, mTup [(false, mOp2 opAdd (mVar 3) (mC (.str [98]))), (false, mOp2 opIx (mVar 4) (mC (.int 2)))])])) (sNx)) (sIf (mB (mOp2 opEq (mOp2 opIx (mVar 4) (mC (.int 0))) (mC (.str [97, 112, 112])))) (sDrop (mMeth isLs fExt (mVar 2) [(false, mLst [(false, mTup [(false, mOp2 opAdd (mVar 3) (mC (.str [97]))), (false, mOp2 opIx (mVar 4) (mC (.int 2)))]), (false, mTup [(false, mOp2 opAdd (mVar 3) (mC (.str [102]))), (false, mOp2 opIx (mVar 4) (mC (.int 1)))])])])) (sNx)))))) (sRet (mVar 1)))
/-- _law_with(term, place, other); 0 term, 1 place, 2 other -/
noncomputable def b_29 (Φ : Nat → Fun) : SS := sSeq (sIf (mB (mOp2 opEq (mVar 1) (mC (.str [])))) (sRet (mVar 2)) (sNx)) (sSeq (sIf (mB (mOp2 opEq (mOp2 opIx (mVar 1) (mC (.int 0))) (mC (.str [98])))) (sRet (mTup [(false, mC (.str [108, 97, 109])), (false, mOp2 opIx (mVar 0) (mC (.int 1))), (false, mCall (Φ 29) [(false, mOp2 opIx (mVar 0) (mC (.int 2))), (false, mSl (mVar 1) (mPart (mC (.int 1))) (mNo)), (false, mVar 2)])])) (sNx)) (sSeq (sIf (mB (mOp2 opEq (mOp2 opIx (mVar 1) (mC (.int 0))) (mC (.str [102])))) (sRet (mTup [(false, mC (.str [97, 112, 112])), (false, mCall (Φ 29) [(false, mOp2 opIx (mVar 0) (mC (.int 1))), (false, mSl (mVar 1) (mPart (mC (.int 1))) (mNo)), (false, mVar 2)]), (false, mOp2 opIx (mVar 0) (mC (.int 2)))])) (sNx)) (sRet (mTup [(false, mC (.str [97, 112, 112])), (false, mOp2 opIx (mVar 0) (mC (.int 1))), (false, mCall (Φ 29) [(false, mOp2 opIx (mVar 0) (mC (.int 2))), (false, mSl (mVar 1) (mPart (mC (.int 1))) (mNo)), (false, mVar 2)])]))))
/-- _law_odd(box, term); 0 box, 1 term, 2 rows, 3 place, 4 part, 5 some -/
noncomputable def b_30 (Φ : Nat → Fun) : SS := sSeq (sAsg (bN 2) false (mCall (Φ 28) [(false, mVar 1)])) (sSeq (sAsg (bT [bN 3, bN 4]) false (mOp2 opIx (mVar 2) (mCall (Φ 20) [(true, mVar 0), (false, mCallB fLen [(false, mVar 2)])]))) (sSeq (sAsg (bN 5) false (mLst [(false, mTup [(false, mC (.str [118, 97, 114]))]), (false, mTup [(false, mC (.str [118, 97, 114])), (false, mC (.str []))]), (false, mTup [(false, mC (.str [118, 97, 114])), (false, mC (.str [97, 98, 99, 100, 101]))]), (false, mTup [(false, mC (.str [118, 97, 114])), (false, mC (.str [88]))]), (false, mTup [(false, mC (.str [118, 97, 114])), (false, mC (.str [120, 49]))]), (false, mTup [(false, mC (.str [118, 97, 114])), (false, mC .non)]), (false, mTup [(false, mC (.str [108, 97, 109])), (false, mC (.str [120]))]), (false, mTup [(false, mC (.str [108, 97, 109])), (false, mTup [(false, mC (.str [118, 97, 114])), (false, mC (.str [120]))]), (false, mVar 4)]), (false, mTup [(false, mC (.str [108, 97, 109])), (false, mC (.str [120])), (false, mVar 4), (false, mVar 4)]), (false, mTup [(false, mC (.str [97, 112, 112])), (false, mVar 4)])])) (sSeq (sAsg (bN 5) false (mOp2 opAdd (mVar 5) (mLst [(false, mTup [(false, mC (.str [97, 112, 112])), (false, mVar 4), (false, mVar 4), (false, mVar 4)]), (false, mLst [(false, mC (.str [118, 97, 114])), (false, mC (.str [120]))]), (false, mTup [(false, mC (.str [110, 117, 109])), (false, mC (.int 0))]), (false, mTup [(false, mC (.str [86, 97, 114])), (false, mC (.str [120]))]), (false, mC .non), (false, mC (.str [120])), (false, mC (.int 7)), (false, mC (.bl true)), (false, mTup []), (false, mTup [(false, mC (.str [97, 112, 112])), (false, mVar 4), (false, mC (.str [120]))]), (false, mTup [(false, mC (.str [97, 112, 112])), (false, mC .non), (false, mVar 4)]), (false, mTup [(false, mC (.str [108, 97, 109])), (false, mC (.str [120])), (false, mC .non)]), (false, mCallB fList [(false, mVar 4)]), (false, mOp2 opAdd (mVar 4) (mTup [(false, mVar 4)]))]))) (sSeq (sAsg (bN 5) false (mOp2 opAdd (mVar 5) (mLst [(false, mTup [(false, mC (.str [118, 97, 114])), (false, mC (.str [97, 98, 99, 100]))]), (false, mTup [(false, mC (.str [108, 97, 109])), (false, mC (.str [122, 122, 122, 122])), (false, mVar 4)]), (false, mTup [(false, mC (.str [97, 112, 112])), (false, mVar 4), (false, mVar 4)]), (false, mTup [(false, mC (.str [118, 97, 114])), (false, mC (.str [120])), (false, mC (.str [121]))]), (false, mDic0), (false, mTup [(false, mC (.str [108, 97, 109])), (false, mC (.int 1)), (false, mVar 4)]), (false, mTup [(false, mC (.str [102, 114, 101, 101])), (false, mC (.str [120]))])]))) (sRet (mCall (Φ 29) [(false, mVar 1), (false, mVar 3), (false, mOp2 opIx (mVar 5) (mCall (Φ 20) [(true, mVar 0), (false, mCallB fLen [(false, mVar 5)])]))]))))))
/-- _law_name(k); 0 k, 1 letters, 2 found, 3 turn -/
noncomputable def b_31 (Φ : Nat → Fun) : SS := sSeq (sPar [1, 0] [(false, mC (.str [97, 98, 99, 100, 101, 102, 103, 104, 105, 106, 107, 108, 109, 110, 111, 112, 113, 114, 115, 116, 117, 118, 119, 120, 121, 122])), (false, mOp2 opAdd (mVar 0) (mC (.int 1)))]) (sSeq (sAsg (bN 2) false (mC (.str []))) (sSeq (sFor (mRg rg1 [(false, mC (.int 4))]) (bN 3) (sIf (mB (mOp2 opGt (mVar 0) (mC (.int 0)))) (sSeq (sAsg (bN 2) false (mOp2 opAdd (mOp2 opIx (mVar 1) (mOp2 opMod (mCallB fInt [(false, mOp2 opSub (mVar 0) (mC (.int 1)))]) (mC (.int 26)))) (mVar 2))) (sAsg (bN 0) false (mOp2 opFdiv (mOp2 opSub (mVar 0) (mC (.int 1))) (mC (.int 26))))) (sNx))) (sRet (mVar 2))))
/-- _law_fresh(taken); 0 taken, 1 k -/
noncomputable def b_32 (Φ : Nat → Fun) : SS := sSeq (sAsg (bN 1) false (mC (.int 0))) (sSeq (sWh (mB (mOp2 opIn (mCall (Φ 31) [(false, mVar 1)]) (mVar 0))) (sAsg (bN 1) false (mOp2 opAdd (mVar 1) (mC (.int 1))))) (sRet (mCall (Φ 31) [(false, mVar 1)])))
/-- _law_asked(which, term, by_name); 0 which, 1 term, 2 by_name, 3 e -/
noncomputable def b_33 (Φ : Nat → Fun) : SS := sTry nC subC (sSeq (sIf (mB (mOp2 opEq (mVar 0) (mC (.int 0)))) (sRet (mLst [(false, mC (.str [116, 111, 108, 100])), (false, mIf (mTru (mVar 2)) (mCallP (Φ 16) [0] [(false, mVar 1)]) (mCall (Φ 16) [(false, mVar 1)]))])) (sNx)) (sRet (mLst [(false, mC (.str [116, 111, 108, 100])), (false, mIf (mTru (mVar 2)) (mCallP (Φ 17) [0] [(false, mVar 1)]) (mCall (Φ 17) [(false, mVar 1)]))]))) [(1, 3, sRet (mLst [(false, mC (.str [116, 101, 114, 109])), (false, mXf 3 1)]))]
/-- _law_normal(term, free, around, known); 0 term, 1 free, 2 around, 3 known, 4 new, 5 pair -/
noncomputable def b_34 (Φ : Nat → Fun) : SS := sSeq (sIf (mB (mOp2 opEq (mOp2 opIx (mVar 0) (mC (.int 0))) (mC (.str [118, 97, 114])))) (sSeq (sAsg (bN 4) false (mLc (mIt (mVar 3)) (bN 5) [5] (mB (mOp2 opEq (mOp2 opIx (mVar 5) (mC (.int 0))) (mOp2 opIx (mVar 0) (mC (.int 1))))) (mOp2 opIx (mVar 5) (mC (.int 1))))) (sRet (mTup [(false, mC (.str [118, 97, 114])), (false, mIf (mB (mOp2 opNe (mVar 4) (mLst []))) (mOp2 opIx (mVar 4) (mC (.int 0))) (mOp2 opIx (mVar 0) (mC (.int 1))))]))) (sNx)) (sSeq (sIf (mB (mOp2 opEq (mOp2 opIx (mVar 0) (mC (.int 0))) (mC (.str [97, 112, 112])))) (sRet (mTup [(false, mC (.str [97, 112, 112])), (false, mCall (Φ 34) [(false, mOp2 opIx (mVar 0) (mC (.int 1))), (false, mVar 1), (false, mVar 2), (false, mVar 3)]), (false, mCall (Φ 34) [(false, mOp2 opIx (mVar 0) (mC (.int 2))), (false, mVar 1), (false, mVar 2), (false, mVar 3)])])) (sNx)) (sSeq (sAsg (bN 4) false (mCall (Φ 32) [(false, mOp2 opAdd (mVar 1) (mVar 2))])) (sRet (mTup [(false, mC (.str [108, 97, 109])), (false, mVar 4), (false, mCall (Φ 34) [(false, mOp2 opIx (mVar 0) (mC (.int 2))), (false, mVar 1), (false, mOp2 opAdd (mVar 2) (mLst [(false, mVar 4)])), (false, mOp2 opAdd (mLst [(false, mTup [(false, mOp2 opIx (mVar 0) (mC (.int 1))), (false, mVar 4)])]) (mVar 3))])]))))
/-- _law_renamed_lams(box, term); 0 box, 1 term, 2 found, 3 k -/
noncomputable def b_35 (Φ : Nat → Fun) : SS := sSeq (sAsg (bN 2) false (mVar 1)) (sSeq (sFor (mRg rg1 [(false, mOp2 opIx (mLst [(false, mC (.int 2)), (false, mC (.int 3)), (false, mC (.int 5)), (false, mOp2 opAdd (mC (.int 27)) (mCall (Φ 20) [(true, mVar 0), (false, mC (.int 4))]))]) (mCall (Φ 20) [(true, mVar 0), (false, mC (.int 4))]))]) (bN 3) (sAsg (bN 2) false (mTup [(false, mC (.str [108, 97, 109])), (false, mOp2 opIx (mLst [(false, mC (.str [120])), (false, mC (.str [97])), (false, mC (.str [98])), (false, mC (.str [121])), (false, mC (.str [99])), (false, mC (.str [122]))]) (mCall (Φ 20) [(true, mVar 0), (false, mC (.int 6))])), (false, mVar 2)]))) (sRet (mIf (mB (mOp2 opEq (mCall (Φ 20) [(true, mVar 0), (false, mC (.int 2))]) (mC (.int 0)))) (mVar 2) (mTup [(false, mC (.str [97, 112, 112])), (false, mVar 2), (false, mTup [(false, mC (.str [97, 112, 112])), (false, mTup [(false, mC (.str [118, 97, 114])), (false, mC (.str [97]))]), (false, mTup [(false, mC (.str [118, 97, 114])), (false, mOp2 opIx (mLst [(false, mC (.str [98])), (false, mC (.str [99])), (false, mC (.str [100]))]) (mCall (Φ 20) [(true, mVar 0), (false, mC (.int 3))]))])])]))))
/-- _law_right(box, term); 0 box, 1 term, 2 due, 3 by_name, 4 closed, 5 name -/
noncomputable def b_36 (Φ : Nat → Fun) : SS := sSeq (sPar [2, 3] [(false, mCall (Φ 34) [(false, mVar 1), (false, mCall (Φ 23) [(false, mVar 1), (false, mLst [])]), (false, mLst []), (false, mLst [])]), (false, mOp2 opEq (mCall (Φ 20) [(true, mVar 0), (false, mC (.int 2))]) (mC (.int 0)))]) (sSeq (sIf (mNot (mTru (mCall (Φ 21) [(false, mLst [(false, mCall (Φ 33) [(false, mC (.int 0)), (false, mVar 1), (false, mVar 3)]), (false, mCall (Φ 33) [(false, mC (.int 0)), (false, mVar 1), (false, mNotV (mVar 3))]), (false, mCall (Φ 33) [(false, mC (.int 0)), (false, mVar 2), (false, mVar 3)])]), (false, mOp2 opMul (mLst [(false, mLst [(false, mC (.str [116, 111, 108, 100])), (false, mVar 2)])]) (mC (.int 3)))]))) (sRet (mC (.bl false))) (sNx)) (sSeq (sIf (mB (mOp2 opNe (mCall (Φ 22) [(false, mVar 2), (false, mLst [])]) (mCall (Φ 22) [(false, mVar 1), (false, mLst [])]))) (sRet (mC (.bl false))) (sNx)) (sSeq (sAsg (bN 4) false (mVar 1)) (sSeq (sFor (mIt (mUn opBack (mCallB fSortSet [(false, mCall (Φ 23) [(false, mVar 1), (false, mLst [])])]))) (bN 5) (sAsg (bN 4) false (mTup [(false, mC (.str [108, 97, 109])), (false, mVar 5), (false, mVar 4)]))) (sSeq (sIf (mB (mOp2 opNe (mCall (Φ 23) [(false, mVar 4), (false, mLst [])]) (mLst []))) (sRet (mC (.bl false))) (sNx)) (sRet (mCall (Φ 21) [(false, mLst [(false, mCall (Φ 33) [(false, mC (.int 1)), (false, mVar 1), (false, mVar 3)]), (false, mCall (Φ 33) [(false, mC (.int 1)), (false, mVar 1), (false, mNotV (mVar 3))]), (false, mCall (Φ 33) [(false, mC (.int 1)), (false, mVar 4), (false, mVar 3)])]), (false, mOp2 opMul (mLst [(false, mLst [(false, mC (.str [116, 111, 108, 100])), (false, mVar 4)])]) (mC (.int 3)))])))))))
/-- law(script); 0 script, 1 k, 2 box, 3 term, 4 small, 5 one, 6 turn, 7 bad, 8 which -/
noncomputable def b_37 (Φ : Nat → Fun) : SS := sSeq (sFor (mRg rg1 [(false, mCallB fMax [(false, mC (.int 3)), (false, mCallB fMin [(false, mC (.int 6)), (false, mCallB fLen [(false, mVar 0)])])])]) (bN 1) (sSeq (sAsg (bN 2) true (mCall (Φ 19) [(false, mCall (Φ 18) [(false, mVar 0), (false, mVar 1)])])) (sSeq (sAsg (bN 3) false (mCall (Φ 25) [(true, mVar 2)])) (sSeq (sAsg (bN 4) false (mCall (Φ 24) [(true, mVar 2), (false, mOp2 opAdd (mC (.int 1)) (mCall (Φ 20) [(true, mVar 2), (false, mC (.int 9))])), (false, mLst [(false, mC (.str [97])), (false, mC (.str [98])), (false, mC (.str [120])), (false, mC (.str [121])), (false, mC (.str [97, 98]))])])) (sSeq (sFor (mIt (mLst [(false, mVar 3), (false, mVar 4), (false, mCall (Φ 35) [(true, mVar 2), (false, mVar 4)]), (false, mCall (Φ 35) [(true, mVar 2), (false, mCall (Φ 24) [(true, mVar 2), (false, mC (.int 5)), (false, mLst [(false, mC (.str [99])), (false, mC (.str [97]))])])])])) (bN 5) (sIf (mNot (mTru (mCall (Φ 36) [(true, mVar 2), (false, mVar 5)]))) (sRet (mC (.bl false))) (sNx))) (sFor (mRg rg1 [(false, mC (.int 6))]) (bN 6) (sSeq (sAsg (bN 7) false (mCall (Φ 30) [(true, mVar 2), (false, mVar 3)])) (sIf (mAnd (mNot (mTru (mCall (Φ 27) [(false, mVar 7)]))) (mNot (mTru (mCall (Φ 21) [(false, mLc (mRg rg1 [(false, mC (.int 2))]) (bN 8) [8] (mYes) (mCall (Φ 33) [(false, mVar 8), (false, mVar 7), (false, mOp2 opEq (mCall (Φ 20) [(true, mVar 2), (false, mC (.int 2))]) (mC (.int 0)))])), (false, mOp2 opMul (mLst [(false, mLst [(false, mC (.str [116, 101, 114, 109])), (false, mVar 7)])]) (mC (.int 2)))])))) (sRet (mC (.bl false))) (sNx))))))))) (sRet (mC (.bl true)))
noncomputable def Φ : Nat → Nat → Fun
  | 0, _ => fun _ _ => .bad
  | k + 1, 0 => runD 3 (b_0 (Φ k))
  | k + 1, 1 => runD 1 (b_1 (Φ k))
  | k + 1, 2 => runD 3 (b_2 (Φ k))
  | k + 1, 3 => runD 6 (b_3 (Φ k))
  | k + 1, 4 => runD 1 (b_4 (Φ k))
  | k + 1, 5 => runD 1 (b_5 (Φ k))
  | k + 1, 6 => runD 5 (b_6 (Φ k))
  | k + 1, 7 => runD 5 (b_7 (Φ k))
  | k + 1, 8 => runD 7 (b_8 (Φ k))
  | k + 1, 9 => runD 2 (b_9 (Φ k))
  | k + 1, 10 => runD 5 (b_10 (Φ k))
  | k + 1, 11 => runD 1 (b_11 (Φ k))
  | k + 1, 12 => runD 4 (b_12 (Φ k))
  | k + 1, 13 => runD 1 (b_13 (Φ k))
  | k + 1, 14 => runD 1 (b_14 (Φ k))
  | k + 1, 15 => runD 3 (b_15 (Φ k))
  | k + 1, 16 => runD 1 (b_16 (Φ k))
  | k + 1, 17 => runD 3 (b_17 (Φ k))
  | k + 1, 18 => runD 2 (b_18 (Φ k))
  | k + 1, 19 => runD 1 (b_19 (Φ k))
  | k + 1, 20 => runD 4 (b_20 (Φ k))
  | k + 1, 21 => runD 4 (b_21 (Φ k))
  | k + 1, 22 => runD 2 (b_22 (Φ k))
  | k + 1, 23 => runD 2 (b_23 (Φ k))
  | k + 1, 24 => runD 6 (b_24 (Φ k))
  | k + 1, 25 => runD 2 (b_25 (Φ k))
  | k + 1, 26 => runD 2 (b_26 (Φ k))
  | k + 1, 27 => runD 4 (b_27 (Φ k))
  | k + 1, 28 => runD 5 (b_28 (Φ k))
  | k + 1, 29 => runD 3 (b_29 (Φ k))
  | k + 1, 30 => runD 6 (b_30 (Φ k))
  | k + 1, 31 => runD 4 (b_31 (Φ k))
  | k + 1, 32 => runD 2 (b_32 (Φ k))
  | k + 1, 33 => runD 4 (b_33 (Φ k))
  | k + 1, 34 => runD 6 (b_34 (Φ k))
  | k + 1, 35 => runD 4 (b_35 (Φ k))
  | k + 1, 36 => runD 6 (b_36 (Φ k))
  | k + 1, 37 => runD 9 (b_37 (Φ k))
  | _ + 1, _ => fun _ _ => .bad
abbrev nF : Nat := 38
abbrev f_is_letters : Nat := 0
abbrev f_is_name : Nat := 1
abbrev f_name_at : Nat := 2
abbrev f_fresh_names : Nat := 3
abbrev f_parts_of : Nat := 4
abbrev f_count_of : Nat := 5
abbrev f_built : Nat := 6
abbrev f_depths_of : Nat := 7
abbrev f_numbered_heads : Nat := 8
abbrev f_free_in : Nat := 9
abbrev f_named_heads : Nat := 10
abbrev f_has_form : Nat := 11
abbrev f_fits_term : Nat := 12
abbrev f_check_term : Nat := 13
abbrev f_free_of : Nat := 14
abbrev f_in_normal_names : Nat := 15
abbrev f_normal_names : Nat := 16
abbrev f_closure : Nat := 17
abbrev f_law_cell : Nat := 18
abbrev f_law_box : Nat := 19
abbrev f_law_take : Nat := 20
abbrev f_law_same : Nat := 21
abbrev f_law_numbered : Nat := 22
abbrev f_law_free : Nat := 23
abbrev f_law_term : Nat := 24
abbrev f_law_some : Nat := 25
abbrev f_law_is_name : Nat := 26
abbrev f_law_is_term : Nat := 27
abbrev f_law_walk : Nat := 28
abbrev f_law_with : Nat := 29
abbrev f_law_odd : Nat := 30
abbrev f_law_name : Nat := 31
abbrev f_law_fresh : Nat := 32
abbrev f_law_asked : Nat := 33
abbrev f_law_normal : Nat := 34
abbrev f_law_renamed_lams : Nat := 35
abbrev f_law_right : Nat := 36
abbrev f_law : Nat := 37
end k03
end

section
set_option Elab.async false
set_option linter.all false
set_option maxRecDepth 100000
set_option maxHeartbeats 4000000
/-! k03, the plain law, part 1: terms, moving, filling. -/
namespace k03
open PySem PySem.Spec L2 LB

inductive Tm where
  | num (n : Int) | free (s : List Nat) | lam (t : Tm) | app (a b : Tm)
def enc : Tm → D
  | .num n => .tup [.str [110, 117, 109], .int n]
  | .free s => .tup [.str [102, 114, 101, 101], .str s]
  | .lam t => .tup [.str [108, 97, 109], enc t]
  | .app a b => .tup [.str [97, 112, 112], enc a, enc b]
def Tm.dp : Tm → Nat
  | .num _ => 0
  | .free _ => 0
  | .lam t => t.dp + 1
  | .app a b => max a.dp b.dp + 1
def Tm.sz : Tm → Nat
  | .num _ => 1
  | .free _ => 1
  | .lam t => t.sz + 1
  | .app a b => a.sz + b.sz + 1
@[simp] theorem isR_enc (t : Tm) : isR (enc t) = true := by cases t <;> rfl
@[simp] theorem pl_enc : ∀ t : Tm, pl (enc t) = true
  | .num _ => rfl
  | .free _ => rfl
  | .lam t => by simp [enc, pl, pls, pl_enc t]
  | .app a b => by simp [enc, pl, pls, pl_enc a, pl_enc b]
@[simp] theorem look0_enc (t : Tm) (l : LB.Loc) : look (some (enc t) :: l) 0 = some (enc t) := look0 _ _ (isR_enc t)
@[simp] theorem fix_enc (f : Bool) (t : Tm) (S : Store) : fixD f (enc t) S = .ok (enc t) S := fix_R (isR_enc t)
end k03
end

section
set_option Elab.async false
set_option linter.all false
set_option maxRecDepth 100000
set_option maxHeartbeats 4000000
/-! k03, the plain law, part 2: the box. -/
namespace k03
open PySem PySem.Spec L2 LB

/-- the box's state -/
structure Bx where
  g : Int
  b : Bool
  m : Int
  c : Int
def Bx.o (x : Bx) : SO := .lst [.int x.g, .bl x.b, .int x.m, .int x.c]
def Bx.ok (x : Bx) (N : Int) : Prop := 0 ≤ x.g ∧ 0 ≤ x.m ∧ x.m < 2147483629 ∧ 0 ≤ x.c ∧ x.c ≤ N
theorem Bx.ok.le {x : Bx} {N M : Int} (h : x.ok N) (l : N ≤ M) : x.ok M := ⟨h.1, h.2.1, h.2.2.1, h.2.2.2.1, by have := h.2.2.2.2; omega⟩
theorem e_take {S : Store} {n : Nat} {x : Bx} {N many : Int} {k : Nat} (h : S[n]? = some x.o) (ok : x.ok N) (hN : N < 1000000000) (h1 : 0 < many) (h2 : many < 1073741824) :
    ∃ r y, Φ (k + 1) 20 [.ref n, .int many] S = .ok (.int r) (S.set n (Bx.o y)) ∧ 0 ≤ r ∧ r < many ∧ y.ok (N + 1) := by
  obtain ⟨g, b, m, c⟩ := x
  obtain ⟨o1, o2, o3, o4, o5⟩ := ok
  have hn : n < S.length := (List.getElem?_eq_some_iff.mp h).1
  have h' : S[n]? = some (.lst [.int g, .bl b, .int m, .int c]) := h
  have set1 : ∀ (o : SO), (S.set n o)[n]? = some o := fun o => List.getElem?_set_self hn
  have e : Φ (k + 1) 20 [.ref n, .int many] S = runD 4 (b_20 (Φ k)) [.ref n, .int many] S := rfl
  rw [e]
  have md : ∀ i : Int, 0 ≤ i % many ∧ i % many < many := fun i => ⟨Int.emod_nonneg _ (by omega), Int.emod_lt_of_pos _ h1⟩
  by_cases hc : b = true ∧ 0 < g
  · obtain ⟨rfl, hg⟩ := hc
    refine ⟨g % many, ⟨g / many, true, m, c⟩, ?_, (md g).1, (md g).2, Int.ediv_nonneg o1 (by omega), o2, o3, o4, by show c ≤ N + 1; have : c ≤ N := o5; omega⟩
    have ixn : ixN 4 0 = some 0 := ixN_lit 4 0 (by decide)
    simp [runD, b_20, ix_ref h', set_ref h', hg, mod_int h1, fdiv_int ⟨h1, h2⟩, ixn, Bx.o]
    unfold gc
    rw [if_pos (by simp)]
  · have hb : b = true → ¬ (0 < g) := fun z1 z2 => hc ⟨z1, z2⟩
    have o4 : 0 ≤ c := o4
    have o5 : c ≤ N := o5
    have o2 : 0 ≤ m := o2
    have o3 : m < 2147483629 := o3
    have ixn : ixN 4 3 = some 3 := ixN_lit 4 3 (by decide)
    have h2' : (S.set n (.lst [.int g, .bl b, .int m, .int (c + 1)]))[n]? = some (.lst [.int g, .bl b, .int m, .int (c + 1)]) := set1 _
    have p1 : (m + 15487069 * (c + 1) + 170357766).natAbs < 18446744073709551616 := by omega
    generalize hM : (m + 15487069 * (c + 1) + 170357766) ^ 5 % 2147483647 = M
    have hM1 : 0 ≤ M ∧ M < 2147483647 := by rw [← hM]; exact ⟨Int.emod_nonneg _ (by decide), Int.emod_lt_of_pos _ (by decide)⟩
    have p2 : (M * 48271 + 104729 * (c + 1)).natAbs < 18446744073709551616 := by omega
    refine ⟨((M * 48271 + 104729 * (c + 1)) ^ 3 % 2147483587 / 64) % many, ⟨g, b, m, c + 1⟩, ?_, (md _).1, (md _).2, o1, o2, o3, by show 0 ≤ c + 1; omega, by show c + 1 ≤ N + 1; omega⟩
    have q1 : ∀ T : Store, opPow T (.int (m + 15487069 * (c + 1) + 170357766)) (.int 5) = some (.int ((m + 15487069 * (c + 1) + 170357766) ^ 5)) := fun T => pow_int ⟨by decide, by decide, p1⟩
    have q2 : ∀ T : Store, opPow T (.int (M * 48271 + 104729 * (c + 1))) (.int 3) = some (.int ((M * 48271 + 104729 * (c + 1)) ^ 3)) := fun T => pow_int ⟨by decide, by decide, p2⟩
    have q3 : ∀ (T : Store) (i : Int), opMod T (.int i) (.int 2147483647) = some (.int (i % 2147483647)) := fun T i => mod_int (by decide)
    have q4 : ∀ (T : Store) (i : Int), opMod T (.int i) (.int 2147483587) = some (.int (i % 2147483587)) := fun T i => mod_int (by decide)
    have q5 : ∀ (T : Store) (i : Int), opFdiv T (.int i) (.int 64) = some (.int (i / 64)) := fun T i => fdiv_int (by decide)
    have q6 : ∀ (T : Store) (i : Int), opMul T (.int 15487069) (.int i) = some (.int (15487069 * i)) := fun T i => mul_int (.inl (by decide))
    have q7 : ∀ (T : Store) (i : Int), opMul T (.int i) (.int 48271) = some (.int (i * 48271)) := fun T i => mul_int (.inr (by decide))
    have q8 : ∀ (T : Store) (i : Int), opMul T (.int 104729) (.int i) = some (.int (104729 * i)) := fun T i => mul_int (.inl (by decide))
    have q9 : ∀ (T : Store) (i : Int), opMod T (.int i) (.int many) = some (.int (i % many)) := fun T i => mod_int h1
    have test : mAnd (mTru (mOp2 opIx (mVar 0) (mC (.int 1)))) (mB (mOp2 opGt (mOp2 opIx (mVar 0) (mC (.int 0))) (mC (.int 0)))) [some (.ref n), some (.int many), none, none] S = .ok false S := by
      cases b with
      | false => simp [ix_ref h']
      | true => simp [ix_ref h', hb rfl]
    have e0 : runD 4 (b_20 (Φ k)) [.ref n, .int many] S = (match b_20 (Φ k) [some (.ref n), some (.int many), none, none] S with
      | .nx _ S' => gc S .non S'
      | .ret d S' => gc S d S'
      | .exc c vs _ S' => gcX S c vs S'
      | _ => .bad) := rfl
    rw [e0]
    unfold b_20
    rw [sSeq_E, sIf_E, test]
    simp [ix_ref h', set_ref h', ix_ref h2', ixn, q1, q3, q6, hM, q2, q4, q5, q7, q8, q9, Bx.o]
    unfold gc
    rw [if_pos (by simp)]
end k03
end

section
set_option Elab.async false
set_option linter.all false
set_option maxRecDepth 100000
set_option maxHeartbeats 4000000
/-! k03, the plain law, part 3: a thing is the same as itself. -/
namespace k03
open PySem PySem.Spec L2 LB

mutual
def good : D → Bool
  | .tup xs => goods xs && decide (xs.length ≤ SL)
  | .lst xs => goods xs && decide (xs.length ≤ SL)
  | .dic ks vs => ks.isEmpty && vs.isEmpty
  | .ref _ => false
  | .tmp _ => false
  | .tdic _ _ => false
  | .exn _ _ => false
  | .non => true
  | .bl _ => true
  | .int _ => true
  | .str z => decide (z.length ≤ SL)
  | .scr _ => false
  | .fn _ => false
  | .cls _ => false
  | .ty _ => false
def goods : List D → Bool
  | [] => true
  | d :: ds => good d && goods ds
end
mutual
def dep : D → Nat
  | .tup xs => deps xs + 1
  | .lst xs => deps xs + 1
  | .dic _ _ => 2
  | .ref _ => 0
  | .tmp _ => 0
  | .tdic _ _ => 0
  | .exn _ _ => 0
  | .non => 0
  | .bl _ => 0
  | .int _ => 0
  | .str _ => 0
  | .scr _ => 0
  | .fn _ => 0
  | .cls _ => 0
  | .ty _ => 0
def deps : List D → Nat
  | [] => 0
  | d :: ds => max (dep d) (deps ds)
end
theorem deps_le : ∀ {xs : List D} {d : D}, d ∈ xs → dep d ≤ deps xs
  | x :: xs, d, h => by
    show dep d ≤ max (dep x) (deps xs)
    rcases List.mem_cons.mp h with rfl | h
    · omega
    · have := deps_le h
      omega
theorem goods_mem : ∀ {xs : List D} {d : D}, goods xs = true → d ∈ xs → good d = true
  | x :: xs, d, g, h => by
    simp only [goods, Bool.and_eq_true] at g
    obtain ⟨g1, g2⟩ := g
    rcases List.mem_cons.mp h with rfl | h
    · exact g1
    · exact goods_mem g2 h
theorem good_R {d : D} (h : good d = true) : isR d = true := by cases d <;> first | rfl | cases h
/-- a comprehension that takes nothing -/
theorem lcl_none {b : BG} {l : LB.Loc} {mt : SB} {me : SE} {S : Store} {acc : List D} : ∀ {ds : List D}, (∀ d ∈ ds, ∃ l', b.run d l = some l' ∧ mt l' S = .ok false S) → lcl chT b l mt me ds acc S = .ok (.tmp acc) S
  | [], _ => lcl_nil
  | d :: ds, h => by
    obtain ⟨l', h1, h2⟩ := h d List.mem_cons_self
    rw [lcl_cons, h1]
    simp [h2]
    exact lcl_none fun d hd => h d (List.mem_cons_of_mem _ hd)
theorem rng_mem {n : Nat} {d : D} (h : d ∈ rng 0 n) : ∃ i : Nat, i < n ∧ d = .int i := by
  unfold rng at h
  obtain ⟨i, hi, rfl⟩ := List.mem_map.mp h
  exact ⟨i, List.mem_range.mp hi, by rw [Int.zero_add]⟩
theorem at_nat {α : Type} {xs : List α} {i : Nat} {x : α} (h : xs[i]? = some x) : atI xs (i : Int) = some x := by
  unfold atI
  rw [ixN_lit _ _ (List.getElem?_eq_some_iff.mp h).1]
  exact h
theorem rg1_nat {n : Nat} (h : n ≤ SL) : rg1 [.int (n : Int)] = some (rng 0 n, chT) := by
  show (if -4611686018427387904 ≤ (n : Int) ∧ (n : Int) < 4611686018427387904 then some (rng 0 (n : Int).toNat, chT) else none) = _
  have : n ≤ 16777216 := h
  rw [if_pos ⟨by omega, by omega⟩]
  rfl
/-- z[i:i+1] -/
theorem sIx_lit (n d i : Nat) (h : i ≤ n) : HT.sIx n d (some (i : Int)) = i := by
  unfold HT.sIx
  simp
  rw [if_neg (by omega)]
  omega
theorem cut_one {α : Type} {z : List α} {i : Nat} (h : i < z.length) : cutD z (some (i : Int)) (some ((i : Int) + 1)) = [z[i]] := by
  unfold cutD
  rw [sIx_lit _ _ _ (by omega), show (i : Int) + 1 = ((i + 1 : Nat) : Int) by omega, sIx_lit _ _ _ (by omega)]
  rw [List.drop_eq_getElem_cons h, show i + 1 - i = 1 by omega]
  rfl
theorem same_non {k : Nat} (e_same : ∀ (d : D) (S : Store), good d = true → dep d < k → Φ k 21 [d, d] S = .ok (.bl true) S)  (S : Store) (g : good D.non = true) (h : dep D.non < k + 1) : Φ (k + 1) 21 [D.non, D.non] S = .ok (.bl true) S := by
  show runD 4 (b_21 (Φ k)) [D.non, D.non] S = _
  simp [runD, b_21, gc_same, isT]
theorem same_bl {k : Nat} (e_same : ∀ (d : D) (S : Store), good d = true → dep d < k → Φ k 21 [d, d] S = .ok (.bl true) S) (b : Bool) (S : Store) (g : good (D.bl b) = true) (h : dep (D.bl b) < k + 1) : Φ (k + 1) 21 [(D.bl b), (D.bl b)] S = .ok (.bl true) S := by
  show runD 4 (b_21 (Φ k)) [(D.bl b), (D.bl b)] S = _
  cases b <;> simp [runD, b_21, gc_same, isT, opIs, isQ]
theorem same_int {k : Nat} (e_same : ∀ (d : D) (S : Store), good d = true → dep d < k → Φ k 21 [d, d] S = .ok (.bl true) S) (i : Int) (S : Store) (g : good (D.int i) = true) (h : dep (D.int i) < k + 1) : Φ (k + 1) 21 [(D.int i), (D.int i)] S = .ok (.bl true) S := by
  show runD 4 (b_21 (Φ k)) [(D.int i), (D.int i)] S = _
  simp [runD, b_21, gc_same, isT, opIs, isQ]
theorem same_str {k : Nat} (e_same : ∀ (d : D) (S : Store), good d = true → dep d < k → Φ k 21 [d, d] S = .ok (.bl true) S) (z : List Nat) (S : Store) (g : good (D.str z) = true) (h : dep (D.str z) < k + 1) : Φ (k + 1) 21 [(D.str z), (D.str z)] S = .ok (.bl true) S := by
  show runD 4 (b_21 (Φ k)) [(D.str z), (D.str z)] S = _
  simp only [good, decide_eq_true_eq] at g
  have hz : z.length ≤ SL := g
  have hl : ∀ l : LB.Loc, l[0]? = some (some (.str z)) → l[1]? = some (some (.str z)) → True := fun _ _ _ => trivial
  have lc : lcl chT (bN 3) [some (.str z), some (.str z), some (.bl true), none] (mB (mOp2 opNe (mSl (mVar 0) (mPart (mVar 3)) (mPart (mOp2 opAdd (mVar 3) (mC (.int 1))))) (mOp2 opIx (mVar 1) (mVar 3)))) (mVar 3) (rng 0 z.length) [] S = .ok (.tmp []) S :=
    lcl_none fun d hd => by
      obtain ⟨i, hi, rfl⟩ := rng_mem hd
      refine ⟨_, rfl, ?_⟩
      have ha : atI z (i : Int) = some z[i] := at_nat (List.getElem?_eq_getElem hi)
      simp [sl_strE hz, ix_strE hz, cut_one hi, ha]
  simp [runD, b_21, gc_same, isT, opIs, isQ, len_strE hz, rg1_nat hz, lc]
theorem same_tup {k : Nat} (e_same : ∀ (d : D) (S : Store), good d = true → dep d < k → Φ k 21 [d, d] S = .ok (.bl true) S) (xs : List D) (S : Store) (g : good (D.tup xs) = true) (h : dep (D.tup xs) < k + 1) : Φ (k + 1) 21 [(D.tup xs), (D.tup xs)] S = .ok (.bl true) S := by
  show runD 4 (b_21 (Φ k)) [(D.tup xs), (D.tup xs)] S = _
  simp only [good, Bool.and_eq_true, decide_eq_true_eq] at g
  obtain ⟨g1, hz⟩ := g
  have lc : lcl chT (bN 3) [some (.tup xs), some (.tup xs), none, none] (mNot (mTru (mCall (Φ k 21) [(false, mOp2 opIx (mVar 0) (mVar 3)), (false, mOp2 opIx (mVar 1) (mVar 3))]))) (mVar 3) (rng 0 xs.length) [] S = .ok (.tmp []) S :=
    lcl_none fun d hd => by
      obtain ⟨i, hi, rfl⟩ := rng_mem hd
      refine ⟨_, rfl, ?_⟩
      have ha : atI xs (i : Int) = some xs[i] := at_nat (List.getElem?_eq_getElem hi)
      have hm := List.getElem_mem hi
      have gi := goods_mem g1 hm
      have ih := e_same xs[i] S gi (by have := deps_le hm; simp only [dep] at h; omega)
      simp [ha, fix_R (good_R gi), ih]
  simp [runD, b_21, gc_same, isT, opIs, isQ, rg1_nat hz, lc]
theorem same_lst {k : Nat} (e_same : ∀ (d : D) (S : Store), good d = true → dep d < k → Φ k 21 [d, d] S = .ok (.bl true) S) (xs : List D) (S : Store) (g : good (D.lst xs) = true) (h : dep (D.lst xs) < k + 1) : Φ (k + 1) 21 [(D.lst xs), (D.lst xs)] S = .ok (.bl true) S := by
  show runD 4 (b_21 (Φ k)) [(D.lst xs), (D.lst xs)] S = _
  simp only [good, Bool.and_eq_true, decide_eq_true_eq] at g
  obtain ⟨g1, hz⟩ := g
  have lc : lcl chT (bN 3) [some (.lst xs), some (.lst xs), none, none] (mNot (mTru (mCall (Φ k 21) [(false, mOp2 opIx (mVar 0) (mVar 3)), (false, mOp2 opIx (mVar 1) (mVar 3))]))) (mVar 3) (rng 0 xs.length) [] S = .ok (.tmp []) S :=
    lcl_none fun d hd => by
      obtain ⟨i, hi, rfl⟩ := rng_mem hd
      refine ⟨_, rfl, ?_⟩
      have ha : atI xs (i : Int) = some xs[i] := at_nat (List.getElem?_eq_getElem hi)
      have hm := List.getElem_mem hi
      have gi := goods_mem g1 hm
      have ih := e_same xs[i] S gi (by have := deps_le hm; simp only [dep] at h; omega)
      simp [ha, fix_R (good_R gi), ih]
  simp [runD, b_21, gc_same, isT, opIs, isQ, rg1_nat hz, lc]
theorem same_dic {k : Nat} (e_same : ∀ (d : D) (S : Store), good d = true → dep d < k → Φ k 21 [d, d] S = .ok (.bl true) S) (ks : List DK) (vs : List D) (S : Store) (g : good (D.dic ks vs) = true) (h : dep (D.dic ks vs) < k + 1) : Φ (k + 1) 21 [(D.dic ks vs), (D.dic ks vs)] S = .ok (.bl true) S := by
  show runD 4 (b_21 (Φ k)) [(D.dic ks vs), (D.dic ks vs)] S = _
  obtain ⟨g1, g2⟩ := Bool.and_eq_true_iff.mp (show (ks.isEmpty && vs.isEmpty) = true from g)
  have e1 : ks = [] := List.isEmpty_iff.mp g1
  have e2 : vs = [] := List.isEmpty_iff.mp g2
  subst e1 e2
  have ih := e_same (.lst []) S rfl (by have h : 2 < k + 1 := h; show 1 < k; omega)
  simp [runD, b_21, gc_same, isT, opIs, isQ, itemsD, ih]
theorem same_step {k : Nat} (e_same : ∀ (d : D) (S : Store), good d = true → dep d < k → Φ k 21 [d, d] S = .ok (.bl true) S) (d : D) (S : Store) (g : good d = true) (h : dep d < k + 1) : Φ (k + 1) 21 [d, d] S = .ok (.bl true) S := by
    cases d with
    | non => exact same_non e_same  S g h
    | bl b => exact same_bl e_same b S g h
    | int i => exact same_int e_same i S g h
    | str z => exact same_str e_same z S g h
    | tup xs => exact same_tup e_same xs S g h
    | lst xs => exact same_lst e_same xs S g h
    | dic ks vs => exact same_dic e_same ks vs S g h
    | ref n => cases g
    | tmp xs => cases g
    | tdic ks vs => cases g
    | exn c vs => cases g
    | scr ns => cases g
    | fn i => cases g
    | cls i => cases g
    | ty t => cases g
theorem e_same : ∀ (k : Nat) (d : D) (S : Store), good d = true → dep d < k → Φ k 21 [d, d] S = .ok (.bl true) S
  | 0, d, S, _, h => absurd h (Nat.not_lt_zero _)
  | k + 1, d, S, g, h => same_step (e_same k) d S g h
end k03
end

section
set_option Elab.async false
set_option linter.all false
set_option maxRecDepth 100000
set_option maxHeartbeats 4000000
/-! k03, the plain law, part 4: heads. -/
namespace k03
open PySem PySem.Spec L2 LB

def parts : Tm → List Tm
  | .num _ => []
  | .free _ => []
  | .lam t => [t]
  | .app a b => [a, b]
def hd : Tm → D
  | .lam _ => .tup [.str [108, 97, 109]]
  | .app _ _ => .tup [.str [97, 112, 112]]
  | t => enc t
def cnt : Tm → Nat
  | .lam _ => 1
  | .app _ _ => 2
  | _ => 0
def pre : Tm → List Tm
  | .num n => [.num n]
  | .free s => [.free s]
  | .lam t => .lam t :: pre t
  | .app a b => .app a b :: (pre a ++ pre b)
theorem pre_eq (t : Tm) : pre t = t :: (parts t).flatMap pre := by cases t <;> simp [pre, parts]
theorem pre_len (t : Tm) : (pre t).length = t.sz := by
  induction t with
  | num n => rfl
  | free s => rfl
  | lam t ih => simp [pre, Tm.sz, ih]
  | app a b ih1 ih2 => simp [pre, Tm.sz, ih1, ih2]
theorem cut_from1 {α : Type} (x : α) (xs : List α) : cutD (x :: xs) (some 1) none = xs := by
  unfold cutD
  rw [show (1 : Int) = ((1 : Nat) : Int) from rfl, sIx_lit _ _ 1 (by simp)]
  unfold HT.sIx
  first | simp; done | (rw [List.drop_succ_cons, List.drop_zero]; simp)
theorem cut_last1 {α : Type} (x y : α) : cutD [x, y] (some (-1)) none = [y] := by
  unfold cutD HT.sIx
  simp
theorem cut_but1 {α : Type} (x y : α) : cutD [x, y] none (some (-1)) = [x] := by
  unfold cutD HT.sIx
  simp
theorem e_count (k : Nat) (t : Tm) (S : Store) : Φ (k + 1) 5 [hd t] S = .ok (.int (cnt t)) S := by
  show runD 1 (b_5 (Φ k)) _ _ = _
  cases t with
  | num n => simp [runD, b_5, enc, hd, cnt, gc_same]
  | free s => simp [runD, b_5, enc, hd, cnt, gc_same]
  | lam t => simp [runD, b_5, hd, cnt, gc_same]
  | app a b => simp [runD, b_5, hd, cnt, gc_same]
@[simp] theorem isR_hd (t : Tm) : isR (hd t) = true := by cases t <;> rfl
@[simp] theorem look0_hd (t : Tm) (l : LB.Loc) : look (some (hd t) :: l) 0 = some (hd t) := look0 _ _ (isR_hd t)
@[simp] theorem fix_hd (f : Bool) (t : Tm) (S : Store) : fixD f (hd t) S = .ok (hd t) S := fix_R (isR_hd t)
@[simp] theorem pl_hd (t : Tm) : pl (hd t) = true := by cases t <;> rfl
theorem pls_map {α : Type} {f : α → D} (h : ∀ a, pl (f a) = true) : ∀ xs : List α, pls (xs.map f) = true
  | [] => rfl
  | x :: xs => by simp [pls, h, pls_map h xs]
/-! two handles at the store's end -/
section
variable {S : Store} {a b c : SO}
@[simp] theorem two0 : (S ++ [a, b])[S.length]? = some a := by simp
@[simp] theorem two1 : (S ++ [a, b])[S.length + 1]? = some b := by
  rw [List.getElem?_append_right (by omega)]
  simp
@[simp] theorem two0s : (S ++ [a, b]).set S.length c = S ++ [c, b] := by
  rw [List.set_append_right _ _ (Nat.le_refl _)]
  simp
@[simp] theorem two1s : (S ++ [a, b]).set (S.length + 1) c = S ++ [a, c] := by
  rw [List.set_append_right _ _ (by omega)]
  simp
end
def szs (ts : List Tm) : Nat := (ts.map Tm.sz).sum
theorem szs_cons (t : Tm) (ts : List Tm) : szs (t :: ts) = t.sz + szs ts := by simp [szs]
theorem szs_app (ts us : List Tm) : szs (ts ++ us) = szs ts + szs us := by simp [szs]
theorem sz_pos (t : Tm) : 1 ≤ t.sz := by cases t <;> simp [Tm.sz]
theorem szs_len : ∀ ts : List Tm, ts.length ≤ szs ts
  | [] => Nat.le_refl _
  | t :: ts => by
    have := szs_len ts
    have := sz_pos t
    rw [szs_cons, List.length_cons]
    omega
theorem sz_parts (t : Tm) : t.sz = szs (parts t) + 1 := by cases t <;> simp [Tm.sz, parts, szs]
end k03
end

section
set_option Elab.async false
set_option linter.all false
set_option maxRecDepth 100000
set_option maxHeartbeats 4000000
/-! k03, the plain law, part 5: heads, depths. -/
namespace k03
open PySem PySem.Spec L2 LB

/-- a comprehension that takes each -/
theorem lcl_map {α : Type} {b : BG} {l : LB.Loc} {mt : SB} {me : SE} {S : Store} {e f : α → D} : ∀ {xs : List α} {acc : List D}, (∀ a ∈ xs, ∃ l', b.run (e a) l = some l' ∧ mt l' S = .ok true S ∧ mFix false me l' S = .ok (f a) S) → acc.length + xs.length ≤ SL →
    lcl chT b l mt me (xs.map e) acc S = .ok (.tmp (acc ++ xs.map f)) S
  | [], acc, _, _ => by rw [List.map_nil, lcl_nil, List.map_nil, List.append_nil]
  | a :: xs, acc, h, hl => by
    obtain ⟨l', h1, h2, h3⟩ := h a List.mem_cons_self
    rw [List.length_cons] at hl
    have hlt : acc.length < SL := by omega
    rw [List.map_cons, lcl_cons, h1]
    show (mt l' S).calm.bind _ = _
    rw [h2]
    show (mFix false me l' S).calm.bind _ = _
    rw [h3]
    show (if acc.length < SL then lcl chT b l mt me (xs.map e) (acc ++ [f a]) S else .bad) = _
    rw [if_pos hlt, lcl_map (fun c hc => h c (List.mem_cons_of_mem _ hc)) (by rw [List.length_append, List.length_singleton]; omega), List.append_assoc]
    rfl
/-- loops, piece by piece -/
inductive Runs (b : D → SS) : List D → LB.Loc → Store → LB.Loc → Store → Prop
  | nil {l : LB.Loc} {S : Store} : Runs b [] l S l S
  | cons {d : D} {ds : List D} {l l1 l2 : LB.Loc} {S S1 S2 : Store} (h : b d l S = .nx l1 S1) (t : Runs b ds l1 S1 l2 S2) : Runs b (d :: ds) l S l2 S2
theorem Runs.app {b : D → SS} {xs ys : List D} {l l1 l2 : LB.Loc} {S S1 S2 : Store} (h : Runs b xs l S l1 S1) (g : Runs b ys l1 S1 l2 S2) : Runs b (xs ++ ys) l S l2 S2 := by
  induction h with
  | nil => exact g
  | cons e _ ih => exact .cons e (ih g)
theorem Runs.one {b : D → SS} {d : D} {l l1 : LB.Loc} {S S1 : Store} (h : b d l S = .nx l1 S1) : Runs b [d] l S l1 S1 := .cons h .nil
theorem Runs.lp {b : D → SS} {xs : List D} {l l1 : LB.Loc} {S S1 : Store} (h : Runs b xs l S l1 S1) : LB.lp chT b xs l S = .nx l1 S1 := by
  induction h with
  | nil => exact lp_nil
  | cons e _ ih => rw [lp_cons, e]; exact ih

/-! ### depths -/
def dpt : Tm → Int → List Int
  | .num _, d => [d]
  | .free _, d => [d]
  | .lam t, d => d :: dpt t (d + 1)
  | .app a b, d => d :: (dpt a d ++ dpt b d)
theorem dpt_len (t : Tm) : ∀ d, (dpt t d).length = t.sz := by
  induction t with
  | num n => intro d; rfl
  | free s => intro d; rfl
  | lam t ih => intro d; simp [dpt, Tm.sz, ih]
  | app a b ih1 ih2 => intro d; simp [dpt, Tm.sz, ih1, ih2]
def isLam : Tm → Int
  | .lam _ => 1
  | _ => 0
theorem mul_rep {T : Store} (x : D) (c : Nat) (h : c ≤ 2) : opMul T (.tmp [x]) (.int (c : Int)) = some (.tmp (List.replicate c x)) := by
  show (match viewL T (.tmp [x]) with
    | some xs => if -9223372036854775808 ≤ (c : Int) ∧ (c : Int) < 9223372036854775808 ∧ xs.length * (c : Int).toNat ≤ SL then some (D.tmp (List.replicate (c : Int).toNat xs).flatten) else none
    | none => none) = _
  show (if -9223372036854775808 ≤ (c : Int) ∧ (c : Int) < 9223372036854775808 ∧ [x].length * (c : Int).toNat ≤ SL then some (D.tmp (List.replicate (c : Int).toNat [x]).flatten) else none) = _
  rw [if_pos ⟨by omega, by omega, by show [x].length * (c : Int).toNat ≤ 16777216; simp; omega⟩]
  congr 2
  have : ∀ n : Nat, (List.replicate n [x]).flatten = List.replicate n x := by
    intro n
    induction n with
    | zero => rfl
    | succ n ih => rw [List.replicate_succ, List.flatten_cons, ih, List.replicate_succ]; rfl
  rw [Int.toNat_natCast, this]
noncomputable def bodyDep (k : Nat) : SS := sSeq (sAsg (bN 4) false (mMeth isLs fPop (mVar 2) [])) (sSeq (sDrop (mMeth isLs fApp (mVar 1) [(false, mVar 4)])) (sDrop (mMeth isLs fExt (mVar 2) [(false, mOp2 opMul (mLst [(false, mOp2 opAdd (mVar 4) (mIf (mB (mOp2 opEq (mOp2 opIx (mVar 3) (mC (.int 0))) (mC (.str [108, 97, 109])))) (mC (.int 1)) (mC (.int 0))))]) (mCall (Φ k 5) [(false, mVar 3)]))])))
theorem cnt_le (t : Tm) : cnt t ≤ 2 := by cases t <;> simp [cnt]
theorem dep_turn (k : Nat) (S : Store) (q : D) (t : Tm) (F W : List D) (d : Int) (p3 p4 : Option D) (h1 : F.length < SL) (h2 : W.length + 2 ≤ SL) :
    bodyOf (bN 3) (bodyDep (k + 1)) (hd t) [some q, some (.ref S.length), some (.ref (S.length + 1)), p3, p4] (S ++ [.lst F, .lst (W ++ [.int d])]) =
      .nx [some q, some (.ref S.length), some (.ref (S.length + 1)), some (hd t), some (.int d)] (S ++ [.lst (F ++ [.int d]), .lst (W ++ List.replicate (cnt t) (.int (d + isLam t)))]) := by
  have hap : ∀ (W : SO), fApp (S ++ [.lst F, W]) (.ref S.length) [.int d] = .ok .non (S ++ [.lst (F ++ [.int d]), W]) := fun W => by
    rw [app_ref two0 _ h1, two0s]
  have hpo : fPop (S ++ [.lst F, .lst (W ++ [.int d])]) (.ref (S.length + 1)) [] = .ok (.int d) (S ++ [.lst F, .lst W]) := by
    rw [pop_ref two1, two1s]
  have hc := cnt_le t
  have hex : fExt (S ++ [.lst (F ++ [.int d]), .lst W]) (.ref (S.length + 1)) [.lst (List.replicate (cnt t) (.int (d + isLam t)))] = .ok .non (S ++ [.lst (F ++ [.int d]), .lst (W ++ List.replicate (cnt t) (.int (d + isLam t)))]) := by
    rw [extL_ref two1 _ (by rw [List.length_replicate]; omega), two1s]
  have hm : ∀ T : Store, opMul T (.tmp [.int (d + isLam t)]) (.int (cnt t : Nat)) = some (.tmp (List.replicate (cnt t) (.int (d + isLam t)))) := fun T => mul_rep _ _ hc
  have tst : ∀ T : Store, mIf (mB (mOp2 opEq (mOp2 opIx (mVar 3) (mC (.int 0))) (mC (.str [108, 97, 109])))) (mC (.int 1)) (mC (.int 0)) [some q, some (.ref S.length), some (.ref (S.length + 1)), some (hd t), some (.int d)] T = .ok (.int (isLam t)) T := fun T => by
    cases t <;> simp [hd, enc, isLam]
  rw [bodyOf_E, bN_E]
  show bodyDep (k + 1) [some q, some (.ref S.length), some (.ref (S.length + 1)), some (hd t), p4] _ = _
  unfold bodyDep
  have b1 : ∀ T : Store, mOp2 opMul (mLst [(false, mOp2 opAdd (mVar 4) (mIf (mB (mOp2 opEq (mOp2 opIx (mVar 3) (mC (.int 0))) (mC (.str [108, 97, 109])))) (mC (.int 1)) (mC (.int 0))))]) (mCall (Φ (k + 1) 5) [(false, mVar 3)]) [some q, some (.ref S.length), some (.ref (S.length + 1)), some (hd t), some (.int d)] T = .ok (.tmp (List.replicate (cnt t) (.int (d + isLam t)))) T := fun T => by
    rw [mOp2_E, mLst_E, mArgs_cons, mFix_E, mOp2_E]
    simp only [mVar_E, lookS, look0_int, of_someE, bind_okE, tst T, add_int, fix_int, mArgs_nil, mCall_E, mArgs_cons, mFix_E, look0_hd, fix_hd, e_count, hm]
  rw [sSeq_E, sAsg_E, mMeth_E]
  simp only [mVar_E, lookS, look0_ref, of_someE, bind_okE, isLs_ref two1, if_true, mArgs_nil, hpo, calm_okE, fix_int, toO_okE, bN_E, List.set_cons_succ, List.set_cons_zero]
  rw [sSeq_E, sDrop_E, mMeth_E]
  simp only [mVar_E, lookS, look0_ref, of_someE, bind_okE, isLs_ref two0, if_true, mArgs_cons, mFix_E, look0_int, fix_int, mArgs_nil, hap, calm_okE, toO_okE]
  rw [sDrop_E, mMeth_E]
  simp only [mVar_E, lookS, look0_ref, of_someE, bind_okE, isLs_ref two1, if_true, mArgs_cons, mFix_E, b1, fix_tmpF, mArgs_nil, hex, calm_okE, toO_okE]
theorem dep_runs (k : Nat) (S : Store) (q : D) (t : Tm) : ∀ (F W : List D) (d : Int) (p3 p4 : Option D), F.length + t.sz ≤ SL → W.length + t.sz + 2 ≤ SL →
    ∃ p3' p4', Runs (bodyOf (bN 3) (bodyDep (k + 1))) ((pre t).map hd) [some q, some (.ref S.length), some (.ref (S.length + 1)), p3, p4] (S ++ [.lst F, .lst (W ++ [.int d])]) [some q, some (.ref S.length), some (.ref (S.length + 1)), p3', p4'] (S ++ [.lst (F ++ (dpt t d).map .int), .lst W]) := by
  induction t with
  | num n =>
    intro F W d p3 p4 h1 h2
    have e := dep_turn k S q (.num n) F W d p3 p4 (by simp [Tm.sz] at h1; omega) (by omega)
    simp only [cnt, List.replicate_zero, List.append_nil] at e
    exact ⟨_, _, Runs.one e⟩
  | free n =>
    intro F W d p3 p4 h1 h2
    have e := dep_turn k S q (.free n) F W d p3 p4 (by simp [Tm.sz] at h1; omega) (by omega)
    simp only [cnt, List.replicate_zero, List.append_nil] at e
    exact ⟨_, _, Runs.one e⟩
  | lam t ih =>
    intro F W d p3 p4 h1 h2
    simp only [Tm.sz] at h1 h2
    have e := dep_turn k S q (.lam t) F W d p3 p4 (by omega) (by omega)
    obtain ⟨x, y, r⟩ := ih (F ++ [.int d]) W (d + 1) (some (hd (.lam t))) (some (.int d)) (by rw [List.length_append, List.length_singleton]; omega) (by omega)
    refine ⟨x, y, .cons e ?_⟩
    rw [List.append_assoc] at r
    exact r
  | app a b ih1 ih2 =>
    intro F W d p3 p4 h1 h2
    simp only [Tm.sz] at h1 h2
    have e := dep_turn k S q (.app a b) F W d p3 p4 (by omega) (by omega)
    obtain ⟨x, y, r⟩ := ih1 (F ++ [.int d]) (W ++ [.int d]) d (some (hd (.app a b))) (some (.int d)) (by rw [List.length_append, List.length_singleton]; omega) (by rw [List.length_append, List.length_singleton]; have := sz_pos b; omega)
    obtain ⟨x2, y2, r2⟩ := ih2 (F ++ [.int d] ++ (dpt a d).map .int) W d x y (by rw [List.length_append, List.length_append, List.length_map, dpt_len, List.length_singleton]; omega) (by omega)
    refine ⟨x2, y2, ?_⟩
    have e' : W ++ List.replicate (cnt (.app a b)) (D.int (d + isLam (.app a b))) = W ++ [.int d] ++ [.int d] := by
      simp [cnt, isLam, List.replicate_succ]
    rw [e'] at e
    have : (pre (.app a b)).map hd = hd (.app a b) :: ((pre a).map hd ++ (pre b).map hd) := by simp [pre]
    rw [this]
    have ef : F ++ (dpt (.app a b) d).map D.int = F ++ [.int d] ++ (dpt a d).map .int ++ (dpt b d).map .int := by simp [dpt]
    rw [ef]
    exact .cons e (r.app r2)
end k03
end

section
set_option Elab.async false
set_option linter.all false
set_option maxRecDepth 100000
set_option maxHeartbeats 4000000
/-! k03, the plain law, part 6: lifting, building. -/
namespace k03
open PySem PySem.Spec L2 LB

theorem run_ret {m : Nat} {body : SS} {ds : List D} {S S' : Store} {d : D} (h : body (ds.map some ++ List.replicate (m - ds.length) none) S = .ret d S') : runD m body ds S = gc S d S' := by
  unfold runD
  rw [h]
theorem e_depths (k : Nat) (t : Tm) (S : Store) (h : t.sz + 3 ≤ SL) : Φ (k + 2) 7 [.lst ((pre t).map hd)] S = .ok (.tmp ((dpt t 0).map .int)) S := by
  obtain ⟨p3, p4, r⟩ := dep_runs k S (.lst ((pre t).map hd)) t [] [] 0 none none (by simp; omega) (by simp; omega)
  have e := r.lp
  have e0 : b_7 (Φ (k + 1)) [some (.lst ((pre t).map hd)), none, none, none, none] S = .ret (.ref S.length) (S ++ [.lst ((dpt t 0).map .int), .lst []]) := by
    unfold b_7
    have e2 : sPar [1, 2] [(true, mLst []), (true, mLst [(false, mC (.int 0))])] [some (.lst ((pre t).map hd)), none, none, none, none] S = .nx [some (.lst ((pre t).map hd)), some (.ref S.length), some (.ref (S.length + 1)), none, none] (S ++ [.lst [], .lst ([] ++ [.int 0])]) := by
      simp
    rw [sSeq_E, e2]
    show sSeq _ _ _ _ = _
    have e3 : sFor (mIt (mVar 0)) (bN 3) (bodyDep (k + 1)) [some (.lst ((pre t).map hd)), some (.ref S.length), some (.ref (S.length + 1)), none, none] (S ++ [.lst [], .lst ([] ++ [.int 0])]) = .nx [some (.lst ((pre t).map hd)), some (.ref S.length), some (.ref (S.length + 1)), p3, p4] (S ++ [.lst ([] ++ (dpt t 0).map .int), .lst []]) := by
      rw [sFor_E, mIt_E]
      simp only [mVar_E, look0_lst, of_someE, bind_okE, itS_lst, toO_okE]
      exact e
    unfold bodyDep at e3
    rw [sSeq_E, e3]
    simp
  show runD 5 (b_7 (Φ (k + 1))) _ _ = _
  rw [run_ret e0]
  exact gc_app (by simp) (convT_ref (Nat.le_refl _) two0 (pls_map (fun _ => rfl) _))
/-- the parts with their depths -/
def pd : Tm → Int → List (Tm × Int)
  | .num n, d => [(.num n, d)]
  | .free s, d => [(.free s, d)]
  | .lam t, d => (.lam t, d) :: pd t (d + 1)
  | .app a b, d => (.app a b, d) :: (pd a d ++ pd b d)
def pr (p : Tm × Int) : D := .tup [hd p.1, .int p.2]
theorem pd_len (t : Tm) : ∀ d, (pd t d).length = t.sz := by
  induction t with
  | num n => intro d; rfl
  | free s => intro d; rfl
  | lam t ih => intro d; simp [pd, Tm.sz, ih]
  | app a b ih1 ih2 => intro d; simp [pd, Tm.sz, ih1, ih2]
theorem zip_pd (t : Tm) : ∀ (d : Int) (xs ys : List D), List.zipWith pairD ((pre t).map hd ++ xs) ((dpt t d).map .int ++ ys) = (pd t d).map pr ++ List.zipWith pairD xs ys := by
  induction t with
  | num n => intro d xs ys; rfl
  | free s => intro d xs ys; rfl
  | lam t ih => intro d xs ys; simp [pre, dpt, pd, ih]; rfl
  | app a b ih1 ih2 => intro d xs ys; simp [pre, dpt, pd, ih1, ih2, List.append_assoc]; rfl
theorem ch_and : (fun S' : Store => chT S' ∧ chT S') = chT := by funext S'; simp [chT]
/-! ### building -/
section
variable {S : Store} {a c : SO}
@[simp] theorem one0 : (S ++ [a])[S.length]? = some a := by simp
@[simp] theorem one0s : (S ++ [a]).set S.length c = S ++ [c] := by
  rw [List.set_append_right _ _ (Nat.le_refl _)]
  simp
end
noncomputable def bodyBld (k : Nat) : SS := sSeq (sAsg (bN 3) false (mLc (mRg rg1 [(false, mCall (Φ k 5) [(false, mVar 2)])]) (bN 4) [4] (mYes) (mMeth isLs fPop (mVar 1) []))) (sDrop (mMeth isLs fApp (mVar 1) [(false, mOp2 opAdd (mVar 2) (mCallB fTuple [(false, mVar 3)]))]))
/-- the tops of the pile, taken one by one -/
theorem pops (S : Store) (l : LB.Loc) (hl : ∀ d, look (l.set 4 (some d)) 1 = some (.ref S.length)) : ∀ (c : Nat) (xs ys acc is : List D), is.length = c → ys.length = c → acc.length + c ≤ SL → (∀ y ∈ ys, isR y = true) →
    lcl chT (bN 4) l mYes (mMeth isLs fPop (mVar 1) []) is acc (S ++ [.lst (xs ++ ys.reverse)]) = .ok (.tmp (acc ++ ys)) (S ++ [.lst xs])
  | 0, xs, ys, acc, is, h1, h2, _, _ => by
    have e1 : is = [] := List.eq_nil_of_length_eq_zero h1
    have e2 : ys = [] := List.eq_nil_of_length_eq_zero h2
    subst e1 e2
    rw [lcl_nil]
    simp
  | c + 1, xs, ys, acc, is, h1, h2, h3, hr => by
    match is, ys, h1, h2, hr with
    | i :: is, y :: ys, h1, h2, hr =>
      rw [lcl_cons]
      have hp : fPop (S ++ [.lst (xs ++ (y :: ys).reverse)]) (.ref S.length) [] = .ok y (S ++ [.lst (xs ++ ys.reverse)]) := by
        rw [List.reverse_cons, ← List.append_assoc, pop_ref one0, one0s]
      have hy := hr y List.mem_cons_self
      have hacc : acc.length < SL := by omega
      have e : mFix false (mMeth isLs fPop (mVar 1) []) (l.set 4 (some i)) (S ++ [.lst (xs ++ (y :: ys).reverse)]) = .ok y (S ++ [.lst (xs ++ ys.reverse)]) := by
        rw [mFix_E, mMeth_E, mVar_E, hl]
        simp only [of_someE, bind_okE, isLs_ref one0, if_true, mArgs_nil, hp, calm_okE]
        exact fix_R hy
      rw [bN_E]
      show (mYes (l.set 4 (some i)) (S ++ [.lst (xs ++ (y :: ys).reverse)])).calm.bind _ = _
      rw [mYes_E, calm_okE, bind_okE, if_pos rfl]
      show (mFix false (mMeth isLs fPop (mVar 1) []) (l.set 4 (some i)) (S ++ [.lst (xs ++ (y :: ys).reverse)])).calm.bind _ = _
      rw [e, calm_okE, bind_okE, if_pos hacc, pops S l hl c xs ys (acc ++ [y]) is (Nat.succ.inj h1) (Nat.succ.inj h2) (by rw [List.length_append, List.length_singleton]; omega) (fun z hz => hr z (List.mem_cons_of_mem _ hz)), List.append_assoc]
      rfl
def tl : Tm → List D
  | .lam t => [enc t]
  | .app a b => [enc a, enc b]
  | _ => []
theorem tl_len (t : Tm) : (tl t).length = cnt t := by cases t <;> rfl
theorem tl_R (t : Tm) : ∀ y ∈ tl t, isR y = true := by cases t <;> simp [tl]
theorem add_tup (T : Store) (xs ys : List D) (h : xs.length + ys.length ≤ SL) : opAdd T (.tup xs) (.tup ys) = some (.tup (xs ++ ys)) := by
  show (if xs.length + ys.length ≤ SL then some (D.tup (xs ++ ys)) else none) = _
  rw [if_pos h]
theorem hd_tl (t : Tm) (T : Store) : opAdd T (hd t) (.tup (tl t)) = some (enc t) := by
  have small : ∀ n : Nat, n ≤ 4 → n ≤ SL := fun n h => by show n ≤ 16777216; omega
  cases t with
  | num n => exact add_tup T _ _ (small _ (by simp [tl]))
  | free s => exact add_tup T _ _ (small _ (by simp [tl]))
  | lam t => exact add_tup T _ _ (small _ (by simp [tl]))
  | app a b => exact add_tup T _ _ (small _ (by simp [tl]))
theorem rng_len (n : Nat) : (rng 0 n).length = n := by simp [rng]
theorem bld_turn (k : Nat) (S : Store) (q : D) (t : Tm) (xs : List D) (p2 p3 : Option D) (h : xs.length < SL) :
    bodyOf (bN 2) (bodyBld (k + 1)) (hd t) [some q, some (.ref S.length), p2, p3, none] (S ++ [.lst (xs ++ (tl t).reverse)]) =
      .nx [some q, some (.ref S.length), some (hd t), some (.lst (tl t)), none] (S ++ [.lst (xs ++ [enc t])]) := by
  have hc := cnt_le t
  have lc : lcl chT (bN 4) [some q, some (.ref S.length), some (hd t), p3, none] mYes (mMeth isLs fPop (mVar 1) []) (rng 0 (cnt t)) [] (S ++ [.lst (xs ++ (tl t).reverse)]) = .ok (.tmp ([] ++ tl t)) (S ++ [.lst xs]) :=
    pops S _ (fun d => by simp) (cnt t) xs (tl t) [] (rng 0 (cnt t)) (rng_len _) (tl_len t) (by show 0 + cnt t ≤ 16777216; omega) (tl_R t)
  have hrg : rg1 [.int (cnt t : Nat)] = some (rng 0 (cnt t), chT) := rg1_nat (by show cnt t ≤ 16777216; omega)
  have hap : fApp (S ++ [.lst xs]) (.ref S.length) [enc t] = .ok .non (S ++ [.lst (xs ++ [enc t])]) := by
    rw [app_ref one0 _ h, one0s]
  rw [bodyOf_E, bN_E]
  show bodyBld (k + 1) [some q, some (.ref S.length), some (hd t), p3, none] _ = _
  unfold bodyBld
  rw [sSeq_E, sAsg_E, mLc_E, mRg_E]
  simp only [mArgs_cons, mFix_E, mCall_E, mVar_E, lookS, look0_hd, of_someE, bind_okE, fix_hd, mArgs_nil, e_count, fix_int, hrg, wipeL_cons, wipeL_nil, List.set_cons_succ, List.set_cons_zero, lc, List.nil_append, fix_tmpF, toO_okE, bN_E]
  rw [sDrop_E, mMeth_E]
  have tu : ∀ T : Store, fTuple T [.lst (tl t)] = some (.tup (tl t)) := fun T => rfl
  simp only [mArgs_cons, mFix_E, mOp2_E, mCallB_E, mVar_E, lookS, look0_hd, look0_ref, look0_lst, of_someE, bind_okE, isLs_ref one0, if_true, fix_lst, mArgs_nil, tu, hd_tl, fix_enc, hap, calm_okE, toO_okE]
theorem bld_runs (k : Nat) (S : Store) (q : D) (t : Tm) : ∀ (xs : List D) (p2 p3 : Option D), xs.length + t.sz ≤ SL →
    ∃ p2' p3', Runs (bodyOf (bN 2) (bodyBld (k + 1))) ((pre t).map hd).reverse [some q, some (.ref S.length), p2, p3, none] (S ++ [.lst xs]) [some q, some (.ref S.length), p2', p3', none] (S ++ [.lst (xs ++ [enc t])]) := by
  induction t with
  | num n =>
    intro xs p2 p3 h
    simp only [Tm.sz] at h
    have e := bld_turn k S q (.num n) xs p2 p3 (by omega)
    simp only [tl, List.reverse_nil, List.append_nil] at e
    exact ⟨_, _, Runs.one e⟩
  | free n =>
    intro xs p2 p3 h
    simp only [Tm.sz] at h
    have e := bld_turn k S q (.free n) xs p2 p3 (by omega)
    simp only [tl, List.reverse_nil, List.append_nil] at e
    exact ⟨_, _, Runs.one e⟩
  | lam t ih =>
    intro xs p2 p3 h
    simp only [Tm.sz] at h
    obtain ⟨x, y, r⟩ := ih xs p2 p3 (by omega)
    have e := bld_turn k S q (.lam t) xs x y (by omega)
    refine ⟨some (hd (.lam t)), some (.lst (tl (.lam t))), ?_⟩
    have : ((pre (.lam t)).map hd).reverse = ((pre t).map hd).reverse ++ [hd (.lam t)] := by simp [pre]
    rw [this]
    exact r.app (Runs.one e)
  | app a b ih1 ih2 =>
    intro xs p2 p3 h
    simp only [Tm.sz] at h
    have := sz_pos a
    obtain ⟨x, y, r⟩ := ih2 xs p2 p3 (by omega)
    obtain ⟨x2, y2, r2⟩ := ih1 (xs ++ [enc b]) x y (by rw [List.length_append, List.length_singleton]; have := sz_pos b; omega)
    have e := bld_turn k S q (.app a b) xs x2 y2 (by omega)
    refine ⟨some (hd (.app a b)), some (.lst (tl (.app a b))), ?_⟩
    have : ((pre (.app a b)).map hd).reverse = ((pre b).map hd).reverse ++ (((pre a).map hd).reverse ++ [hd (.app a b)]) := by simp [pre]
    rw [this]
    rw [List.append_assoc] at r2
    exact r.app (r2.app (Runs.one e))
theorem e_built (k : Nat) (t : Tm) (S : Store) (h : t.sz ≤ SL) : Φ (k + 2) 6 [.lst ((pre t).map hd)] S = .ok (enc t) S := by
  obtain ⟨p2, p3, r⟩ := bld_runs k S (.lst ((pre t).map hd)) t [] none none (by simpa using h)
  have e := r.lp
  have e0 : b_6 (Φ (k + 1)) [some (.lst ((pre t).map hd)), none, none, none, none] S = .ret (enc t) (S ++ [.lst [enc t]]) := by
    unfold b_6
    have e3 : sFor (mIt (mUn opBack (mVar 0))) (bN 2) (bodyBld (k + 1)) [some (.lst ((pre t).map hd)), some (.ref S.length), none, none, none] (S ++ [.lst []]) = .nx [some (.lst ((pre t).map hd)), some (.ref S.length), p2, p3, none] (S ++ [.lst ([] ++ [enc t])]) := by
      have hb : ∀ T : Store, opBack T (.lst ((pre t).map hd)) = some (.tmp ((pre t).map hd).reverse) := fun T => rfl
      rw [sFor_E, mIt_E, mUn_E]
      simp only [mVar_E, look0_lst, of_someE, bind_okE, hb, itS_tmp, toO_okE]
      exact e
    unfold bodyBld at e3
    rw [sSeq_E, sAsg_E, mLst_E, mArgs_nil, bind_okE, bind_okE, fix_tmpT, toO_okE, bN_E]
    show sSeq _ _ [some (.lst ((pre t).map hd)), some (.ref S.length), none, none, none] _ = _
    rw [sSeq_E, e3]
    simp [ix_ref one0]
  show runD 5 (b_6 (Φ (k + 1))) _ _ = _
  rw [run_ret e0]
  exact gc_app (by simp) (convT_pl (pl_enc t))
end k03
end

section
set_option Elab.async false
set_option linter.all false
set_option maxRecDepth 100000
set_option maxHeartbeats 4000000
/-! k03, the plain law, part 8: forms. -/
namespace k03
open PySem PySem.Spec L2 LB

abbrev sNUM : List Nat := [110, 117, 109]
abbrev sFREE : List Nat := [102, 114, 101, 101]
abbrev sLAM : List Nat := [108, 97, 109]
abbrev sAPP : List Nat := [97, 112, 112]
abbrev sABC : List Nat := [97, 98, 99, 100, 101, 102, 103, 104, 105, 106, 107, 108, 109, 110, 111, 112, 113, 114, 115, 116, 117, 118, 119, 120, 121, 122]
/-- whether a value is an integer -/
def isI : D → Bool
  | .int _ => true
  | _ => false
/-- whether a value is a name -/
def isNm : D → Bool
  | .str z => decide (1 ≤ z.length) && (decide (z.length ≤ 4) && z.all fun c => decide (c ∈ sABC))
  | _ => false
theorem blsD_map {α : Type} (f : α → Bool) : ∀ xs : List α, blsD (xs.map fun c => D.bl (f c)) = some (xs.map f)
  | [] => rfl
  | x :: xs => by simp [blsD, blsD_map f xs]
theorem e_len4 {l : LB.Loc} {S : Store} {z : List Nat} (m : SE) (h0 : look l 0 = some (.str z)) (hm : ∀ S, m l S = .ok (.int 4) S) (hz : z.length ≤ SL) :
    mChain opLe opLe (mC (.int 1)) (mCallB fLen [(false, mVar 0)]) m l S = .ok (.bl (decide (1 ≤ z.length) && decide (z.length ≤ 4))) S := by
  have e1 : mCallB fLen [(false, mVar 0)] l S = .ok (.int z.length) S := by
    simp only [mCallB_E, mArgs_cons, mFix_E, mVar_E, h0, of_someE, bind_okE, fix_str, mArgs_nil, len_strE hz]
  rw [mChain_E, mC_E, bind_okE, e1, bind_okE, le_int]
  by_cases h1 : 1 ≤ z.length
  · have h1' : (1 : Int) ≤ z.length := by omega
    rw [decide_eq_true h1', decide_eq_true h1, Bool.true_and]
    show (if true = true then (m l S).bind _ else _) = _
    rw [if_pos rfl, hm, bind_okE, le_int, of_someE]
    by_cases h4 : z.length ≤ 4
    · have h4' : (z.length : Int) ≤ 4 := by omega
      rw [decide_eq_true h4, decide_eq_true h4']
    · have h4' : ¬ (z.length : Int) ≤ 4 := by omega
      rw [decide_eq_false h4, decide_eq_false h4']
  · have h1' : ¬ (1 : Int) ≤ z.length := by omega
    rw [decide_eq_false h1', decide_eq_false h1, Bool.false_and]
    rfl
theorem e_letters (k : Nat) (d : D) (S : Store) (g : good d = true) : Φ (k + 1) 0 [d, .int 4] S = .ok (.bl (isNm d)) S := by
  show runD 3 (b_0 (Φ k)) _ _ = _
  cases d with
  | str z =>
    have hz : z.length ≤ SL := of_decide_eq_true g
    have lc : lcl chT (bN 2) [some (.str z), some (.int 4), none] mYes (mOp2 opIn (mVar 2) (mC (.str sABC))) (z.map fun c => .str [c]) [] S = .ok (.tmp ([] ++ z.map fun c => .bl (decide (c ∈ sABC)))) S :=
      lcl_map (fun a _ => ⟨_, rfl, rfl, by
        simp only [List.set_cons_succ, List.set_cons_zero, mFix_E, mOp2_E, mVar_E, lookS, look0_str, of_someE, bind_okE, mC_E, in_str1, fix_bl]⟩) (by simp; exact hz)
    have fa : fAll S [.lst (z.map fun c => .bl (decide (c ∈ sABC)))] = some (.bl (z.all fun c => decide (c ∈ sABC))) := by
      show (blsD _).map (fun ns => D.bl (ns.all id)) = _
      rw [blsD_map (fun c => decide (c ∈ sABC)) z]
      simp only [Option.map_some, List.all_map]
      rfl
    rw [List.nil_append] at lc
    have hA : mIs ["str"] (mVar 0) [some (D.str z), some (.int 4), none] S = .ok (.bl true) S := by simp [isT]
    have hB := e_len4 (l := [some (D.str z), some (.int 4), none]) (S := S) (mVar 1) rfl (fun S => rfl) hz
    have hC : mCallB fAll [(false, mLc (mIt (mVar 0)) (bN 2) [2] (mYes) (mOp2 opIn (mVar 2) (mC (.str sABC))))] [some (D.str z), some (.int 4), none] S = .ok (.bl (z.all fun c => decide (c ∈ sABC))) S := by
      rw [mCallB_E, mArgs_cons, mFix_E, mLc_E, mIt_E]
      simp only [mVar_E, look0_str, of_someE, bind_okE, itS_str, wipeL_cons, wipeL_nil, List.set_cons_succ, List.set_cons_zero, lc, fix_tmpF, mArgs_nil, fa]
    have e0 : b_0 (Φ k) [some (D.str z), some (.int 4), none] S = .ret (.bl (isNm (.str z))) S := by
      unfold b_0
      rw [sRet_E, mAndV_E, hA, bind_okE]
      show ((if true = true then _ else _) : R D).toO _ _ = _
      rw [if_pos rfl, mAndV_E, hB, bind_okE]
      show ((if (decide (1 ≤ z.length) && decide (z.length ≤ 4)) = true then _ else _) : R D).toO _ _ = _
      by_cases c : (decide (1 ≤ z.length) && decide (z.length ≤ 4)) = true
      · rw [if_pos c, hC, toO_okE]
        show O.ret (.bl _) S = O.ret (.bl (decide (1 ≤ z.length) && (decide (z.length ≤ 4) && _))) S
        rw [← Bool.and_assoc, c, Bool.true_and]
      · rw [if_neg c, toO_okE]
        show O.ret (.bl _) S = O.ret (.bl (decide (1 ≤ z.length) && (decide (z.length ≤ 4) && _))) S
        rw [← Bool.and_assoc, Bool.eq_false_iff.mpr c, Bool.false_and]
    rw [run_ret e0, gc_same]
  | _ => first | (simp [runD, b_0, isNm, gc_same, isT]; done) | cases g
theorem e_isname (k : Nat) (d : D) (S : Store) (g : good d = true) : Φ (k + 2) 1 [d] S = .ok (.bl (isNm d)) S := by
  show runD 1 (b_1 (Φ (k + 1))) _ _ = _
  have r := good_R g
  simp [runD, b_1, look0 _ _ r, fix_R r, e_letters k d S g, gc_same]
/-- the signs of a text that are no letters -/
theorem l_signs {S : Store} {z : List Nat} : ∀ (ys : List Nat) (acc : List D), acc.length + ys.length ≤ SL → ∃ bs : List D, lcl chT (bN 1) [some (.str z), none] (mB (mOp2 opNotIn (mVar 1) (mC (.str sABC)))) (mVar 1) (ys.map fun c => .str [c]) acc S = .ok (.tmp (acc ++ bs)) S ∧ bs.isEmpty = ys.all fun c => decide (c ∈ sABC)
  | [], acc, _ => ⟨[], by rw [List.map_nil, lcl_nil, List.append_nil], rfl⟩
  | y :: ys, acc, hl => by
    rw [List.length_cons] at hl
    have hlt : acc.length < SL := by omega
    have t : mB (mOp2 opNotIn (mVar 1) (mC (.str sABC))) ([some (D.str z), none].set 1 (some (.str [y]))) S = .ok (!decide (y ∈ sABC)) S := by
      simp only [List.set_cons_succ, List.set_cons_zero, mB_E, mOp2_E, mVar_E, lookS, look0_str, of_someE, bind_okE, mC_E, notin_str1]
    by_cases c : y ∈ sABC
    · obtain ⟨bs, e, q⟩ := l_signs ys acc (by omega)
      refine ⟨bs, ?_, by rw [q, List.all_cons, decide_eq_true c, Bool.true_and]⟩
      rw [List.map_cons, lcl_cons, bN_E]
      show (mB (mOp2 opNotIn (mVar 1) (mC (.str sABC))) ([some (D.str z), none].set 1 (some (.str [y]))) S).calm.bind _ = _
      rw [t, decide_eq_true c, calm_okE, bind_okE, if_neg (by decide)]
      exact e
    · obtain ⟨bs, e, q⟩ := l_signs ys (acc ++ [.str [y]]) (by rw [List.length_append, List.length_singleton]; omega)
      refine ⟨.str [y] :: bs, ?_, by rw [List.all_cons, decide_eq_false c, Bool.false_and]; rfl⟩
      rw [List.map_cons, lcl_cons, bN_E]
      show (mB (mOp2 opNotIn (mVar 1) (mC (.str sABC))) ([some (D.str z), none].set 1 (some (.str [y]))) S).calm.bind _ = _
      rw [t, decide_eq_false c, calm_okE, bind_okE, if_pos (by decide)]
      show (mFix false (mVar 1) ([some (D.str z), none].set 1 (some (.str [y]))) S).calm.bind _ = _
      have u : mFix false (mVar 1) ([some (D.str z), none].set 1 (some (.str [y]))) S = .ok (.str [y]) S := by
        simp only [List.set_cons_succ, List.set_cons_zero, mFix_E, mVar_E, lookS, look0_str, of_someE, bind_okE, fix_str]
      rw [u, calm_okE, bind_okE, if_pos hlt, e, List.append_assoc]
      rfl
/-- the law's own -/
theorem e_lname (k : Nat) (d : D) (S : Store) (g : good d = true) : Φ (k + 1) 26 [d] S = .ok (.bl (isNm d)) S := by
  show runD 2 (b_26 (Φ k)) _ _ = _
  cases d with
  | str z =>
    have hz : z.length ≤ SL := of_decide_eq_true g
    obtain ⟨bs, lc, q⟩ := l_signs (S := S) (z := z) z [] (by simp; exact hz)
    rw [List.nil_append] at lc
    have hA : mIs ["str"] (mVar 0) [some (D.str z), none] S = .ok (.bl true) S := by simp [isT]
    have hB := e_len4 (l := [some (D.str z), none]) (S := S) (mC (.int 4)) rfl (fun S => rfl) hz
    have en : opEq S (.tmp bs) (.tmp []) = some (.bl bs.isEmpty) := eq_nil rfl
    have hC : mOp2 opEq (mLc (mIt (mVar 0)) (bN 1) [1] (mB (mOp2 opNotIn (mVar 1) (mC (.str sABC)))) (mVar 1)) (mLst []) [some (D.str z), none] S = .ok (.bl (z.all fun c => decide (c ∈ sABC))) S := by
      rw [mOp2_E, mLc_E, mIt_E]
      simp only [mVar_E, look0_str, of_someE, bind_okE, itS_str, wipeL_cons, wipeL_nil, List.set_cons_succ, List.set_cons_zero, lc, mLst_E, mArgs_nil, en, q]
    have e0 : b_26 (Φ k) [some (D.str z), none] S = .ret (.bl (isNm (.str z))) S := by
      unfold b_26
      rw [sRet_E, mAndV_E, hA, bind_okE]
      show ((if true = true then _ else _) : R D).toO _ _ = _
      rw [if_pos rfl, mAndV_E, hB, bind_okE]
      show ((if (decide (1 ≤ z.length) && decide (z.length ≤ 4)) = true then _ else _) : R D).toO _ _ = _
      by_cases c : (decide (1 ≤ z.length) && decide (z.length ≤ 4)) = true
      · rw [if_pos c, hC, toO_okE]
        show O.ret (.bl _) S = O.ret (.bl (decide (1 ≤ z.length) && (decide (z.length ≤ 4) && _))) S
        rw [← Bool.and_assoc, c, Bool.true_and]
      · rw [if_neg c, toO_okE]
        show O.ret (.bl _) S = O.ret (.bl (decide (1 ≤ z.length) && (decide (z.length ≤ 4) && _))) S
        rw [← Bool.and_assoc, Bool.eq_false_iff.mpr c, Bool.false_and]
    rw [run_ret e0, gc_same]
  | _ => first | (simp [runD, b_26, isNm, gc_same, isT]; done) | cases g
end k03
end

section
set_option Elab.async false
set_option linter.all false
set_option maxRecDepth 100000
set_option maxHeartbeats 4000000
/-! k03, the plain law, part 9: numbered forms, item by item. -/
namespace k03
open PySem PySem.Spec L2 LB

theorem good2 {a b : D} (g : good (.tup [a, b]) = true) : good a = true ∧ good b = true := by
  simp only [good, goods, Bool.and_eq_true] at g
  exact ⟨g.1.1, g.1.2.1⟩
theorem good3 {a b c : D} (g : good (.tup [a, b, c]) = true) : good a = true ∧ good b = true ∧ good c = true := by
  simp only [good, goods, Bool.and_eq_true] at g
  exact ⟨g.1.1, g.1.2.1, g.1.2.2.1⟩
def isS : D → Bool
  | .str _ => true
  | _ => false
theorem ty_str_is {a : D} {S : Store} {l : LB.Loc} (m : SE) (h : m l S = .ok a S) (g : good a = true) : mIs ["str"] m l S = .ok (.bl (isS a)) S := by
  rw [mIs_E, h, bind_okE]
  cases a <;> first | (simp [isT, isS]; done) | cases g
noncomputable def tst14 : SB := mOr (mNot (mTru (mIs ["tuple"] (mVar 0)))) (mOr (mNot (mB (mChain opLe opLe (mC (.int 2)) (mCallB fLen [(false, mVar 0)]) (mC (.int 3))))) (mNot (mTru (mIs ["str"] (mOp2 opIx (mVar 0) (mC (.int 0)))))))
/-- whether a value is a tuple of two or three, a text first -/
def tupS : D → Bool
  | .tup [a, _] => isS a
  | .tup [a, _, _] => isS a
  | _ => false
theorem e_tst14 {S : Store} {v : D} (g : good v = true) : tst14 [some v] S = .ok (!tupS v) S := by
  unfold tst14
  cases v with
  | tup xs =>
    match xs, g with
    | [], g => simp [tupS, isT]
    | [a], g => simp [tupS, isT]
    | [a, b], g =>
      have q := ty_str_is (S := S) (l := [some (.tup [a, b])]) (mOp2 opIx (mVar 0) (mC (.int 0))) (a := a) (by simp) (good2 g).1
      have t : mTru (mIs ["str"] (mOp2 opIx (mVar 0) (mC (.int 0)))) [some (.tup [a, b])] S = .ok (isS a) S := by
        rw [mTru_E, q, bind_okE, tru_bl, of_someE]
      have t2 : mNot (mTru (mIs ["str"] (mOp2 opIx (mVar 0) (mC (.int 0))))) [some (.tup [a, b])] S = .ok (!isS a) S := by rw [mNot_E, t, bind_okE]
      have u1 : mNot (mTru (mIs ["tuple"] (mVar 0))) [some (.tup [a, b])] S = .ok false S := by simp [isT]
      have u2 : mNot (mB (mChain opLe opLe (mC (.int 2)) (mCallB fLen [(false, mVar 0)]) (mC (.int 3)))) [some (.tup [a, b])] S = .ok false S := by simp
      rw [mOr_E, u1, bind_okE, if_neg (by decide), mOr_E, u2, bind_okE, if_neg (by decide), t2]
      rfl
    | [a, b, c], g =>
      have q := ty_str_is (S := S) (l := [some (.tup [a, b, c])]) (mOp2 opIx (mVar 0) (mC (.int 0))) (a := a) (by simp) (good3 g).1
      have t : mTru (mIs ["str"] (mOp2 opIx (mVar 0) (mC (.int 0)))) [some (.tup [a, b, c])] S = .ok (isS a) S := by
        rw [mTru_E, q, bind_okE, tru_bl, of_someE]
      have t2 : mNot (mTru (mIs ["str"] (mOp2 opIx (mVar 0) (mC (.int 0))))) [some (.tup [a, b, c])] S = .ok (!isS a) S := by rw [mNot_E, t, bind_okE]
      have u1 : mNot (mTru (mIs ["tuple"] (mVar 0))) [some (.tup [a, b, c])] S = .ok false S := by simp [isT]
      have u2 : mNot (mB (mChain opLe opLe (mC (.int 2)) (mCallB fLen [(false, mVar 0)]) (mC (.int 3)))) [some (.tup [a, b, c])] S = .ok false S := by simp
      rw [mOr_E, u1, bind_okE, if_neg (by decide), mOr_E, u2, bind_okE, if_neg (by decide), t2]
      rfl
    | a :: b :: c :: d :: r, g =>
      have h1 : (2 : Int) ≤ ((a :: b :: c :: d :: r).length : Nat) := by simp; omega
      have h2 : ¬ (((a :: b :: c :: d :: r).length : Nat) : Int) ≤ 3 := by simp; omega
      simp only [mOr_E, mNot_E, mTru_E, mIs_E, mVar_E, look0_tup, of_someE, bind_okE, ty_tup, mB_E, mChain_E, mC_E, mCallB_E, mArgs_cons, mFix_E, fix_tup, mArgs_nil, len_tupE, le_int, decide_eq_true h1, decide_eq_false h2, tru_bl, tupS]
      simp [isT]
  | _ => first | (simp [tupS, isT]; done) | cases g
theorem tupS_cases {v : D} (c : tupS v = true) : (∃ s x, v = .tup [.str s, x]) ∨ ∃ s x y, v = .tup [.str s, x, y] := by
  unfold tupS at c
  split at c
  · rename_i a b
    cases a <;> first | exact .inl ⟨_, _, rfl⟩ | cases c
  · rename_i a b d
    cases a <;> first | exact .inr ⟨_, _, _, rfl⟩ | cases c
  · cases c
end k03
end

section
set_option Elab.async false
set_option linter.all false
set_option maxRecDepth 100000
set_option maxHeartbeats 4000000
/-! k03, the plain law, part 10: numbered terms, by the program and by the law. -/
namespace k03
open PySem PySem.Spec L2 LB

mutual
def wt : D → Nat
  | .tup xs => wts xs + 1
  | .lst _ => 1
  | .dic _ _ => 1
  | .ref _ => 1
  | .tmp _ => 1
  | .tdic _ _ => 1
  | .exn _ _ => 1
  | .non => 1
  | .bl _ => 1
  | .int _ => 1
  | .str _ => 1
  | .scr _ => 1
  | .fn _ => 1
  | .cls _ => 1
  | .ty _ => 1
def wts : List D → Nat
  | [] => 0
  | d :: ds => wt d + wts ds
end
theorem wt_pos (v : D) : 1 ≤ wt v := by cases v <;> simp [wt]
section
variable (k : Nat) (S : Store) (q : D) (o : Option Int)
end
end k03
end

section
set_option Elab.async false
set_option linter.all false
set_option maxRecDepth 100000
set_option maxHeartbeats 4000000
/-! k03, the plain law, part 11: numbered terms, by the law. -/
namespace k03
open PySem PySem.Spec L2 LB

theorem any_strs (s : List Nat) : ∀ ss : List (List Nat), (ss.map D.str).any (fun y => eqF y (.str s)) = decide (s ∈ ss)
  | [] => rfl
  | x :: ss => by
    rw [List.map_cons, List.any_cons, any_strs s ss]
    show ((x == s) || _) = _
    by_cases c : x = s
    · subst c
      simp
    · have c2 : ¬ s = x := fun z => c z.symm
      simp [c, c2]
theorem all_strs : ∀ ss : List (List Nat), (ss.map D.str).all flatD = true
  | [] => rfl
  | x :: ss => by
    rw [List.map_cons, List.all_cons, all_strs ss]
    rfl
theorem inq_strs (S : Store) (s : List Nat) (ss : List (List Nat)) : inQ S (.str s) (.tup (ss.map .str)) = some (decide (s ∈ ss)) := by
  show (if flatD (.str s) = true ∧ (ss.map D.str).all flatD = true then some ((ss.map D.str).any fun y => eqF y (.str s)) else none) = _
  rw [if_pos ⟨rfl, all_strs ss⟩, any_strs]
theorem notin_strs (S : Store) (s : List Nat) (ss : List (List Nat)) : opNotIn S (.str s) (.tup (ss.map .str)) = some (.bl (!decide (s ∈ ss))) := by
  unfold opNotIn
  rw [inq_strs]
  rfl
theorem in_strs (S : Store) (s : List Nat) (ss : List (List Nat)) : opIn S (.str s) (.tup (ss.map .str)) = some (.bl (decide (s ∈ ss))) := by
  unfold opIn
  rw [inq_strs]
  rfl
theorem notin_23 (S : Store) (n : Int) : opNotIn S (.int n) (.tup [.int 2, .int 3]) = some (.bl (!(decide (n = 2) || decide (n = 3)))) := by
  have e : inQ S (.int n) (.tup [.int 2, .int 3]) = some ((2 == n) || ((3 == n) || false)) := rfl
  unfold opNotIn
  rw [e]
  by_cases c : n = 2
  · subst c; rfl
  · by_cases c3 : n = 3
    · subst c3; rfl
    · have a1 : (2 == n) = false := by simp; omega
      have a2 : (3 == n) = false := by simp; omega
      rw [a1, a2, decide_eq_false c, decide_eq_false c3]
      rfl
noncomputable def rF : SS := sRet (mC (.bl false))
section
variable {S : Store} {q : D} {w d : Int} {c : Nat} {v : D} {p6 : Option D} {n : Nat}
end
section
variable (k : Nat) (S : Store) (q : D) (w : Int)
end
end k03
end

section
set_option Elab.async false
set_option linter.all false
set_option maxRecDepth 100000
set_option maxHeartbeats 4000000
/-! k03, the plain law, part 12: terms fit; what is checked. -/
namespace k03
open PySem PySem.Spec L2 LB

/-- a numbered term at depth d -/
def okT (o : Option Int) : Tm → Int → Prop
  | .num n, d => 0 ≤ n ∧ ∀ w, o = some w → n < d + w
  | .free s, _ => isNm (.str s) = true
  | .lam t, d => okT o t (d + 1)
  | .app a b, d => okT o a d ∧ okT o b d
theorem okT.up {w1 w2 : Int} (h : w1 ≤ w2) : ∀ {t : Tm} {d : Int}, okT (some w1) t d → okT (some w2) t d
  | .num n, d, w => ⟨w.1, fun w3 e => by cases e; have := w.2 w1 rfl; omega⟩
  | .free s, _, w => w
  | .lam t, d, w => okT.up (t := t) h w
  | .app a b, d, w => ⟨okT.up h w.1, okT.up h w.2⟩
theorem okT.none {w1 : Int} : ∀ {t : Tm} {d : Int}, okT (some w1) t d → okT none t d
  | .num n, d, w => ⟨w.1, fun w3 e => by cases e⟩
  | .free s, _, w => w
  | .lam t, d, w => okT.none (t := t) w
  | .app a b, d, w => ⟨okT.none w.1, okT.none w.2⟩
theorem isNm_len {s : List Nat} (h : isNm (.str s) = true) : s.length ≤ 4 := by
  simp only [isNm, Bool.and_eq_true, decide_eq_true_eq] at h
  exact h.2.1
theorem good_enc {o : Option Int} : ∀ {t : Tm} {d : Int}, okT o t d → good (enc t) = true
  | .num n, d, h => by simp [enc, good, goods, SL]
  | .free s, _, h => by
    have := isNm_len h
    simp [enc, good, goods, SL]
    omega
  | .lam t, d, h => by
    have := good_enc (t := t) (d := d + 1) h
    simp [enc, good, goods, SL, this]
  | .app a b, d, h => by
    have h1 := good_enc h.1
    have h2 := good_enc h.2
    simp [enc, good, goods, SL, h1, h2]
theorem dep_enc : ∀ t : Tm, dep (enc t) = t.dp + 1
  | .num n => by simp [enc, dep, deps, Tm.dp]
  | .free s => by simp [enc, dep, deps, Tm.dp]
  | .lam t => by simp [enc, dep, deps, Tm.dp, dep_enc t]
  | .app a b => by simp [enc, dep, deps, Tm.dp, dep_enc a, dep_enc b]
theorem dp_sz : ∀ t : Tm, t.dp + 1 ≤ t.sz
  | .num n => by simp [Tm.dp, Tm.sz]
  | .free s => by simp [Tm.dp, Tm.sz]
  | .lam t => by have := dp_sz t; simp [Tm.dp, Tm.sz]; omega
  | .app a b => by have := dp_sz a; have := dp_sz b; simp [Tm.dp, Tm.sz]; omega
theorem wt_enc : ∀ t : Tm, wt (enc t) ≤ 3 * t.sz
  | .num n => by simp [enc, wt, wts, Tm.sz]
  | .free s => by simp [enc, wt, wts, Tm.sz]
  | .lam t => by have := wt_enc t; simp [enc, wt, wts, Tm.sz]; omega
  | .app a b => by have := wt_enc a; have := wt_enc b; simp [enc, wt, wts, Tm.sz]; omega
/-! small integers -/
/-! checks -/
theorem run_nx {m : Nat} {body : SS} {ds : List D} {S S' : Store} {l : LB.Loc} (h : body (ds.map some ++ List.replicate (m - ds.length) none) S = .nx l S') : runD m body ds S = gc S .non S' := by
  unfold runD
  rw [h]
theorem run_exc {m : Nat} {body : SS} {ds vs : List D} {S S' : Store} {l : LB.Loc} {c : Nat} (h : body (ds.map some ++ List.replicate (m - ds.length) none) S = .exc c vs l S') : runD m body ds S = gcX S c vs S' := by
  unfold runD
  rw [h]
/-! shifting -/
theorem SL_ge {n : Nat} (h : n ≤ 100000) : n ≤ SL := by show n ≤ 16777216; omega
/-! putting -/
end k03
end

section
set_option Elab.async false
set_option linter.all false
set_option maxRecDepth 100000
set_option maxHeartbeats 4000000
/-! k03, the plain law, part 14: what is drawn. -/
namespace k03
open PySem PySem.Spec L2 LB

theorem tk {k n : Nat} {x : Bx} {N many : Int} {l : LB.Loc} {m : SE} {S : Store} (hl : l[0]? = some (some (.ref n))) (hm : ∀ T, m l T = .ok (.int many) T) (h : S[n]? = some x.o) (ok : x.ok N) (hN : N < 1000000000) (h1 : 0 < many) (h2 : many < 1073741824) :
    ∃ r y, mCall (Φ (k + 1) 20) [(true, mVar 0), (false, m)] l S = .ok (.int r) (S.set n (Bx.o y)) ∧ 0 ≤ r ∧ r < many ∧ y.ok (N + 1) := by
  obtain ⟨r, y, e, q⟩ := e_take (k := k) h ok hN h1 h2
  refine ⟨r, y, ?_, q⟩
  have lk : look l 0 = some (.ref n) := look_R hl rfl
  simp only [mCall_E, mArgs_cons, mFix_E, mVar_E, lk, of_someE, bind_okE, fix_ref, hm, fix_int, mArgs_nil, e]
theorem set_get {S : Store} {n : Nat} {a b : SO} (h : S[n]? = some a) : (S.set n b)[n]? = some b := List.getElem?_set_self (List.getElem?_eq_some_iff.mp h).1
theorem gc_set {S : Store} {n : Nat} {b : SO} (d : D) : gc S d (S.set n b) = .ok d (S.set n b) := by
  unfold gc
  rw [if_pos (by simp)]
theorem lt4 {r : Int} (h0 : 0 ≤ r) (h : r < 4) : r = 0 ∨ r = 1 ∨ r = 2 ∨ r = 3 := by omega
theorem ok_more {x : Bx} {N M : Int} (h : x.ok N) (l : N ≤ M) : x.ok M := Bx.ok.le h l
theorem lt8 {r : Int} (h0 : 0 ≤ r) (h : r < 8) : r = 0 ∨ r = 1 ∨ r = 2 ∨ r = 3 ∨ r = 4 ∨ r = 5 ∨ r = 6 ∨ r = 7 := by omega
end k03
end

section
set_option Elab.async false
set_option linter.all false
set_option maxRecDepth 100000
set_option maxHeartbeats 4000000
/-! k03, the plain law, part 16: shifting is right. -/
namespace k03
open PySem PySem.Spec L2 LB

theorem same_ok {k : Nat} {A B : SE} {l : LB.Loc} {S S1 S2 : Store} {d : D} (hA : mFix false A l S = .ok d S1) (hB : mFix false B l S1 = .ok d S2) (g : good d = true) (h : dep d < k) : mTru (mCall (Φ k 21) [(false, A), (false, B)]) l S = .ok true S2 := by
  rw [mTru_E, mCall_E, mArgs_cons, hA, bind_okE, mArgs_cons, hB, bind_okE, mArgs_nil, bind_okE, bind_okE, bind_okE, e_same k d S2 g h, bind_okE, tru_bl, of_someE]
/-- loops with what holds on the way -/
theorem lp_inv {b : D → SS} {P : Nat → LB.Loc → Store → Prop} {M : Nat} : ∀ (ds : List D) (i : Nat) (l : LB.Loc) (S : Store), i + ds.length = M → P i l S → (∀ d ∈ ds, ∀ i l S, i < M → P i l S → ∃ l' S', b d l S = .nx l' S' ∧ P (i + 1) l' S') → ∃ l' S', lp chT b ds l S = .nx l' S' ∧ P M l' S'
  | [], i, l, S, e, p, _ => ⟨l, S, lp_nil, by have e : i + 0 = M := e; rw [Nat.add_zero] at e; rw [← e]; exact p⟩
  | d :: ds, i, l, S, hi, p, h => by
    rw [List.length_cons] at hi
    obtain ⟨l1, S1, e, p1⟩ := h d List.mem_cons_self i l S (by omega) p
    obtain ⟨l2, S2, e2, p2⟩ := lp_inv ds (i + 1) l1 S1 (by omega) p1 (fun d hd => h d (List.mem_cons_of_mem _ hd))
    refine ⟨l2, S2, ?_, p2⟩
    rw [lp_cons, e]
    exact e2
theorem set_self {S : Store} {n : Nat} {a : SO} (h : S[n]? = some a) : S.set n a = S := by
  obtain ⟨hn, e⟩ := List.getElem?_eq_some_iff.mp h
  rw [← e]
  exact List.set_getElem_self hn
noncomputable def takeS (k : Nat) (m : Int) : SE := mCall (Φ k 20) [(true, mVar 0), (false, mC (.int m))]
section
variable {k n : Nat} {S : Store} {x : Bx} {N : Int} {l : LB.Loc}
theorem tk2 (m : Int) (h1 : 0 < m) (h2 : m < 1073741824) (hl : l[0]? = some (some (.ref n))) (h : S[n]? = some x.o) (ok : x.ok N) (hN : N < 1000000000) :
    ∃ r y, takeS (k + 1) m l S = .ok (.int r) (S.set n (Bx.o y)) ∧ 0 ≤ r ∧ r < m ∧ y.ok (N + 1) := tk hl (fun T => rfl) h ok hN h1 h2
/-- by name or not -/
theorem d_nm (hl : l[0]? = some (some (.ref n))) (h : S[n]? = some x.o) (ok : x.ok N) (hN : N + 1 < 1000000000) :
    ∃ b y, mOp2 opEq (takeS (k + 1) 2) (mC (.int 0)) l S = .ok (.bl b) (S.set n (Bx.o y)) ∧ y.ok (N + 1) := by
  obtain ⟨r1, y1, e1, a1, b1, q1⟩ := tk2 (k := k) 2 (by decide) (by decide) hl h ok (by omega)
  exact ⟨decide (r1 = 0), y1, by simp only [mOp2_E, e1, bind_okE, mC_E, eq_int, of_someE], q1⟩
end
section
variable {k n : Nat} {S : Store} {x : Bx} {N : Int} {t : Tm}
end
end k03
end

section
set_option Elab.async false
set_option linter.all false
set_option maxRecDepth 100000
set_option maxHeartbeats 4000000
/-! k03, the plain law, part 18: the law. -/
namespace k03
open PySem PySem.Spec L2 LB

theorem intsD_map : ∀ xs : List Int, intsD (xs.map D.int) = some xs
  | [] => rfl
  | x :: xs => by simp [intsD, intsD_map xs]
theorem e_cell (k : Nat) (ns : List Int) (i : Nat) (S : Store) : ∃ c : Int, Φ (k + 1) 18 [.scr ns, .int (i : Int)] S = .ok (.int c) S := by
  by_cases h : i < ns.length
  · refine ⟨ns[i], ?_⟩
    have ix : opIx S (.scr ns) (.int (i : Int)) = some (.int ns[i]) := by
      show (atI ns (i : Int)).map D.int = _
      rw [at_nat (List.getElem?_eq_getElem h)]
      rfl
    have t : mB (mOp2 opLt (mVar 1) (mCallB fLen [(false, mVar 0)])) [some (.scr ns), some (.int (i : Int))] S = .ok true S := by
      simp; omega
    have e0 : b_18 (Φ k) [some (.scr ns), some (.int (i : Int))] S = .ret (.int ns[i]) S := by
      unfold b_18
      rw [sRet_E, mIf_E, t, bind_okE, if_pos rfl]
      simp only [mOp2_E, mVar_E, lookS, look0_scr, look0_int, of_someE, bind_okE, ix, toO_okE]
    show runD 2 (b_18 (Φ k)) _ _ = _
    rw [run_ret e0, gc_same]
  · refine ⟨6653 * (i : Int) + (cutD ns none (some 1)).sum % 1000033, ?_⟩
    have t : mB (mOp2 opLt (mVar 1) (mCallB fLen [(false, mVar 0)])) [some (.scr ns), some (.int (i : Int))] S = .ok false S := by
      simp; omega
    have sl : opSl S (.scr ns) none (some 1) = some (.tmp ((cutD ns none (some 1)).map .int)) := rfl
    have su : fSum S [.lst ((cutD ns none (some 1)).map .int)] = some (.int (cutD ns none (some 1)).sum) := by
      show (intsD ((cutD ns none (some 1)).map D.int)).map (fun ns => D.int ns.sum) = _
      rw [intsD_map]
      rfl
    have md : opMod S (.int (cutD ns none (some 1)).sum) (.int 1000033) = some (.int ((cutD ns none (some 1)).sum % 1000033)) := mod_int (by decide)
    have mu : opMul S (.int 6653) (.int (i : Int)) = some (.int (6653 * (i : Int))) := mul_int (.inl (by decide))
    have e0 : b_18 (Φ k) [some (.scr ns), some (.int (i : Int))] S = .ret (.int (6653 * (i : Int) + (cutD ns none (some 1)).sum % 1000033)) S := by
      unfold b_18
      rw [sRet_E, mIf_E, t, bind_okE, if_neg (by decide)]
      simp only [mOp2_E, mVar_E, lookS, look0_scr, look0_int, of_someE, bind_okE, mC_E, mu, mCallB_E, mArgs_cons, mFix_E, mSl_E, mNo_E, mPart_E, sl, fix_tmpF, mArgs_nil, su, fix_int, fInt_int, md, add_int, toO_okE]
    show runD 2 (b_18 (Φ k)) _ _ = _
    rw [run_ret e0, gc_same]
theorem e_box (k : Nat) (c : Int) (S : Store) : ∃ x : Bx, Φ (k + 1) 19 [.int c] S = .ok (.tmp [.int x.g, .bl x.b, .int x.m, .int x.c]) S ∧ x.ok 0 := by
  have q : ∀ T : Store, fAbs T [.int c] = some (.int (if c < 0 then -c else c)) := fun T => rfl
  generalize hA : (if c < 0 then -c else c) = A at q
  have hA0 : 0 ≤ A := by rw [← hA]; split <;> omega
  refine ⟨⟨A, decide (1000000000000000000 ≤ A), A % 2147483629, 0⟩, ?_, hA0, Int.emod_nonneg _ (by decide), Int.emod_lt_of_pos _ (by decide), Int.le_refl _, Int.le_refl _⟩
  have pw : opPow S (.int 10) (.int 18) = some (.int 1000000000000000000) := pow_int ⟨by decide, by decide, by decide⟩
  have md : opMod S (.int A) (.int 2147483629) = some (.int (A % 2147483629)) := mod_int (by decide)
  have e0 : b_19 (Φ k) [some (.int c)] S = .ret (.tmp [.int A, .bl (decide (1000000000000000000 ≤ A)), .int (A % 2147483629), .int 0]) S := by
    unfold b_19
    simp only [sRet_E, mLst_E, mArgs_cons, mFix_E, mCallB_E, mVar_E, look0_int, of_someE, bind_okE, fix_int, mArgs_nil, q, mOp2_E, mC_E, pw, ge_int, fix_bl, fInt_int, md, toO_okE]
  show runD 1 (b_19 (Φ k)) _ _ = _
  rw [run_ret e0, gc_same]
section
variable {k n : Nat} {S : Store} {x : Bx} {N : Int} {ns : List Int} {o : Tm} {p1 p3 p4 p5 : Option D}
end
end k03
end

section
set_option Elab.async false
set_option linter.all false
set_option maxRecDepth 100000
set_option maxHeartbeats 4000000
/-! k03, the plain law, part 20: terms with names. -/
namespace k03
open PySem PySem.Spec L2 LB

abbrev sVAR : List Nat := [118, 97, 114]
inductive Nt where
  | var (s : List Nat) | lam (s : List Nat) (t : Nt) | app (a b : Nt)
def encN : Nt → D
  | .var s => .tup [.str [118, 97, 114], .str s]
  | .lam s t => .tup [.str [108, 97, 109], .str s, encN t]
  | .app a b => .tup [.str [97, 112, 112], encN a, encN b]
def Nt.dp : Nt → Nat
  | .var _ => 0
  | .lam _ t => t.dp + 1
  | .app a b => max a.dp b.dp + 1
def Nt.sz : Nt → Nat
  | .var _ => 1
  | .lam _ t => t.sz + 1
  | .app a b => a.sz + b.sz + 1
@[simp] theorem isR_encN (t : Nt) : isR (encN t) = true := by cases t <;> rfl
@[simp] theorem pl_encN : ∀ t : Nt, pl (encN t) = true
  | .var _ => rfl
  | .lam _ t => by simp [encN, pl, pls, pl_encN t]
  | .app a b => by simp [encN, pl, pls, pl_encN a, pl_encN b]
@[simp] theorem look0_encN (t : Nt) (l : LB.Loc) : look (some (encN t) :: l) 0 = some (encN t) := look0 _ _ (isR_encN t)
@[simp] theorem fix_encN (f : Bool) (t : Nt) (S : Store) : fixD f (encN t) S = .ok (encN t) S := fix_R (isR_encN t)
theorem Nt.sz_pos (t : Nt) : 1 ≤ t.sz := by cases t <;> simp [Nt.sz]
theorem Nt.dp_sz : ∀ t : Nt, t.dp + 1 ≤ t.sz
  | .var s => by simp [Nt.dp, Nt.sz]
  | .lam s t => by have := Nt.dp_sz t; simp [Nt.dp, Nt.sz]; omega
  | .app a b => by have := Nt.dp_sz a; have := Nt.dp_sz b; simp [Nt.dp, Nt.sz]; omega
/-- all names are names -/
def okN : Nt → Prop
  | .var s => isNm (.str s) = true
  | .lam s t => isNm (.str s) = true ∧ okN t
  | .app a b => okN a ∧ okN b
theorem good_encN : ∀ {t : Nt}, okN t → good (encN t) = true
  | .var s, h => by
    have := isNm_len h
    simp [encN, good, goods, SL]; omega
  | .lam s t, h => by
    have := isNm_len h.1
    have := good_encN h.2
    simp [encN, good, goods, SL, this]; omega
  | .app a b, h => by
    have h1 := good_encN h.1
    have h2 := good_encN h.2
    simp [encN, good, goods, SL, h1, h2]
theorem dep_encN : ∀ t : Nt, dep (encN t) = t.dp + 1
  | .var s => by simp [encN, dep, deps, Nt.dp]
  | .lam s t => by simp [encN, dep, deps, Nt.dp, dep_encN t]
  | .app a b => by simp [encN, dep, deps, Nt.dp, dep_encN a, dep_encN b]
theorem wt_encN : ∀ t : Nt, wt (encN t) ≤ 3 * t.sz
  | .var n => by simp [encN, wt, wts, Nt.sz]
  | .lam s t => by have := wt_encN t; simp [encN, wt, wts, Nt.sz]; omega
  | .app a b => by have := wt_encN a; have := wt_encN b; simp [encN, wt, wts, Nt.sz]; omega
/-- the place of a text -/
def ixS (s : List Nat) : List (List Nat) → Option Nat
  | [] => none
  | x :: r => if x = s then some 0 else (ixS s r).map (· + 1)
theorem ixF_strs (s : List Nat) : ∀ ss : List (List Nat), ixF (.str s) (ss.map .str) = ixS s ss
  | [] => rfl
  | x :: ss => by
    rw [List.map_cons]
    unfold ixF ixS
    have e : eqF (.str x) (.str s) = (x == s) := rfl
    rw [e, ixF_strs s ss]
    by_cases c : x = s
    · subst c; simp
    · simp [c]
theorem ixS_some {s : List Nat} : ∀ {ss : List (List Nat)}, s ∈ ss → ∃ i, ixS s ss = some i
  | x :: ss, h => by
    unfold ixS
    by_cases c : x = s
    · exact ⟨0, by rw [if_pos c]⟩
    · rcases List.mem_cons.mp h with h | h
      · exact absurd h.symm c
      · obtain ⟨i, e⟩ := ixS_some h
        exact ⟨i + 1, by rw [if_neg c, e]; rfl⟩
theorem ixS_none {s : List Nat} : ∀ {ss : List (List Nat)}, s ∉ ss → ixS s ss = none
  | [], _ => rfl
  | x :: ss, h => by
    unfold ixS
    rw [List.mem_cons, not_or] at h
    rw [if_neg fun z => h.1 z.symm, ixS_none h.2]
    rfl
theorem in_strsL (S : Store) (s : List Nat) (ss : List (List Nat)) : opIn S (.str s) (.lst (ss.map .str)) = some (.bl (decide (s ∈ ss))) := by
  have e : inQ S (.str s) (.lst (ss.map .str)) = some (decide (s ∈ ss)) := by
    show (if flatD (.str s) = true ∧ (ss.map D.str).all flatD = true then some ((ss.map D.str).any fun y => eqF y (.str s)) else _) = _
    rw [if_pos ⟨rfl, all_strs ss⟩, any_strs]
  unfold opIn
  rw [e]
  rfl
theorem index_strs (S : Store) {s : List Nat} {ss : List (List Nat)} {i : Nat} (h : ixS s ss = some i) : fIndex S (.lst (ss.map .str)) [.str s] = .ok (.int (i : Nat)) S := by
  show (if flatD (.str s) = true ∧ (ss.map D.str).all flatD = true then (match ixF (.str s) (ss.map .str) with
      | some j => R.ok (D.int (j : Nat)) S
      | none => .bad) else .bad) = _
  rw [if_pos ⟨rfl, all_strs ss⟩, ixF_strs, h]
def numL : Nt → List (List Nat) → Tm
  | .var s, ρ => match ixS s ρ with
    | some i => .num (i : Nat)
    | none => .free s
  | .lam s t, ρ => .lam (numL t (s :: ρ))
  | .app a b, ρ => .app (numL a ρ) (numL b ρ)
theorem sz_numL : ∀ (t : Nt) (ρ : List (List Nat)), (numL t ρ).sz = t.sz
  | .var s, ρ => by
    unfold numL
    cases ixS s ρ <;> rfl
  | .lam s t, ρ => by simp [numL, Tm.sz, Nt.sz, sz_numL t]
  | .app a b, ρ => by simp [numL, Tm.sz, Nt.sz, sz_numL a, sz_numL b]
theorem ixS_lt {s : List Nat} : ∀ {ss : List (List Nat)} {i : Nat}, ixS s ss = some i → i < ss.length
  | [], _, h => by cases h
  | x :: ss, i, h => by
    unfold ixS at h
    by_cases c : x = s
    · rw [if_pos c] at h
      cases h
      simp
    · rw [if_neg c] at h
      obtain ⟨j, e, rfl⟩ := Option.map_eq_some_iff.mp h
      have := ixS_lt e
      simp
      omega
theorem okT_numL : ∀ {t : Nt} {ρ : List (List Nat)}, okN t → okT (some 0) (numL t ρ) ρ.length
  | .var s, ρ, h => by
    show okT (some 0) (match ixS s ρ with
      | some i => Tm.num (i : Nat)
      | none => .free s) ρ.length
    cases e : ixS s ρ with
    | none => exact h
    | some i =>
      have := ixS_lt e
      exact ⟨by omega, fun w q => by cases q; omega⟩
  | .lam s t, ρ, h => by
    have := okT_numL (t := t) (ρ := s :: ρ) h.2
    show okT (some 0) (numL t (s :: ρ)) ((ρ.length : Int) + 1)
    rw [List.length_cons, Int.natCast_add] at this
    exact this
  | .app a b, ρ, h => ⟨okT_numL h.1, okT_numL h.2⟩
theorem add_tl (T : Store) (xs ys : List D) (h : xs.length + ys.length ≤ SL) : opAdd T (.tmp xs) (.lst ys) = some (.tmp (xs ++ ys)) := by
  show (if xs.length + ys.length ≤ SL then some (D.tmp (xs ++ ys)) else none) = _
  rw [if_pos h]
theorem add_lt (T : Store) (xs ys : List D) (h : xs.length + ys.length ≤ SL) : opAdd T (.lst xs) (.tmp ys) = some (.tmp (xs ++ ys)) := by
  show (if xs.length + ys.length ≤ SL then some (D.tmp (xs ++ ys)) else none) = _
  rw [if_pos h]
theorem add_ll (T : Store) (xs ys : List D) (h : xs.length + ys.length ≤ SL) : opAdd T (.lst xs) (.lst ys) = some (.tmp (xs ++ ys)) := by
  show (if xs.length + ys.length ≤ SL then some (D.tmp (xs ++ ys)) else none) = _
  rw [if_pos h]
theorem isL_lst (S : Store) (xs : List D) : isL S (.lst xs) = true := rfl
theorem e_lnum : ∀ (t : Nt) (ρ : List (List Nat)) (k : Nat) (S : Store), t.dp < k → ρ.length + t.dp ≤ 100000 → Φ k 22 [encN t, .lst (ρ.map .str)] S = .ok (enc (numL t ρ)) S
  | t, ρ, 0, S, h, _ => absurd h (Nat.not_lt_zero _)
  | .var s, ρ, k + 1, S, _, _ => by
    show runD 2 (b_22 (Φ k)) _ _ = _
    by_cases c : s ∈ ρ
    · obtain ⟨i, e⟩ := ixS_some c
      simp [runD, b_22, encN, numL, e, in_strsL, c, index_strs S e, isL_lst, gc_same, enc]
    · simp [runD, b_22, encN, numL, ixS_none c, in_strsL, c, gc_same, enc]
  | .lam s t, ρ, k + 1, S, h, hl => by
    have ih := e_lnum t (s :: ρ) k S (by simp [Nt.dp] at h; omega) (by simp [Nt.dp] at hl; simp; omega)
    rw [List.map_cons] at ih
    have ad : opAdd S (.tmp [.str s]) (.lst (ρ.map .str)) = some (.tmp (.str s :: ρ.map .str)) := add_tl S _ _ (SL_ge (by simp [Nt.dp] at hl; simp; omega))
    show runD 2 (b_22 (Φ k)) _ _ = _
    simp [runD, b_22, encN, numL, ad, gc_same, ih, enc]
  | .app a b, ρ, k + 1, S, h, hl => by
    have ih1 := e_lnum a ρ k S (by simp [Nt.dp] at h; omega) (by simp [Nt.dp] at hl; omega)
    have ih2 := e_lnum b ρ k S (by simp [Nt.dp] at h; omega) (by simp [Nt.dp] at hl; omega)
    show runD 2 (b_22 (Φ k)) _ _ = _
    simp [runD, b_22, encN, numL, gc_same, ih1, ih2, enc]
/-! ### terms, by the program -/
/-- whether a value has the form of a part -/
def formT : D → Bool
  | .tup [.str s, x] => if s = sVAR then isNm x else false
  | .tup [.str s, x, _] => if s = sAPP then true else if s = sLAM then isNm x else false
  | _ => false
theorem formT_cases {v : D} (c : formT v = true) : (∃ x, v = .tup [.str sVAR, x] ∧ isNm x = true) ∨ (∃ x y, v = .tup [.str sLAM, x, y] ∧ isNm x = true) ∨ ∃ x y, v = .tup [.str sAPP, x, y] := by
  unfold formT at c
  split at c
  · rename_i s x
    by_cases c1 : s = sVAR
    · subst c1
      rw [if_pos rfl] at c
      exact .inl ⟨_, rfl, c⟩
    · rw [if_neg c1] at c; cases c
  · rename_i s x y
    by_cases c1 : s = sAPP
    · subst c1
      exact .inr (.inr ⟨_, _, rfl⟩)
    · rw [if_neg c1] at c
      by_cases c2 : s = sLAM
      · subst c2
        rw [if_pos rfl] at c
        exact .inr (.inl ⟨_, _, rfl, c⟩)
      · rw [if_neg c2] at c; cases c
  · cases c
theorem e_formT (k : Nat) (v : D) (S : Store) (g : good v = true) : Φ (k + 4) 11 [v] S = .ok (.bl (formT v)) S := by
  show runD 1 (b_11 (Φ (k + 3))) _ _ = _
  have e0 : b_11 (Φ (k + 3)) [some v] S = .ret (.bl (formT v)) S := by
    unfold b_11
    rw [sSeq_E, sIf_E]
    have t := e_tst14 (S := S) g
    unfold tst14 at t
    rw [t, toO_okE]
    by_cases c : tupS v = true
    · rw [c]
      rcases tupS_cases c with ⟨s, x, rfl⟩ | ⟨s, x, y, rfl⟩
      · have gx := (good2 g).2
        have rx := good_R gx
        have i2 := e_isname (k + 1) x S gx
        by_cases c1 : s = sAPP
        · subst c1
          simp [formT]
        · by_cases c2 : s = sVAR
          · subst c2
            simp [formT, dkD, getK, isDc, i2, fix_R rx]
          · have c2' : ¬ sVAR = s := fun z => c2 z.symm
            by_cases c3 : s = sLAM
            · subst c3
              simp [formT, dkD, getK, isDc]
            · have c3' : ¬ sLAM = s := fun z => c3 z.symm
              simp [formT, dkD, getK, isDc, c1, c2, c3, c2', c3']
      · have gx := (good3 g).2.1
        have rx := good_R gx
        have i2 := e_isname (k + 1) x S gx
        by_cases c1 : s = sAPP
        · subst c1
          simp [formT]
        · by_cases c2 : s = sVAR
          · subst c2
            simp [formT, dkD, getK, isDc]
          · have c2' : ¬ sVAR = s := fun z => c2 z.symm
            by_cases c3 : s = sLAM
            · subst c3
              simp [formT, dkD, getK, isDc, i2, fix_R rx]
            · have c3' : ¬ sLAM = s := fun z => c3 z.symm
              simp [formT, dkD, getK, isDc, c1, c2, c3, c2', c3']
    · rw [Bool.eq_false_iff.mpr c]
      have f : formT v = false := by
        unfold formT
        split
        · exact absurd rfl c
        · exact absurd rfl c
        · rfl
      rw [f]
      simp
  rw [run_ret e0, gc_same]
def kidsT : D → List D
  | .tup [.str s, x, y] => if s = sAPP then [x, y] else [y]
  | _ => []
theorem e_partsT (k : Nat) {v : D} (S : Store) (c : formT v = true) : Φ (k + 1) 4 [v] S = .ok (.tup (kidsT v)) S := by
  show runD 1 (b_4 (Φ k)) _ _ = _
  have cl : ∀ (x y z : D), cutD [x, y, z] (some (-1)) none = [z] := fun x y z => by
    unfold cutD HT.sIx
    simp
  rcases formT_cases c with ⟨x, rfl, _⟩ | ⟨x, y, rfl, _⟩ | ⟨x, y, rfl⟩
  · simp [runD, b_4, kidsT, gc_same]
  · simp [runD, b_4, kidsT, gc_same, cl]
  · simp [runD, b_4, kidsT, gc_same, cut_from1]
def fitT : Nat → Nat → List D → Bool
  | _, _, [] => true
  | 0, _, _ :: _ => false
  | f + 1, c, v :: st => decide (c + 1 ≤ 2000) && (formT v && fitT f (c + 1) ((kidsT v).reverse ++ st))
theorem wts_app (a b : List D) : wts (a ++ b) = wts a + wts b := by
  induction a with
  | nil => simp [wts]
  | cons x a ih => simp [wts, ih]; omega
theorem wts_rev (a : List D) : wts a.reverse = wts a := by
  induction a with
  | nil => rfl
  | cons x a ih => simp [wts_app, ih, wts]; omega
theorem wts_len : ∀ st : List D, st.length ≤ wts st
  | [] => Nat.le_refl _
  | x :: st => by
    have := wts_len st
    have := wt_pos x
    simp [wts]
    omega
theorem wt_kidsT {v : D} (c : formT v = true) : wts (kidsT v) + 1 ≤ wt v := by
  rcases formT_cases c with ⟨x, rfl, _⟩ | ⟨x, y, rfl, _⟩ | ⟨x, y, rfl⟩ <;> simp [kidsT, wt, wts] <;> omega
theorem good_kidsT {v : D} (g : good v = true) (c : formT v = true) : ∀ x ∈ kidsT v, good x = true := by
  rcases formT_cases c with ⟨x, rfl, _⟩ | ⟨x, y, rfl, _⟩ | ⟨x, y, rfl⟩
  · simp [kidsT]
  · simp [kidsT, (good3 g).2.2]
  · simp [kidsT, (good3 g).2.1, (good3 g).2.2]
theorem kidsT_len (v : D) : (kidsT v).length ≤ 2 := by
  unfold kidsT
  split
  · split <;> simp
  · simp
noncomputable def bodyT (k : Nat) : SS := sSeq (sAsg (bN 3) false (mMeth isLs fPop (mVar 1) [])) (sSeq (sAug 2 iaAdd (mC (.int 1))) (sSeq (sIf (mOr (mB (mOp2 opGt (mVar 2) (mC (.int 2000)))) (mNot (mTru (mCall (Φ k 11) [(false, mVar 3)])))) (sRet (mC (.bl false))) (sNx)) (sDrop (mMeth isLs fExt (mVar 1) [(false, mCall (Φ k 4) [(false, mVar 3)])]))))
section
variable (k : Nat) (S : Store) (q : D)
theorem fitT_turn {v : D} {st : List D} {c : Nat} {p3 : Option D} (g : good v = true) (hl : st.length + 2 ≤ SL) :
    bodyT (k + 4) [some q, some (.ref S.length), some (.int c), p3] (S ++ [.lst ((v :: st).reverse)]) =
      if (decide (c + 1 ≤ 2000) && formT v) = true then .nx [some q, some (.ref S.length), some (.int (c + 1 : Nat)), some v] (S ++ [.lst (((kidsT v).reverse ++ st).reverse)])
      else .ret (.bl false) (S ++ [.lst st.reverse]) := by
  have rv := good_R g
  have hpo : fPop (S ++ [.lst ((v :: st).reverse)]) (.ref S.length) [] = .ok v (S ++ [.lst st.reverse]) := by
    rw [List.reverse_cons, pop_ref one0, one0s]
  have ef := e_formT k v (S ++ [.lst st.reverse]) g
  unfold bodyT
  rw [sSeq_E, sAsg_E, mMeth_E]
  simp only [mVar_E, lookS, look0_ref, of_someE, bind_okE, isLs_ref one0, if_true, mArgs_nil, hpo, calm_okE, fix_R rv, toO_okE, bN_E]
  show sSeq _ _ [some q, some (.ref S.length), some (.int c), some v] (S ++ [.lst st.reverse]) = _
  have ha : sAug 2 iaAdd (mC (.int 1)) [some q, some (.ref S.length), some (.int c), some v] (S ++ [.lst st.reverse]) = .nx [some q, some (.ref S.length), some (.int ((c + 1 : Nat) : Int)), some v] (S ++ [.lst st.reverse]) := rfl
  rw [sSeq_E, ha]
  show sSeq _ _ [some q, some (.ref S.length), some (.int ((c + 1 : Nat) : Int)), some v] (S ++ [.lst st.reverse]) = _
  have t1 : mOr (mB (mOp2 opGt (mVar 2) (mC (.int 2000)))) (mNot (mTru (mCall (Φ (k + 4) 11) [(false, mVar 3)]))) [some q, some (.ref S.length), some (.int ((c + 1 : Nat) : Int)), some v] (S ++ [.lst st.reverse]) = .ok (!(decide (c + 1 ≤ 2000) && formT v)) (S ++ [.lst st.reverse]) := by
    have u1 : mB (mOp2 opGt (mVar 2) (mC (.int 2000))) [some q, some (.ref S.length), some (.int ((c + 1 : Nat) : Int)), some v] (S ++ [.lst st.reverse]) = .ok (!decide (c + 1 ≤ 2000)) (S ++ [.lst st.reverse]) := by
      simp only [mB_E, mOp2_E, mVar_E, lookS, look0_int, of_someE, bind_okE, mC_E, gt_int]
      by_cases z : c + 1 ≤ 2000
      · rw [decide_eq_true z, decide_eq_false (by omega)]; rfl
      · rw [decide_eq_false z, decide_eq_true (by omega)]; rfl
    rw [mOr_E, u1, bind_okE]
    by_cases z : c + 1 ≤ 2000
    · rw [decide_eq_true z, if_neg (by decide), mNot_E, mTru_E, mCall_E, mArgs_cons, mFix_E, mVar_E, lookS, lookS, lookS, look0 _ _ rv]
      simp only [of_someE, bind_okE, fix_R rv, mArgs_nil, ef, tru_bl, Bool.true_and]
    · rw [decide_eq_false z, if_pos (by decide)]; rfl
  rw [sSeq_E, sIf_E, t1, toO_okE]
  by_cases c1 : (decide (c + 1 ≤ 2000) && formT v) = true
  · rw [c1, if_neg (by decide), sNx_E, if_pos rfl]
    show sDrop _ [some q, some (.ref S.length), some (.int ((c + 1 : Nat) : Int)), some v] (S ++ [.lst st.reverse]) = _
    have cf := (Bool.and_eq_true_iff.mp c1).2
    have ep := e_partsT (k + 3) (S ++ [SO.lst st.reverse]) cf
    have kl := kidsT_len v
    have hex : fExt (S ++ [.lst st.reverse]) (.ref S.length) [.tup (kidsT v)] = .ok .non (S ++ [.lst (((kidsT v).reverse ++ st).reverse)]) := by
      rw [extT_ref one0 _ (by rw [List.length_reverse]; omega), one0s, List.reverse_append, List.reverse_reverse]
    rw [sDrop_E, mMeth_E]
    simp only [mVar_E, lookS, look0_ref, of_someE, bind_okE, isLs_ref one0, if_true, mArgs_cons, mFix_E, mCall_E, look0 _ _ rv, fix_R rv, mArgs_nil, ep, fix_tup, hex, calm_okE, toO_okE]
  · rw [Bool.eq_false_iff.mpr c1, if_pos (by decide), if_neg (by decide)]
    rfl
theorem fitT_loop : ∀ (f : Nat) (st : List D) (c : Nat) (p3 : Option D), wts st ≤ f → f + 2 ≤ SL → (∀ x ∈ st, good x = true) →
    ∃ W, sSeq (sWh (mB (mOp2 opNe (mVar 1) (mLst []))) (bodyT (k + 4))) (sRet (mC (.bl true))) [some q, some (.ref S.length), some (.int c), p3] (S ++ [.lst st.reverse]) = .ret (.bl (fitT f c st)) (S ++ [.lst W])
  | f, [], c, p3, _, _, _ => by
    refine ⟨[], ?_⟩
    rw [sSeq_E, sWh_step]
    have e : fitT f c [] = true := by cases f <;> rfl
    rw [e]
    simp [ne_nil (view_ref one0)]
  | 0, x :: st, c, p3, h, _, _ => by
    have := wt_pos x
    simp [wts] at h
    omega
  | f + 1, v :: st, c, p3, h, hf, g => by
    have gv := g v List.mem_cons_self
    have h : wt v + wts st ≤ f + 1 := h
    have hs := wts_len st
    have tst : mB (mOp2 opNe (mVar 1) (mLst [])) [some q, some (.ref S.length), some (.int c), p3] (S ++ [.lst ((v :: st).reverse)]) = .ok true (S ++ [.lst ((v :: st).reverse)]) := by
      simp only [mB_E, mOp2_E, mVar_E, lookS, look0_ref, of_someE, bind_okE, mLst_E, mArgs_nil, ne_nil (view_ref one0)]
      simp
    have wv := wt_pos v
    rw [sSeq_E, sWh_step, tst, toO_okE, if_pos rfl, fitT_turn k S q gv (by omega)]
    by_cases z : (decide (c + 1 ≤ 2000) && formT v) = true
    · rw [if_pos z]
      have cf : formT v = true := (Bool.and_eq_true_iff.mp z).2
      have kw := wt_kidsT cf
      obtain ⟨W, e⟩ := fitT_loop f ((kidsT v).reverse ++ st) (c + 1) (some v) (by rw [wts_app, wts_rev]; omega) (by omega) (fun x hx => by
        rcases List.mem_append.mp hx with hx | hx
        · exact good_kidsT gv cf x (List.mem_reverse.mp hx)
        · exact g x (List.mem_cons_of_mem _ hx))
      refine ⟨W, ?_⟩
      rw [sSeq_E] at e
      have er : fitT (f + 1) c (v :: st) = fitT f (c + 1) ((kidsT v).reverse ++ st) := by
        show (decide (c + 1 ≤ 2000) && (formT v && _)) = _
        rw [← Bool.and_assoc, z, Bool.true_and]
      rw [er]
      exact e
    · rw [if_neg z]
      refine ⟨st.reverse, ?_⟩
      have er : fitT (f + 1) c (v :: st) = false := by
        show (decide (c + 1 ≤ 2000) && (formT v && _)) = _
        rw [← Bool.and_assoc, Bool.eq_false_iff.mpr z, Bool.false_and]
      rw [er]
end
def fitsT (v : D) : Bool := fitT (wt v) 0 [v]
theorem e_fitsT (k : Nat) (v : D) (S : Store) (g : good v = true) (h : wt v + 2 ≤ SL) : Φ (k + 5) 12 [v] S = .ok (.bl (fitsT v)) S := by
  have rv := good_R g
  obtain ⟨W, e⟩ := fitT_loop k S v (wt v) [v] 0 none (by simp [wts]) h (fun x hx => by rw [List.mem_singleton.mp hx]; exact g)
  have e0 : b_12 (Φ (k + 4)) [some v, none, none, none] S = .ret (.bl (fitsT v)) (S ++ [.lst W]) := by
    unfold b_12
    have e2 : sPar [1, 2] [(true, mLst [(false, mVar 0)]), (false, mC (.int 0))] [some v, none, none, none] S = .nx [some v, some (.ref S.length), some (.int (0 : Nat)), none] (S ++ [.lst ([v].reverse)]) := by
      simp [look0 _ _ rv, fix_R rv]
    rw [sSeq_E, e2]
    unfold bodyT at e
    exact e
  show runD 4 (b_12 (Φ (k + 4))) _ _ = _
  rw [run_ret e0]
  exact gc_app (by simp) (convT_pl rfl)
theorem e_cterm (k : Nat) (v : D) (S : Store) (g : good v = true) (h : wt v + 2 ≤ SL) : Φ (k + 6) 13 [v] S = if fitsT v = true then .ok .non S else .exc 1 [v] S := by
  have i := e_fitsT k v S g h
  have r := good_R g
  have t : mNot (mTru (mCall (Φ (k + 5) 12) [(false, mVar 0)])) [some v] S = .ok (!fitsT v) S := by
    simp [look0 _ _ r, fix_R r, i]
  have x : mFix false (mVar 0) [some v] S = .ok v S := by
    simp [look0 _ _ r, fix_R r]
  show runD 1 (b_13 (Φ (k + 5))) _ _ = _
  by_cases c : fitsT v = true
  · rw [c] at t
    rw [if_pos c]
    have e0 : b_13 (Φ (k + 5)) [some v] S = .nx [some v] S := by
      unfold b_13
      rw [sIf_E, t, toO_okE, if_neg (by decide), sNx_E]
    rw [run_nx e0, gc_same]
  · rw [Bool.eq_false_iff.mpr c] at t
    rw [if_neg c]
    have e0 : b_13 (Φ (k + 5)) [some v] S = .exc 1 [v] [some v] S := by
      unfold b_13
      rw [sIf_E, t, toO_okE, if_pos (by decide), sRaise_E]
      rw [mFix_E] at x
      rw [x, toO_okE]
    rw [run_exc e0, gcX_same]
/-! terms fit -/
def Nt.kids : Nt → List Nt
  | .var _ => []
  | .lam _ t => [t]
  | .app a b => [a, b]
def nszs (ts : List Nt) : Nat := (ts.map Nt.sz).sum
theorem kidsT_enc (t : Nt) : kidsT (encN t) = t.kids.map encN := by cases t <;> simp [kidsT, encN, Nt.kids]
theorem formT_enc {t : Nt} (h : okN t) : formT (encN t) = true := by
  cases t with
  | var s => simp [encN, formT]; exact h
  | lam s t => simp [encN, formT]; exact h.1
  | app a b => simp [encN, formT]
theorem okN_kids {t : Nt} (h : okN t) : ∀ x ∈ t.kids, okN x := by
  cases t with
  | var s => simp [Nt.kids]
  | lam s t => simp [Nt.kids]; exact h.2
  | app a b => simp [Nt.kids]; exact h
theorem nsz_kids (t : Nt) : t.sz = nszs t.kids + 1 := by cases t <;> simp [Nt.sz, nszs, Nt.kids]
theorem nszs_app (a b : List Nt) : nszs (a ++ b) = nszs a + nszs b := by simp [nszs]
theorem nszs_rev (a : List Nt) : nszs a.reverse = nszs a := by simp [nszs, List.sum_reverse]
theorem fitT_true : ∀ (f : Nat) (ts : List Nt) (c : Nat), (∀ p ∈ ts, okN p) → c + nszs ts ≤ 2000 → wts (ts.map encN) ≤ f → fitT f c (ts.map encN) = true
  | f, [], c, _, _, _ => by cases f <;> rfl
  | 0, p :: ts, c, _, _, h => by
    have := wt_pos (encN p)
    simp [wts] at h
    omega
  | f + 1, t :: ts, c, hp, hc, h => by
    have h1 : okN t := hp t List.mem_cons_self
    have h : wt (encN t) + wts (ts.map encN) ≤ f + 1 := h
    have hc : c + (t.sz + nszs ts) ≤ 2000 := by simpa [nszs] using hc
    have hz := nsz_kids t
    have kw := wt_kidsT (formT_enc h1)
    show (decide (c + 1 ≤ 2000) && (formT (encN t) && fitT f (c + 1) ((kidsT (encN t)).reverse ++ ts.map encN))) = true
    rw [decide_eq_true (by omega), formT_enc h1, Bool.true_and, Bool.true_and]
    have e : (kidsT (encN t)).reverse ++ ts.map encN = (t.kids.reverse ++ ts).map encN := by rw [kidsT_enc, List.map_append, List.map_reverse]
    have hl : wts ((kidsT (encN t)).reverse ++ ts.map encN) ≤ f := by
      rw [wts_app, wts_rev]
      omega
    rw [e] at hl ⊢
    refine fitT_true f _ (c + 1) ?_ ?_ hl
    · intro p hq
      rcases List.mem_append.mp hq with hq | hq
      · exact okN_kids h1 p (List.mem_reverse.mp hq)
      · exact hp p (List.mem_cons_of_mem _ hq)
    · rw [nszs_app, nszs_rev]
      omega
theorem fitsT_ok {t : Nt} (h : okN t) (hz : t.sz ≤ 2000) : fitsT (encN t) = true :=
  fitT_true (wt (encN t)) [t] 0 (fun p hp => by rw [List.mem_singleton.mp hp]; exact h) (by simp [nszs]; omega) (by simp [wts])
/-! terms with names are no numbered ones -/
end k03
end

section
set_option Elab.async false
set_option linter.all false
set_option maxRecDepth 100000
set_option maxHeartbeats 4000000
/-! k03, the plain law, part 21: numbering. -/
namespace k03
open PySem PySem.Spec L2 LB

/-! three handles at the store's end -/
section
variable {S : Store} {a b c d : SO}
@[simp] theorem thr0 : (S ++ [a, b, c])[S.length]? = some a := by simp
@[simp] theorem thr1 : (S ++ [a, b, c])[S.length + 1]? = some b := by
  rw [List.getElem?_append_right (by omega)]
  simp
@[simp] theorem thr2 : (S ++ [a, b, c])[S.length + 2]? = some c := by
  rw [List.getElem?_append_right (by omega)]
  simp
@[simp] theorem thr0s : (S ++ [a, b, c]).set S.length d = S ++ [d, b, c] := by
  rw [List.set_append_right _ _ (Nat.le_refl _)]
  simp
@[simp] theorem thr1s : (S ++ [a, b, c]).set (S.length + 1) d = S ++ [a, d, c] := by
  rw [List.set_append_right _ _ (by omega)]
  simp
@[simp] theorem thr2s : (S ++ [a, b, c]).set (S.length + 2) d = S ++ [a, b, d] := by
  rw [List.set_append_right _ _ (by omega)]
  simp
end
/-! dicts -/
theorem getK_put : ∀ {ks : List DK} {vs : List D} {q q' : DK} {d : D}, ks.length = vs.length → getK (putKs ks q) (putVs ks vs q d) q' = if q' = q then some d else getK ks vs q'
  | [], [], q, q', d, _ => by
    show getK [q] [d] q' = _
    unfold getK
    by_cases c : q = q'
    · rw [if_pos c, if_pos c.symm]
    · rw [if_neg c, if_neg fun z => c z.symm]
      rfl
  | [], _ :: _, _, _, _, e => nomatch e
  | _ :: _, [], _, _, _, e => nomatch e
  | k :: ks, v :: vs, q, q', d, e => by
    have ih := getK_put (ks := ks) (vs := vs) (q := q) (q' := q') (d := d) (Nat.succ.inj e)
    by_cases c : k = q
    · subst c
      have e1 : putKs (k :: ks) k = k :: ks := by
        unfold putKs
        rw [if_pos (by simp [hasK])]
      have e2 : putVs (k :: ks) (v :: vs) k d = d :: vs := by
        show (if k = k then d :: vs else _) = _
        rw [if_pos rfl]
      rw [e1, e2]
      show (if k = q' then some d else getK ks vs q') = if q' = k then some d else (if k = q' then some v else getK ks vs q')
      by_cases c2 : k = q'
      · rw [if_pos c2, if_pos c2.symm]
      · rw [if_neg c2, if_neg fun z => c2 z.symm, if_neg c2]
    · have e1 : putKs (k :: ks) q = k :: putKs ks q := by
        unfold putKs
        have hk : hasK (k :: ks) q = hasK ks q := by simp [hasK, c]
        rw [hk]
        split <;> rfl
      have e2 : putVs (k :: ks) (v :: vs) q d = v :: putVs ks vs q d := by
        show (if k = q then d :: vs else v :: putVs ks vs q d) = _
        rw [if_neg c]
      rw [e1, e2]
      show (if k = q' then some v else getK (putKs ks q) (putVs ks vs q d) q') = if q' = q then some d else (if k = q' then some v else getK ks vs q')
      rw [ih]
      by_cases c2 : k = q'
      · subst c2
        rw [if_pos rfl, if_neg c, if_pos rfl]
      · rw [if_neg c2, if_neg c2]
theorem put_len : ∀ {ks : List DK} {vs : List D} {q : DK} {d : D}, ks.length = vs.length → (putKs ks q).length = (putVs ks vs q d).length
  | [], [], q, d, _ => rfl
  | [], _ :: _, _, _, e => nomatch e
  | _ :: _, [], _, _, e => nomatch e
  | k :: ks, v :: vs, q, d, e => by
    have ih := put_len (ks := ks) (vs := vs) (q := q) (d := d) (Nat.succ.inj e)
    by_cases c : k = q
    · subst c
      have e1 : putKs (k :: ks) k = k :: ks := by
        unfold putKs
        rw [if_pos (by simp [hasK])]
      have e2 : putVs (k :: ks) (v :: vs) k d = d :: vs := by
        show (if k = k then d :: vs else _) = _
        rw [if_pos rfl]
      rw [e1, e2]
      exact e
    · have e1 : putKs (k :: ks) q = k :: putKs ks q := by
        unfold putKs
        have hk : hasK (k :: ks) q = hasK ks q := by simp [hasK, c]
        rw [hk]
        split <;> rfl
      have e2 : putVs (k :: ks) (v :: vs) q d = v :: putVs ks vs q d := by
        show (if k = q then d :: vs else v :: putVs ks vs q d) = _
        rw [if_neg c]
      rw [e1, e2, List.length_cons, List.length_cons, ih]
theorem putKs_len (ks : List DK) (q : DK) : (putKs ks q).length ≤ ks.length + 1 := by
  unfold putKs
  split <;> simp
/-! rows -/
def dps (s : List Nat) : List (List Nat) → List Nat
  | [] => []
  | x :: ρ => dps s ρ ++ (if x = s then [ρ.length] else [])
theorem dps_len (s : List Nat) : ∀ ρ, (dps s ρ).length ≤ ρ.length
  | [] => Nat.le_refl _
  | x :: ρ => by
    have := dps_len s ρ
    unfold dps
    split <;> simp <;> omega
theorem dps_none {s : List Nat} : ∀ {ρ : List (List Nat)}, s ∉ ρ → dps s ρ = []
  | [], _ => rfl
  | x :: ρ, h => by
    rw [List.mem_cons, not_or] at h
    unfold dps
    rw [dps_none h.2, if_neg fun z => h.1 z.symm]
    rfl
theorem dps_some {s : List Nat} : ∀ {ρ : List (List Nat)} {i : Nat}, ixS s ρ = some i → ∃ xs, dps s ρ = xs ++ [ρ.length - 1 - i] ∧ i < ρ.length
  | [], _, h => by cases h
  | x :: ρ, i, h => by
    unfold ixS at h
    by_cases c : x = s
    · rw [if_pos c] at h
      cases h
      refine ⟨dps s ρ, ?_, by simp⟩
      show dps s ρ ++ (if x = s then [ρ.length] else []) = _
      rw [if_pos c]
      simp
    · rw [if_neg c] at h
      obtain ⟨j, e, rfl⟩ := Option.map_eq_some_iff.mp h
      obtain ⟨xs, e2, hl⟩ := dps_some e
      refine ⟨xs, ?_, by simp; omega⟩
      show dps s ρ ++ (if x = s then [ρ.length] else []) = _
      rw [if_neg c, e2, List.append_nil, List.length_cons]
      congr 2
      omega
def nts (xs : List Nat) : List D := xs.map fun n => .int (n : Nat)
def Rw (ks : List DK) (vs : List D) (ρ : List (List Nat)) : Prop := ∀ s, (getK ks vs (.inr s)).getD (.lst []) = .lst (nts (dps s ρ))
theorem Rw.push {ks : List DK} {vs : List D} {ρ : List (List Nat)} {s : List Nat} (h : Rw ks vs ρ) (hl : ks.length = vs.length) : Rw (putKs ks (.inr s)) (putVs ks vs (.inr s) (.lst (nts (dps s ρ) ++ [.int (ρ.length : Nat)]))) (s :: ρ) := fun s' => by
  rw [getK_put hl]
  by_cases c : s' = s
  · subst c
    rw [if_pos rfl]
    show D.lst _ = D.lst (nts (dps s' ρ ++ if s' = s' then [ρ.length] else []))
    rw [if_pos rfl]
    simp [nts]
  · rw [if_neg fun z => c (Sum.inr.inj z), h s']
    show D.lst _ = D.lst (nts (dps s' ρ ++ if s = s' then [ρ.length] else []))
    rw [if_neg fun z => c z.symm, List.append_nil]
theorem Rw.pop {ks : List DK} {vs : List D} {ρ : List (List Nat)} {s : List Nat} (h : Rw ks vs (s :: ρ)) (hl : ks.length = vs.length) : Rw (putKs ks (.inr s)) (putVs ks vs (.inr s) (.lst (nts (dps s ρ)))) ρ := fun s' => by
  rw [getK_put hl]
  by_cases c : s' = s
  · subst c
    rw [if_pos rfl]
    rfl
  · rw [if_neg fun z => c (Sum.inr.inj z), h s']
    show D.lst (nts (dps s' ρ ++ if s = s' then [ρ.length] else [])) = _
    rw [if_neg fun z => c z.symm, List.append_nil]
theorem Rw.top {ks : List DK} {vs : List D} {ρ : List (List Nat)} {s : List Nat} (h : Rw ks vs (s :: ρ)) : getK ks vs (.inr s) = some (.lst (nts (dps s ρ) ++ [.int (ρ.length : Nat)])) := by
  have e := h s
  have e2 : nts (dps s (s :: ρ)) = nts (dps s ρ) ++ [.int (ρ.length : Nat)] := by
    show nts (dps s ρ ++ if s = s then [ρ.length] else []) = _
    rw [if_pos rfl]
    simp [nts]
  rw [e2] at e
  cases q : getK ks vs (.inr s) with
  | none => rw [q] at e; simp at e
  | some d => rw [q] at e; exact congrArg some e
theorem at_last {α : Type} (xs : List α) (y : α) : atI (xs ++ [y]) (-1) = some y := by
  unfold atI ixN
  have h1 : (-((xs ++ [y]).length : Int) ≤ -1) := by simp; omega
  simp
  have e : (-1 + ((xs.length : Int) + 1)).toNat = xs.length := by omega
  rw [e, if_pos (by omega)]
  show (xs ++ [y])[xs.length]? = some y
  rw [List.getElem?_append_right (Nat.le_refl _), Nat.sub_self]
  rfl
theorem SL_lt {n : Nat} (h : n ≤ 1000000) : n < SL := by show n < 16777216; omega
theorem cut_drop {α : Type} (xs : List α) (y : α) : cutD (xs ++ [y]) none (some (-1)) = xs := by
  unfold cutD HT.sIx
  simp
  have e : (-1 + ((xs.length : Int) + 1)).toNat = xs.length := by omega
  rw [e]
  simp
/-! the loop -/
noncomputable def C12 : SB := mB (mOp2 opNe (mVar 2) (mLst []))
noncomputable def isH (z : List Nat) : SB := mB (mOp2 opEq (mOp2 opIx (mVar 5) (mC (.int 0))) (mC (.str z)))
noncomputable def V12 : SS := sSeq (sAsg (bN 6) false (mGet2 (mVar 3) (mOp2 opIx (mVar 5) (mC (.int 1))) (mLst []))) (sDrop (mMeth isLs fApp (mVar 1) [(false, mIf (mB (mOp2 opNe (mVar 6) (mLst []))) (mTup [(false, mC (.str [110, 117, 109])), (false, mOp2 opSub (mOp2 opSub (mVar 4) (mC (.int 1))) (mOp2 opIx (mVar 6) (mUn opNeg (mC (.int 1)))))]) (mTup [(false, mC (.str [102, 114, 101, 101])), (false, mOp2 opIx (mVar 5) (mC (.int 1)))]))]))
noncomputable def A12 : SS := sSeq (sDrop (mMeth isLs fApp (mVar 1) [(false, mC (.tup [.str [97, 112, 112]]))])) (sDrop (mMeth isLs fExt (mVar 2) [(false, mLst [(false, mOp2 opIx (mVar 5) (mC (.int 2))), (false, mOp2 opIx (mVar 5) (mC (.int 1)))])]))
noncomputable def L12 : SS := sSeq (sDrop (mMeth isLs fApp (mVar 1) [(false, mC (.tup [.str [108, 97, 109]]))])) (sSeq (sPut false (mOp2 opAdd (mGet2 (mVar 3) (mOp2 opIx (mVar 5) (mC (.int 1))) (mLst [])) (mLst [(false, mVar 4)])) (mVar 3) (mOp2 opIx (mVar 5) (mC (.int 1)))) (sSeq (sAug 4 iaAdd (mC (.int 1))) (sDrop (mMeth isLs fExt (mVar 2) [(false, mLst [(false, mTup [(false, mC (.str [101, 110, 100])), (false, mOp2 opIx (mVar 5) (mC (.int 1)))]), (false, mOp2 opIx (mVar 5) (mC (.int 2)))])]))))
noncomputable def E12 : SS := sSeq (sPut false (mSl (mOp2 opIx (mVar 3) (mOp2 opIx (mVar 5) (mC (.int 1)))) (mNo) (mPart (mUn opNeg (mC (.int 1))))) (mVar 3) (mOp2 opIx (mVar 5) (mC (.int 1)))) (sAug 4 opSub (mC (.int 1)))
noncomputable def B12 : SS := sSeq (sAsg (bN 5) false (mMeth isLs fPop (mVar 2) [])) (sIf (isH sVAR) V12 (sIf (isH sAPP) A12 (sIf (isH sLAM) L12 E12)))
theorem b12_eq (Φ : Nat → Fun) : b_8 Φ = sSeq (sAsg (bT [bN 1, bN 2, bN 3, bN 4]) false (mTup [(true, mLst []), (true, mLst [(false, mVar 0)]), (true, mDic0), (false, mC (.int 0))])) (sSeq (sWh C12 B12) (sRet (mVar 1))) := rfl
section
variable {S : Store} {q : D} {d : Int} {p5 p6 : Option D} {F W : List D} {ks : List DK} {vs : List D}
abbrev lN (q : D) (n : Nat) (d : Int) (p5 p6 : Option D) : LB.Loc := [some q, some (.ref n), some (.ref (n + 1)), some (.ref (n + 2)), some (.int d), p5, p6]
abbrev sN (S : Store) (F W : List D) (ks : List DK) (vs : List D) : Store := S ++ [.lst F, .lst W, .dic ks vs]
theorem pop12 {v : D} (r : isR v = true) : sAsg (bN 5) false (mMeth isLs fPop (mVar 2) []) (lN q S.length d p5 p6) (sN S F (W ++ [v]) ks vs) = .nx (lN q S.length d (some v) p6) (sN S F W ks vs) := by
  have hpo : fPop (sN S F (W ++ [v]) ks vs) (.ref (S.length + 1)) [] = .ok v (sN S F W ks vs) := by
    rw [pop_ref thr1, thr1s]
  rw [sAsg_E, mMeth_E]
  simp only [mVar_E, lookS, look0_ref, of_someE, bind_okE, isLs_ref thr1, if_true, mArgs_nil, hpo, calm_okE, fix_R r, toO_okE, bN_E]
  rfl
theorem test12 {v : D} : C12 (lN q S.length d p5 p6) (sN S F (W ++ [v]) ks vs) = .ok true (sN S F (W ++ [v]) ks vs) := by
  unfold C12
  simp only [mB_E, mOp2_E, mVar_E, lookS, look0_ref, of_someE, bind_okE, mLst_E, mArgs_nil, ne_nil (view_ref thr1)]
  simp
theorem isH_ok {z s : List Nat} {r : List D} {T : Store} : isH z (lN q S.length d (some (.tup (.str s :: r))) p6) T = .ok (decide (s = z)) T := by
  unfold isH
  simp only [mB_E, mOp2_E, mVar_E, lookS, look0_tup, of_someE, bind_okE, mC_E, ix_tupE, at0, eq_str]
/-- one turn of the loop -/
theorem turn12 {v : D} {l' : LB.Loc} {S' : Store} (r : isR v = true) (h : (sIf (isH sVAR) V12 (sIf (isH sAPP) A12 (sIf (isH sLAM) L12 E12))) (lN q S.length d (some v) p6) (sN S F W ks vs) = .nx l' S') :
    sWh C12 B12 (lN q S.length d p5 p6) (sN S F (W ++ [v]) ks vs) = sWh C12 B12 l' S' := by
  rw [sWh_step, test12, toO_okE, if_pos rfl]
  have e : B12 (lN q S.length d p5 p6) (sN S F (W ++ [v]) ks vs) = .nx l' S' := by
    unfold B12
    rw [sSeq_E, pop12 r]
    exact h
  rw [e]
theorem isDc_ref {n : Nat} {T : Store} (h : T[n]? = some (.dic ks vs)) : viewD T (.ref n) = some (ks, vs) := by
  show (match T[n]? with
    | some (.dic ks vs) => some (ks, vs)
    | _ => none) = _
  rw [h]
theorem app1 (x : D) (h : F.length < SL) : fApp (sN S F W ks vs) (.ref S.length) [x] = .ok .non (sN S (F ++ [x]) W ks vs) := by
  rw [app_ref thr0 _ h, thr0s]
theorem ext2 (ys : List D) (h : W.length + ys.length ≤ SL) : fExt (sN S F W ks vs) (.ref (S.length + 1)) [.lst ys] = .ok .non (sN S F (W ++ ys) ks vs) := by
  rw [extL_ref thr1 _ h, thr1s]
theorem get12 {s : List Nat} {r : List D} {m' : D} : mGet2 (mVar 3) (mOp2 opIx (mVar 5) (mC (.int 1))) (mLst []) (lN q S.length d (some (.tup (m' :: .str s :: r))) p6) (sN S F W ks vs) = .ok (match getK ks vs (.inr s) with
    | some d => d
    | none => .tmp []) (sN S F W ks vs) := by
  have vd : viewD (sN S F W ks vs) (.ref (S.length + 2)) = some (ks, vs) := isDc_ref thr2
  have dc : isDc (sN S F W ks vs) (.ref (S.length + 2)) = true := by unfold isDc; rw [vd]; rfl
  rw [mGet2_E]
  simp only [mVar_E, lookS, look0_ref, of_someE, bind_okE, dc, if_true, mOp2_E, look0_tup, mC_E, ix_tupE, at1, mLst_E, mArgs_nil, vd, dkD]
  cases getK ks vs (.inr s) <;> rfl
theorem turn_var {s : List Nat} {ρ : List (List Nat)} (hR : Rw ks vs ρ) (hF : F.length < SL) :
    ∃ p5' p6', sWh C12 B12 (lN q S.length (ρ.length : Nat) p5 p6) (sN S F (W ++ [encN (.var s)]) ks vs) = sWh C12 B12 (lN q S.length (ρ.length : Nat) p5' p6') (sN S (F ++ [hd (numL (.var s) ρ)]) W ks vs) := by
  refine ⟨some (encN (.var s)), some (.lst (nts (dps s ρ))), turn12 (isR_encN _) ?_⟩
  have h1 : isH sVAR (lN q S.length (ρ.length : Nat) (some (encN (.var s))) p6) (sN S F W ks vs) = .ok true (sN S F W ks vs) := isH_ok
  rw [sIf_E, h1, toO_okE, if_pos rfl]
  unfold V12
  have hr := hR s
  have g : (mGet2 (mVar 3) (mOp2 opIx (mVar 5) (mC (.int 1))) (mLst []) (lN q S.length (ρ.length : Nat) (some (encN (.var s))) p6) (sN S F W ks vs)).bind (fixD false) = .ok (.lst (nts (dps s ρ))) (sN S F W ks vs) := by
    have e := get12 (q := q) (S := S) (d := (ρ.length : Nat)) (p6 := p6) (F := F) (W := W) (ks := ks) (vs := vs) (s := s) (r := []) (m' := .str sVAR)
    rw [show encN (.var s) = .tup [.str sVAR, .str s] from rfl, e, bind_okE]
    cases q1 : getK ks vs (.inr s) with
    | none => rw [q1] at hr; rw [← hr]; rfl
    | some d => rw [q1] at hr; have hr : d = .lst (nts (dps s ρ)) := hr; subst hr; rfl
  rw [sSeq_E, sAsg_E, g, toO_okE, bN_E]
  show sDrop _ (lN q S.length (ρ.length : Nat) (some (encN (.var s))) (some (.lst (nts (dps s ρ))))) (sN S F W ks vs) = _
  have val : mIf (mB (mOp2 opNe (mVar 6) (mLst []))) (mTup [(false, mC (.str [110, 117, 109])), (false, mOp2 opSub (mOp2 opSub (mVar 4) (mC (.int 1))) (mOp2 opIx (mVar 6) (mUn opNeg (mC (.int 1)))))]) (mTup [(false, mC (.str [102, 114, 101, 101])), (false, mOp2 opIx (mVar 5) (mC (.int 1)))]) (lN q S.length (ρ.length : Nat) (some (encN (.var s))) (some (.lst (nts (dps s ρ))))) (sN S F W ks vs) = .ok (hd (numL (.var s) ρ)) (sN S F W ks vs) := by
    have vl : viewL (sN S F W ks vs) (.lst (nts (dps s ρ))) = some (nts (dps s ρ)) := rfl
    by_cases c : s ∈ ρ
    · obtain ⟨i, ei⟩ := ixS_some c
      obtain ⟨xs, ed, hi⟩ := dps_some ei
      have t : mB (mOp2 opNe (mVar 6) (mLst [])) (lN q S.length (ρ.length : Nat) (some (encN (.var s))) (some (.lst (nts (dps s ρ))))) (sN S F W ks vs) = .ok true (sN S F W ks vs) := by
        simp only [mB_E, mOp2_E, mVar_E, lookS, look0_lst, of_someE, bind_okE, mLst_E, mArgs_nil, ne_nil vl]
        rw [ed]
        simp [nts]
      have la : atI (nts (dps s ρ)) (-1) = some (.int ((ρ.length - 1 - i : Nat) : Int)) := by
        rw [ed, nts, List.map_append]
        exact at_last _ _
      have nm : numL (.var s) ρ = .num (i : Nat) := by unfold numL; rw [ei]
      rw [mIf_E, t, bind_okE, if_pos rfl, nm]
      simp only [mTup_E, mArgs_cons, mFix_E, mC_E, bind_okE, fix_str, mOp2_E, mVar_E, lookS, look0_int, look0_lst, of_someE, sub_int, mUn_E, neg_int, ix_lst, la, fix_int, mArgs_nil]
      show R.ok (D.tup [.str sNUM, .int ((ρ.length : Int) - 1 - ((ρ.length - 1 - i : Nat) : Int))]) _ = R.ok (D.tup [.str sNUM, .int (i : Nat)]) _
      congr 5
      omega
    · have ed := dps_none c
      have t : mB (mOp2 opNe (mVar 6) (mLst [])) (lN q S.length (ρ.length : Nat) (some (encN (.var s))) (some (.lst (nts (dps s ρ))))) (sN S F W ks vs) = .ok false (sN S F W ks vs) := by
        simp only [mB_E, mOp2_E, mVar_E, lookS, look0_lst, of_someE, bind_okE, mLst_E, mArgs_nil, ne_nil vl]
        rw [ed]
        simp [nts]
      have nm : numL (.var s) ρ = .free s := by unfold numL; rw [ixS_none c]
      rw [mIf_E, t, bind_okE, if_neg (by decide), nm]
      simp only [encN, mTup_E, mArgs_cons, mFix_E, mC_E, bind_okE, fix_str, mOp2_E, mVar_E, lookS, look0_tup, of_someE, ix_tupE, at1, mArgs_nil]
      rfl
  rw [sDrop_E, mMeth_E]
  simp only [mVar_E, lookS, look0_ref, of_someE, bind_okE, isLs_ref thr0, if_true, mArgs_cons, mFix_E, val, fix_hd, mArgs_nil, app1 _ hF, calm_okE, toO_okE]
theorem turn_app {a b : Nt} {d : Int} (hF : F.length < SL) (hW : W.length + 2 ≤ SL) :
    ∃ p5', sWh C12 B12 (lN q S.length d p5 p6) (sN S F (W ++ [encN (.app a b)]) ks vs) = sWh C12 B12 (lN q S.length d p5' p6) (sN S (F ++ [.tup [.str sAPP]]) (W ++ [encN b] ++ [encN a]) ks vs) := by
  refine ⟨some (encN (.app a b)), turn12 (isR_encN _) ?_⟩
  have h1 : isH sVAR (lN q S.length d (some (encN (.app a b))) p6) (sN S F W ks vs) = .ok false (sN S F W ks vs) := isH_ok
  have h2 : isH sAPP (lN q S.length d (some (encN (.app a b))) p6) (sN S F W ks vs) = .ok true (sN S F W ks vs) := isH_ok
  rw [sIf_E, h1, toO_okE, if_neg (by decide), sIf_E, h2, toO_okE, if_pos rfl]
  unfold A12
  have e1 : sDrop (mMeth isLs fApp (mVar 1) [(false, mC (.tup [.str [97, 112, 112]]))]) (lN q S.length d (some (encN (.app a b))) p6) (sN S F W ks vs) = .nx (lN q S.length d (some (encN (.app a b))) p6) (sN S (F ++ [.tup [.str sAPP]]) W ks vs) := by
    rw [sDrop_E, mMeth_E]
    simp only [mVar_E, lookS, look0_ref, of_someE, bind_okE, isLs_ref thr0, if_true, mArgs_cons, mFix_E, mC_E, fix_tup, mArgs_nil, app1 _ hF, calm_okE, toO_okE]
  have hx := ext2 (S := S) (F := F ++ [.tup [.str sAPP]]) (ks := ks) (vs := vs) [encN b, encN a] (show W.length + 2 ≤ SL from hW)
  rw [sSeq_E, e1]
  show sDrop _ (lN q S.length d (some (encN (.app a b))) p6) (sN S (F ++ [.tup [.str sAPP]]) W ks vs) = _
  rw [sDrop_E, mMeth_E]
  simp only [encN, mVar_E, lookS, look0_ref, look0_tup, of_someE, bind_okE, isLs_ref thr1, if_true, mArgs_cons, mFix_E, mLst_E, mOp2_E, mC_E, ix_tupE, at1, at2, fix_encN, mArgs_nil, fix_tmpF, hx, calm_okE, toO_okE]
  rw [List.append_assoc]
  rfl
theorem turn_lam {s : List Nat} {t : Nt} {ρ : List (List Nat)} (hR : Rw ks vs ρ) (hl : ks.length = vs.length) (nd : ks.Nodup) (hk : ks.length < SL) (hρ : ρ.length < SL) (hF : F.length < SL) (hW : W.length + 2 ≤ SL) :
    ∃ p5', sWh C12 B12 (lN q S.length (ρ.length : Nat) p5 p6) (sN S F (W ++ [encN (.lam s t)]) ks vs) = sWh C12 B12 (lN q S.length ((s :: ρ).length : Nat) p5' p6) (sN S (F ++ [.tup [.str sLAM]]) (W ++ [.tup [.str [101, 110, 100], .str s]] ++ [encN t]) (putKs ks (.inr s)) (putVs ks vs (.inr s) (.lst (nts (dps s ρ) ++ [.int (ρ.length : Nat)])))) := by
  refine ⟨some (encN (.lam s t)), turn12 (isR_encN _) ?_⟩
  have h1 : isH sVAR (lN q S.length (ρ.length : Nat) (some (encN (.lam s t))) p6) (sN S F W ks vs) = .ok false (sN S F W ks vs) := isH_ok
  have h2 : isH sAPP (lN q S.length (ρ.length : Nat) (some (encN (.lam s t))) p6) (sN S F W ks vs) = .ok false (sN S F W ks vs) := isH_ok
  have h3 : isH sLAM (lN q S.length (ρ.length : Nat) (some (encN (.lam s t))) p6) (sN S F W ks vs) = .ok true (sN S F W ks vs) := isH_ok
  rw [sIf_E, h1, toO_okE, if_neg (by decide), sIf_E, h2, toO_okE, if_neg (by decide), sIf_E, h3, toO_okE, if_pos rfl]
  unfold L12
  have e1 : sDrop (mMeth isLs fApp (mVar 1) [(false, mC (.tup [.str [108, 97, 109]]))]) (lN q S.length (ρ.length : Nat) (some (encN (.lam s t))) p6) (sN S F W ks vs) = .nx (lN q S.length (ρ.length : Nat) (some (encN (.lam s t))) p6) (sN S (F ++ [.tup [.str sLAM]]) W ks vs) := by
    rw [sDrop_E, mMeth_E]
    simp only [mVar_E, lookS, look0_ref, of_someE, bind_okE, isLs_ref thr0, if_true, mArgs_cons, mFix_E, mC_E, fix_tup, mArgs_nil, app1 _ hF, calm_okE, toO_okE]
  rw [sSeq_E, e1]
  show sSeq _ _ (lN q S.length (ρ.length : Nat) (some (encN (.lam s t))) p6) (sN S (F ++ [.tup [.str sLAM]]) W ks vs) = _
  have hr := hR s
  have dl := dps_len s ρ
  have e2 : sPut false (mOp2 opAdd (mGet2 (mVar 3) (mOp2 opIx (mVar 5) (mC (.int 1))) (mLst [])) (mLst [(false, mVar 4)])) (mVar 3) (mOp2 opIx (mVar 5) (mC (.int 1))) (lN q S.length (ρ.length : Nat) (some (encN (.lam s t))) p6) (sN S (F ++ [.tup [.str sLAM]]) W ks vs) = .nx (lN q S.length (ρ.length : Nat) (some (encN (.lam s t))) p6) (sN S (F ++ [.tup [.str sLAM]]) W (putKs ks (.inr s)) (putVs ks vs (.inr s) (.lst (nts (dps s ρ) ++ [.int (ρ.length : Nat)])))) := by
    have g := get12 (q := q) (S := S) (d := (ρ.length : Nat)) (p6 := p6) (F := F ++ [.tup [.str sLAM]]) (W := W) (ks := ks) (vs := vs) (s := s) (r := [encN t]) (m' := .str sLAM)
    have ad : opAdd (sN S (F ++ [.tup [.str sLAM]]) W ks vs) (match getK ks vs (.inr s) with
      | some d => d
      | none => .tmp []) (.tmp [.int (ρ.length : Nat)]) = some (.tmp (nts (dps s ρ) ++ [.int (ρ.length : Nat)])) := by
      have il : (nts (dps s ρ)).length = (dps s ρ).length := by simp [nts]
      cases q1 : getK ks vs (.inr s) with
      | none =>
        rw [q1] at hr
        have hr : D.lst [] = .lst (nts (dps s ρ)) := hr
        rw [← D.lst.inj hr]
        show (if ([] : List D).length + [D.int (ρ.length : Nat)].length ≤ SL then some (D.tmp ([] ++ [.int (ρ.length : Nat)])) else none) = _
        rw [if_pos (SL_ge (by simp))]
      | some d0 =>
        rw [q1] at hr
        have hr : d0 = .lst (nts (dps s ρ)) := hr
        subst hr
        exact add_lt _ _ _ (by rw [il]; show (dps s ρ).length + 1 ≤ SL; omega)
    have st : setQ (sN S (F ++ [.tup [.str sLAM]]) W ks vs) (.ref (S.length + 2)) (.str s) (.lst (nts (dps s ρ) ++ [.int (ρ.length : Nat)])) = some (sN S (F ++ [.tup [.str sLAM]]) W (putKs ks (.inr s)) (putVs ks vs (.inr s) (.lst (nts (dps s ρ) ++ [.int (ρ.length : Nat)])))) := by
      unfold setQ
      simp only [thr2, dkD, thr2s]
      rw [if_pos ⟨hk, nd⟩]
    rw [show encN (.lam s t) = .tup [.str sLAM, .str s, encN t] from rfl, sPut_E, mOp2_E, g]
    simp only [bind_okE, mLst_E, mArgs_cons, mFix_E, mVar_E, lookS, look0_int, of_someE, fix_int, mArgs_nil, ad, fix_tmpF, toO_okE, look0_ref, mOp2_E, look0_tup, mC_E, ix_tupE, at1, st]
  rw [sSeq_E, e2]
  show sSeq _ _ (lN q S.length (ρ.length : Nat) (some (encN (.lam s t))) p6) (sN S (F ++ [.tup [.str sLAM]]) W (putKs ks (.inr s)) (putVs ks vs (.inr s) (.lst (nts (dps s ρ) ++ [.int (ρ.length : Nat)])))) = _
  have e3 : ∀ T : Store, sAug 4 iaAdd (mC (.int 1)) (lN q S.length (ρ.length : Nat) (some (encN (.lam s t))) p6) T = .nx (lN q S.length ((s :: ρ).length : Nat) (some (encN (.lam s t))) p6) T := fun T => rfl
  rw [sSeq_E, e3]
  show sDrop _ (lN q S.length ((s :: ρ).length : Nat) (some (encN (.lam s t))) p6) (sN S (F ++ [.tup [.str sLAM]]) W (putKs ks (.inr s)) (putVs ks vs (.inr s) (.lst (nts (dps s ρ) ++ [.int (ρ.length : Nat)])))) = _
  have hx := ext2 (S := S) (F := F ++ [.tup [.str sLAM]]) (ks := putKs ks (.inr s)) (vs := putVs ks vs (.inr s) (.lst (nts (dps s ρ) ++ [.int (ρ.length : Nat)]))) [.tup [.str [101, 110, 100], .str s], encN t] (show W.length + 2 ≤ SL from hW)
  rw [sDrop_E, mMeth_E]
  simp only [encN, mVar_E, lookS, look0_ref, look0_tup, of_someE, bind_okE, isLs_ref thr1, if_true, mArgs_cons, mFix_E, mLst_E, mTup_E, mOp2_E, mC_E, ix_tupE, at1, at2, fix_encN, fix_str, fix_tup, mArgs_nil, fix_tmpF, hx, calm_okE, toO_okE]
  rw [List.append_assoc]
  rfl
theorem turn_end {s : List Nat} {ρ : List (List Nat)} (hR : Rw ks vs (s :: ρ)) (nd : ks.Nodup) (hk : ks.length < SL) :
    ∃ p5', sWh C12 B12 (lN q S.length ((s :: ρ).length : Nat) p5 p6) (sN S F (W ++ [.tup [.str [101, 110, 100], .str s]]) ks vs) = sWh C12 B12 (lN q S.length (ρ.length : Nat) p5' p6) (sN S F W (putKs ks (.inr s)) (putVs ks vs (.inr s) (.lst (nts (dps s ρ))))) := by
  refine ⟨some (.tup [.str [101, 110, 100], .str s]), turn12 rfl ?_⟩
  have h1 : isH sVAR (lN q S.length ((s :: ρ).length : Nat) (some (.tup [.str [101, 110, 100], .str s])) p6) (sN S F W ks vs) = .ok false (sN S F W ks vs) := isH_ok
  have h2 : isH sAPP (lN q S.length ((s :: ρ).length : Nat) (some (.tup [.str [101, 110, 100], .str s])) p6) (sN S F W ks vs) = .ok false (sN S F W ks vs) := isH_ok
  have h3 : isH sLAM (lN q S.length ((s :: ρ).length : Nat) (some (.tup [.str [101, 110, 100], .str s])) p6) (sN S F W ks vs) = .ok false (sN S F W ks vs) := isH_ok
  rw [sIf_E, h1, toO_okE, if_neg (by decide), sIf_E, h2, toO_okE, if_neg (by decide), sIf_E, h3, toO_okE, if_neg (by decide)]
  unfold E12
  have tp := hR.top
  have vd : viewD (sN S F W ks vs) (.ref (S.length + 2)) = some (ks, vs) := isDc_ref thr2
  have ix : opIx (sN S F W ks vs) (.ref (S.length + 2)) (.str s) = some (.lst (nts (dps s ρ) ++ [.int (ρ.length : Nat)])) := by
    show (match viewD (sN S F W ks vs) (.ref (S.length + 2)) with
      | some (ks, vs) => getK ks vs (.inr s)
      | none => none) = _
    rw [vd]
    exact tp
  have sl : opSl (sN S F W ks vs) (.lst (nts (dps s ρ) ++ [.int (ρ.length : Nat)])) none (some (-1)) = some (.tmp (nts (dps s ρ))) := by
    show some (D.tmp (cutD (nts (dps s ρ) ++ [.int (ρ.length : Nat)]) none (some (-1)))) = _
    rw [cut_drop]
  have st : setQ (sN S F W ks vs) (.ref (S.length + 2)) (.str s) (.lst (nts (dps s ρ))) = some (sN S F W (putKs ks (.inr s)) (putVs ks vs (.inr s) (.lst (nts (dps s ρ))))) := by
    unfold setQ
    simp only [thr2, dkD, thr2s]
    rw [if_pos ⟨hk, nd⟩]
  have e2 : sPut false (mSl (mOp2 opIx (mVar 3) (mOp2 opIx (mVar 5) (mC (.int 1)))) (mNo) (mPart (mUn opNeg (mC (.int 1))))) (mVar 3) (mOp2 opIx (mVar 5) (mC (.int 1))) (lN q S.length ((s :: ρ).length : Nat) (some (.tup [.str [101, 110, 100], .str s])) p6) (sN S F W ks vs) = .nx (lN q S.length ((s :: ρ).length : Nat) (some (.tup [.str [101, 110, 100], .str s])) p6) (sN S F W (putKs ks (.inr s)) (putVs ks vs (.inr s) (.lst (nts (dps s ρ))))) := by
    rw [sPut_E]
    simp only [mSl_E, mOp2_E, mVar_E, lookS, look0_ref, look0_tup, of_someE, bind_okE, mC_E, ix_tupE, at1, ix, mNo_E, mPart_E, mUn_E, neg_int, sl, fix_tmpF, toO_okE, st]
  have e3 : ∀ T : Store, sAug 4 opSub (mC (.int 1)) (lN q S.length ((s :: ρ).length : Nat) (some (.tup [.str [101, 110, 100], .str s])) p6) T = .nx (lN q S.length (ρ.length : Nat) (some (.tup [.str [101, 110, 100], .str s])) p6) T := fun T => by
    have e : opSub T (.int ((s :: ρ).length : Nat)) (.int 1) = some (.int (ρ.length : Nat)) := by
      rw [sub_int]
      congr 2
      simp
    rw [sAug_E]
    simp only [lookS, look0_int, mC_E, toO_okE, e]
    rfl
  rw [sSeq_E, e2]
  show sAug _ _ _ (lN q S.length ((s :: ρ).length : Nat) (some (.tup [.str [101, 110, 100], .str s])) p6) _ = _
  rw [e3]
end
theorem nh_sub (S : Store) (q : D) : ∀ (t : Nt) (ρ : List (List Nat)) (F W : List D) (ks : List DK) (vs : List D) (p5 p6 : Option D), Rw ks vs ρ → ks.length = vs.length → ks.Nodup → ks.length ≤ F.length → F.length + t.sz ≤ 100000 → W.length + 2 * t.sz ≤ 100000 → ρ.length + t.sz ≤ 100000 →
    ∃ ks' vs' p5' p6', sWh C12 B12 (lN q S.length (ρ.length : Nat) p5 p6) (sN S F (W ++ [encN t]) ks vs) = sWh C12 B12 (lN q S.length (ρ.length : Nat) p5' p6') (sN S (F ++ (pre (numL t ρ)).map hd) W ks' vs') ∧ Rw ks' vs' ρ ∧ ks'.length = vs'.length ∧ ks'.Nodup ∧ ks'.length ≤ F.length + t.sz
  | .var s, ρ, F, W, ks, vs, p5, p6, hR, hl, nd, hk, hF, hW, hρ => by
    simp only [Nt.sz] at hF hW hρ
    obtain ⟨x, y, e⟩ := turn_var (S := S) (q := q) (p5 := p5) (p6 := p6) (F := F) (W := W) (s := s) hR (SL_ge (by omega))
    refine ⟨ks, vs, x, y, ?_, hR, hl, nd, by omega⟩
    rw [e]
    have : (pre (numL (.var s) ρ)).map hd = [hd (numL (.var s) ρ)] := by
      unfold numL
      cases ixS s ρ <;> rfl
    rw [this]
  | .app a b, ρ, F, W, ks, vs, p5, p6, hR, hl, nd, hk, hF, hW, hρ => by
    simp only [Nt.sz] at hF hW hρ
    have pa := a.sz_pos
    have pb := b.sz_pos
    obtain ⟨x, e⟩ := turn_app (S := S) (q := q) (p5 := p5) (p6 := p6) (F := F) (W := W) (ks := ks) (vs := vs) (a := a) (b := b) (d := (ρ.length : Nat)) (SL_ge (by omega)) (SL_ge (by omega))
    obtain ⟨k1, v1, x1, y1, e1, R1, l1, n1, h1⟩ := nh_sub S q a ρ (F ++ [.tup [.str sAPP]]) (W ++ [encN b]) ks vs x p6 hR hl nd (by simp; omega) (by simp; omega) (by simp; omega) (by omega)
    have lp : ((pre (numL a ρ)).map hd).length = a.sz := by rw [List.length_map, pre_len, sz_numL]
    obtain ⟨k2, v2, x2, y2, e2, R2, l2, n2, h2⟩ := nh_sub S q b ρ (F ++ [.tup [.str sAPP]] ++ (pre (numL a ρ)).map hd) W k1 v1 x1 y1 R1 l1 n1 (by rw [List.length_append, lp]; exact h1) (by rw [List.length_append, lp]; simp; omega) (by omega) (by omega)
    refine ⟨k2, v2, x2, y2, ?_, R2, l2, n2, ?_⟩
    · rw [e, e1, e2]
      have : F ++ (pre (numL (.app a b) ρ)).map hd = F ++ [.tup [.str sAPP]] ++ (pre (numL a ρ)).map hd ++ (pre (numL b ρ)).map hd := by simp [numL, pre, hd]
      rw [this]
    · rw [List.length_append, lp] at h2
      simp at h2
      simp only [Nt.sz]
      omega
  | .lam s t, ρ, F, W, ks, vs, p5, p6, hR, hl, nd, hk, hF, hW, hρ => by
    simp only [Nt.sz] at hF hW hρ
    have pt := t.sz_pos
    obtain ⟨x, e⟩ := turn_lam (S := S) (q := q) (p5 := p5) (p6 := p6) (F := F) (W := W) (t := t) (s := s) hR hl nd (SL_ge (by omega)) (SL_ge (by omega)) (SL_ge (by omega)) (SL_ge (by omega))
    have kl := putKs_len ks (.inr s)
    obtain ⟨k1, v1, x1, y1, e1, R1, l1, n1, h1⟩ := nh_sub S q t (s :: ρ) (F ++ [.tup [.str sLAM]]) (W ++ [.tup [.str [101, 110, 100], .str s]]) _ _ x p6 (hR.push hl) (put_len hl) (putKs_nodup nd) (by simp; omega) (by simp; omega) (by simp; omega) (by simp; omega)
    have lp : ((pre (numL t (s :: ρ))).map hd).length = t.sz := by rw [List.length_map, pre_len, sz_numL]
    simp at h1
    obtain ⟨x2, e2⟩ := turn_end (S := S) (q := q) (p5 := x1) (p6 := y1) (F := F ++ [.tup [.str sLAM]] ++ (pre (numL t (s :: ρ))).map hd) (W := W) R1 n1 (SL_lt (by omega))
    have kl1 := putKs_len k1 (.inr s)
    refine ⟨putKs k1 (.inr s), putVs k1 v1 (.inr s) (.lst (nts (dps s ρ))), x2, y1, ?_, R1.pop l1, put_len l1, putKs_nodup n1, ?_⟩
    · rw [e, e1, e2]
      have : F ++ (pre (numL (.lam s t) ρ)).map hd = F ++ [.tup [.str sLAM]] ++ (pre (numL t (s :: ρ))).map hd := by simp [numL, pre, hd]
      rw [this]
    · have hs : hasK k1 (.inr s) = true := by
        have tp := R1.top
        clear e e1 e2 R1 l1 n1 h1 kl1
        induction k1 generalizing v1 with
        | nil => cases v1 <;> cases tp
        | cons k k1 ih =>
          cases v1 with
          | nil => cases tp
          | cons v v1 =>
            have tp : (if k = .inr s then some v else getK k1 v1 (.inr s)) = some (.lst (nts (dps s ρ) ++ [.int (ρ.length : Nat)])) := tp
            by_cases c : k = .inr s
            · simp [hasK, c]
            · rw [if_neg c] at tp
              have := ih v1 tp
              unfold hasK at this ⊢
              rw [List.any_cons, this, Bool.or_true]
      have : putKs k1 (.inr s) = k1 := by
        unfold putKs
        rw [if_pos hs]
      rw [this]
      simp only [Nt.sz]
      omega
theorem e_nheads (k : Nat) (t : Nt) (S : Store) (h : t.sz ≤ 20000) : Φ (k + 1) 8 [encN t] S = .ok (.tmp ((pre (numL t [])).map hd)) S := by
  obtain ⟨ks, vs, p5, p6, e, _⟩ := nh_sub S (encN t) t [] [] [] [] [] none none (fun s => rfl) rfl List.nodup_nil (Nat.le_refl _) (by simp; omega) (by simp; omega) (by simp; omega)
  have e0 : b_8 (Φ k) [some (encN t), none, none, none, none, none, none] S = .ret (.ref S.length) (sN S ((pre (numL t [])).map hd) [] ks vs) := by
    have e2 : sAsg (bT [bN 1, bN 2, bN 3, bN 4]) false (mTup [(true, mLst []), (true, mLst [(false, mVar 0)]), (true, mDic0), (false, mC (.int 0))]) [some (encN t), none, none, none, none, none, none] S = .nx (lN (encN t) S.length (([] : List (List Nat)).length : Nat) none none) (sN S [] ([] ++ [encN t]) [] []) := by
      simp
    rw [b12_eq, sSeq_E, e2]
    show sSeq _ _ (lN (encN t) S.length (([] : List (List Nat)).length : Nat) none none) (sN S [] ([] ++ [encN t]) [] []) = _
    rw [sSeq_E, e, sWh_step]
    have tst : C12 (lN (encN t) S.length (([] : List (List Nat)).length : Nat) p5 p6) (sN S ([] ++ (pre (numL t [])).map hd) [] ks vs) = .ok false (sN S ([] ++ (pre (numL t [])).map hd) [] ks vs) := by
      unfold C12
      simp only [mB_E, mOp2_E, mVar_E, lookS, look0_ref, of_someE, bind_okE, mLst_E, mArgs_nil, ne_nil (view_ref thr1)]
      simp
    rw [tst, toO_okE, if_neg (by decide)]
    show (sRet (mVar 1)) (lN (encN t) S.length (([] : List (List Nat)).length : Nat) p5 p6) (sN S ([] ++ (pre (numL t [])).map hd) [] ks vs) = _
    rw [sRet_E]
    simp only [mVar_E, lookS, look0_ref, of_someE, toO_okE, List.nil_append]
  show runD 7 (b_8 (Φ k)) _ _ = _
  rw [run_ret e0]
  exact gc_app (by simp) (convT_ref (Nat.le_refl _) thr0 (pls_map pl_hd _))
end k03
end

section
set_option Elab.async false
set_option linter.all false
set_option maxRecDepth 100000
set_option maxHeartbeats 4000000
/-! k03, the plain law, part 22: the list of names. -/
namespace k03
open PySem PySem.Spec L2 LB

def nme (n : Nat) : List Nat := if h : n = 0 then [] else nme ((n - 1) / 26) ++ [97 + (n - 1) % 26]
termination_by n
decreasing_by omega
theorem nm0 : nme 0 = [] := by unfold nme; simp
theorem nmS {n : Nat} (h : 0 < n) : nme n = nme ((n - 1) / 26) ++ [97 + (n - 1) % 26] := by
  conv => lhs; unfold nme
  rw [dif_neg (by omega)]
theorem nm_len (n : Nat) : (nme n).length ≤ n := by
  induction n using Nat.strongRecOn with
  | ind n ih =>
    by_cases h : n = 0
    · subst h; rw [nm0]; exact Nat.le_refl _
    · rw [nmS (by omega), List.length_append, List.length_singleton]
      have := ih ((n - 1) / 26) (by omega)
      omega
def dc (xs : List Nat) : Nat := xs.foldl (fun a c => 26 * a + (c - 96)) 0
theorem dc_nm (n : Nat) : dc (nme n) = n := by
  induction n using Nat.strongRecOn with
  | ind n ih =>
    by_cases h : n = 0
    · subst h; rw [nm0]; rfl
    · rw [nmS (by omega)]
      have e := ih ((n - 1) / 26) (by omega)
      unfold dc at e ⊢
      rw [List.foldl_append, e]
      simp
      omega
theorem nm_inj {a b : Nat} (h : nme a = nme b) : a = b := by rw [← dc_nm a, h, dc_nm]
theorem abc_at : ∀ j < 26, sABC[j]? = some (97 + j) := by decide
theorem abc_ix (T : Store) (j : Nat) (h : j < 26) : opIx T (.str sABC) (.int (j : Nat)) = some (.str [97 + j]) := by
  rw [ix_strE (SL_ge (by decide)), at_nat (abc_at j h)]
  rfl
theorem add_str (T : Store) (x y : List Nat) (h : x.length + y.length ≤ SL) : opAdd T (.str x) (.str y) = some (.str (x ++ y)) := by
  show (if x.length + y.length ≤ SL then some (D.str (x ++ y)) else none) = _
  rw [if_pos h]
noncomputable def lenA : SE := mCallB fLen [(false, mC (.str sABC))]
theorem lenA_E (l : LB.Loc) (T : Store) : lenA l T = .ok (.int 26) T := by
  unfold lenA
  simp only [mCallB_E, mArgs_cons, mFix_E, mC_E, bind_okE, fix_str, mArgs_nil, len_strE (SL_ge (show sABC.length ≤ 100000 by decide)), of_someE]
  rfl
noncomputable def B3 : SS := sSeq (sAsg (bN 1) false (mOp2 opAdd (mOp2 opIx (mC (.str sABC)) (mOp2 opMod (mOp2 opSub (mVar 2) (mC (.int 1))) lenA)) (mVar 1))) (sAsg (bN 2) false (mOp2 opFdiv (mOp2 opSub (mVar 2) (mC (.int 1))) lenA))
theorem b3_eq (Φ : Nat → Fun) : b_2 Φ = sSeq (sPar [1, 2] [(false, mC (.str [])), (false, mOp2 opAdd (mVar 0) (mC (.int 1)))]) (sSeq (sWh (mB (mOp2 opGt (mVar 2) (mC (.int 0)))) B3) (sRet (mVar 1))) := rfl
theorem pm1 {n : Nat} (h : 0 < n) : ((n : Int) - 1) % 26 = (((n - 1) % 26 : Nat) : Int) := by omega
theorem pd1 {n : Nat} (h : 0 < n) : ((n : Int) - 1) / 26 = (((n - 1) / 26 : Nat) : Int) := by omega
theorem loop3 (S : Store) (q : D) (n : Nat) : ∀ f : List Nat, f.length + n ≤ 1000000 → sWh (mB (mOp2 opGt (mVar 2) (mC (.int 0)))) B3 [some q, some (.str f), some (.int (n : Nat))] S = .nx [some q, some (.str (nme n ++ f)), some (.int (0 : Nat))] S := by
  induction n using Nat.strongRecOn with
  | ind n ih =>
    intro f hf
    rw [sWh_step]
    by_cases h : n = 0
    · subst h
      rw [nm0]
      simp
    · have t : mB (mOp2 opGt (mVar 2) (mC (.int 0))) [some q, some (.str f), some (.int (n : Nat))] S = .ok true S := by
        simp; omega
      rw [t, toO_okE, if_pos rfl]
      have md : opMod S (.int ((n : Int) - 1)) (.int 26) = some (.int (((n - 1) % 26 : Nat) : Int)) := by rw [mod_int (by decide), pm1 (by omega)]
      have fd : opFdiv S (.int ((n : Int) - 1)) (.int 26) = some (.int (((n - 1) / 26 : Nat) : Int)) := by rw [fdiv_int ⟨by decide, by decide⟩, pd1 (by omega)]
      have ix := abc_ix S ((n - 1) % 26) (by omega)
      have ad := add_str S [97 + (n - 1) % 26] f (by show 1 + f.length ≤ 16777216; omega)
      have e : B3 [some q, some (.str f), some (.int (n : Nat))] S = .nx [some q, some (.str ([97 + (n - 1) % 26] ++ f)), some (.int (((n - 1) / 26 : Nat) : Int))] S := by
        unfold B3
        rw [sSeq_E, sAsg_E]
        simp only [mOp2_E, mC_E, bind_okE, mVar_E, lookS, look0_int, look0_str, of_someE, sub_int, lenA_E, md, ix, ad, fix_str, toO_okE, bN_E]
        show sAsg _ _ _ [some q, some (.str ([97 + (n - 1) % 26] ++ f)), some (.int (n : Nat))] S = _
        rw [sAsg_E]
        simp only [mOp2_E, mC_E, bind_okE, mVar_E, lookS, look0_int, of_someE, sub_int, lenA_E, fd, fix_int, toO_okE, bN_E]
        rfl
      rw [e]
      show sWh _ _ [some q, some (.str ([97 + (n - 1) % 26] ++ f)), some (.int (((n - 1) / 26 : Nat) : Int))] S = _
      rw [ih ((n - 1) / 26) (by omega) _ (by simp; omega), nmS (by omega : 0 < n), List.append_assoc]
theorem e_nameat (k i : Nat) (S : Store) (h : i ≤ 500000) : Φ (k + 1) 2 [.int (i : Nat)] S = .ok (.str (nme (i + 1))) S := by
  have e0 : b_2 (Φ k) [some (.int (i : Nat)), none, none] S = .ret (.str (nme (i + 1))) S := by
    have e2 : sPar [1, 2] [(false, mC (.str [])), (false, mOp2 opAdd (mVar 0) (mC (.int 1)))] [some (.int (i : Nat)), none, none] S = .nx [some (.int (i : Nat)), some (.str []), some (.int ((i + 1 : Nat) : Int))] S := rfl
    rw [b3_eq, sSeq_E, e2]
    show sSeq _ _ [some (.int (i : Nat)), some (.str []), some (.int ((i + 1 : Nat) : Int))] S = _
    rw [sSeq_E, loop3 S _ (i + 1) [] (by simp; omega), List.append_nil]
    rfl
  show runD 3 (b_2 (Φ k)) _ _ = _
  rw [run_ret e0, gc_same]
/-! by the law -/
noncomputable def B33 : SS := sIf (mB (mOp2 opGt (mVar 0) (mC (.int 0)))) (sSeq (sAsg (bN 2) false (mOp2 opAdd (mOp2 opIx (mVar 1) (mOp2 opMod (mCallB fInt [(false, mOp2 opSub (mVar 0) (mC (.int 1)))]) (mC (.int 26)))) (mVar 2))) (sAsg (bN 0) false (mOp2 opFdiv (mOp2 opSub (mVar 0) (mC (.int 1))) (mC (.int 26))))) (sNx)
theorem b33_eq (Φ : Nat → Fun) : b_31 Φ = sSeq (sPar [1, 0] [(false, mC (.str sABC)), (false, mOp2 opAdd (mVar 0) (mC (.int 1)))]) (sSeq (sAsg (bN 2) false (mC (.str []))) (sSeq (sFor (mRg rg1 [(false, mC (.int 4))]) (bN 3) B33) (sRet (mVar 2)))) := rfl
theorem turn33 {S : Store} {p3 : Option D} (d : D) (n : Nat) (f : List Nat) (hf : f.length ≤ 1000000) : ∃ n' f', bodyOf (bN 3) B33 d [some (.int (n : Nat)), some (.str sABC), some (.str f), p3] S = .nx [some (.int (n' : Nat)), some (.str sABC), some (.str f'), some d] S ∧ nme n' ++ f' = nme n ++ f ∧ n' ≤ n / 26 ∧ f'.length ≤ f.length + 1 := by
  rw [bodyOf_E, bN_E]
  by_cases h : n = 0
  · subst h
    refine ⟨0, f, ?_, rfl, Nat.le_refl _, Nat.le_succ _⟩
    show B33 [some (.int (0 : Nat)), some (.str sABC), some (.str f), some d] S = _
    unfold B33
    rw [sIf_E]
    simp
  · refine ⟨(n - 1) / 26, [97 + (n - 1) % 26] ++ f, ?_, by rw [nmS (by omega : 0 < n), List.append_assoc], by omega, by simp⟩
    show B33 [some (.int (n : Nat)), some (.str sABC), some (.str f), some d] S = _
    have t : mB (mOp2 opGt (mVar 0) (mC (.int 0))) [some (.int (n : Nat)), some (.str sABC), some (.str f), some d] S = .ok true S := by
      simp; omega
    have md : opMod S (.int ((n : Int) - 1)) (.int 26) = some (.int (((n - 1) % 26 : Nat) : Int)) := by rw [mod_int (by decide), pm1 (by omega)]
    have fd : opFdiv S (.int ((n : Int) - 1)) (.int 26) = some (.int (((n - 1) / 26 : Nat) : Int)) := by rw [fdiv_int ⟨by decide, by decide⟩, pd1 (by omega)]
    have ix := abc_ix S ((n - 1) % 26) (by omega)
    have ad := add_str S [97 + (n - 1) % 26] f (by show 1 + f.length ≤ 16777216; omega)
    unfold B33
    rw [sIf_E, t, toO_okE, if_pos rfl, sSeq_E, sAsg_E]
    simp only [mOp2_E, mC_E, bind_okE, mVar_E, lookS, look0_int, look0_str, of_someE, sub_int, mCallB_E, mArgs_cons, mFix_E, fix_int, mArgs_nil, fInt_int, md, ix, ad, fix_str, toO_okE, bN_E]
    show sAsg _ _ _ [some (.int (n : Nat)), some (.str sABC), some (.str ([97 + (n - 1) % 26] ++ f)), some d] S = _
    rw [sAsg_E]
    simp only [mOp2_E, mC_E, bind_okE, mVar_E, lookS, look0_int, of_someE, sub_int, fd, fix_int, toO_okE, bN_E]
    rfl
theorem e_lawname (k i : Nat) (S : Store) (h : i ≤ 100000) : Φ (k + 1) 31 [.int (i : Nat)] S = .ok (.str (nme (i + 1))) S := by
  obtain ⟨l', S', e, n, f, p3, el, eS, q, hn, hf⟩ := lp_inv (b := bodyOf (bN 3) B33) (P := fun j l T => ∃ n f p3, l = [some (.int (n : Nat)), some (.str sABC), some (.str f), p3] ∧ T = S ∧ nme n ++ f = nme (i + 1) ∧ n ≤ (i + 1) / 26 ^ j ∧ f.length ≤ j) (M := 4) (rng 0 4) 0 [some (.int ((i + 1 : Nat) : Int)), some (.str sABC), some (.str []), none] S (by rfl)
    ⟨i + 1, [], none, rfl, rfl, by simp, by simp, by simp⟩ (fun d _ j l T hj hP => by
      obtain ⟨n, f, p3, rfl, rfl, q, hn, hf⟩ := hP
      obtain ⟨n', f', e, q', hn', hf'⟩ := turn33 (S := T) (p3 := p3) d n f (by omega)
      refine ⟨_, _, e, n', f', some d, rfl, rfl, by rw [q', q], ?_, by omega⟩
      rw [Nat.pow_succ, ← Nat.div_div_eq_div_mul]
      exact Nat.le_trans hn' (Nat.div_le_div_right hn))
  have z : n = 0 := by
    have : (i + 1) / 26 ^ 4 = 0 := Nat.div_eq_of_lt (by show i + 1 < 456976; omega)
    omega
  subst z el eS
  rw [nm0, List.nil_append] at q
  subst q
  have e0 : b_31 (Φ k) [some (.int (i : Nat)), none, none, none] S' = .ret (.str (nme (i + 1))) S' := by
    have e2 : sPar [1, 0] [(false, mC (.str sABC)), (false, mOp2 opAdd (mVar 0) (mC (.int 1)))] [some (.int (i : Nat)), none, none, none] S' = .nx [some (.int ((i + 1 : Nat) : Int)), some (.str sABC), none, none] S' := rfl
    have rg : rg1 [.int 4] = some (rng 0 4, chT) := rg1_nat (SL_ge (by decide))
    rw [b33_eq, sSeq_E, e2]
    show sSeq _ _ [some (.int ((i + 1 : Nat) : Int)), some (.str sABC), some (.str []), none] S' = _
    have e3 : sFor (mRg rg1 [(false, mC (.int 4))]) (bN 3) B33 [some (.int ((i + 1 : Nat) : Int)), some (.str sABC), some (.str []), none] S' = .nx [some (.int (0 : Nat)), some (.str sABC), some (.str (nme (i + 1))), p3] S' := by
      rw [sFor_E, mRg_E, mArgs_cons, mFix_E, mC_E, bind_okE, fix_int, bind_okE, mArgs_nil, bind_okE, bind_okE, rg, of_someE, toO_okE]
      exact e
    rw [sSeq_E, e3]
    rfl
  show runD 4 (b_31 (Φ k)) _ _ = _
  rw [run_ret e0, gc_same]
/-! the first that is not taken -/
theorem pigeon : ∀ {xs ys : List (List Nat)}, xs.Nodup → (∀ x ∈ xs, x ∈ ys) → xs.length ≤ ys.length
  | [], _, _, _ => Nat.zero_le _
  | x :: xs, ys, nd, h => by
    obtain ⟨n1, n2⟩ := List.nodup_cons.mp nd
    have hx := h x List.mem_cons_self
    have ih := pigeon (xs := xs) (ys := ys.erase x) n2 fun y hy => (List.mem_erase_of_ne (fun z : y = x => n1 (by rw [← z]; exact hy))).mpr (h y (List.mem_cons_of_mem _ hy))
    have e := List.length_erase_of_mem hx
    have : 0 < ys.length := List.length_pos_of_mem hx
    rw [List.length_cons]
    omega
def nms (n : Nat) : List (List Nat) := (List.range n).map fun i => nme (i + 1)
theorem nms_nodup (n : Nat) : (nms n).Nodup := by
  unfold nms
  exact List.Pairwise.map _ (fun a b hne e => hne (by have := nm_inj e; omega)) List.nodup_range
theorem nms_len (n : Nat) : (nms n).length = n := by simp [nms]
theorem nms_mem {n : Nat} {s : List Nat} : s ∈ nms n ↔ ∃ i < n, s = nme (i + 1) := by
  unfold nms
  rw [List.mem_map]
  constructor
  · rintro ⟨i, hi, rfl⟩; exact ⟨i, List.mem_range.mp hi, rfl⟩
  · rintro ⟨i, hi, rfl⟩; exact ⟨i, List.mem_range.mpr hi, rfl⟩
theorem fresh_ex (tk : List (List Nat)) : ∃ i, i ≤ tk.length ∧ nme (i + 1) ∉ tk ∧ ∀ j < i, nme (j + 1) ∈ tk := by
  have ex : ∃ i, i ≤ tk.length ∧ nme (i + 1) ∉ tk := Classical.byContradiction fun z => by
    have all : ∀ s ∈ nms (tk.length + 1), s ∈ tk := fun s hs => by
      obtain ⟨i, hi, rfl⟩ := nms_mem.mp hs
      exact Classical.byContradiction fun y => z ⟨i, by omega, y⟩
    have := pigeon (nms_nodup _) all
    rw [nms_len] at this
    omega
  obtain ⟨i, h1, h2⟩ := ex
  induction i using Nat.strongRecOn with
  | ind i ih =>
    by_cases c : ∃ j < i, nme (j + 1) ∉ tk
    · obtain ⟨j, hj, hn⟩ := c
      exact ih j hj (by omega) hn
    · exact ⟨i, h1, h2, fun j hj => Classical.byContradiction fun y => c ⟨j, hj, y⟩⟩
theorem loop34 (k : Nat) (S : Store) (tk : List (List Nat)) (i : Nat) (hi : i ≤ 100000) (hn : nme (i + 1) ∉ tk) (hb : ∀ j < i, nme (j + 1) ∈ tk) : ∀ (m j : Nat), j + m = i → sWh (mB (mOp2 opIn (mCall (Φ (k + 1) 31) [(false, mVar 1)]) (mVar 0))) (sAsg (bN 1) false (mOp2 opAdd (mVar 1) (mC (.int 1)))) [some (.lst (tk.map .str)), some (.int (j : Nat))] S = .nx [some (.lst (tk.map .str)), some (.int (i : Nat))] S := by
  intro m
  induction m with
  | zero =>
    intro j h
    have h : j = i := h
    subst h
    have en := e_lawname k j S hi
    have t : mB (mOp2 opIn (mCall (Φ (k + 1) 31) [(false, mVar 1)]) (mVar 0)) [some (.lst (tk.map .str)), some (.int (j : Nat))] S = .ok false S := by
      simp only [mB_E, mOp2_E, mCall_E, mArgs_cons, mFix_E, mVar_E, lookS, look0_int, look0_lst, of_someE, bind_okE, fix_int, mArgs_nil, en, in_strsL, decide_eq_false hn]
    rw [sWh_step, t, toO_okE, if_neg (by decide)]
  | succ m ih =>
    intro j h
    have en := e_lawname k j S (by omega)
    have hj := hb j (by omega)
    have t : mB (mOp2 opIn (mCall (Φ (k + 1) 31) [(false, mVar 1)]) (mVar 0)) [some (.lst (tk.map .str)), some (.int (j : Nat))] S = .ok true S := by
      simp only [mB_E, mOp2_E, mCall_E, mArgs_cons, mFix_E, mVar_E, lookS, look0_int, look0_lst, of_someE, bind_okE, fix_int, mArgs_nil, en, in_strsL, decide_eq_true hj]
    rw [sWh_step, t, toO_okE, if_pos rfl]
    show sWh _ _ [some (.lst (tk.map .str)), some (.int ((j + 1 : Nat) : Int))] S = _
    exact ih (j + 1) (by omega)
theorem e_lfresh (k : Nat) (S : Store) (tk : List (List Nat)) (i : Nat) (hi : i ≤ 100000) (hn : nme (i + 1) ∉ tk) (hb : ∀ j < i, nme (j + 1) ∈ tk) : Φ (k + 2) 32 [.lst (tk.map .str)] S = .ok (.str (nme (i + 1))) S := by
  have e0 : b_32 (Φ (k + 1)) [some (.lst (tk.map .str)), none] S = .ret (.str (nme (i + 1))) S := by
    unfold b_32
    rw [sSeq_E, sAsg_E, mC_E, bind_okE, fix_int, toO_okE, bN_E]
    show sSeq _ _ [some (.lst (tk.map .str)), some (.int ((0 : Nat) : Int))] S = _
    rw [sSeq_E, loop34 k S tk i hi hn hb i 0 (Nat.zero_add _)]
    show (sRet _) [some (.lst (tk.map .str)), some (.int (i : Nat))] S = _
    rw [sRet_E]
    simp only [mCall_E, mArgs_cons, mFix_E, mVar_E, lookS, look0_int, of_someE, bind_okE, fix_int, mArgs_nil, e_lawname k i S hi, toO_okE]
  show runD 2 (b_32 (Φ (k + 1))) _ _ = _
  rw [run_ret e0, gc_same]
/-! names that are not used, by the program -/
def flt (u : List (List Nat)) (n : Nat) : List (List Nat) := (nms n).filter fun s => !decide (s ∈ u)
theorem flt_succ (u : List (List Nat)) (n : Nat) : flt u (n + 1) = flt u n ++ if nme (n + 1) ∈ u then [] else [nme (n + 1)] := by
  unfold flt nms
  rw [List.range_succ, List.map_append, List.filter_append]
  congr 1
  by_cases c : nme (n + 1) ∈ u
  · simp [c]
  · simp [c]
theorem flt_len (u : List (List Nat)) (n : Nat) : n ≤ (flt u n).length + u.length := by
  have p : ((nms n).filter fun s => decide (s ∈ u)).length ≤ u.length := pigeon ((nms_nodup n).filter _) fun x hx => by simpa using (List.mem_filter.mp hx).2
  have s : ∀ L : List (List Nat), (L.filter fun s => decide (s ∈ u)).length + (L.filter fun s => !decide (s ∈ u)).length = L.length := by
    intro L
    induction L with
    | nil => rfl
    | cons x L ih =>
      rw [List.filter_cons, List.filter_cons]
      by_cases c : x ∈ u
      · simp only [c, decide_true, Bool.not_true, if_true, Bool.false_eq_true, if_false, List.length_cons]
        omega
      · simp only [c, decide_false, Bool.not_false, if_true, Bool.false_eq_true, if_false, List.length_cons]
        omega
  have := s (nms n)
  rw [nms_len] at this
  unfold flt
  omega
theorem flt_le (u : List (List Nat)) (n : Nat) : (flt u n).length ≤ n := by
  unfold flt
  have := List.length_filter_le (fun s => !decide (s ∈ u)) (nms n)
  rw [nms_len] at this
  exact this
/-- keys of pairs -/
theorem merD_some : ∀ (ps : List (DK × D)) (ks : List DK) (vs : List D) (q : DK), ks.length = vs.length → (getK (merD ps ks vs).1 (merD ps ks vs).2 q).isSome = ((getK ks vs q).isSome || hasK (ps.map Prod.fst) q)
  | [], ks, vs, q, _ => by simp [merD, hasK]
  | (a, v) :: ps, ks, vs, q, h => by
    show (getK (merD ps (putKs ks a) (putVs ks vs a v)).1 (merD ps (putKs ks a) (putVs ks vs a v)).2 q).isSome = _
    rw [merD_some ps _ _ q (put_len h), getK_put h]
    have e : hasK (((a, v) :: ps).map Prod.fst) q = (decide (a = q) || hasK (ps.map Prod.fst) q) := rfl
    rw [e]
    by_cases c : q = a
    · subst c; simp
    · have c2 : ¬ a = q := fun z => c z.symm
      rw [if_neg c, decide_eq_false c2, Bool.false_or]
theorem hasK_prs (s : List Nat) : ∀ u : List (List Nat), hasK ((u.map fun s => ((.inr s, .bl true) : DK × D)).map Prod.fst) (.inr s) = decide (s ∈ u)
  | [] => rfl
  | x :: u => by
    show (decide ((Sum.inr x : DK) = Sum.inr s) || hasK ((u.map fun s => ((.inr s, .bl true) : DK × D)).map Prod.fst) (.inr s)) = _
    rw [hasK_prs s u]
    by_cases c : x = s
    · subst c; simp
    · have c2 : ¬ s = x := fun z => c z.symm
      have c3 : ¬ (Sum.inr x : DK) = Sum.inr s := fun z => c (Sum.inr.inj z)
      rw [decide_eq_false c3, Bool.false_or]
      simp [c2]
def prs (u : List (List Nat)) : List (DK × D) := u.map fun s => (.inr s, .bl true)
theorem pairsD_prs : ∀ u : List (List Nat), pairsD (u.map fun s => D.tup [.str s, .bl true]) = some (prs u)
  | [] => rfl
  | s :: u => by
    rw [List.map_cons]
    show (match dkD (.str s) with
      | some q => (pairsD (u.map fun s => D.tup [.str s, .bl true])).map ((q, D.bl true) :: ·)
      | none => none) = _
    rw [pairsD_prs u]
    rfl
noncomputable def C4 : SB := mB (mOp2 opLt (mCallB fLen [(false, mVar 3)]) (mVar 1))
noncomputable def B4 (k : Nat) : SS := sSeq (sIf (mB (mOp2 opNotIn (mCall (Φ k 2) [(false, mVar 4)]) (mVar 2))) (sDrop (mMeth isLs fApp (mVar 3) [(false, mCall (Φ k 2) [(false, mVar 4)])])) (sNx)) (sAug 4 iaAdd (mC (.int 1)))
theorem b4_eq (k : Nat) : b_3 (Φ k) = sSeq (sPar [2, 3, 4] [(false, mCallB fDict [(false, mLc (mIt (mVar 0)) (bN 5) [5] (mYes) (mTup [(false, mVar 5), (false, mC (.bl true))]))]), (true, mLst []), (false, mC (.int 0))]) (sSeq (sWh C4 (B4 k)) (sRet (mVar 3))) := rfl
section
variable (k : Nat) (S : Store) (u : List (List Nat)) (ks : List DK) (vs : List D) (hK : ∀ s, (getK ks vs (.inr s)).isSome = decide (s ∈ u))
include hK
theorem turn4 (many : Nat) (n : Nat) (hn : n ≤ 100000) :
    B4 (k + 1) [some (.lst (u.map .str)), some (.int (many : Nat)), some (.dic ks vs), some (.ref S.length), some (.int (n : Nat)), none] (S ++ [.lst ((flt u n).map .str)]) = .nx [some (.lst (u.map .str)), some (.int (many : Nat)), some (.dic ks vs), some (.ref S.length), some (.int ((n + 1 : Nat) : Int)), none] (S ++ [.lst ((flt u (n + 1)).map .str)]) := by
  have en := e_nameat k n (S ++ [.lst ((flt u n).map .str)]) (by omega)
  have fl := flt_le u n
  have ni : opNotIn (S ++ [.lst ((flt u n).map .str)]) (.str (nme (n + 1))) (.dic ks vs) = some (.bl (!decide (nme (n + 1) ∈ u))) := by
    show (inQ (S ++ [.lst ((flt u n).map .str)]) (.str (nme (n + 1))) (.dic ks vs)).map (fun k => D.bl (!k)) = _
    show ((some ((getK ks vs (.inr (nme (n + 1)))).isSome) : Option Bool)).map (fun k => D.bl (!k)) = _
    rw [hK]
    rfl
  have t : mB (mOp2 opNotIn (mCall (Φ (k + 1) 2) [(false, mVar 4)]) (mVar 2)) [some (.lst (u.map .str)), some (.int (many : Nat)), some (.dic ks vs), some (.ref S.length), some (.int (n : Nat)), none] (S ++ [.lst ((flt u n).map .str)]) = .ok (!decide (nme (n + 1) ∈ u)) (S ++ [.lst ((flt u n).map .str)]) := by
    simp only [mB_E, mOp2_E, mCall_E, mArgs_cons, mFix_E, mVar_E, lookS, look0_int, look0_dic, of_someE, bind_okE, fix_int, mArgs_nil, en, ni]
  have e3 : ∀ T : Store, sAug 4 iaAdd (mC (.int 1)) [some (.lst (u.map .str)), some (.int (many : Nat)), some (.dic ks vs), some (.ref S.length), some (.int (n : Nat)), none] T = .nx [some (.lst (u.map .str)), some (.int (many : Nat)), some (.dic ks vs), some (.ref S.length), some (.int ((n + 1 : Nat) : Int)), none] T := fun T => rfl
  unfold B4
  rw [sSeq_E, sIf_E, t, toO_okE, flt_succ]
  by_cases c : nme (n + 1) ∈ u
  · rw [decide_eq_true c, if_neg (by decide), sNx_E, if_pos c, List.append_nil]
    exact e3 _
  · rw [decide_eq_false c, if_pos (by decide), if_neg c, List.map_append]
    have ap : fApp (S ++ [.lst ((flt u n).map .str)]) (.ref S.length) [.str (nme (n + 1))] = .ok .non (S ++ [.lst ((flt u n).map .str ++ [.str (nme (n + 1))])]) := by
      rw [app_ref one0 _ (by rw [List.length_map]; exact SL_lt (by omega)), one0s]
    rw [sDrop_E, mMeth_E]
    simp only [mVar_E, lookS, look0_ref, look0_int, of_someE, bind_okE, isLs_ref one0, if_true, mArgs_cons, mFix_E, mCall_E, fix_int, mArgs_nil, en, fix_str, ap, calm_okE, toO_okE]
    exact e3 _
theorem loop4 (many : Nat) (hm : many + u.length ≤ 90000) : ∀ (m n : Nat), many + u.length + 1 ≤ n + m → (flt u n).length ≤ many → n ≤ 100000 →
    ∃ n', sWh C4 (B4 (k + 1)) [some (.lst (u.map .str)), some (.int (many : Nat)), some (.dic ks vs), some (.ref S.length), some (.int (n : Nat)), none] (S ++ [.lst ((flt u n).map .str)]) = .nx [some (.lst (u.map .str)), some (.int (many : Nat)), some (.dic ks vs), some (.ref S.length), some (.int (n' : Nat)), none] (S ++ [.lst ((flt u n').map .str)]) ∧ (flt u n').length = many := by
  intro m
  induction m with
  | zero =>
    intro n h1 h2 _
    have := flt_len u n
    omega
  | succ m ih =>
    intro n h1 h2 h3
    have ln : ∀ T : Store, T[S.length]? = some (.lst ((flt u n).map .str)) → fLen T [.ref S.length] = some (.int ((flt u n).length : Nat)) := fun T hT => by
      show (match viewL T (.ref S.length) with
        | some xs => some (D.int xs.length)
        | none => (viewD T (.ref S.length)).map fun p : List DK × List D => D.int p.1.length) = _
      rw [view_ref hT]
      show some (D.int (((flt u n).map D.str).length : Nat)) = _
      rw [List.length_map]
    have t : C4 [some (.lst (u.map .str)), some (.int (many : Nat)), some (.dic ks vs), some (.ref S.length), some (.int (n : Nat)), none] (S ++ [.lst ((flt u n).map .str)]) = .ok (decide (((flt u n).length : Int) < many)) (S ++ [.lst ((flt u n).map .str)]) := by
      unfold C4
      simp only [mB_E, mOp2_E, mCallB_E, mArgs_cons, mFix_E, mVar_E, lookS, look0_ref, look0_int, of_someE, bind_okE, fix_ref, mArgs_nil, ln _ one0, lt_int]
    rw [sWh_step, t, toO_okE]
    by_cases c : (flt u n).length < many
    · have c' : ((flt u n).length : Int) < many := by omega
      rw [decide_eq_true c', if_pos rfl, turn4 k S u ks vs hK many n h3]
      have l := flt_len u n
      refine ih (n + 1) (by omega) ?_ (by omega)
      rw [flt_succ, List.length_append]
      split <;> simp <;> omega
    · have c' : ¬ ((flt u n).length : Int) < many := by omega
      rw [decide_eq_false c', if_neg (by decide)]
      exact ⟨n, rfl, by omega⟩
end
theorem e_freshs (k : Nat) (S : Store) (u : List (List Nat)) (many : Nat) (hm : many + u.length ≤ 90000) : ∃ n, Φ (k + 2) 3 [.lst (u.map .str), .int (many : Nat)] S = .ok (.tmp ((flt u n).map .str)) S ∧ (flt u n).length = many := by
  have hK : ∀ s, (getK (merD (prs u) [] []).1 (merD (prs u) [] []).2 (.inr s)).isSome = decide (s ∈ u) := fun s => by
    rw [merD_some _ _ _ _ rfl]
    show (false || hasK ((prs u).map Prod.fst) (.inr s)) = _
    rw [Bool.false_or]
    exact hasK_prs s u
  obtain ⟨n, e, hl⟩ := loop4 k S u _ _ hK many hm (many + u.length + 1) 0 (by omega) (by simp [flt, nms]) (by omega)
  refine ⟨n, ?_, hl⟩
  have lc : lcl chT (bN 5) [some (.lst (u.map .str)), some (.int (many : Nat)), none, none, none, none] mYes (mTup [(false, mVar 5), (false, mC (.bl true))]) (u.map .str) [] S = .ok (.tmp ([] ++ u.map fun s => D.tup [.str s, .bl true])) S :=
    lcl_map (fun a _ => ⟨_, rfl, rfl, rfl⟩) (by simp; show u.length ≤ 16777216; omega)
  rw [List.nil_append] at lc
  have fd : fDict S [.lst (u.map fun s => D.tup [.str s, .bl true])] = some (.tdic (merD (prs u) [] []).1 (merD (prs u) [] []).2) := by
    show (match pairsD (u.map fun s => D.tup [.str s, .bl true]) with
      | some ps => some (D.tdic (merD ps [] []).1 (merD ps [] []).2)
      | none => none) = _
    rw [pairsD_prs]
  have e0 : b_3 (Φ (k + 1)) [some (.lst (u.map .str)), some (.int (many : Nat)), none, none, none, none] S = .ret (.ref S.length) (S ++ [.lst ((flt u n).map .str)]) := by
    have e2 : sPar [2, 3, 4] [(false, mCallB fDict [(false, mLc (mIt (mVar 0)) (bN 5) [5] (mYes) (mTup [(false, mVar 5), (false, mC (.bl true))]))]), (true, mLst []), (false, mC (.int 0))] [some (.lst (u.map .str)), some (.int (many : Nat)), none, none, none, none] S = .nx [some (.lst (u.map .str)), some (.int (many : Nat)), some (.dic (merD (prs u) [] []).1 (merD (prs u) [] []).2), some (.ref S.length), some (.int ((0 : Nat) : Int)), none] (S ++ [.lst ((flt u 0).map .str)]) := by
      rw [sPar_E, mArgs_cons, mFix_E, mCallB_E, mArgs_cons, mFix_E, mLc_E, mIt_E]
      simp only [mVar_E, look0_lst, of_someE, bind_okE, itS_lst, wipeL_cons, wipeL_nil, List.set_cons_succ, List.set_cons_zero, lc, fix_tmpF, mArgs_nil, fd, fix_tdicF, mArgs_cons, mFix_E, mLst_E, fix_tmpT, mC_E, fix_int, toO_okE]
      rfl
    rw [b4_eq, sSeq_E, e2]
    show sSeq _ _ [some (.lst (u.map .str)), some (.int (many : Nat)), some (.dic (merD (prs u) [] []).1 (merD (prs u) [] []).2), some (.ref S.length), some (.int ((0 : Nat) : Int)), none] (S ++ [.lst ((flt u 0).map .str)]) = _
    rw [sSeq_E, e]
    rfl
  show runD 6 (b_3 (Φ (k + 1))) _ _ = _
  rw [run_ret e0]
  exact gc_app (by simp) (convT_ref (Nat.le_refl _) one0 (pls_map (fun _ => rfl) _))
end k03
end

section
set_option Elab.async false
set_option linter.all false
set_option maxRecDepth 100000
set_option maxHeartbeats 4000000
/-! k03, the plain law, part 23: naming, by the program. -/
namespace k03
open PySem PySem.Spec L2 LB

/-! building terms with names -/
def hdN : Nt → D
  | .var s => .tup [.str [118, 97, 114], .str s]
  | .lam s _ => .tup [.str [108, 97, 109], .str s]
  | .app _ _ => .tup [.str [97, 112, 112]]
def cntN : Nt → Nat
  | .lam _ _ => 1
  | .app _ _ => 2
  | _ => 0
def preN : Nt → List Nt
  | .var s => [.var s]
  | .lam s t => .lam s t :: preN t
  | .app a b => .app a b :: (preN a ++ preN b)
theorem cntN_le (t : Nt) : cntN t ≤ 2 := by cases t <;> simp [cntN]
@[simp] theorem isR_hdN (t : Nt) : isR (hdN t) = true := by cases t <;> rfl
@[simp] theorem look0_hdN (t : Nt) (l : LB.Loc) : look (some (hdN t) :: l) 0 = some (hdN t) := look0 _ _ (isR_hdN t)
@[simp] theorem fix_hdN (f : Bool) (t : Nt) (S : Store) : fixD f (hdN t) S = .ok (hdN t) S := fix_R (isR_hdN t)
@[simp] theorem pl_hdN (t : Nt) : pl (hdN t) = true := by cases t <;> rfl
theorem preN_len (t : Nt) : (preN t).length = t.sz := by
  induction t with
  | var s => rfl
  | lam s t ih => simp [preN, Nt.sz, ih]
  | app a b ih1 ih2 => simp [preN, Nt.sz, ih1, ih2]
theorem e_countN (k : Nat) (t : Nt) (S : Store) : Φ (k + 1) 5 [hdN t] S = .ok (.int (cntN t)) S := by
  show runD 1 (b_5 (Φ k)) _ _ = _
  cases t with
  | var s => simp [runD, b_5, hdN, cntN, gc_same]
  | lam s t => simp [runD, b_5, hdN, cntN, gc_same]
  | app a b => simp [runD, b_5, hdN, cntN, gc_same]
def tlN : Nt → List D
  | .lam _ t => [encN t]
  | .app a b => [encN a, encN b]
  | _ => []
theorem tlN_len (t : Nt) : (tlN t).length = cntN t := by cases t <;> rfl
theorem tlN_R (t : Nt) : ∀ y ∈ tlN t, isR y = true := by cases t <;> simp [tlN]
theorem hdN_tl (t : Nt) (T : Store) : opAdd T (hdN t) (.tup (tlN t)) = some (encN t) := by
  have small : ∀ n : Nat, n ≤ 4 → n ≤ SL := fun n h => by show n ≤ 16777216; omega
  cases t with
  | var s => exact add_tup T _ _ (small _ (by simp [tlN]))
  | lam s t => exact add_tup T _ _ (small _ (by simp [tlN]))
  | app a b => exact add_tup T _ _ (small _ (by simp [tlN]))
theorem bldN_turn (k : Nat) (S : Store) (q : D) (t : Nt) (xs : List D) (p2 p3 : Option D) (h : xs.length < SL) :
    bodyOf (bN 2) (bodyBld (k + 1)) (hdN t) [some q, some (.ref S.length), p2, p3, none] (S ++ [.lst (xs ++ (tlN t).reverse)]) =
      .nx [some q, some (.ref S.length), some (hdN t), some (.lst (tlN t)), none] (S ++ [.lst (xs ++ [encN t])]) := by
  have hc := cntN_le t
  have lc : lcl chT (bN 4) [some q, some (.ref S.length), some (hdN t), p3, none] mYes (mMeth isLs fPop (mVar 1) []) (rng 0 (cntN t)) [] (S ++ [.lst (xs ++ (tlN t).reverse)]) = .ok (.tmp ([] ++ tlN t)) (S ++ [.lst xs]) :=
    pops S _ (fun d => by simp) (cntN t) xs (tlN t) [] (rng 0 (cntN t)) (rng_len _) (tlN_len t) (by show 0 + cntN t ≤ 16777216; omega) (tlN_R t)
  have hrg : rg1 [.int (cntN t : Nat)] = some (rng 0 (cntN t), chT) := rg1_nat (by show cntN t ≤ 16777216; omega)
  have hap : fApp (S ++ [.lst xs]) (.ref S.length) [encN t] = .ok .non (S ++ [.lst (xs ++ [encN t])]) := by
    rw [app_ref one0 _ h, one0s]
  rw [bodyOf_E, bN_E]
  show bodyBld (k + 1) [some q, some (.ref S.length), some (hdN t), p3, none] _ = _
  unfold bodyBld
  rw [sSeq_E, sAsg_E, mLc_E, mRg_E]
  simp only [mArgs_cons, mFix_E, mCall_E, mVar_E, lookS, look0_hdN, of_someE, bind_okE, fix_hdN, mArgs_nil, e_countN, fix_int, hrg, wipeL_cons, wipeL_nil, List.set_cons_succ, List.set_cons_zero, lc, List.nil_append, fix_tmpF, toO_okE, bN_E]
  rw [sDrop_E, mMeth_E]
  have tu : ∀ T : Store, fTuple T [.lst (tlN t)] = some (.tup (tlN t)) := fun T => rfl
  simp only [mArgs_cons, mFix_E, mOp2_E, mCallB_E, mVar_E, lookS, look0_hdN, look0_ref, look0_lst, of_someE, bind_okE, isLs_ref one0, if_true, fix_lst, mArgs_nil, tu, hdN_tl, fix_encN, hap, calm_okE, toO_okE]
theorem bldN_runs (k : Nat) (S : Store) (q : D) (t : Nt) : ∀ (xs : List D) (p2 p3 : Option D), xs.length + t.sz ≤ SL →
    ∃ p2' p3', Runs (bodyOf (bN 2) (bodyBld (k + 1))) ((preN t).map hdN).reverse [some q, some (.ref S.length), p2, p3, none] (S ++ [.lst xs]) [some q, some (.ref S.length), p2', p3', none] (S ++ [.lst (xs ++ [encN t])]) := by
  induction t with
  | var n =>
    intro xs p2 p3 h
    simp only [Nt.sz] at h
    have e := bldN_turn k S q (.var n) xs p2 p3 (by omega)
    simp only [tlN, List.reverse_nil, List.append_nil] at e
    exact ⟨_, _, Runs.one e⟩
  | lam s t ih =>
    intro xs p2 p3 h
    simp only [Nt.sz] at h
    obtain ⟨x, y, r⟩ := ih xs p2 p3 (by omega)
    have e := bldN_turn k S q (.lam s t) xs x y (by omega)
    refine ⟨some (hdN (.lam s t)), some (.lst (tlN (.lam s t))), ?_⟩
    have : ((preN (.lam s t)).map hdN).reverse = ((preN t).map hdN).reverse ++ [hdN (.lam s t)] := by simp [preN]
    rw [this]
    exact r.app (Runs.one e)
  | app a b ih1 ih2 =>
    intro xs p2 p3 h
    simp only [Nt.sz] at h
    have := a.sz_pos
    obtain ⟨x, y, r⟩ := ih2 xs p2 p3 (by omega)
    obtain ⟨x2, y2, r2⟩ := ih1 (xs ++ [encN b]) x y (by rw [List.length_append, List.length_singleton]; have := b.sz_pos; omega)
    have e := bldN_turn k S q (.app a b) xs x2 y2 (by omega)
    refine ⟨some (hdN (.app a b)), some (.lst (tlN (.app a b))), ?_⟩
    have : ((preN (.app a b)).map hdN).reverse = ((preN b).map hdN).reverse ++ (((preN a).map hdN).reverse ++ [hdN (.app a b)]) := by simp [preN]
    rw [this]
    rw [List.append_assoc] at r2
    exact r.app (r2.app (Runs.one e))
theorem e_builtN (k : Nat) (t : Nt) (S : Store) (h : t.sz ≤ SL) : Φ (k + 2) 6 [.lst ((preN t).map hdN)] S = .ok (encN t) S := by
  obtain ⟨p2, p3, r⟩ := bldN_runs k S (.lst ((preN t).map hdN)) t [] none none (by simpa using h)
  have e := r.lp
  have e0 : b_6 (Φ (k + 1)) [some (.lst ((preN t).map hdN)), none, none, none, none] S = .ret (encN t) (S ++ [.lst [encN t]]) := by
    unfold b_6
    have e3 : sFor (mIt (mUn opBack (mVar 0))) (bN 2) (bodyBld (k + 1)) [some (.lst ((preN t).map hdN)), some (.ref S.length), none, none, none] (S ++ [.lst []]) = .nx [some (.lst ((preN t).map hdN)), some (.ref S.length), p2, p3, none] (S ++ [.lst ([] ++ [encN t])]) := by
      have hb : ∀ T : Store, opBack T (.lst ((preN t).map hdN)) = some (.tmp ((preN t).map hdN).reverse) := fun T => rfl
      rw [sFor_E, mIt_E, mUn_E]
      simp only [mVar_E, look0_lst, of_someE, bind_okE, hb, itS_tmp, toO_okE]
      exact e
    unfold bodyBld at e3
    rw [sSeq_E, sAsg_E, mLst_E, mArgs_nil, bind_okE, bind_okE, fix_tmpT, toO_okE, bN_E]
    show sSeq _ _ [some (.lst ((preN t).map hdN)), some (.ref S.length), none, none, none] _ = _
    rw [sSeq_E, e3]
    simp [ix_ref one0]
  show runD 5 (b_6 (Φ (k + 1))) _ _ = _
  rw [run_ret e0]
  exact gc_app (by simp) (convT_pl (pl_encN t))

/-! free names -/
/-- a comprehension that takes some -/
theorem lcl_flt {α : Type} {b : BG} {l : LB.Loc} {mt : SB} {me : SE} {S : Store} {e f : α → D} {p : α → Bool} : ∀ {xs : List α} {acc : List D}, (∀ a ∈ xs, ∃ l', b.run (e a) l = some l' ∧ mt l' S = .ok (p a) S ∧ (p a = true → mFix false me l' S = .ok (f a) S)) → acc.length + xs.length ≤ SL →
    lcl chT b l mt me (xs.map e) acc S = .ok (.tmp (acc ++ (xs.filter p).map f)) S
  | [], acc, _, _ => by rw [List.map_nil, lcl_nil, List.filter_nil, List.map_nil, List.append_nil]
  | a :: xs, acc, h, hl => by
    obtain ⟨l', h1, h2, h3⟩ := h a List.mem_cons_self
    rw [List.length_cons] at hl
    have hlt : acc.length < SL := by omega
    rw [List.map_cons, lcl_cons, h1]
    show (mt l' S).calm.bind _ = _
    rw [h2, List.filter_cons]
    by_cases c : p a = true
    · rw [c]
      show (mFix false me l' S).calm.bind _ = _
      rw [h3 c, if_pos rfl, List.map_cons]
      show (if acc.length < SL then lcl chT b l mt me (xs.map e) (acc ++ [f a]) S else .bad) = _
      rw [if_pos hlt, lcl_flt (p := p) (fun c hc => h c (List.mem_cons_of_mem _ hc)) (by rw [List.length_append, List.length_singleton]; omega), List.append_assoc]
      rfl
    · rw [Bool.eq_false_iff.mpr c]
      show lcl chT b l mt me (xs.map e) acc S = _
      rw [if_neg (by decide)]
      exact lcl_flt (fun c hc => h c (List.mem_cons_of_mem _ hc)) (by omega)
def frs : Tm → List (List Nat)
  | .num _ => []
  | .free s => [s]
  | .lam t => frs t
  | .app a b => frs a ++ frs b
def isFr : Tm → Bool
  | .free _ => true
  | _ => false
def frN : Tm → List Nat
  | .free s => s
  | _ => []
theorem frs_pre (t : Tm) : ((pre t).filter isFr).map frN = frs t := by
  induction t with
  | num n => rfl
  | free s => rfl
  | lam t ih => simp [pre, isFr, frs, ih]
  | app a b ih1 ih2 => simp [pre, isFr, frs, ih1, ih2]
theorem frs_len (t : Tm) : (frs t).length ≤ t.sz := by
  induction t with
  | num n => simp [frs]
  | free s => simp [frs, Tm.sz]
  | lam t ih => simp [frs, Tm.sz]; omega
  | app a b ih1 ih2 => simp [frs, Tm.sz]; omega
/-- each name once -/
def onc : List (List Nat) → List (List Nat) → List (List Nat)
  | [], us => us
  | s :: r, us => onc r (if s ∈ us then us else us ++ [s])
theorem onc_mem {x : List Nat} : ∀ {u us : List (List Nat)}, x ∈ onc u us ↔ x ∈ u ∨ x ∈ us
  | [], us => by simp [onc]
  | s :: r, us => by
    show x ∈ onc r (if s ∈ us then us else us ++ [s]) ↔ _
    rw [onc_mem]
    by_cases c : s ∈ us
    · rw [if_pos c]
      constructor
      · rintro (h | h)
        · exact .inl (List.mem_cons_of_mem _ h)
        · exact .inr h
      · rintro (h | h)
        · rcases List.mem_cons.mp h with rfl | h
          · exact .inr c
          · exact .inl h
        · exact .inr h
    · rw [if_neg c]
      simp only [List.mem_append, List.mem_cons, List.not_mem_nil, or_false]
      constructor
      · rintro (h | h | h)
        · exact .inl (.inr h)
        · exact .inr h
        · exact .inl (.inl h)
      · rintro ((h | h) | h)
        · exact .inr (.inr h)
        · exact .inl h
        · exact .inr (.inl h)
theorem onc_len : ∀ (u us : List (List Nat)), (onc u us).length ≤ u.length + us.length
  | [], us => by simp [onc]
  | s :: r, us => by
    show (onc r (if s ∈ us then us else us ++ [s])).length ≤ _
    refine Nat.le_trans (onc_len r _) ?_
    split <;> simp <;> omega
theorem hasK_map (s : List Nat) : ∀ us : List (List Nat), hasK (us.map .inr) (.inr s) = decide (s ∈ us)
  | [] => rfl
  | x :: us => by
    show (decide ((Sum.inr x : DK) = Sum.inr s) || hasK (us.map .inr) (.inr s)) = _
    rw [hasK_map s us]
    by_cases c : x = s
    · subst c; simp
    · have c2 : ¬ s = x := fun z => c z.symm
      have c3 : ¬ (Sum.inr x : DK) = Sum.inr s := fun z => c (Sum.inr.inj z)
      rw [decide_eq_false c3, Bool.false_or]
      simp [c2]
theorem merD_onc : ∀ (u us : List (List Nat)) (vs : List D), (merD (prs u) (us.map .inr) vs).1 = (onc u us).map .inr
  | [], us, vs => rfl
  | s :: r, us, vs => by
    show (merD (prs r) (putKs (us.map .inr) (.inr s)) (putVs (us.map .inr) vs (.inr s) (.bl true))).1 = (onc r (if s ∈ us then us else us ++ [s])).map .inr
    have e : putKs (us.map .inr) (.inr s) = (if s ∈ us then us else us ++ [s]).map .inr := by
      unfold putKs
      rw [hasK_map]
      by_cases c : s ∈ us
      · rw [decide_eq_true c, if_pos rfl, if_pos c]
      · rw [decide_eq_false c, if_neg (by decide), if_neg c, List.map_append]
        rfl
    rw [e]
    exact merD_onc r _ _
theorem strsK_map : ∀ us : List (List Nat), strsK (us.map .inr) = some us
  | [] => rfl
  | x :: us => by
    show (strsK (us.map .inr)).map (x :: ·) = _
    rw [strsK_map us]
    rfl
def used (t : Tm) : List (List Nat) := srtS (onc (frs t) [])
theorem used_mem {t : Tm} {s : List Nat} : s ∈ used t ↔ s ∈ frs t := by
  unfold used
  rw [srtS_mem, onc_mem]
  simp
theorem used_len (t : Tm) : (used t).length ≤ t.sz := by
  unfold used
  rw [srtS_len]
  have := onc_len (frs t) []
  have := frs_len t
  simp at *
  omega
theorem e_freein (k : Nat) (t : Tm) (S : Store) (h : t.sz ≤ 10000) (hf : (frs t).length ≤ 63) : Φ (k + 1) 9 [.lst ((pre t).map hd)] S = .ok (.tmp ((used t).map .str)) S := by
  have lc : lcl chT (bN 1) [some (.lst ((pre t).map hd)), none] (mB (mOp2 opEq (mOp2 opIx (mVar 1) (mC (.int 0))) (mC (.str [102, 114, 101, 101])))) (mTup [(false, mOp2 opIx (mVar 1) (mC (.int 1))), (false, mC (.bl true))]) ((pre t).map hd) [] S = .ok (.tmp ([] ++ ((pre t).filter isFr).map fun x => .tup [.str (frN x), .bl true])) S :=
    lcl_flt (fun a _ => by
      refine ⟨_, rfl, ?_, fun q => ?_⟩
      · cases a with
        | num n => simp [hd, enc, isFr]
        | free s => simp [hd, enc, isFr]
        | lam t => simp [hd, isFr]
        | app a b => simp [hd, isFr]
      · cases a with
        | free s => simp [hd, enc, frN]
        | _ => cases q) (by simp [pre_len]; exact SL_ge (by omega))
  rw [List.nil_append] at lc
  have em : ((pre t).filter isFr).map (fun x => D.tup [.str (frN x), .bl true]) = (frs t).map fun s => D.tup [.str s, .bl true] := by
    rw [← frs_pre, List.map_map]
    rfl
  rw [em] at lc
  have fd : fDict S [.lst ((frs t).map fun s => D.tup [.str s, .bl true])] = some (.tdic ((onc (frs t) []).map .inr) (merD (prs (frs t)) [] []).2) := by
    show (match pairsD ((frs t).map fun s => D.tup [.str s, .bl true]) with
      | some ps => some (D.tdic (merD ps [] []).1 (merD ps [] []).2)
      | none => none) = _
    rw [pairsD_prs]
    show some (D.tdic (merD (prs (frs t)) [] []).1 _) = _
    have e := merD_onc (frs t) [] []
    rw [List.map_nil] at e
    rw [e]
  have so : fSorted S [.dic ((onc (frs t) []).map .inr) (merD (prs (frs t)) [] []).2] = some (.tmp ((used t).map .str)) := by
    show srtO (strsK ((onc (frs t) []).map .inr)) = _
    rw [strsK_map]
    show (if (onc (frs t) []).length < 64 then some (D.tmp ((srtS (onc (frs t) [])).map .str)) else none) = _
    have := onc_len (frs t) []
    have := frs_len t
    rw [if_pos (by simp at *; omega)]
    rfl
  have e0 : b_9 (Φ k) [some (.lst ((pre t).map hd)), none] S = .ret (.tmp ((used t).map .str)) S := by
    unfold b_9
    rw [sRet_E, mCallB_E, mArgs_cons, mFix_E, mCallB_E, mArgs_cons, mFix_E, mLc_E, mIt_E]
    simp only [mVar_E, look0_lst, of_someE, bind_okE, itS_lst, wipeL_cons, wipeL_nil, List.set_cons_succ, List.set_cons_zero, lc, fix_tmpF, mArgs_nil, fd, fix_tdicF, so, toO_okE]
  show runD 2 (b_9 (Φ k)) _ _ = _
  rw [run_ret e0, gc_same]
/-! names by depth -/
def nmT (ns : List (List Nat)) : Tm → Nat → Nt
  | .num n, d => .var (ns.getD (d - 1 - n.toNat) [])
  | .free s, _ => .var s
  | .lam t, d => .lam (ns.getD d []) (nmT ns t (d + 1))
  | .app a b, d => .app (nmT ns a d) (nmT ns b d)
/-- lams inside each other, lams in all -/
def ln : Tm → Nat
  | .lam t => ln t + 1
  | .app a b => max (ln a) (ln b)
  | _ => 0
def lcT : Tm → Nat
  | .lam t => lcT t + 1
  | .app a b => lcT a + lcT b
  | _ => 0
theorem ln_lc (t : Tm) : ln t ≤ lcT t := by
  induction t with
  | num n => exact Nat.le_refl _
  | free s => exact Nat.le_refl _
  | lam t ih => simp [ln, lcT]; omega
  | app a b ih1 ih2 => simp [ln, lcT]; omega
theorem lc_sz (t : Tm) : lcT t ≤ t.sz := by
  induction t with
  | num n => simp [lcT]
  | free s => simp [lcT]
  | lam t ih => simp [lcT, Tm.sz]; omega
  | app a b ih1 ih2 => simp [lcT, Tm.sz]; omega
def hN (ns : List (List Nat)) (p : Tm × Int) : D := match p with
  | (.num n, d) => .tup [.str [118, 97, 114], .str (ns.getD (d.toNat - 1 - n.toNat) [])]
  | (.free s, _) => .tup [.str [118, 97, 114], .str s]
  | (.lam _, d) => .tup [.str [108, 97, 109], .str (ns.getD d.toNat [])]
  | (.app _ _, _) => .tup [.str [97, 112, 112]]
theorem pre_nmT (ns : List (List Nat)) (t : Tm) : ∀ d : Nat, (preN (nmT ns t d)).map hdN = (pd t d).map (hN ns) := by
  induction t with
  | num n => intro d; simp [nmT, preN, hdN, pd, hN]
  | free s => intro d; simp [nmT, preN, hdN, pd, hN]
  | lam t ih =>
    intro d
    have := ih (d + 1)
    simp [nmT, preN, hdN, pd, hN, this]
  | app a b ih1 ih2 => intro d; simp [nmT, preN, hdN, pd, hN, ih1, ih2]
def okP (ns : List (List Nat)) (p : Tm × Int) : Prop := match p with
  | (.num n, d) => 0 ≤ n ∧ n < d ∧ d ≤ ns.length
  | (.lam _, d) => 0 ≤ d ∧ d < ns.length
  | _ => True
theorem pd_okP {ns : List (List Nat)} {t : Tm} : ∀ {d : Nat}, okT (some 0) t d → d + ln t ≤ ns.length → ∀ p ∈ pd t d, okP ns p := by
  induction t with
  | num n =>
    intro d h hl p hp
    have := List.mem_singleton.mp hp
    subst this
    have := h.2 0 rfl
    exact ⟨h.1, by omega, by simp [ln] at hl; omega⟩
  | free s =>
    intro d h hl p hp
    have := List.mem_singleton.mp hp
    subst this
    trivial
  | lam t ih =>
    intro d h hl p hp
    simp only [ln] at hl
    rcases List.mem_cons.mp (show p ∈ (Tm.lam t, (d : Int)) :: pd t ((d : Int) + 1) from hp) with rfl | hp
    · exact ⟨by omega, by omega⟩
    · have h : okT (some 0) t ((d : Int) + 1) := h
      exact ih (d := d + 1) h (by omega) p hp
  | app a b ih1 ih2 =>
    intro d h hl p hp
    simp only [ln] at hl
    rcases List.mem_cons.mp (show p ∈ (Tm.app a b, (d : Int)) :: (pd a d ++ pd b d) from hp) with rfl | hp
    · trivial
    · rcases List.mem_append.mp hp with hp | hp
      · exact ih1 h.1 (by omega) p hp
      · exact ih2 h.2 (by omega) p hp
noncomputable def body14 : SS := sIf (mB (mOp2 opEq (mOp2 opIx (mVar 3) (mC (.int 0))) (mC (.str [108, 97, 109])))) (sDrop (mMeth isLs fApp (mVar 2) [(false, mTup [(false, mC (.str [108, 97, 109])), (false, mOp2 opIx (mVar 1) (mVar 4))])])) (sIf (mB (mOp2 opEq (mOp2 opIx (mVar 3) (mC (.int 0))) (mC (.str [110, 117, 109])))) (sDrop (mMeth isLs fApp (mVar 2) [(false, mTup [(false, mC (.str [118, 97, 114])), (false, mOp2 opIx (mVar 1) (mOp2 opSub (mOp2 opSub (mVar 4) (mC (.int 1))) (mOp2 opIx (mVar 3) (mC (.int 1)))))])])) (sDrop (mMeth isLs fApp (mVar 2) [(false, mIf (mB (mOp2 opEq (mOp2 opIx (mVar 3) (mC (.int 0))) (mC (.str [102, 114, 101, 101])))) (mTup [(false, mC (.str [118, 97, 114])), (false, mOp2 opIx (mVar 3) (mC (.int 1)))]) (mVar 3))])))
theorem at_str (ns : List (List Nat)) (i : Nat) (h : i < ns.length) : atI (ns.map D.str) (i : Nat) = some (.str (ns.getD i [])) := by
  rw [at_nat (x := .str (ns.getD i [])) (by rw [List.getElem?_map, List.getElem?_eq_getElem h, List.getD_eq_getElem?_getD, List.getElem?_eq_getElem h]; rfl)]
def hnm : Tm → List Nat
  | .num _ => sNUM
  | .free _ => sFREE
  | .lam _ => sLAM
  | .app _ _ => sAPP
theorem turn14 (S : Store) (q : D) (ns : List (List Nat)) (p : Tm × Int) (F : List D) (p3 p4 : Option D) (hp : okP ns p) (hF : F.length < SL) :
    bodyOf (bT [bN 3, bN 4]) body14 (pr p) [some q, some (.lst (ns.map .str)), some (.ref S.length), p3, p4] (S ++ [.lst F]) = .nx [some q, some (.lst (ns.map .str)), some (.ref S.length), some (hd p.1), some (.int p.2)] (S ++ [.lst (F ++ [hN ns p])]) := by
  obtain ⟨t, d⟩ := p
  have hap : ∀ x : D, fApp (S ++ [.lst F]) (.ref S.length) [x] = .ok .non (S ++ [.lst (F ++ [x])]) := fun x => by
    rw [app_ref one0 _ hF, one0s]
  rw [bodyOf_E]
  show body14 [some q, some (.lst (ns.map .str)), some (.ref S.length), some (hd t), some (.int d)] (S ++ [.lst F]) = _
  have is : ∀ z : List Nat, mB (mOp2 opEq (mOp2 opIx (mVar 3) (mC (.int 0))) (mC (.str z))) [some q, some (.lst (ns.map .str)), some (.ref S.length), some (hd t), some (.int d)] (S ++ [.lst F]) = .ok (decide (hnm t = z)) (S ++ [.lst F]) := fun z => by
    cases t <;> (simp [hd, enc, hnm] <;> rfl)
  unfold body14
  rw [sIf_E, is, toO_okE]
  cases t with
  | num n =>
    obtain ⟨h1, h2, h3⟩ := hp
    rw [if_neg (by show ¬ decide (sNUM = sLAM) = true; decide), sIf_E, is, toO_okE, if_pos (by show decide (sNUM = sNUM) = true; decide), sDrop_E, mMeth_E]
    have ix : atI (ns.map D.str) (d - 1 - n) = some (.str (ns.getD (d.toNat - 1 - n.toNat) [])) := by
      have e : d - 1 - n = ((d.toNat - 1 - n.toNat : Nat) : Int) := by omega
      rw [e]
      exact at_str ns _ (by omega)
    simp only [hd, enc, mVar_E, lookS, look0_ref, look0_lst, look0_tup, look0_int, of_someE, bind_okE, isLs_ref one0, if_true, mArgs_cons, mFix_E, mTup_E, mC_E, fix_str, mOp2_E, sub_int, ix_tupE, at1, ix_lst, ix, mArgs_nil, fix_tup, hap, calm_okE, toO_okE]
    rfl
  | free s =>
    rw [if_neg (by show ¬ decide (sFREE = sLAM) = true; decide), sIf_E, is, toO_okE, if_neg (by show ¬ decide (sFREE = sNUM) = true; decide), sDrop_E, mMeth_E]
    have v : mIf (mB (mOp2 opEq (mOp2 opIx (mVar 3) (mC (.int 0))) (mC (.str [102, 114, 101, 101])))) (mTup [(false, mC (.str [118, 97, 114])), (false, mOp2 opIx (mVar 3) (mC (.int 1)))]) (mVar 3) [some q, some (.lst (ns.map .str)), some (.ref S.length), some (hd (.free s)), some (.int d)] (S ++ [.lst F]) = .ok (.tup [.str [118, 97, 114], .str s]) (S ++ [.lst F]) := by
      rw [mIf_E, is, bind_okE, if_pos (by show decide (sFREE = sFREE) = true; decide)]
      simp [hd, enc]
    simp only [mVar_E, lookS, look0_ref, of_someE, bind_okE, isLs_ref one0, if_true, mArgs_cons, mFix_E, v, fix_tup, mArgs_nil, hap, calm_okE, toO_okE]
    rfl
  | lam t =>
    obtain ⟨h1, h2⟩ := hp
    rw [if_pos (by show decide (sLAM = sLAM) = true; decide), sDrop_E, mMeth_E]
    have ix : atI (ns.map D.str) d = some (.str (ns.getD d.toNat [])) := by
      have e : d = ((d.toNat : Nat) : Int) := by omega
      conv => lhs; rw [e]
      exact at_str ns _ (by omega)
    simp only [mVar_E, lookS, look0_ref, look0_lst, look0_int, of_someE, bind_okE, isLs_ref one0, if_true, mArgs_cons, mFix_E, mTup_E, mC_E, fix_str, mOp2_E, ix_lst, ix, mArgs_nil, fix_tup, hap, calm_okE, toO_okE]
    rfl
  | app a b =>
    rw [if_neg (by show ¬ decide (sAPP = sLAM) = true; decide), sIf_E, is, toO_okE, if_neg (by show ¬ decide (sAPP = sNUM) = true; decide), sDrop_E, mMeth_E]
    have v : mIf (mB (mOp2 opEq (mOp2 opIx (mVar 3) (mC (.int 0))) (mC (.str [102, 114, 101, 101])))) (mTup [(false, mC (.str [118, 97, 114])), (false, mOp2 opIx (mVar 3) (mC (.int 1)))]) (mVar 3) [some q, some (.lst (ns.map .str)), some (.ref S.length), some (hd (.app a b)), some (.int d)] (S ++ [.lst F]) = .ok (hd (.app a b)) (S ++ [.lst F]) := by
      rw [mIf_E, is, bind_okE, if_neg (by show ¬ decide (sAPP = sFREE) = true; decide)]
      simp
    simp only [mVar_E, lookS, look0_ref, of_someE, bind_okE, isLs_ref one0, if_true, mArgs_cons, mFix_E, v, fix_hd, mArgs_nil, hap, calm_okE, toO_okE]
    rfl
theorem runs14 (S : Store) (q : D) (ns : List (List Nat)) : ∀ (ps : List (Tm × Int)) (F : List D) (p3 p4 : Option D), (∀ p ∈ ps, okP ns p) → F.length + ps.length ≤ SL →
    ∃ p3' p4', Runs (bodyOf (bT [bN 3, bN 4]) body14) (ps.map pr) [some q, some (.lst (ns.map .str)), some (.ref S.length), p3, p4] (S ++ [.lst F]) [some q, some (.lst (ns.map .str)), some (.ref S.length), p3', p4'] (S ++ [.lst (F ++ ps.map (hN ns))])
  | [], F, p3, p4, _, _ => ⟨p3, p4, by rw [List.map_nil, List.map_nil, List.append_nil]; exact .nil⟩
  | p :: ps, F, p3, p4, hp, hF => by
    rw [List.length_cons] at hF
    have e := turn14 S q ns p F p3 p4 (hp p List.mem_cons_self) (by omega)
    obtain ⟨x, y, r⟩ := runs14 S q ns ps (F ++ [hN ns p]) (some (hd p.1)) (some (.int p.2)) (fun p h => hp p (List.mem_cons_of_mem _ h)) (by rw [List.length_append, List.length_singleton]; omega)
    refine ⟨x, y, ?_⟩
    rw [List.append_assoc] at r
    exact .cons e r
theorem e_namedh (k : Nat) (t : Tm) (ns : List (List Nat)) (S : Store) (h : okT (some 0) t 0) (hl : ln t ≤ ns.length) (hz : t.sz ≤ 10000) : Φ (k + 3) 10 [.lst ((pre t).map hd), .lst (ns.map .str)] S = .ok (.tmp ((preN (nmT ns t 0)).map hdN)) S := by
  obtain ⟨p3, p4, r⟩ := runs14 S (.lst ((pre t).map hd)) ns (pd t 0) [] none none (pd_okP (d := 0) h (by omega)) (by rw [pd_len]; simp; exact SL_ge (by omega))
  have e := r.lp
  have e0 : b_10 (Φ (k + 2)) [some (.lst ((pre t).map hd)), some (.lst (ns.map .str)), none, none, none] S = .ret (.ref S.length) (S ++ [.lst ((preN (nmT ns t 0)).map hdN)]) := by
    unfold b_10
    have hz : ∀ T : Store, mZip [(false, mVar 0), (false, mCall (Φ (k + 2) 7) [(false, mVar 0)])] [some (.lst ((pre t).map hd)), some (.lst (ns.map .str)), some (.ref S.length), none, none] T = .ok ((pd t 0).map pr, chT) T := fun T => by
      unfold mZip
      have z := zip_pd t 0 [] []
      simp only [List.append_nil] at z
      simp [e_depths k t T (SL_ge (by omega)), seqL, viewL, z]
      exact ch_and
    have e3 : sFor (mZip [(false, mVar 0), (false, mCall (Φ (k + 2) 7) [(false, mVar 0)])]) (bT [bN 3, bN 4]) body14 [some (.lst ((pre t).map hd)), some (.lst (ns.map .str)), some (.ref S.length), none, none] (S ++ [.lst []]) = .nx [some (.lst ((pre t).map hd)), some (.lst (ns.map .str)), some (.ref S.length), p3, p4] (S ++ [.lst ([] ++ (pd t 0).map (hN ns))]) := by
      rw [sFor_E, hz, toO_okE]
      exact e
    unfold body14 at e3
    rw [sSeq_E, sAsg_E, mLst_E, mArgs_nil, bind_okE, bind_okE, fix_tmpT, toO_okE, bN_E]
    show sSeq _ _ [some (.lst ((pre t).map hd)), some (.lst (ns.map .str)), some (.ref S.length), none, none] _ = _
    have pn := pre_nmT ns t 0
    rw [sSeq_E, e3, pn]
    simp
  show runD 5 (b_10 (Φ (k + 2))) _ _ = _
  rw [run_ret e0]
  exact gc_app (by simp) (convT_ref (Nat.le_refl _) one0 (pls_map pl_hdN _))
def isLm : Tm → Bool
  | .lam _ => true
  | _ => false
theorem lc_pre (t : Tm) : ((pre t).filter isLm).length = lcT t := by
  induction t with
  | num n => rfl
  | free s => rfl
  | lam t ih =>
    show (((Tm.lam t) :: pre t).filter isLm).length = _
    rw [List.filter_cons, if_pos (show isLm (.lam t) = true from rfl), List.length_cons, ih]
    rfl
  | app a b ih1 ih2 => simp [pre, isLm, lcT, ih1, ih2]
theorem sz_nmT (ns : List (List Nat)) (t : Tm) : ∀ d, (nmT ns t d).sz = t.sz := by
  induction t with
  | num n => intro d; rfl
  | free s => intro d; rfl
  | lam t ih => intro d; simp [nmT, Nt.sz, Tm.sz, ih]
  | app a b ih1 ih2 => intro d; simp [nmT, Nt.sz, Tm.sz, ih1, ih2]
theorem e_normal (k : Nat) (t : Tm) (S : Store) (h : okT (some 0) t 0) (hz : t.sz ≤ 63) : ∃ n, Φ (k + 4) 15 [.lst ((pre t).map hd)] S = .ok (encN (nmT (flt (used t) n) t 0)) S ∧ (flt (used t) n).length = lcT t := by
  have ul := used_len t
  have ll := lc_sz t
  obtain ⟨n, ef, hl⟩ := e_freshs (k + 1) S (used t) (lcT t) (by omega)
  have ef : Φ (k + 3) 3 [.lst ((used t).map .str), .int (lcT t : Nat)] S = .ok (.tmp ((flt (used t) n).map .str)) S := ef
  refine ⟨n, ?_, hl⟩
  have l1 := ln_lc t
  have eh := e_namedh k t (flt (used t) n) S h (by omega) (by omega)
  have eb : Φ (k + 3) 6 [.lst ((preN (nmT (flt (used t) n) t 0)).map hdN)] S = .ok (encN (nmT (flt (used t) n) t 0)) S := e_builtN (k + 1) (nmT (flt (used t) n) t 0) S (SL_ge (by rw [sz_nmT]; omega))
  have ei : Φ (k + 3) 9 [.lst ((pre t).map hd)] S = .ok (.tmp ((used t).map .str)) S := e_freein (k + 2) t S (by omega) (by have := frs_len t; omega)
  have lc : lcl chT (bN 2) [some (.lst ((pre t).map hd)), none, none] (mB (mOp2 opEq (mOp2 opIx (mVar 2) (mC (.int 0))) (mC (.str [108, 97, 109])))) (mVar 2) ((pre t).map hd) [] S = .ok (.tmp ([] ++ ((pre t).filter isLm).map hd)) S :=
    lcl_flt (fun a _ => by
      refine ⟨_, rfl, ?_, fun q => ?_⟩
      · cases a with
        | num n => simp [hd, enc, isLm]
        | free s => simp [hd, enc, isLm]
        | lam t => simp [hd, isLm]
        | app a b => simp [hd, isLm]
      · simp) (by simp [pre_len]; exact SL_ge (by omega))
  rw [List.nil_append] at lc
  have le : (((pre t).filter isLm).map hd).length = lcT t := by rw [List.length_map, lc_pre]
  have e0 : b_15 (Φ (k + 3)) [some (.lst ((pre t).map hd)), none, none] S = .ret (encN (nmT (flt (used t) n) t 0)) S := by
    unfold b_15
    rw [sSeq_E, sAsg_E, mCallB_E, mArgs_cons, mFix_E, mLc_E, mIt_E]
    simp only [mVar_E, look0_lst, of_someE, bind_okE, itS_lst, wipeL_cons, wipeL_nil, List.set_cons_succ, List.set_cons_zero, lc, fix_tmpF, mArgs_nil, len_lstE, le, fix_int, toO_okE, bN_E]
    show (sRet _) [some (.lst ((pre t).map hd)), some (.int (lcT t : Nat)), none] S = _
    rw [sRet_E]
    simp only [mCall_E, mArgs_cons, mFix_E, mVar_E, lookS, look0_lst, look0_int, of_someE, bind_okE, fix_lst, fix_int, mArgs_nil, ei, fix_tmpF, ef, eh, eb, toO_okE]
  show runD 3 (b_15 (Φ (k + 3))) _ _ = _
  rw [run_ret e0, gc_same]
end k03
end

section
set_option Elab.async false
set_option linter.all false
set_option maxRecDepth 100000
set_option maxHeartbeats 4000000
/-! k03, the plain law, part 24: naming, by the law; reading back. -/
namespace k03
open PySem PySem.Spec L2 LB

/-! names are names -/
theorem nm_abc (n : Nat) : ∀ c ∈ nme n, c ∈ sABC := by
  induction n using Nat.strongRecOn with
  | ind n ih =>
    by_cases h : n = 0
    · subst h; rw [nm0]; simp
    · rw [nmS (by omega)]
      intro c hc
      rcases List.mem_append.mp hc with hc | hc
      · exact ih _ (by omega) c hc
      · have e := List.mem_singleton.mp hc
        subst e
        exact List.mem_of_getElem? (abc_at ((n - 1) % 26) (by omega))
theorem nm_short : ∀ (j n : Nat), n < 26 ^ j → (nme n).length ≤ j
  | 0, n, h => by
    have e : n = 0 := by simpa using h
    subst e; rw [nm0]; exact Nat.le_refl _
  | j + 1, n, h => by
    by_cases z : n = 0
    · subst z; rw [nm0]; exact Nat.zero_le _
    · rw [nmS (by omega), List.length_append, List.length_singleton]
      have : (n - 1) / 26 < 26 ^ j := by
        rw [Nat.pow_succ] at h
        omega
      have := nm_short j _ this
      omega
theorem nm_isNm (n : Nat) (h0 : 0 < n) (h : n < 456976) : isNm (.str (nme n)) = true := by
  have l4 := nm_short 4 n h
  have l1 : 1 ≤ (nme n).length := by rw [nmS h0, List.length_append, List.length_singleton]; omega
  simp only [isNm, Bool.and_eq_true, decide_eq_true_eq, List.all_eq_true]
  exact ⟨l1, l4, fun c hc => nm_abc n c hc⟩
theorem flt_nodup (u : List (List Nat)) (n : Nat) : (flt u n).Nodup := (nms_nodup n).filter _
theorem flt_not {u : List (List Nat)} {n : Nat} {s : List Nat} (h : s ∈ flt u n) : s ∉ u := by
  have := (List.mem_filter.mp h).2
  simpa using this
theorem flt_nm {u : List (List Nat)} {n : Nat} {s : List Nat} (h : s ∈ flt u n) : ∃ i < n, s = nme (i + 1) := nms_mem.mp (List.mem_filter.mp h).1
/-- one of the filtered ones and those ahead of it -/
theorem filter_at {p : List Nat → Bool} : ∀ {L : List (List Nat)} {d : Nat} {y : List Nat}, (L.filter p)[d]? = some y → ∃ A B, L = A ++ y :: B ∧ A.filter p = (L.filter p).take d ∧ p y = true
  | [], d, y, h => by simp at h
  | x :: L, d, y, h => by
    rw [List.filter_cons] at h
    by_cases c : p x = true
    · rw [if_pos c] at h
      cases d with
      | zero =>
        rw [List.getElem?_cons_zero] at h
        cases h
        exact ⟨[], L, rfl, by simp, c⟩
      | succ d =>
        rw [List.getElem?_cons_succ] at h
        obtain ⟨A, B, e1, e2, e3⟩ := filter_at h
        refine ⟨x :: A, B, by rw [e1]; rfl, ?_, e3⟩
        rw [List.filter_cons, if_pos c, List.filter_cons, if_pos c, List.take_succ_cons, e2]
    · rw [if_neg c] at h
      obtain ⟨A, B, e1, e2, e3⟩ := filter_at h
      refine ⟨x :: A, B, by rw [e1]; rfl, ?_, e3⟩
      rw [List.filter_cons, if_neg c, List.filter_cons, if_neg c, e2]
noncomputable def frI (tk : List (List Nat)) : Nat := Classical.choose (fresh_ex tk)
theorem frI_spec (tk : List (List Nat)) : frI tk ≤ tk.length ∧ nme (frI tk + 1) ∉ tk ∧ ∀ j < frI tk, nme (j + 1) ∈ tk := Classical.choose_spec (fresh_ex tk)
theorem frI_is {tk : List (List Nat)} {i : Nat} (h1 : nme (i + 1) ∉ tk) (h2 : ∀ j < i, nme (j + 1) ∈ tk) : frI tk = i := by
  obtain ⟨_, s1, s2⟩ := frI_spec tk
  rcases Nat.lt_trichotomy (frI tk) i with h | h | h
  · exact absurd (h2 _ h) s1
  · exact h
  · exact absurd (s2 _ h) h1
theorem nms_at (n i : Nat) (h : i < n) : (nms n)[i]? = some (nme (i + 1)) := by
  unfold nms
  rw [List.getElem?_map, List.getElem?_range h]
  rfl
/-- the next name -/
theorem next_is {u U : List (List Nat)} {n d : Nat} {y : List Nat} (hU : ∀ s, s ∈ U ↔ s ∈ u) (h : (flt u n)[d]? = some y) : nme (frI (U ++ (flt u n).take d) + 1) = y := by
  obtain ⟨A, B, e1, e2, e3⟩ := filter_at h
  have ha : A.length < n := by
    have := congrArg List.length e1
    rw [nms_len, List.length_append, List.length_cons] at this
    omega
  have hy : y = nme (A.length + 1) := by
    have := nms_at n A.length ha
    rw [e1, List.getElem?_append_right (Nat.le_refl _), Nat.sub_self, List.getElem?_cons_zero] at this
    exact Option.some.inj this
  have nd := nms_nodup n
  rw [e1] at nd
  have ya : y ∉ A := fun z => by
    rw [List.nodup_append] at nd
    exact nd.2.2 y z y List.mem_cons_self rfl
  have e2 : A.filter (fun s => !decide (s ∈ u)) = (flt u n).take d := e2
  have e4 : frI (U ++ (flt u n).take d) = A.length := by
    refine frI_is ?_ fun j hj => ?_
    · rw [← hy, ← e2]
      intro z
      rcases List.mem_append.mp z with z | z
      · have := (hU y).mp z
        simp [this] at e3
      · exact ya (List.mem_filter.mp z).1
    · have hm : nme (j + 1) ∈ A := by
        have := nms_at n j (by omega)
        rw [e1, List.getElem?_append_left hj] at this
        exact List.mem_of_getElem? this
      by_cases c : nme (j + 1) ∈ u
      · exact List.mem_append_left _ ((hU _).mpr c)
      · refine List.mem_append_right _ ?_
        rw [← e2]
        exact List.mem_filter.mpr ⟨hm, by simp [c]⟩
  rw [e4, ← hy]
/-! by the law -/
noncomputable def lawN (U : List (List Nat)) : Tm → List (List Nat) → Nt
  | .num n, ns => .var (ns.getD (ns.length - 1 - n.toNat) [])
  | .free s, _ => .var s
  | .lam t, ns => .lam (nme (frI (U ++ ns) + 1)) (lawN U t (ns ++ [nme (frI (U ++ ns) + 1)]))
  | .app a b, ns => .app (lawN U a ns) (lawN U b ns)
theorem take_at {ns : List (List Nat)} {d i : Nat} (h : i < d) : (ns.take d).getD i [] = ns.getD i [] := by
  rw [List.getD_eq_getElem?_getD, List.getD_eq_getElem?_getD, List.getElem?_take_of_lt h]
theorem take_next {ns : List (List Nat)} {d : Nat} (h : d < ns.length) : ns.take d ++ [ns.getD d []] = ns.take (d + 1) := by
  rw [List.take_succ, List.getD_eq_getElem?_getD, List.getElem?_eq_getElem h]
  rfl
theorem getD_some {ns : List (List Nat)} {d : Nat} (h : d < ns.length) : ns[d]? = some (ns.getD d []) := by
  rw [List.getD_eq_getElem?_getD, List.getElem?_eq_getElem h]
  rfl
theorem lawN_is {u U : List (List Nat)} {n : Nat} (hU : ∀ s, s ∈ U ↔ s ∈ u) : ∀ {t : Tm} {d : Nat}, okT (some 0) t d → d + ln t ≤ (flt u n).length → lawN U t ((flt u n).take d) = nmT (flt u n) t d
  | .num m, d, h, hl => by
    simp only [ln] at hl
    have h2 := h.2 0 rfl
    have h1 := h.1
    have e : ((flt u n).take d).length = d := by rw [List.length_take]; omega
    show Nt.var _ = Nt.var _
    rw [e, take_at (by omega)]
  | .free s, d, h, hl => rfl
  | .lam t, d, h, hl => by
    simp only [ln] at hl
    have hn := next_is (n := n) (d := d) hU (getD_some (show d < (flt u n).length by omega))
    have h : okT (some 0) t ((d : Int) + 1) := h
    show Nt.lam (nme (frI (U ++ (flt u n).take d) + 1)) (lawN U t ((flt u n).take d ++ [nme (frI (U ++ (flt u n).take d) + 1)])) = Nt.lam _ _
    rw [hn, take_next (by omega), lawN_is (t := t) (d := d + 1) hU h (by omega)]
  | .app a b, d, h, hl => by
    simp only [ln] at hl
    show Nt.app _ _ = Nt.app _ _
    rw [lawN_is hU h.1 (by omega), lawN_is hU h.2 (by omega)]
/-! free names, by the law -/
/-! reading back -/
theorem ixS_nodup {x : List Nat} : ∀ {L : List (List Nat)} {i : Nat}, L.Nodup → L[i]? = some x → ixS x L = some i
  | [], i, _, h => by simp at h
  | y :: L, 0, _, h => by
    rw [List.getElem?_cons_zero] at h
    cases h
    unfold ixS
    rw [if_pos rfl]
  | y :: L, i + 1, nd, h => by
    rw [List.getElem?_cons_succ] at h
    obtain ⟨n1, n2⟩ := List.nodup_cons.mp nd
    unfold ixS
    rw [if_neg (fun z : y = x => n1 (by rw [z]; exact List.mem_of_getElem? h)), ixS_nodup n2 h]
    rfl
theorem numL_nmT {ns : List (List Nat)} (nd : ns.Nodup) : ∀ {t : Tm} {d : Nat}, okT (some 0) t d → d + ln t ≤ ns.length → (∀ s ∈ frs t, s ∉ ns) → numL (nmT ns t d) (ns.take d).reverse = t
  | .num m, d, h, hl, _ => by
    simp only [ln] at hl
    have h1 := h.1
    have h2 := h.2 0 rfl
    have e : (ns.take d).reverse[m.toNat]? = some (ns.getD (d - 1 - m.toNat) []) := by
      rw [List.getElem?_reverse (by rw [List.length_take]; omega), List.length_take, show min d ns.length - 1 - m.toNat = d - 1 - m.toNat by omega, List.getElem?_take_of_lt (by omega)]
      exact getD_some (by omega)
    have nr : (ns.take d).reverse.Nodup := List.pairwise_reverse.mpr ((nd.sublist (List.take_sublist _ _)).imp fun h z => h z.symm)
    show (match ixS (ns.getD (d - 1 - m.toNat) []) (ns.take d).reverse with
      | some i => Tm.num (i : Nat)
      | none => .free _) = _
    rw [ixS_nodup nr e]
    show Tm.num ((m.toNat : Nat) : Int) = _
    rw [Int.toNat_of_nonneg h1]
  | .free s, d, h, hl, hf => by
    have hs : s ∉ (ns.take d).reverse := fun z => hf s List.mem_cons_self (List.mem_of_mem_take (List.mem_reverse.mp z))
    show (match ixS s (ns.take d).reverse with
      | some i => Tm.num (i : Nat)
      | none => .free s) = _
    rw [ixS_none hs]
  | .lam t, d, h, hl, hf => by
    simp only [ln] at hl
    have h : okT (some 0) t ((d : Int) + 1) := h
    show Tm.lam (numL (nmT ns t (d + 1)) (ns.getD d [] :: (ns.take d).reverse)) = _
    have e : ns.getD d [] :: (ns.take d).reverse = (ns.take (d + 1)).reverse := by
      rw [← take_next (by omega), List.reverse_append]
      rfl
    rw [e, numL_nmT nd (t := t) (d := d + 1) h (by omega) hf]
  | .app a b, d, h, hl, hf => by
    simp only [ln] at hl
    show Tm.app _ _ = _
    rw [numL_nmT nd h.1 (by omega) (fun s hs => hf s (List.mem_append_left _ hs)), numL_nmT nd h.2 (by omega) (fun s hs => hf s (List.mem_append_right _ hs))]
theorem okN_nmT {ns : List (List Nat)} (hn : ∀ s ∈ ns, isNm (.str s) = true) : ∀ {t : Tm} {d : Nat}, okT (some 0) t d → d + ln t ≤ ns.length → okN (nmT ns t d)
  | .num m, d, h, hl => by
    simp only [ln] at hl
    have h1 := h.1
    have h2 := h.2 0 rfl
    exact hn _ (List.mem_of_getElem? (getD_some (by omega)))
  | .free s, d, h, hl => h
  | .lam t, d, h, hl => by
    simp only [ln] at hl
    have h : okT (some 0) t ((d : Int) + 1) := h
    exact ⟨hn _ (List.mem_of_getElem? (getD_some (by omega))), okN_nmT hn (t := t) (d := d + 1) h (by omega)⟩
  | .app a b, d, h, hl => by
    simp only [ln] at hl
    exact ⟨okN_nmT hn h.1 (by omega), okN_nmT hn h.2 (by omega)⟩
end k03
end

section
set_option Elab.async false
set_option linter.all false
set_option maxRecDepth 100000
set_option maxHeartbeats 4000000
/-! k03, the plain law, part 25: what is asked; terms that are drawn. -/
namespace k03
open PySem PySem.Spec L2 LB

section
variable (k : Nat) (one : D) (b : Bool) (w : Int) (S : Store)
variable (r1 : isR one = true)
include r1
end
/-! drawn terms with names -/
abbrev sXYZ : List Nat := [120, 121, 122, 117, 118, 119]
noncomputable def nmE (k : Nat) : SE := mOp2 opIx (mC (.str sXYZ)) (takeS k 6)
def namesOk (ns : List (List Nat)) : Prop := ns ≠ [] ∧ ∀ s ∈ ns, isNm (.str s) = true
section
variable {k n : Nat} {S : Store} {x : Bx} {N : Int} {l : LB.Loc}
theorem d_nmE (hl : l[0]? = some (some (.ref n))) (h : S[n]? = some x.o) (ok : x.ok N) (hN : N + 1 < 1000000000) :
    ∃ z y, nmE (k + 1) l S = .ok (.str z) (S.set n (Bx.o y)) ∧ isNm (.str z) = true ∧ y.ok (N + 1) := by
  obtain ⟨r, y, e, r0, r1, q⟩ := tk2 (k := k) 6 (by decide) (by decide) hl h ok (by omega)
  obtain ⟨m, rfl⟩ : ∃ m : Nat, r = m := ⟨r.toNat, by omega⟩
  have hm : m < 6 := by omega
  have at_ : ∀ j < 6, sXYZ[j]? = some (sXYZ.getD j 0) ∧ isNm (.str [sXYZ.getD j 0]) = true := by decide
  obtain ⟨a1, a2⟩ := at_ m hm
  refine ⟨[sXYZ.getD m 0], y, ?_, a2, q⟩
  unfold nmE
  have ix : opIx (S.set n (Bx.o y)) (.str sXYZ) (.int (m : Nat)) = some (.str [sXYZ.getD m 0]) := by
    rw [ix_strE (SL_ge (by decide)), at_nat a1]
    rfl
  rw [mOp2_E, mC_E, bind_okE, e, bind_okE, ix, of_someE]
end
theorem namesOk.more {ns : List (List Nat)} {z : List Nat} (h : namesOk ns) (hz : isNm (.str z) = true) : namesOk (ns ++ [z, z]) :=
  ⟨by simp, fun s hs => by
    rcases List.mem_append.mp hs with hs | hs
    · exact h.2 s hs
    · simp at hs; subst hs; exact hz⟩
noncomputable def T30a : SB := mOr (mB (mOp2 opLt (mVar 3) (mC (.int 2)))) (mB (mOp2 opEq (mVar 1) (mC (.int 2))))
noncomputable def T30b : SB := mAnd (mB (mOp2 opEq (mVar 3) (mC (.int 4)))) (mB (mOp2 opGt (mVar 5) (mC (.int 2))))
noncomputable def more30 : SE := mOp2 opAdd (mVar 2) (mLst [(false, mVar 4), (false, mVar 4)])
theorem b30_eq (k : Nat) : b_24 (Φ k) = sSeq (sIf (mB (mOp2 opLe (mVar 1) (mC (.int 1)))) (sRet (mTup [(false, mC (.str [118, 97, 114])), (false, mOp2 opIx (mVar 2) (mCall (Φ k 20) [(true, mVar 0), (false, mCallB fLen [(false, mVar 2)])]))])) (sNx)) (sSeq (sAsg (bN 3) false (takeS k 5)) (sSeq (sIf T30a (sSeq (sAsg (bN 4) false (nmE k)) (sRet (mTup [(false, mC (.str [108, 97, 109])), (false, mVar 4), (false, mCall (Φ k 24) [(true, mVar 0), (false, mOp2 opSub (mVar 1) (mC (.int 1))), (false, more30)])]))) (sNx)) (sSeq (sAsg (bN 5) false (mOp2 opAdd (mC (.int 1)) (mCall (Φ k 20) [(true, mVar 0), (false, mOp2 opSub (mVar 1) (mC (.int 2)))]))) (sSeq (sIf T30b (sSeq (sAsg (bN 4) false (nmE k)) (sRet (mTup [(false, mC (.str [97, 112, 112])), (false, mTup [(false, mC (.str [108, 97, 109])), (false, mVar 4), (false, mCall (Φ k 24) [(true, mVar 0), (false, mOp2 opSub (mVar 5) (mC (.int 1))), (false, more30)])]), (false, mCall (Φ k 24) [(true, mVar 0), (false, mOp2 opSub (mOp2 opSub (mVar 1) (mC (.int 1))) (mVar 5)), (false, mVar 2)])]))) (sNx)) (sRet (mTup [(false, mC (.str [97, 112, 112])), (false, mCall (Φ k 24) [(true, mVar 0), (false, mVar 5), (false, mVar 2)]), (false, mCall (Φ k 24) [(true, mVar 0), (false, mOp2 opSub (mOp2 opSub (mVar 1) (mC (.int 1))) (mVar 5)), (false, mVar 2)])])))))) := rfl
theorem more30_E {l : LB.Loc} {T : Store} {ns : List (List Nat)} {z : List Nat} (h2 : look l 2 = some (.lst (ns.map .str))) (h4 : look l 4 = some (.str z)) (hl : ns.length ≤ 90000) : mFix false more30 l T = .ok (.lst ((ns ++ [z, z]).map .str)) T := by
  unfold more30
  have ad : opAdd T (.lst (ns.map .str)) (.tmp [.str z, .str z]) = some (.tmp (ns.map .str ++ [.str z, .str z])) := add_lt T _ _ (SL_ge (by simp; omega))
  simp only [mFix_E, mOp2_E, mVar_E, h2, h4, of_someE, bind_okE, mLst_E, mArgs_cons, fix_str, mArgs_nil, ad, fix_tmpF]
  rw [List.map_append]
  rfl
theorem e_lterm : ∀ (s k : Nat) (S : Store) (n : Nat) (x : Bx) (N : Int) (ns : List (List Nat)), 1 ≤ s → s + 1 ≤ k → S[n]? = some x.o → x.ok N → N + 4 * s < 1000000000 → namesOk ns → ns.length + 2 * s ≤ 90000 →
    ∃ t y, Φ k 24 [.ref n, .int s, .lst (ns.map .str)] S = .ok (encN t) (S.set n (Bx.o y)) ∧ y.ok (N + 4 * s) ∧ okN t ∧ t.sz = s := by
  intro s
  induction s using Nat.strongRecOn with
  | ind s ih =>
    intro k S n x N ns h1 hk h ok hN hns hl
    obtain ⟨k, rfl⟩ : ∃ k', k = k' + 1 + 1 := ⟨k - 2, by omega⟩
    have fin : ∀ {t : Nt} {y : Bx}, b_24 (Φ (k + 1)) [some (.ref n), some (.int s), some (.lst (ns.map .str)), none, none, none] S = .ret (encN t) (S.set n (Bx.o y)) → Φ (k + 1 + 1) 24 [.ref n, .int s, .lst (ns.map .str)] S = .ok (encN t) (S.set n (Bx.o y)) := fun e0 => by
      show runD 6 (b_24 (Φ (k + 1))) _ _ = _
      rw [run_ret e0, gc_set]
    have nl : 0 < ns.length := List.length_pos_iff.mpr hns.1
    by_cases c1 : s = 1
    · subst c1
      obtain ⟨r, y, e, r0, r1, q⟩ := tk (k := k) (m := mCallB fLen [(false, mVar 2)]) (many := (ns.length : Int)) (l := [some (.ref n), some (.int ((1 : Nat) : Int)), some (.lst (ns.map .str)), none, none, none]) rfl (fun T => by simp) h ok (by omega) (by omega) (by omega)
      obtain ⟨m, rfl⟩ : ∃ m : Nat, r = m := ⟨r.toNat, by omega⟩
      have hm : m < ns.length := by omega
      refine ⟨.var (ns.getD m []), y, fin ?_, ok_more q (by omega), hns.2 _ (List.mem_of_getElem? (getD_some hm)), rfl⟩
      have tt : mB (mOp2 opLe (mVar 1) (mC (.int 1))) [some (.ref n), some (.int ((1 : Nat) : Int)), some (.lst (ns.map .str)), none, none, none] S = .ok true S := by simp
      rw [b30_eq, sSeq_E, sIf_E, tt, toO_okE, if_pos rfl, sRet_E]
      simp only [mTup_E, mArgs_cons, mFix_E, mC_E, bind_okE, fix_str, mOp2_E, mVar_E, lookS, look0_lst, of_someE, e, ix_lst, at_str ns m hm, mArgs_nil, toO_okE]
      rfl
    · have tt : mB (mOp2 opLe (mVar 1) (mC (.int 1))) [some (.ref n), some (.int (s : Int)), some (.lst (ns.map .str)), none, none, none] S = .ok false S := by
        simp; omega
      obtain ⟨r, y, e, r0, r1, q⟩ := tk2 (k := k) 5 (by decide) (by decide) (l := [some (.ref n), some (.int (s : Int)), some (.lst (ns.map .str)), none, none, none]) rfl h ok (by omega)
      have g := set_get (b := Bx.o y) h
      have t2 : T30a [some (.ref n), some (.int (s : Int)), some (.lst (ns.map .str)), some (.int r), none, none] (S.set n (Bx.o y)) = .ok (decide (r < 2) || decide ((s : Int) = 2)) (S.set n (Bx.o y)) := by
        unfold T30a
        by_cases cr : r < 2
        · simp [cr]
        · simp [cr]
      have pre : ∀ o : O, (sSeq (sIf T30a (sSeq (sAsg (bN 4) false (nmE (k + 1))) (sRet (mTup [(false, mC (.str [108, 97, 109])), (false, mVar 4), (false, mCall (Φ (k + 1) 24) [(true, mVar 0), (false, mOp2 opSub (mVar 1) (mC (.int 1))), (false, more30)])]))) (sNx)) (sSeq (sAsg (bN 5) false (mOp2 opAdd (mC (.int 1)) (mCall (Φ (k + 1) 20) [(true, mVar 0), (false, mOp2 opSub (mVar 1) (mC (.int 2)))]))) (sSeq (sIf T30b (sSeq (sAsg (bN 4) false (nmE (k + 1))) (sRet (mTup [(false, mC (.str [97, 112, 112])), (false, mTup [(false, mC (.str [108, 97, 109])), (false, mVar 4), (false, mCall (Φ (k + 1) 24) [(true, mVar 0), (false, mOp2 opSub (mVar 5) (mC (.int 1))), (false, more30)])]), (false, mCall (Φ (k + 1) 24) [(true, mVar 0), (false, mOp2 opSub (mOp2 opSub (mVar 1) (mC (.int 1))) (mVar 5)), (false, mVar 2)])]))) (sNx)) (sRet (mTup [(false, mC (.str [97, 112, 112])), (false, mCall (Φ (k + 1) 24) [(true, mVar 0), (false, mVar 5), (false, mVar 2)]), (false, mCall (Φ (k + 1) 24) [(true, mVar 0), (false, mOp2 opSub (mOp2 opSub (mVar 1) (mC (.int 1))) (mVar 5)), (false, mVar 2)])]))))) [some (.ref n), some (.int (s : Int)), some (.lst (ns.map .str)), some (.int r), none, none] (S.set n (Bx.o y)) = o → b_24 (Φ (k + 1)) [some (.ref n), some (.int (s : Int)), some (.lst (ns.map .str)), none, none, none] S = o := fun o ho => by
        rw [b30_eq, sSeq_E, sIf_E, tt, toO_okE, if_neg (by decide), sNx_E]
        show sSeq _ _ [some (.ref n), some (.int (s : Int)), some (.lst (ns.map .str)), none, none, none] S = _
        rw [sSeq_E, sAsg_E, e, bind_okE, fix_int, toO_okE, bN_E]
        exact ho
      by_cases c2 : (decide (r < 2) || decide ((s : Int) = 2)) = true
      · rw [c2] at t2
        obtain ⟨z, y2, e2, hz, q2⟩ := d_nmE (k := k) (l := [some (.ref n), some (.int (s : Int)), some (.lst (ns.map .str)), some (.int r), none, none]) rfl g q (by omega)
        have g2 := set_get (b := Bx.o y2) g
        obtain ⟨t, y3, e3, a, b, zz⟩ := ih (s - 1) (by omega) (k + 1) _ n y2 (N + 1 + 1) (ns ++ [z, z]) (by omega) (by omega) g2 q2 (by omega) (hns.more hz) (by simp; omega)
        have es : ((s - 1 : Nat) : Int) = (s : Int) - 1 := by omega
        rw [es] at e3
        simp only [List.set_set] at e2 e3
        refine ⟨.lam z t, y3, fin (pre _ ?_), ok_more a (by omega), ⟨hz, b⟩, by show t.sz + 1 = s; omega⟩
        have m3 := more30_E (l := [some (.ref n), some (.int (s : Int)), some (.lst (ns.map .str)), some (.int r), some (.str z), none]) (T := S.set n (Bx.o y2)) (ns := ns) (z := z) rfl rfl (by omega)
        rw [sSeq_E, sIf_E, t2, toO_okE, if_pos rfl, sSeq_E, sAsg_E, e2, bind_okE, fix_str, toO_okE, bN_E]
        have fr : (sRet (mTup [(false, mC (.str [108, 97, 109])), (false, mVar 4), (false, mCall (Φ (k + 1) 24) [(true, mVar 0), (false, mOp2 opSub (mVar 1) (mC (.int 1))), (false, more30)])])) [some (.ref n), some (.int (s : Int)), some (.lst (ns.map .str)), some (.int r), some (.str z), none] (S.set n (Bx.o y2)) = .ret (encN (.lam z t)) (S.set n (Bx.o y3)) := by
          have ca : mFix false (mCall (Φ (k + 1) 24) [(true, mVar 0), (false, mOp2 opSub (mVar 1) (mC (.int 1))), (false, more30)]) [some (.ref n), some (.int (s : Int)), some (.lst (ns.map .str)), some (.int r), some (.str z), none] (S.set n (Bx.o y2)) = .ok (encN t) (S.set n (Bx.o y3)) := by
            rw [mFix_E, mCall_E, mArgs_cons, mFix_E, mVar_E, look0_ref, of_someE, bind_okE, fix_ref, bind_okE, mArgs_cons, mFix_E, mOp2_E, mVar_E, lookS, look0_int, of_someE, bind_okE, mC_E, bind_okE, sub_int, of_someE, bind_okE, fix_int, bind_okE, mArgs_cons, m3, bind_okE, mArgs_nil, bind_okE, bind_okE, bind_okE, bind_okE, e3, bind_okE, fix_encN]
          rw [sRet_E, mTup_E, mArgs_cons, mFix_E, mC_E, bind_okE, fix_str, bind_okE, mArgs_cons, mFix_E, mVar_E]
          simp only [lookS, look0_str, of_someE, bind_okE, fix_str, mArgs_cons, ca, mArgs_nil, toO_okE]
          rfl
        show (match (sRet (mTup [(false, mC (.str [108, 97, 109])), (false, mVar 4), (false, mCall (Φ (k + 1) 24) [(true, mVar 0), (false, mOp2 opSub (mVar 1) (mC (.int 1))), (false, more30)])])) [some (.ref n), some (.int (s : Int)), some (.lst (ns.map .str)), some (.int r), some (.str z), none] (S.set n (Bx.o y2)) with
          | .nx l' S' => _
          | o => o) = _
        rw [fr]
      · rw [Bool.eq_false_iff.mpr c2] at t2
        simp only [Bool.or_eq_true, decide_eq_true_eq, not_or] at c2
        obtain ⟨r2, y2, e2, r20, r21, q2⟩ := tk (k := k) (m := mOp2 opSub (mVar 1) (mC (.int 2))) (many := (s : Int) - 2) (l := [some (.ref n), some (.int (s : Int)), some (.lst (ns.map .str)), some (.int r), none, none]) rfl (fun T => by simp) g q (by omega) (by omega) (by omega)
        have g2 := set_get (b := Bx.o y2) g
        obtain ⟨m, em⟩ : ∃ m : Nat, r2 = m := ⟨r2.toNat, by omega⟩
        subst em
        have t3 : T30b [some (.ref n), some (.int (s : Int)), some (.lst (ns.map .str)), some (.int r), none, some (.int (1 + (m : Int)))] ((S.set n (Bx.o y)).set n (Bx.o y2)) = .ok (decide (r = 4) && decide (2 < 1 + (m : Int))) ((S.set n (Bx.o y)).set n (Bx.o y2)) := by
          unfold T30b
          by_cases cr : r = 4
          · simp [cr]
          · simp [cr]
        have pre2 : ∀ o : O, (sSeq (sIf T30b (sSeq (sAsg (bN 4) false (nmE (k + 1))) (sRet (mTup [(false, mC (.str [97, 112, 112])), (false, mTup [(false, mC (.str [108, 97, 109])), (false, mVar 4), (false, mCall (Φ (k + 1) 24) [(true, mVar 0), (false, mOp2 opSub (mVar 5) (mC (.int 1))), (false, more30)])]), (false, mCall (Φ (k + 1) 24) [(true, mVar 0), (false, mOp2 opSub (mOp2 opSub (mVar 1) (mC (.int 1))) (mVar 5)), (false, mVar 2)])]))) (sNx)) (sRet (mTup [(false, mC (.str [97, 112, 112])), (false, mCall (Φ (k + 1) 24) [(true, mVar 0), (false, mVar 5), (false, mVar 2)]), (false, mCall (Φ (k + 1) 24) [(true, mVar 0), (false, mOp2 opSub (mOp2 opSub (mVar 1) (mC (.int 1))) (mVar 5)), (false, mVar 2)])]))) [some (.ref n), some (.int (s : Int)), some (.lst (ns.map .str)), some (.int r), none, some (.int (1 + (m : Int)))] ((S.set n (Bx.o y)).set n (Bx.o y2)) = o → b_24 (Φ (k + 1)) [some (.ref n), some (.int (s : Int)), some (.lst (ns.map .str)), none, none, none] S = o := fun o ho => pre o (by
          rw [sSeq_E, sIf_E, t2, toO_okE, if_neg (by decide), sNx_E]
          show sSeq _ _ [some (.ref n), some (.int (s : Int)), some (.lst (ns.map .str)), some (.int r), none, none] (S.set n (Bx.o y)) = _
          rw [sSeq_E, sAsg_E, mOp2_E, mC_E, bind_okE, e2, bind_okE, add_int, of_someE, bind_okE, fix_int, toO_okE, bN_E]
          exact ho)
        have es1 : ((1 + m : Nat) : Int) = 1 + (m : Int) := by omega
        have es2 : ((s - 1 - (1 + m) : Nat) : Int) = (s : Int) - 1 - (1 + (m : Int)) := by omega
        by_cases c3 : (decide (r = 4) && decide (2 < 1 + (m : Int))) = true
        · rw [c3] at t3
          simp only [Bool.and_eq_true, decide_eq_true_eq] at c3
          obtain ⟨z, y3, e3, hz, q3⟩ := d_nmE (k := k) (l := [some (.ref n), some (.int (s : Int)), some (.lst (ns.map .str)), some (.int r), none, some (.int (1 + (m : Int)))]) rfl g2 q2 (by omega)
          have g3 := set_get (b := Bx.o y3) g2
          obtain ⟨t4, y4, e4, a4, b4, z4⟩ := ih m (by omega) (k + 1) _ n y3 (N + 1 + 1 + 1) (ns ++ [z, z]) (by omega) (by omega) g3 q3 (by omega) (hns.more hz) (by simp; omega)
          have g4 := set_get (b := Bx.o y4) g3
          obtain ⟨t5, y5, e5, a5, b5, z5⟩ := ih (s - 1 - (1 + m)) (by omega) (k + 1) _ n y4 _ ns (by omega) (by omega) g4 a4 (by omega) hns (by omega)
          have es4 : (m : Int) = 1 + (m : Int) - 1 := by omega
          rw [es4] at e4
          rw [es2] at e5
          simp only [List.set_set] at e3 e4 e5 t3
          refine ⟨.app (.lam z t4) t5, y5, fin (pre2 _ ?_), ok_more a5 (by omega), ⟨⟨hz, b4⟩, b5⟩, by show t4.sz + 1 + t5.sz + 1 = s; omega⟩
          rw [List.set_set]
          have m3 := more30_E (l := [some (.ref n), some (.int (s : Int)), some (.lst (ns.map .str)), some (.int r), some (.str z), some (.int (1 + (m : Int)))]) (T := S.set n (Bx.o y3)) (ns := ns) (z := z) rfl rfl (by omega)
          rw [sSeq_E, sIf_E, t3, toO_okE, if_pos rfl, sSeq_E, sAsg_E, e3, bind_okE, fix_str, toO_okE, bN_E]
          have fr : (sRet (mTup [(false, mC (.str [97, 112, 112])), (false, mTup [(false, mC (.str [108, 97, 109])), (false, mVar 4), (false, mCall (Φ (k + 1) 24) [(true, mVar 0), (false, mOp2 opSub (mVar 5) (mC (.int 1))), (false, more30)])]), (false, mCall (Φ (k + 1) 24) [(true, mVar 0), (false, mOp2 opSub (mOp2 opSub (mVar 1) (mC (.int 1))) (mVar 5)), (false, mVar 2)])])) [some (.ref n), some (.int (s : Int)), some (.lst (ns.map .str)), some (.int r), some (.str z), some (.int (1 + (m : Int)))] (S.set n (Bx.o y3)) = .ret (encN (.app (.lam z t4) t5)) (S.set n (Bx.o y5)) := by
            have ca : mFix false (mCall (Φ (k + 1) 24) [(true, mVar 0), (false, mOp2 opSub (mVar 5) (mC (.int 1))), (false, more30)]) [some (.ref n), some (.int (s : Int)), some (.lst (ns.map .str)), some (.int r), some (.str z), some (.int (1 + (m : Int)))] (S.set n (Bx.o y3)) = .ok (encN t4) (S.set n (Bx.o y4)) := by
              rw [mFix_E, mCall_E, mArgs_cons, mFix_E, mVar_E, look0_ref, of_someE, bind_okE, fix_ref, bind_okE, mArgs_cons, mFix_E, mOp2_E, mVar_E, lookS, lookS, lookS, lookS, lookS, look0_int, of_someE, bind_okE, mC_E, bind_okE, sub_int, of_someE, bind_okE, fix_int, bind_okE, mArgs_cons, m3, bind_okE, mArgs_nil, bind_okE, bind_okE, bind_okE, bind_okE, e4, bind_okE, fix_encN]
            have cb : mFix false (mCall (Φ (k + 1) 24) [(true, mVar 0), (false, mOp2 opSub (mOp2 opSub (mVar 1) (mC (.int 1))) (mVar 5)), (false, mVar 2)]) [some (.ref n), some (.int (s : Int)), some (.lst (ns.map .str)), some (.int r), some (.str z), some (.int (1 + (m : Int)))] (S.set n (Bx.o y4)) = .ok (encN t5) (S.set n (Bx.o y5)) := by
              simp only [mFix_E, mCall_E, mArgs_cons, mVar_E, lookS, look0_ref, look0_int, look0_lst, of_someE, bind_okE, fix_ref, mOp2_E, mC_E, sub_int, fix_int, fix_lst, mArgs_nil, e5, fix_encN]
            rw [sRet_E, mTup_E, mArgs_cons, mFix_E, mC_E, bind_okE, fix_str, bind_okE, mArgs_cons, mFix_E, mTup_E, mArgs_cons, mFix_E, mC_E, bind_okE, fix_str, bind_okE, mArgs_cons, mFix_E, mVar_E]
            simp only [lookS, look0_str, of_someE, bind_okE, fix_str, mArgs_cons, ca, mArgs_nil, fix_tup, cb, toO_okE]
            rfl
          show (match (sRet (mTup [(false, mC (.str [97, 112, 112])), (false, mTup [(false, mC (.str [108, 97, 109])), (false, mVar 4), (false, mCall (Φ (k + 1) 24) [(true, mVar 0), (false, mOp2 opSub (mVar 5) (mC (.int 1))), (false, more30)])]), (false, mCall (Φ (k + 1) 24) [(true, mVar 0), (false, mOp2 opSub (mOp2 opSub (mVar 1) (mC (.int 1))) (mVar 5)), (false, mVar 2)])])) [some (.ref n), some (.int (s : Int)), some (.lst (ns.map .str)), some (.int r), some (.str z), some (.int (1 + (m : Int)))] (S.set n (Bx.o y3)) with
            | .nx l' S' => _
            | o => o) = _
          rw [fr]
        · rw [Bool.eq_false_iff.mpr c3] at t3
          obtain ⟨t4, y4, e4, a4, b4, z4⟩ := ih (1 + m) (by omega) (k + 1) _ n y2 (N + 1 + 1) ns (by omega) (by omega) g2 q2 (by omega) hns (by omega)
          have g4 := set_get (b := Bx.o y4) g2
          obtain ⟨t5, y5, e5, a5, b5, z5⟩ := ih (s - 1 - (1 + m)) (by omega) (k + 1) _ n y4 _ ns (by omega) (by omega) g4 a4 (by omega) hns (by omega)
          rw [es1] at e4
          rw [es2] at e5
          simp only [List.set_set] at e4 e5 t3
          refine ⟨.app t4 t5, y5, fin (pre2 _ ?_), ok_more a5 (by omega), ⟨b4, b5⟩, by show t4.sz + t5.sz + 1 = s; omega⟩
          rw [List.set_set, sSeq_E, sIf_E, t3, toO_okE, if_neg (by decide), sNx_E]
          show (sRet _) [some (.ref n), some (.int (s : Int)), some (.lst (ns.map .str)), some (.int r), none, some (.int (1 + (m : Int)))] (S.set n (Bx.o y2)) = _
          rw [sRet_E]
          simp only [mTup_E, mArgs_cons, mFix_E, mC_E, bind_okE, fix_str, mCall_E, mVar_E, lookS, look0_ref, look0_int, look0_lst, of_someE, fix_ref, fix_lst, mOp2_E, sub_int, fix_int, mArgs_nil, e4, e5, fix_encN, toO_okE]
          rfl
end k03
end

section
set_option Elab.async false
set_option linter.all false
set_option maxRecDepth 100000
set_option maxHeartbeats 4000000
/-! k03, the plain law, part 26: what is right. -/
namespace k03
open PySem PySem.Spec L2 LB

/-! what fits is a numbered term -/
theorem same_call {k : Nat} {A B : SE} {l : LB.Loc} {S S1 S2 : Store} {d : D} (hA : mFix false A l S = .ok d S1) (hB : mFix false B l S1 = .ok d S2) (g : good d = true) (h : dep d < k) : mCall (Φ k 21) [(false, A), (false, B)] l S = .ok (.bl true) S2 := by
  rw [mCall_E, mArgs_cons, hA, bind_okE, mArgs_cons, hB, bind_okE, mArgs_nil, bind_okE, bind_okE, bind_okE, e_same k d S2 g h]
theorem twice {T : Store} (x : D) : opMul T (.tmp [x]) (.int 2) = some (.tmp [x, x]) := mul_rep x 2 (by decide)
/-! drawn terms -/
def lists4 : List (List (List Nat)) := [[[120], [121]], [[120], [121], [122]], [[97], [98], [120]], [[121]]]
theorem lists4_ok : ∀ ns ∈ lists4, namesOk ns ∧ ns.length ≤ 3 := by
  intro ns h
  simp only [lists4, List.mem_cons, List.not_mem_nil, or_false] at h
  rcases h with rfl | rfl | rfl | rfl <;> (refine ⟨⟨by simp, ?_⟩, by decide⟩; decide)
noncomputable def sizE (k : Nat) : SE := mOp2 opIx (mLst [(false, mC (.int 7)), (false, mC (.int 10)), (false, mC (.int 5)), (false, mC (.int 12)), (false, mC (.int 9)), (false, mC (.int 15)), (false, mOp2 opAdd (mC (.int 1)) (takeS k 3)), (false, mOp2 opAdd (mC (.int 16)) (takeS k 25))]) (takeS k 8)
noncomputable def nmsE (k : Nat) : SE := mOp2 opIx (mLst [(false, mLst [(false, mC (.str [120])), (false, mC (.str [121]))]), (false, mLst [(false, mC (.str [120])), (false, mC (.str [121])), (false, mC (.str [122]))]), (false, mLst [(false, mC (.str [97])), (false, mC (.str [98])), (false, mC (.str [120]))]), (false, mLst [(false, mC (.str [121]))])]) (takeS k 4)
theorem b31_eq (k : Nat) : b_25 (Φ k) = sSeq (sAsg (bN 1) false (sizE k)) (sRet (mCall (Φ k 24) [(true, mVar 0), (false, mVar 1), (false, nmsE k)])) := rfl
section
variable {k n : Nat} {S : Store} {x : Bx} {N : Int} {l : LB.Loc}
theorem d_siz (hl : l[0]? = some (some (.ref n))) (h : S[n]? = some x.o) (ok : x.ok N) (hN : N + 3 < 1000000000) :
    ∃ (s : Nat) (y : Bx), sizE (k + 1) l S = .ok (.int (s : Nat)) (S.set n (Bx.o y)) ∧ (1 ≤ s ∧ s ≤ 40) ∧ y.ok (N + 3) := by
  obtain ⟨r1, y1, e1, a1, b1, q1⟩ := tk2 (k := k) 3 (by decide) (by decide) hl h ok (by omega)
  have g1 := set_get (b := Bx.o y1) h
  obtain ⟨r2, y2, e2, a2, b2, q2⟩ := tk2 (k := k) 25 (by decide) (by decide) hl g1 q1 (by omega)
  have g2 := set_get (b := Bx.o y2) g1
  obtain ⟨r3, y3, e3, a3, b3, q3⟩ := tk2 (k := k) 8 (by decide) (by decide) hl g2 q2 (by omega)
  have go : ∀ r : Int, atI [D.int 7, .int 10, .int 5, .int 12, .int 9, .int 15, .int (1 + r1), .int (16 + r2)] r3 = some (.int r) → sizE (k + 1) l S = .ok (.int r) (S.set n (Bx.o y3)) := fun r hr => by
    simp only [List.set_set] at e2 e3
    unfold sizE
    simp only [mOp2_E, mLst_E, mArgs_cons, mFix_E, e1, bind_okE, fix_int, mC_E, add_int, of_someE, e2, mArgs_nil, e3, ix_tmp, hr]
  have q3 := ok_more q3 (show N + 1 + 1 + 1 ≤ N + 3 by omega)
  obtain ⟨m1, rfl⟩ : ∃ m : Nat, r1 = m := ⟨r1.toNat, by omega⟩
  obtain ⟨m2, rfl⟩ : ∃ m : Nat, r2 = m := ⟨r2.toNat, by omega⟩
  rcases lt8 a3 b3 with rfl | rfl | rfl | rfl | rfl | rfl | rfl | rfl
  · exact ⟨7, y3, go _ rfl, ⟨by omega, by omega⟩, q3⟩
  · exact ⟨10, y3, go _ rfl, ⟨by omega, by omega⟩, q3⟩
  · exact ⟨5, y3, go _ rfl, ⟨by omega, by omega⟩, q3⟩
  · exact ⟨12, y3, go _ rfl, ⟨by omega, by omega⟩, q3⟩
  · exact ⟨9, y3, go _ rfl, ⟨by omega, by omega⟩, q3⟩
  · exact ⟨15, y3, go _ rfl, ⟨by omega, by omega⟩, q3⟩
  · exact ⟨1 + m1, y3, by rw [go _ rfl]; congr 2, ⟨by omega, by omega⟩, q3⟩
  · exact ⟨16 + m2, y3, by rw [go _ rfl]; congr 2, ⟨by omega, by omega⟩, q3⟩
theorem d_nms (hl : l[0]? = some (some (.ref n))) (h : S[n]? = some x.o) (ok : x.ok N) (hN : N + 1 < 1000000000) :
    ∃ ns y, nmsE (k + 1) l S = .ok (.lst (ns.map .str)) (S.set n (Bx.o y)) ∧ (namesOk ns ∧ ns.length ≤ 3) ∧ y.ok (N + 1) := by
  obtain ⟨r3, y3, e3, a3, b3, q3⟩ := tk2 (k := k) 4 (by decide) (by decide) hl h ok (by omega)
  have go : ∀ ns : List (List Nat), atI [D.lst [.str [120], .str [121]], .lst [.str [120], .str [121], .str [122]], .lst [.str [97], .str [98], .str [120]], .lst [.str [121]]] r3 = some (.lst (ns.map .str)) → nmsE (k + 1) l S = .ok (.lst (ns.map .str)) (S.set n (Bx.o y3)) := fun r hr => by
    unfold nmsE
    simp only [mOp2_E, mLst_E, mArgs_cons, mFix_E, bind_okE, fix_str, mC_E, fix_tmpF, mArgs_nil, e3, ix_tmp, hr, of_someE]
  rcases lt4 a3 b3 with rfl | rfl | rfl | rfl
  · exact ⟨[[120], [121]], y3, go _ rfl, lists4_ok _ (by simp [lists4]), q3⟩
  · exact ⟨[[120], [121], [122]], y3, go _ rfl, lists4_ok _ (by simp [lists4]), q3⟩
  · exact ⟨[[97], [98], [120]], y3, go _ rfl, lists4_ok _ (by simp [lists4]), q3⟩
  · exact ⟨[[121]], y3, go _ rfl, lists4_ok _ (by simp [lists4]), q3⟩
theorem e_lsome (h : S[n]? = some x.o) (ok : x.ok N) (hN : N + 170 < 1000000000) :
    ∃ t y, Φ (k + 43) 25 [.ref n] S = .ok (encN t) (S.set n (Bx.o y)) ∧ y.ok (N + 170) ∧ okN t ∧ t.sz ≤ 40 := by
  obtain ⟨s, y1, e1, ⟨s1, s2⟩, q1⟩ := d_siz (k := k + 41) (l := [some (.ref n), none]) rfl h ok (by omega)
  have g1 := set_get (b := Bx.o y1) h
  obtain ⟨ns, y2, e2, ⟨n1, n2⟩, q2⟩ := d_nms (k := k + 41) (l := [some (.ref n), some (.int (s : Nat))]) rfl g1 q1 (by omega)
  have g2 := set_get (b := Bx.o y2) g1
  obtain ⟨t, y3, e3, a, b, z⟩ := e_lterm s (k + 42) _ n y2 (N + 3 + 1) ns s1 (by omega) g2 q2 (by omega) n1 (by omega)
  simp only [List.set_set] at e2 e3
  refine ⟨t, y3, ?_, ok_more a (by omega), b, by omega⟩
  have e0 : b_25 (Φ (k + 42)) [some (.ref n), none] S = .ret (encN t) (S.set n (Bx.o y3)) := by
    rw [b31_eq, sSeq_E, sAsg_E, e1, bind_okE, fix_int, toO_okE, bN_E]
    show (sRet _) [some (.ref n), some (.int (s : Nat))] (S.set n (Bx.o y1)) = _
    rw [sRet_E]
    simp only [mCall_E, mArgs_cons, mFix_E, mVar_E, lookS, look0_ref, look0_int, of_someE, bind_okE, fix_ref, fix_int, e2, fix_lst, mArgs_nil, e3, toO_okE]
  show runD 2 (b_25 (Φ (k + 42))) _ _ = _
  rw [run_ret e0, gc_set]
end
/-! a term and its numbered one -/
section
variable {k n : Nat} {S : Store} {x : Bx} {N : Int} {t : Nt} {v : D}
end
/-! any value -/
section
variable {k n : Nat} {S : Store} {x : Bx} {N : Int} {v : D}
end
end k03
end

section
set_option Elab.async false
set_option linter.all false
set_option maxRecDepth 100000
set_option maxHeartbeats 4000000
/-! k03, the plain law, part 30: free names, normal names, closures. -/
namespace k03
open PySem PySem.Spec L2 LB

/-! the law's free names -/
def lfr : Nt → List (List Nat) → List (List Nat)
  | .var s, A => if s ∈ A then [] else [s]
  | .lam s t, A => lfr t (A ++ [s])
  | .app a b, A => srtS (gthS (lfr a A ++ lfr b A) [])
theorem lfr_len : ∀ (t : Nt) (A : List (List Nat)), (lfr t A).length ≤ t.sz
  | .var s, A => by
    unfold lfr
    split <;> simp [Nt.sz]
  | .lam s t, A => by
    have := lfr_len t (A ++ [s])
    simp only [lfr, Nt.sz]
    omega
  | .app a b, A => by
    have h1 := lfr_len a A
    have h2 := lfr_len b A
    have h3 := gthS_len (lfr a A ++ lfr b A)
    simp only [lfr, Nt.sz, srtS_len]
    rw [List.length_append] at h3
    omega
theorem lfr_mem : ∀ {t : Nt} {A ρ : List (List Nat)} {x : List Nat}, (∀ y, y ∈ A ↔ y ∈ ρ) → (x ∈ lfr t A ↔ x ∈ frs (numL t ρ))
  | .var s, A, ρ, x, h => by
    by_cases c : s ∈ A
    · obtain ⟨i, e⟩ := ixS_some ((h s).mp c)
      simp [lfr, c, numL, e, frs]
    · have c2 : s ∉ ρ := fun z => c ((h s).mpr z)
      simp [lfr, c, numL, ixS_none c2, frs]
  | .lam s t, A, ρ, x, h => by
    show x ∈ lfr t (A ++ [s]) ↔ x ∈ frs (numL t (s :: ρ))
    refine lfr_mem fun y => ?_
    simp only [List.mem_append, List.mem_cons, List.not_mem_nil, or_false]
    rw [h y]
    exact Or.comm
  | .app a b, A, ρ, x, h => by
    show x ∈ srtS (gthS (lfr a A ++ lfr b A) []) ↔ x ∈ frs (numL a ρ) ++ frs (numL b ρ)
    rw [srtS_mem, gthS_mem, List.mem_append, List.mem_append, lfr_mem h, lfr_mem h]
/-- no application is too large -/
def aok : Nt → Prop
  | .var _ => True
  | .lam _ t => aok t
  | .app a b => a.sz + b.sz + 1 ≤ 63
theorem aok_sz : ∀ {t : Nt}, t.sz ≤ 63 → aok t
  | .var s, _ => trivial
  | .lam s t, h => aok_sz (t := t) (by simp only [Nt.sz] at h; omega)
  | .app a b, h => h
theorem strsD_map : ∀ xs : List (List Nat), strsD (xs.map .str) = some xs
  | [] => rfl
  | x :: xs => by
    show (strsD (xs.map .str)).map (x :: ·) = _
    rw [strsD_map xs]
    rfl
theorem sortset (T : Store) (d : D) (zs : List (List Nat)) (h : viewL T d = some (zs.map .str)) (hl : zs.length < 64) : fSortSet T [d] = some (.tmp ((srtS (gthS zs [])).map .str)) := by
  show (match viewL T d with
    | some xs => match strsD xs with
      | some zs => if zs.length < 64 then some (D.tmp ((srtS (gthS zs [])).map .str)) else none
      | none => none
    | none => none) = _
  rw [h]
  show (match strsD (zs.map .str) with
    | some zs => if zs.length < 64 then some (D.tmp ((srtS (gthS zs [])).map .str)) else none
    | none => none) = _
  rw [strsD_map]
  show (if zs.length < 64 then some (D.tmp ((srtS (gthS zs [])).map .str)) else none) = _
  rw [if_pos hl]
theorem notin_strsL (S : Store) (s : List Nat) (ss : List (List Nat)) : opNotIn S (.str s) (.lst (ss.map .str)) = some (.bl (!decide (s ∈ ss))) := by
  have e : inQ S (.str s) (.lst (ss.map .str)) = some (decide (s ∈ ss)) := by
    show (if flatD (.str s) = true ∧ (ss.map D.str).all flatD = true then some ((ss.map D.str).any fun y => eqF y (.str s)) else _) = _
    rw [if_pos ⟨rfl, all_strs ss⟩, any_strs]
  unfold opNotIn
  rw [e]
  rfl
theorem add_tt (T : Store) (xs ys : List D) (h : xs.length + ys.length ≤ SL) : opAdd T (.tmp xs) (.tmp ys) = some (.tmp (xs ++ ys)) := by
  show (if xs.length + ys.length ≤ SL then some (D.tmp (xs ++ ys)) else none) = _
  rw [if_pos h]
theorem e_lfree : ∀ (t : Nt) (A : List (List Nat)) (k : Nat) (S : Store), t.dp < k → aok t → A.length + t.dp ≤ 50000 → Φ k 23 [encN t, .lst (A.map .str)] S = .ok (.tmp ((lfr t A).map .str)) S
  | t, A, 0, S, h, _, _ => absurd h (Nat.not_lt_zero _)
  | .var s, A, k + 1, S, _, _, _ => by
    show runD 2 (b_23 (Φ k)) _ _ = _
    by_cases c : s ∈ A
    · have m : opMul S (.tmp [.str s]) (.int 0) = some (.tmp []) := mul_rep (.str s) 0 (by decide)
      simp [runD, b_23, encN, lfr, c, notin_strsL, gc_same, m]
    · have m : opMul S (.tmp [.str s]) (.int 1) = some (.tmp [.str s]) := mul_rep (.str s) 1 (by decide)
      simp [runD, b_23, encN, lfr, c, notin_strsL, gc_same, m]
  | .lam s t, A, k + 1, S, h, ha, hl => by
    simp only [Nt.dp] at h hl
    have ih := e_lfree t (A ++ [s]) k S (by omega) ha (by simp; omega)
    rw [List.map_append] at ih
    have ad : opAdd S (.lst (A.map .str)) (.tmp [.str s]) = some (.tmp (A.map .str ++ [.str s])) := add_lt S _ _ (SL_ge (by simp; omega))
    simp only [List.map_cons, List.map_nil] at ih
    show runD 2 (b_23 (Φ k)) _ _ = _
    simp [runD, b_23, encN, lfr, gc_same, ad, ih]
  | .app a b, A, k + 1, S, h, ha, hl => by
    simp only [Nt.dp] at h hl
    have ha : a.sz + b.sz + 1 ≤ 63 := ha
    have ih1 := e_lfree a A k S (by omega) (aok_sz (by omega)) (by omega)
    have ih2 := e_lfree b A k S (by omega) (aok_sz (by omega)) (by omega)
    have l1 := lfr_len a A
    have l2 := lfr_len b A
    have ad : opAdd S (.tmp ((lfr a A).map .str)) (.tmp ((lfr b A).map .str)) = some (.tmp ((lfr a A ++ lfr b A).map .str)) := by
      rw [add_tt S _ _ (SL_ge (by simp; omega)), List.map_append]
    have ss := sortset S (.lst ((lfr a A ++ lfr b A).map .str)) (lfr a A ++ lfr b A) rfl (by rw [List.length_append]; omega)
    have t1 : mB (mOp2 opEq (mOp2 opIx (mVar 0) (mC (.int 0))) (mC (.str [118, 97, 114]))) [some (encN (.app a b)), some (.lst (A.map .str))] S = .ok false S := by simp [encN]
    have t2 : mB (mOp2 opEq (mOp2 opIx (mVar 0) (mC (.int 0))) (mC (.str [108, 97, 109]))) [some (encN (.app a b)), some (.lst (A.map .str))] S = .ok false S := by simp [encN]
    have e0 : b_23 (Φ k) [some (encN (.app a b)), some (.lst (A.map .str))] S = .ret (.tmp ((lfr (.app a b) A).map .str)) S := by
      unfold b_23
      rw [sSeq_E, sIf_E, t1, toO_okE, if_neg (by decide), sNx_E]
      show sSeq _ _ [some (encN (.app a b)), some (.lst (A.map .str))] S = _
      rw [sSeq_E, sIf_E, t2, toO_okE, if_neg (by decide), sNx_E]
      show (sRet _) [some (encN (.app a b)), some (.lst (A.map .str))] S = _
      rw [sRet_E]
      simp only [encN, mCallB_E, mArgs_cons, mFix_E, mOp2_E, mCall_E, mVar_E, lookS, look0_tup, look0_lst, of_someE, bind_okE, mC_E, ix_tupE, at1, at2, fix_encN, fix_lst, mArgs_nil, ih1, ih2, ad, fix_tmpF, ss, toO_okE]
      rfl
    show runD 2 (b_23 (Φ k)) _ _ = _
    rw [run_ret e0, gc_same]
/-! normal names, by the law -/
noncomputable def lawM (U : List (List Nat)) : Nt → List (List Nat) → List (List Nat × List Nat) → Nt
  | .var s, _, kn => match kn.filter fun p => decide (p.1 = s) with
    | p :: _ => .var p.2
    | [] => .var s
  | .lam s t, A, kn => .lam (nme (frI (U ++ A) + 1)) (lawM U t (A ++ [nme (frI (U ++ A) + 1)]) ((s, nme (frI (U ++ A) + 1)) :: kn))
  | .app a b, A, kn => .app (lawM U a A kn) (lawM U b A kn)
def kp2 (p : List Nat × List Nat) : D := .tup [.str p.1, .str p.2]
theorem e_lnormal (U : List (List Nat)) : ∀ (t : Nt) (A : List (List Nat)) (kn : List (List Nat × List Nat)) (k : Nat) (S : Store), t.dp + 3 ≤ k → U.length + A.length + t.dp ≤ 50000 → kn.length + t.dp ≤ 50000 → Φ k 34 [encN t, .lst (U.map .str), .lst (A.map .str), .lst (kn.map kp2)] S = .ok (encN (lawM U t A kn)) S
  | t, _, _, 0, S, h, _, _ => absurd h (by omega)
  | .var s, A, kn, k + 1, S, _, _, hk => by
    have lc : lcl chT (bN 5) [some (encN (.var s)), some (.lst (U.map .str)), some (.lst (A.map .str)), some (.lst (kn.map kp2)), none, none] (mB (mOp2 opEq (mOp2 opIx (mVar 5) (mC (.int 0))) (mOp2 opIx (mVar 0) (mC (.int 1))))) (mOp2 opIx (mVar 5) (mC (.int 1))) (kn.map kp2) [] S = .ok (.tmp ([] ++ (kn.filter fun p => decide (p.1 = s)).map fun p => .str p.2)) S :=
      lcl_flt (fun a _ => ⟨_, rfl, by simp [kp2, encN], fun _ => by simp [kp2]⟩) (by simp [Nt.dp] at hk; simp; exact SL_ge (by omega))
    rw [List.nil_append] at lc
    have t1 : mB (mOp2 opEq (mOp2 opIx (mVar 0) (mC (.int 0))) (mC (.str [118, 97, 114]))) [some (encN (.var s)), some (.lst (U.map .str)), some (.lst (A.map .str)), some (.lst (kn.map kp2)), none, none] S = .ok true S := by simp [encN]
    have e0 : b_34 (Φ k) [some (encN (.var s)), some (.lst (U.map .str)), some (.lst (A.map .str)), some (.lst (kn.map kp2)), none, none] S = .ret (encN (lawM U (.var s) A kn)) S := by
      unfold b_34
      rw [sSeq_E, sIf_E, t1, toO_okE, if_pos rfl, sSeq_E, sAsg_E, mLc_E, mIt_E]
      simp only [mVar_E, lookS, look0_lst, of_someE, bind_okE, itS_lst, wipeL_cons, wipeL_nil, List.set_cons_succ, List.set_cons_zero, lc, fix_tmpF, toO_okE, bN_E]
      have vl : viewL S (.lst ((kn.filter fun p => decide (p.1 = s)).map fun p => .str p.2)) = some ((kn.filter fun p => decide (p.1 = s)).map fun p => .str p.2) := rfl
      have m : lawM U (.var s) A kn = match kn.filter fun p => decide (p.1 = s) with
        | p :: _ => .var p.2
        | [] => .var s := rfl
      rw [m]
      cases q : kn.filter fun p => decide (p.1 = s) with
      | nil =>
        have n0 : opNe S (.lst []) (.tmp []) = some (.bl false) := rfl
        simp [n0, encN]
      | cons p r =>
        have n1 : opNe S (.lst (.str p.2 :: r.map fun p => .str p.2)) (.tmp []) = some (.bl true) := rfl
        simp [n1, encN]
    show runD 6 (b_34 (Φ k)) _ _ = _
    rw [run_ret e0, gc_same]
  | .lam s t, A, kn, k + 1, S, h, hl, hk => by
    simp only [Nt.dp] at h hl hk
    obtain ⟨s0, s1, s2⟩ := frI_spec (U ++ A)
    rw [List.length_append] at s0
    obtain ⟨k, rfl⟩ : ∃ k', k = k' + 2 := ⟨k - 2, by omega⟩
    have ef := e_lfresh k S (U ++ A) (frI (U ++ A)) (by omega) s1 s2
    have ih := e_lnormal U t (A ++ [nme (frI (U ++ A) + 1)]) ((s, nme (frI (U ++ A) + 1)) :: kn) (k + 2) S (by omega) (by rw [List.length_append, List.length_singleton]; omega) (by rw [List.length_cons]; omega)
    rw [List.map_append, List.map_cons] at ih
    rw [List.map_append] at ef
    have a1 : opAdd S (.lst (U.map .str)) (.lst (A.map .str)) = some (.tmp (U.map .str ++ A.map .str)) := add_ll S _ _ (SL_ge (by simp; omega))
    have a2 : opAdd S (.lst (A.map .str)) (.tmp [.str (nme (frI (U ++ A) + 1))]) = some (.tmp (A.map .str ++ [.str (nme (frI (U ++ A) + 1))])) := add_lt S _ _ (SL_ge (by simp; omega))
    have a3 : opAdd S (.tmp [kp2 (s, nme (frI (U ++ A) + 1))]) (.lst (kn.map kp2)) = some (.tmp (kp2 (s, nme (frI (U ++ A) + 1)) :: kn.map kp2)) := add_tl S _ _ (SL_ge (by simp; omega))
    simp only [List.map_cons, List.map_nil] at ih
    unfold kp2 at a3
    unfold kp2 at ih
    have kd : kp2 = fun p => D.tup [.str p.1, .str p.2] := rfl
    show runD 6 (b_34 (Φ (k + 2))) _ _ = _
    simp [runD, b_34, encN, lawM, gc_same, a1, ef, a2, a3, ih, kd]
  | .app a b, A, kn, k + 1, S, h, hl, hk => by
    simp only [Nt.dp] at h hl hk
    have ih1 := e_lnormal U a A kn k S (by omega) (by omega) (by omega)
    have ih2 := e_lnormal U b A kn k S (by omega) (by omega) (by omega)
    show runD 6 (b_34 (Φ k)) _ _ = _
    simp [runD, b_34, encN, lawM, gc_same, ih1, ih2]
/-- names known by place -/
theorem kn_some {s : List Nat} : ∀ {ρ B : List (List Nat)}, ρ.length = B.length → ∀ {i : Nat}, ixS s ρ = some i → ∃ r, (ρ.zip B).filter (fun p => decide (p.1 = s)) = (s, B.getD i []) :: r
  | [], _, _, _, h => by cases h
  | x :: ρ, y :: B, hl, i, h => by
    unfold ixS at h
    rw [List.zip_cons_cons, List.filter_cons]
    by_cases c : x = s
    · rw [if_pos c] at h
      cases h
      subst c
      exact ⟨_, by rw [if_pos (by simp)]; rfl⟩
    · rw [if_neg c] at h
      obtain ⟨j, e, rfl⟩ := Option.map_eq_some_iff.mp h
      obtain ⟨r, e2⟩ := kn_some (Nat.succ.inj hl) e
      exact ⟨r, by rw [if_neg (by simp [c]), e2]; rfl⟩
  | _ :: _, [], hl, _, _ => nomatch hl
theorem kn_none {s : List Nat} : ∀ {ρ B : List (List Nat)}, ρ.length = B.length → s ∉ ρ → (ρ.zip B).filter (fun p => decide (p.1 = s)) = []
  | [], _, _, _ => by simp
  | x :: ρ, y :: B, hl, h => by
    rw [List.mem_cons, not_or] at h
    rw [List.zip_cons_cons, List.filter_cons, if_neg (by simp; exact fun z => h.1 z.symm)]
    exact kn_none (Nat.succ.inj hl) h.2
  | _ :: _, [], hl, _ => nomatch hl
theorem rev_getD {A : List (List Nat)} {i : Nat} (h : i < A.length) : A.reverse.getD i [] = A.getD (A.length - 1 - i) [] := by
  rw [List.getD_eq_getElem?_getD, List.getD_eq_getElem?_getD, List.getElem?_reverse h]
theorem lawM_is {U : List (List Nat)} : ∀ {t : Nt} {ρ A : List (List Nat)}, ρ.length = A.length → lawM U t A (ρ.zip A.reverse) = lawN U (numL t ρ) A
  | .var s, ρ, A, hl => by
    have hr : ρ.length = A.reverse.length := by rw [List.length_reverse]; exact hl
    show (match (ρ.zip A.reverse).filter fun p => decide (p.1 = s) with
      | p :: _ => Nt.var p.2
      | [] => .var s) = lawN U (match ixS s ρ with
      | some i => Tm.num (i : Nat)
      | none => .free s) A
    by_cases c : s ∈ ρ
    · obtain ⟨i, e⟩ := ixS_some c
      obtain ⟨r, e2⟩ := kn_some hr e
      have := ixS_lt e
      rw [e, e2]
      show Nt.var (A.reverse.getD i []) = Nt.var (A.getD (A.length - 1 - ((i : Nat) : Int).toNat) [])
      rw [rev_getD (by omega), Int.toNat_natCast]
    · rw [ixS_none c, kn_none hr c]
      rfl
  | .lam s t, ρ, A, hl => by
    have ih := lawM_is (U := U) (t := t) (ρ := s :: ρ) (A := A ++ [nme (frI (U ++ A) + 1)]) (by simp [hl])
    rw [List.reverse_append] at ih
    show Nt.lam _ (lawM U t _ _) = Nt.lam _ _
    exact congrArg _ ih
  | .app a b, ρ, A, hl => by
    show Nt.app _ _ = Nt.app _ _
    rw [lawM_is hl, lawM_is hl]
/-- normal names -/
noncomputable def nrm (t : Nt) : Nt := lawM (lfr t []) t [] []
theorem nrm_law (t : Nt) : nrm t = lawN (lfr t []) (numL t []) [] := lawM_is (ρ := []) (A := []) rfl
theorem nrm_is {t : Nt} {n : Nat} (h : okN t) (hl : (flt (used (numL t [])) n).length = lcT (numL t [])) : nrm t = nmT (flt (used (numL t [])) n) (numL t []) 0 := by
  have l := ln_lc (numL t [])
  have ok := okT_numL (ρ := []) h
  rw [nrm_law]
  have e := lawN_is (u := used (numL t [])) (U := lfr t []) (n := n) (fun s => by rw [used_mem, lfr_mem (ρ := []) fun y => Iff.rfl]) (t := numL t []) (d := 0) ok (by omega)
  rw [List.take_zero] at e
  exact e
end k03
end

section
set_option Elab.async false
set_option linter.all false
set_option maxRecDepth 100000
set_option maxHeartbeats 4000000
/-! k03, the plain law, part 31: normal names and closures of the program. -/
namespace k03
open PySem PySem.Spec L2 LB

theorem frs_dp : ∀ t : Tm, t.dp + (frs t).length ≤ t.sz
  | .num n => by simp [Tm.dp, frs, Tm.sz]
  | .free s => by simp [Tm.dp, frs, Tm.sz]
  | .lam t => by
    have := frs_dp t
    simp only [Tm.dp, frs, Tm.sz]
    omega
  | .app a b => by
    have := frs_dp a
    have := frs_dp b
    simp only [Tm.dp, frs, Tm.sz, List.length_append]
    omega
theorem frs_dpN : ∀ (t : Nt) (ρ : List (List Nat)), t.dp + (frs (numL t ρ)).length ≤ t.sz
  | .var s, ρ => by
    unfold numL
    split <;> simp [Nt.dp, frs, Nt.sz]
  | .lam s t, ρ => by
    have := frs_dpN t (s :: ρ)
    simp only [Nt.dp, numL, frs, Nt.sz]
    omega
  | .app a b, ρ => by
    have := frs_dpN a ρ
    have := frs_dpN b ρ
    simp only [Nt.dp, numL, frs, Nt.sz, List.length_append]
    omega
/-! normal names -/
theorem e_chk (k : Nat) (t : Nt) (S : Store) (h : okN t) (hz : t.sz ≤ 2000) : Φ (k + 6) 13 [encN t] S = .ok .non S := by
  have w := wt_encN t
  rw [e_cterm k (encN t) S (good_encN h) (SL_ge (by omega)), fitsT_ok h hz, if_pos rfl]
theorem e_nnames (k : Nat) (t : Nt) (S : Store) (h : okN t) (hz : t.sz ≤ 63) : Φ (k + 7) 16 [encN t] S = .ok (encN (nrm t)) S := by
  have ok := okT_numL (ρ := []) h
  have sz := sz_numL t []
  have ec := e_chk k t S h (by omega)
  have eh : Φ (k + 6) 8 [encN t] S = .ok (.tmp ((pre (numL t [])).map hd)) S := e_nheads (k + 5) t S (by omega)
  obtain ⟨n, en, hl⟩ := e_normal (k + 2) (numL t []) S ok (by omega)
  have en : Φ (k + 6) 15 [.lst ((pre (numL t [])).map hd)] S = .ok (encN (nmT (flt (used (numL t [])) n) (numL t []) 0)) S := en
  have e0 : b_16 (Φ (k + 6)) [some (encN t)] S = .ret (encN (nrm t)) S := by
    unfold b_16
    rw [nrm_is h hl]
    simp [ec, eh, en]
  show runD 1 (b_16 (Φ (k + 6))) _ _ = _
  rw [run_ret e0, gc_same]
theorem nrm_facts {t : Nt} (h : okN t) (hz : t.sz ≤ 63) : okN (nrm t) ∧ (nrm t).sz = t.sz ∧ numL (nrm t) [] = numL t [] ∧ nrm (nrm t) = nrm t := by
  have ok := okT_numL (ρ := []) h
  have sz := sz_numL t []
  have hzT : (numL t []).sz ≤ 63 := by omega
  obtain ⟨n, en, hl⟩ := e_normal 0 (numL t []) [] ok hzT
  have e := nrm_is h hl
  have l1 := ln_lc (numL t [])
  have l2 := lc_sz (numL t [])
  have l3 := used_len (numL t [])
  have l4 := flt_len (used (numL t [])) n
  have hn : ∀ s ∈ flt (used (numL t [])) n, isNm (.str s) = true := fun s hs => by
    obtain ⟨i, hi, rfl⟩ := flt_nm hs
    exact nm_isNm _ (by omega) (by omega)
  have k1 : okN (nrm t) := by rw [e]; exact okN_nmT hn (d := 0) ok (by omega)
  have k2 : (nrm t).sz = t.sz := by rw [e, sz_nmT, sz]
  have k3 : numL (nrm t) [] = numL t [] := by
    rw [e]
    have q := numL_nmT (flt_nodup (used (numL t [])) n) (t := numL t []) (d := 0) ok (by omega) (fun s hs z => flt_not z (used_mem.mpr hs))
    rw [List.take_zero] at q
    exact q
  refine ⟨k1, k2, k3, ?_⟩
  have e2 := nrm_is (t := nrm t) (n := n) k1 (by rw [k3]; exact hl)
  rw [e2, k3, ← e]
/-! closures -/
def clo (t : Nt) : Nt := (used (numL t [])).foldr .lam t
theorem nodup_onc : ∀ {u us : List (List Nat)}, us.Nodup → (onc u us).Nodup
  | [], us, h => h
  | s :: r, us, h => by
    show (onc r (if s ∈ us then us else us ++ [s])).Nodup
    refine nodup_onc ?_
    by_cases c : s ∈ us
    · rw [if_pos c]; exact h
    · rw [if_neg c]
      refine List.nodup_append.mpr ⟨h, by simp, fun a ha b hb z => ?_⟩
      rw [List.mem_singleton] at hb
      subst hb
      exact c (z ▸ ha)
theorem nodup_gthS : ∀ {u us : List (List Nat)}, us.Nodup → (gthS u us).Nodup
  | [], us, h => h
  | s :: r, us, h => by
    show (gthS r (if s ∈ us then us else s :: us)).Nodup
    refine nodup_gthS ?_
    by_cases c : s ∈ us
    · rw [if_pos c]; exact h
    · rw [if_neg c]
      exact List.nodup_cons.mpr ⟨c, h⟩
theorem perm_of {xs ys : List (List Nat)} (h1 : xs.Nodup) (h2 : ys.Nodup) (h : ∀ x, x ∈ xs ↔ x ∈ ys) : xs.Perm ys :=
  (List.perm_ext_iff_of_nodup h1 h2).mpr h
theorem srt_lfr (t : Nt) : srtS (gthS (lfr t []) []) = used (numL t []) := by
  unfold used
  have p : (gthS (lfr t []) []).Perm (onc (frs (numL t [])) []) := perm_of (nodup_gthS List.nodup_nil) (nodup_onc List.nodup_nil) fun x => by
    rw [gthS_mem, lfr_mem (ρ := []) fun y => Iff.rfl, onc_mem]
    simp
  exact srtS_uniq ((srtS_perm _).trans p) (srtS_sorted _)
theorem lfr_lams : ∀ (us : List (List Nat)) (t : Nt) (A : List (List Nat)), lfr (us.foldr .lam t) A = lfr t (A ++ us)
  | [], t, A => by simp
  | u :: us, t, A => by
    show lfr (us.foldr .lam t) (A ++ [u]) = _
    rw [lfr_lams us t, List.append_assoc]
    rfl
theorem frs_less {x : List Nat} {us : List (List Nat)} : ∀ {t : Nt} {ρ : List (List Nat)}, x ∈ frs (numL t (ρ ++ us)) → x ∈ frs (numL t ρ) ∧ x ∉ us
  | .var s, ρ, h => by
    by_cases c : s ∈ ρ ++ us
    · obtain ⟨i, e⟩ := ixS_some c
      simp [numL, e, frs] at h
    · have c1 : s ∉ ρ := fun z => c (List.mem_append_left _ z)
      have c2 : s ∉ us := fun z => c (List.mem_append_right _ z)
      simp only [numL, ixS_none c, frs, List.mem_singleton] at h
      subst h
      simp only [numL, ixS_none c1, frs, List.mem_singleton]
      exact ⟨trivial, c2⟩
  | .lam s t, ρ, h => frs_less (t := t) (ρ := s :: ρ) h
  | .app a b, ρ, h => by
    have h : x ∈ frs (numL a (ρ ++ us)) ++ frs (numL b (ρ ++ us)) := h
    show x ∈ frs (numL a ρ) ++ frs (numL b ρ) ∧ _
    rcases List.mem_append.mp h with h | h
    · obtain ⟨h1, h2⟩ := frs_less h
      exact ⟨List.mem_append_left _ h1, h2⟩
    · obtain ⟨h1, h2⟩ := frs_less h
      exact ⟨List.mem_append_right _ h1, h2⟩
theorem nil_of {xs : List (List Nat)} (h : ∀ x, x ∉ xs) : xs = [] := List.eq_nil_iff_forall_not_mem.mpr h
theorem lfr_clo (t : Nt) : lfr (clo t) [] = [] := by
  unfold clo
  rw [lfr_lams]
  refine nil_of fun x hx => ?_
  have h1 := (lfr_mem (ρ := used (numL t [])) fun y => by simp).mp hx
  obtain ⟨h2, h3⟩ := frs_less (t := t) (ρ := []) (us := used (numL t [])) (by simpa using h1)
  exact h3 (used_mem.mpr h2)
theorem frs_clo (t : Nt) : frs (numL (clo t) []) = [] := by
  refine nil_of fun x hx => ?_
  have := (lfr_mem (t := clo t) (A := []) (ρ := []) fun y => Iff.rfl).mpr hx
  rw [lfr_clo] at this
  cases this
theorem clo_clo (t : Nt) : clo (clo t) = clo t := by
  have : used (numL (clo t) []) = [] := by
    unfold used
    rw [frs_clo]
    rfl
  show (used (numL (clo t) [])).foldr Nt.lam (clo t) = clo t
  rw [this]
  rfl
theorem sz_lams (us : List (List Nat)) (t : Nt) : (us.foldr .lam t).sz = us.length + t.sz := by
  induction us with
  | nil => simp
  | cons u us ih =>
    show (us.foldr .lam t).sz + 1 = _
    rw [ih, List.length_cons]
    omega
theorem dp_lams (us : List (List Nat)) (t : Nt) : (us.foldr .lam t).dp = us.length + t.dp := by
  induction us with
  | nil => simp
  | cons u us ih =>
    show (us.foldr .lam t).dp + 1 = _
    rw [ih, List.length_cons]
    omega
theorem used_frs (t : Tm) : (used t).length ≤ (frs t).length := by
  unfold used
  rw [srtS_len]
  have := onc_len (frs t) []
  simpa using this
theorem clo_facts {t : Nt} (h : okN t) : okN (clo t) ∧ (clo t).sz ≤ 2 * t.sz ∧ (clo t).dp ≤ t.sz ∧ (aok t → aok (clo t)) := by
  have l1 := used_frs (numL t [])
  have l2 := frs_dpN t []
  have hu : ∀ s ∈ used (numL t []), isNm (.str s) = true := by
    intro s hs
    have hs := used_mem.mp hs
    have g : ∀ {u : Tm} {d : Int}, okT (some 0) u d → s ∈ frs u → isNm (.str s) = true := by
      intro u
      induction u with
      | num n => intro d _ hs; cases hs
      | free z =>
        intro d h hs
        simp only [frs, List.mem_singleton] at hs
        subst hs
        exact h
      | lam u ih => intro d h hs; exact ih (d := d + 1) h hs
      | app a b ih1 ih2 =>
        intro d h hs
        rcases List.mem_append.mp hs with hs | hs
        · exact ih1 h.1 hs
        · exact ih2 h.2 hs
    exact g (okT_numL (ρ := []) h) hs
  refine ⟨?_, ?_, ?_, ?_⟩
  · unfold clo
    revert hu
    generalize used (numL t []) = us
    intro hu
    induction us with
    | nil => exact h
    | cons u us ih => exact ⟨hu u List.mem_cons_self, ih fun s hs => hu s (List.mem_cons_of_mem _ hs)⟩
  · unfold clo
    rw [sz_lams]
    omega
  · unfold clo
    rw [dp_lams]
    omega
  · intro ha
    unfold clo
    generalize used (numL t []) = us
    induction us with
    | nil => exact ha
    | cons u us ih => exact ih
/-- lams put around, by a loop -/
theorem wraps (q : D) (S : Store) : ∀ (us : List (List Nat)) (t : Nt) (p : Option D), ∃ p', Runs (bodyOf (bN 2) (sAsg (bN 1) false (mTup [(false, mC (.str [108, 97, 109])), (false, mVar 2), (false, mVar 1)]))) (us.map .str) [some q, some (encN t), p] S [some q, some (encN (us.foldl (fun t s => .lam s t) t)), p'] S
  | [], t, p => ⟨p, .nil⟩
  | u :: us, t, p => by
    obtain ⟨p', ih⟩ := wraps q S us (.lam u t) (some (.str u))
    refine ⟨p', .cons ?_ ih⟩
    rw [bodyOf_E, bN_E]
    show sAsg _ _ _ [some q, some (encN t), some (.str u)] S = _
    rw [sAsg_E]
    simp only [mTup_E, mArgs_cons, mFix_E, mC_E, bind_okE, fix_str, mVar_E, lookS, look0_str, look0_encN, of_someE, fix_encN, mArgs_nil]
    rfl
theorem fold_rev (us : List (List Nat)) (t : Nt) : us.reverse.foldl (fun t s => Nt.lam s t) t = us.foldr .lam t := by
  rw [List.foldl_reverse]
theorem e_freeof (k : Nat) (t : Nt) (S : Store) (hz : t.sz ≤ 10000) (hf : (frs (numL t [])).length ≤ 63) : Φ (k + 3) 14 [encN t] S = .ok (.tmp ((used (numL t [])).map .str)) S := by
  have sz := sz_numL t []
  have eh : Φ (k + 2) 8 [encN t] S = .ok (.tmp ((pre (numL t [])).map hd)) S := e_nheads (k + 1) t S (by omega)
  have ef : Φ (k + 2) 9 [.lst ((pre (numL t [])).map hd)] S = .ok (.tmp ((used (numL t [])).map .str)) S := e_freein (k + 1) (numL t []) S (by omega) hf
  show runD 1 (b_14 (Φ (k + 2))) _ _ = _
  simp [runD, b_14, eh, ef, gc_same]
theorem e_closure (k : Nat) (t : Nt) (S : Store) (h : okN t) (hz : t.sz ≤ 2000) (hf : (frs (numL t [])).length ≤ 63) : Φ (k + 7) 17 [encN t] S = .ok (encN (clo t)) S := by
  have ec := e_chk k t S h hz
  have ef : Φ (k + 6) 14 [encN t] S = .ok (.tmp ((used (numL t [])).map .str)) S := e_freeof (k + 3) t S (by omega) hf
  obtain ⟨p', r⟩ := wraps (encN t) S (used (numL t [])).reverse t none
  have e := r.lp
  rw [fold_rev] at e
  have e0 : b_17 (Φ (k + 6)) [some (encN t), none, none] S = .ret (encN (clo t)) S := by
    unfold b_17
    have d1 : sDrop (mCall (Φ (k + 6) 13) [(false, mVar 0)]) [some (encN t), none, none] S = .nx [some (encN t), none, none] S := by simp [ec]
    have d2 : sAsg (bN 1) false (mVar 0) [some (encN t), none, none] S = .nx [some (encN t), some (encN t), none] S := by
      rw [sAsg_E]
      simp only [mVar_E, look0_encN, of_someE, bind_okE, fix_encN, toO_okE, bN_E]
      rfl
    have d3 : mIt (mUn opBack (mCall (Φ (k + 6) 14) [(false, mVar 0)])) [some (encN t), some (encN t), none] S = .ok (((used (numL t [])).reverse).map .str, chT) S := by
      have hb : ∀ T : Store, opBack T (.tmp ((used (numL t [])).map .str)) = some (.tmp ((used (numL t [])).map .str).reverse) := fun T => rfl
      rw [mIt_E, mUn_E, mCall_E, mArgs_cons]
      simp only [mFix_E, mVar_E, look0_encN, of_someE, bind_okE, fix_encN, mArgs_nil, ef, hb, itS_tmp, List.map_reverse]
    rw [sSeq_E, d1]
    show sSeq _ _ [some (encN t), none, none] S = _
    rw [sSeq_E, d2]
    show sSeq _ _ [some (encN t), some (encN t), none] S = _
    rw [sSeq_E, sFor_E, d3, toO_okE]
    show (match lp chT _ _ [some (encN t), some (encN t), none] S with
      | .nx l' S' => _
      | o => o) = _
    rw [e]
    show (sRet (mVar 1)) [some (encN t), some (encN (clo t)), p'] S = _
    rw [sRet_E]
    simp only [mVar_E, lookS, look0_encN, of_someE, toO_okE]
  show runD 3 (b_17 (Φ (k + 6))) _ _ = _
  rw [run_ret e0, gc_same]
/-! what does not fit -/
theorem e_nnames_bad (k : Nat) (v : D) (S : Store) (g : good v = true) (hw : wt v + 2 ≤ SL) (h : fitsT v = false) : Φ (k + 7) 16 [v] S = .exc 1 [v] S := by
  have rv := good_R g
  have ec : Φ (k + 6) 13 [v] S = .exc 1 [v] S := by rw [e_cterm k v S g hw, h]; rfl
  have e0 : b_16 (Φ (k + 6)) [some v] S = .exc 1 [v] [some v] S := by
    unfold b_16
    simp [look0 _ _ rv, fix_R rv, ec]
  show runD 1 (b_16 (Φ (k + 6))) _ _ = _
  rw [run_exc e0, gcX_same]
theorem e_closure_bad (k : Nat) (v : D) (S : Store) (g : good v = true) (hw : wt v + 2 ≤ SL) (h : fitsT v = false) : Φ (k + 7) 17 [v] S = .exc 1 [v] S := by
  have rv := good_R g
  have ec : Φ (k + 6) 13 [v] S = .exc 1 [v] S := by rw [e_cterm k v S g hw, h]; rfl
  have e0 : b_17 (Φ (k + 6)) [some v, none, none] S = .exc 1 [v] [some v, none, none] S := by
    unfold b_17
    simp [look0 _ _ rv, fix_R rv, ec]
  show runD 3 (b_17 (Φ (k + 6))) _ _ = _
  rw [run_exc e0, gcX_same]
/-! numbered terms equal themselves -/
theorem plain_nm {s : List Nat} (h : isNm (.str s) = true) : plain (.str s) = true := by
  show PyData.strOk ⟨s.toArray⟩ = true
  have h : (decide (1 ≤ s.length) && (decide (s.length ≤ 4) && s.all fun c => decide (c ∈ sABC))) = true := h
  simp only [Bool.and_eq_true] at h
  have a := List.all_eq_true.mp h.2.2
  have b : ∀ c ∈ sABC, c < 128 := by decide
  unfold PyData.strOk
  simp
  intro x hx
  have := b x (of_decide_eq_true (a x hx))
  omega
theorem pl_lit {s : List Nat} (h : s.all (fun c => decide (c < 1114112)) = true) : LB.plain (.str s) = true := by
  show PyData.strOk ⟨s.toArray⟩ = true
  unfold PyData.strOk
  simpa using h
theorem plain_enc {o : Option Int} : ∀ {t : Tm} {d : Int}, okT o t d → LB.plain (enc t) = true ∧ pdep (enc t) ≤ t.dp + 1
  | .num n, d, h => by
    refine ⟨?_, by simp [enc, pdep, pdeps]⟩
    show (LB.plain (.str sNUM) && (LB.plain (.int n) && true)) = true
    rw [pl_lit (by decide)]
    rfl
  | .free s, d, h => by
    refine ⟨?_, by simp [enc, pdep, pdeps]⟩
    show (LB.plain (.str sFREE) && (LB.plain (.str s) && true)) = true
    rw [pl_lit (by decide), plain_nm h]
    rfl
  | .lam t, d, h => by
    obtain ⟨h1, h2⟩ := plain_enc (t := t) (d := d + 1) h
    refine ⟨?_, ?_⟩
    · show (LB.plain (.str sLAM) && (LB.plain (enc t) && true)) = true
      rw [pl_lit (by decide), h1]
      rfl
    · simp only [enc, pdep, pdeps, Tm.dp]
      omega
  | .app a b, d, h => by
    obtain ⟨h1, h2⟩ := plain_enc h.1
    obtain ⟨h3, h4⟩ := plain_enc h.2
    refine ⟨?_, ?_⟩
    · show (LB.plain (.str sAPP) && (LB.plain (enc a) && (LB.plain (enc b) && true))) = true
      rw [pl_lit (by decide), h1, h3]
      rfl
    · simp only [enc, pdep, pdeps, Tm.dp]
      omega
theorem ne_enc {S : Store} {t : Tm} {d : Int} {o : Option Int} (h : okT o t d) (hd : t.dp ≤ 63) : opNe S (enc t) (enc t) = some (.bl false) := by
  obtain ⟨h1, h2⟩ := plain_enc h
  exact ne_self h1 (by omega)
end k03
end

section
set_option Elab.async false
set_option linter.all false
set_option maxRecDepth 100000
set_option maxHeartbeats 4000000
/-! k03, the plain law, part 32: what is asked. -/
namespace k03
open PySem PySem.Spec L2 LB

abbrev sTOLD : List Nat := [116, 111, 108, 100]
abbrev sNBD : List Nat := [110, 117, 109, 98, 101, 114, 101, 100]
abbrev sTERM : List Nat := [116, 101, 114, 109]
theorem noX_cons {d : D} (l : LB.Loc) (r : isR d = true) : noX (some d :: l) = some d :: noX l := by cases d <;> first | rfl | cases r
theorem noX_none (l : LB.Loc) : noX (none :: l) = none :: noX l := rfl
theorem noX_nil : noX [] = [] := rfl
noncomputable abbrev hds33 : List Hd := [(1, 3, sRet (mLst [(false, mC (.str [116, 101, 114, 109])), (false, mXf 3 1)]))]
noncomputable def body33 (Φ : Nat → Fun) : SS := sSeq (sIf (mB (mOp2 opEq (mVar 0) (mC (.int 0)))) (sRet (mLst [(false, mC (.str [116, 111, 108, 100])), (false, mIf (mTru (mVar 2)) (mCallP (Φ 16) [0] [(false, mVar 1)]) (mCall (Φ 16) [(false, mVar 1)]))])) (sNx)) (sRet (mLst [(false, mC (.str [116, 111, 108, 100])), (false, mIf (mTru (mVar 2)) (mCallP (Φ 17) [0] [(false, mVar 1)]) (mCall (Φ 17) [(false, mVar 1)]))]))
theorem b33a_eq (Φ : Nat → Fun) (l : LB.Loc) (S : Store) : b_33 Φ l S = match body33 Φ l S with
  | .exc c vs l' S' => if c < nC then pick subC c vs l' S' hds33 else .bad
  | o => o := rfl
section
variable (k : Nat) (one : D) (b : Bool) (w : Int) (S : Store)
abbrev l33 : LB.Loc := [some (.int w), some one, some (.bl b), none]
/-- the ends of the asking -/
theorem ask_ok {x : D} (h : body33 (Φ k) (l33 one b w) S = .ret (.tmp [.str sTOLD, x]) S) : Φ (k + 1) 33 [.int w, one, .bl b] S = .ok (.tmp [.str sTOLD, x]) S := by
  have e0 : b_33 (Φ k) (l33 one b w) S = .ret (.tmp [.str sTOLD, x]) S := by
    rw [b33a_eq, h]
  show runD 4 (b_33 (Φ k)) _ _ = _
  rw [run_ret e0, gc_same]
theorem ask_x2 {v : D} (r1 : isR one = true) (rv : isR v = true) (h : body33 (Φ k) (l33 one b w) S = .exc 1 [v] (l33 one b w) S) : Φ (k + 1) 33 [.int w, one, .bl b] S = .ok (.tmp [.str sTERM, v]) S := by
  have e0 : b_33 (Φ k) (l33 one b w) S = .ret (.tmp [.str sTERM, v]) S := by
    rw [b33a_eq, h]
    show (if 1 < nC then pick subC 1 [v] (l33 one b w) S hds33 else .bad) = _
    rw [if_pos (by decide)]
    show ((sRet (mLst [(false, mC (.str sTERM)), (false, mXf 3 1)])) ((noX (l33 one b w)).set 3 (some (.exn 1 [v]))) S).out 3 = _
    have n : noX (l33 one b w) = l33 one b w := by
      simp only [noX_cons _ (isR_int w), noX_cons _ r1, noX_cons _ (isR_bl b), noX_none, noX_nil]
    rw [n]
    have x : mXf 3 1 [some (.int w), some one, some (.bl b), some (.exn 1 [v])] S = .ok v S := rfl
    have e : (sRet (mLst [(false, mC (.str sTERM)), (false, mXf 3 1)])) [some (.int w), some one, some (.bl b), some (.exn 1 [v])] S = .ret (.tmp [.str sTERM, v]) S := by
      rw [sRet_E]
      simp only [mLst_E, mArgs_cons, mFix_E, mC_E, bind_okE, fix_str, x, fix_R rv, mArgs_nil, toO_okE]
    show ((sRet (mLst [(false, mC (.str sTERM)), (false, mXf 3 1)])) [some (.int w), some one, some (.bl b), some (.exn 1 [v])] S).out 3 = _
    rw [e]
    rfl
  show runD 4 (b_33 (Φ k)) _ _ = _
  rw [run_ret e0, gc_same]
variable (r1 : isR one = true)
include r1
theorem callA : (mIf (mTru (mVar 2)) (mCallP (Φ k 16) [0] [(false, mVar 1)]) (mCall (Φ k 16) [(false, mVar 1)])) (l33 one b w) S = Φ k 16 [one] S := by
  cases b <;> simp [look0 _ _ r1, fix_R r1, perm]
theorem callB : (mIf (mTru (mVar 2)) (mCallP (Φ k 17) [0] [(false, mVar 1)]) (mCall (Φ k 17) [(false, mVar 1)])) (l33 one b w) S = Φ k 17 [one] S := by
  cases b <;> simp [look0 _ _ r1, fix_R r1, perm]
theorem bodyA : body33 (Φ k) (l33 one b 0) S = ((Φ k 16 [one] S).bind (fixD false)).toO (l33 one b 0) fun d S1 => .ret (.tmp [.str sTOLD, d]) S1 := by
  have q := callA k one b 0 S r1
  have t : mB (mOp2 opEq (mVar 0) (mC (.int 0))) (l33 one b 0) S = .ok true S := by simp
  unfold body33
  rw [sSeq_E, sIf_E, t, toO_okE, if_pos rfl, sRet_E, mLst_E, mArgs_cons, mFix_E, mC_E, bind_okE, fix_str, bind_okE, mArgs_cons, mFix_E, q]
  cases Φ k 16 [one] S with
  | ok d S1 =>
    rw [bind_okE]
    cases fixD false d S1 <;> rfl
  | exc c vs S1 => rfl
  | bad => rfl
theorem bodyB : body33 (Φ k) (l33 one b 1) S = ((Φ k 17 [one] S).bind (fixD false)).toO (l33 one b 1) fun d S1 => .ret (.tmp [.str sTOLD, d]) S1 := by
  have q := callB k one b 1 S r1
  have t : mB (mOp2 opEq (mVar 0) (mC (.int 0))) (l33 one b 1) S = .ok false S := by simp
  unfold body33
  rw [sSeq_E, sIf_E, t, toO_okE, if_neg (by decide), sNx_E]
  show (sRet _) (l33 one b 1) S = _
  rw [sRet_E, mLst_E, mArgs_cons, mFix_E, mC_E, bind_okE, fix_str, bind_okE, mArgs_cons, mFix_E, q]
  cases Φ k 17 [one] S with
  | ok d S1 =>
    rw [bind_okE]
    cases fixD false d S1 <;> rfl
  | exc c vs S1 => rfl
  | bad => rfl
theorem ask0_ok {x : D} (rx : isR x = true) (h : Φ k 16 [one] S = .ok x S) : Φ (k + 1) 33 [.int 0, one, .bl b] S = .ok (.tmp [.str sTOLD, x]) S :=
  ask_ok k one b 0 S (by rw [bodyA k one b S r1, h, bind_okE, fix_R rx, toO_okE])
theorem ask0_x2 {x : D} (rx : isR x = true) (h : Φ k 16 [one] S = .exc 1 [x] S) : Φ (k + 1) 33 [.int 0, one, .bl b] S = .ok (.tmp [.str sTERM, x]) S :=
  ask_x2 k one b 0 S r1 rx (by rw [bodyA k one b S r1, h, bind_excE, toO_excE])
theorem ask1_ok {x : D} (rx : isR x = true) (h : Φ k 17 [one] S = .ok x S) : Φ (k + 1) 33 [.int 1, one, .bl b] S = .ok (.tmp [.str sTOLD, x]) S :=
  ask_ok k one b 1 S (by rw [bodyB k one b S r1, h, bind_okE, fix_R rx, toO_okE])
theorem ask1_x2 {x : D} (rx : isR x = true) (h : Φ k 17 [one] S = .exc 1 [x] S) : Φ (k + 1) 33 [.int 1, one, .bl b] S = .ok (.tmp [.str sTERM, x]) S :=
  ask_x2 k one b 1 S r1 rx (by rw [bodyB k one b S r1, h, bind_excE, toO_excE])
end
end k03
end

section
set_option Elab.async false
set_option linter.all false
set_option maxRecDepth 100000
set_option maxHeartbeats 4000000
/-! k03, the plain law, part 33: terms, by the law. -/
namespace k03
open PySem PySem.Spec L2 LB

noncomputable def U1 : SB := mOr (mB (mOp2 opGt (mVar 2) (mC (.int 2000)))) (mOr (mNot (mTru (mIs ["tuple"] (mVar 3)))) (mOr (mB (mOp2 opNotIn (mCallB fLen [(false, mVar 3)]) (mTup [(false, mC (.int 2)), (false, mC (.int 3))]))) (mNot (mTru (mIs ["str"] (mOp2 opIx (mVar 3) (mC (.int 0))))))))
noncomputable def U2 (k : Nat) : SB := mOr (mB (mOp2 opNotIn (mOp2 opIx (mVar 3) (mC (.int 0))) (mTup [(false, mC (.str [118, 97, 114])), (false, mC (.str [108, 97, 109])), (false, mC (.str [97, 112, 112]))]))) (mOr (mB (mOp2 opNe (mCallB fLen [(false, mVar 3)]) (mOp2 opAdd (mC (.int 2)) (mCallB fInt [(false, mOp2 opNe (mOp2 opIx (mVar 3) (mC (.int 0))) (mC (.str [118, 97, 114])))])))) (mAnd (mB (mOp2 opNe (mOp2 opIx (mVar 3) (mC (.int 0))) (mC (.str [97, 112, 112])))) (mNot (mTru (mCall (Φ k 26) [(false, mOp2 opIx (mVar 3) (mC (.int 1)))])))))
noncomputable def xU : SE := mIf (mB (mOp2 opEq (mOp2 opIx (mVar 3) (mC (.int 0))) (mC (.str [97, 112, 112])))) (mCallB fList [(false, mSl (mVar 3) (mPart (mC (.int 1))) (mNo))]) (mCallB fList [(false, mSl (mVar 3) (mPart (mC (.int 2))) (mNo))])
noncomputable def bodyU (k : Nat) : SS := sSeq (sAsg (bN 3) false (mMeth isLs fPop (mVar 1) [])) (sSeq (sAsg (bN 2) false (mOp2 opAdd (mVar 2) (mC (.int 1)))) (sSeq (sIf U1 rF sNx) (sSeq (sIf (U2 k) rF sNx) (sDrop (mMeth isLs fExt (mVar 1) [(false, xU)])))))
theorem b27_eq (k : Nat) : b_27 (Φ k) = sSeq (sPar [1, 2] [(true, mLst [(false, mVar 0)]), (false, mC (.int 0))]) (sSeq (sWh (mB (mOp2 opNe (mVar 1) (mLst []))) (bodyU k)) (sRet (mC (.bl true)))) := rfl
section
variable {S : Store} {q : D} {c : Nat} {v : D} {n : Nat}
abbrev lU (q : D) (n c : Nat) (v : D) : LB.Loc := [some q, some (.ref n), some (.int (c : Nat)), some v]
theorem eU1 (g : good v = true) : U1 (lU q n (c + 1) v) S = .ok (!(decide (c + 1 ≤ 2000) && tupS v)) S := by
  unfold U1
  have u1 : mB (mOp2 opGt (mVar 2) (mC (.int 2000))) (lU q n (c + 1) v) S = .ok (!decide (c + 1 ≤ 2000)) S := by
    simp only [mB_E, mOp2_E, mVar_E, lookS, look0_int, of_someE, bind_okE, mC_E, gt_int]
    by_cases z : c + 1 ≤ 2000
    · rw [decide_eq_true z, decide_eq_false (by omega)]; rfl
    · rw [decide_eq_false z, decide_eq_true (by omega)]; rfl
  rw [mOr_E, u1, bind_okE]
  by_cases z : c + 1 ≤ 2000
  · rw [decide_eq_true z, if_neg (by decide), Bool.true_and]
    cases v with
    | tup xs =>
      have a1 : mNot (mTru (mIs ["tuple"] (mVar 3))) (lU q n (c + 1) (.tup xs)) S = .ok false S := by simp [isT]
      have a2 : mB (mOp2 opNotIn (mCallB fLen [(false, mVar 3)]) (mTup [(false, mC (.int 2)), (false, mC (.int 3))])) (lU q n (c + 1) (.tup xs)) S = .ok (!(decide ((xs.length : Int) = 2) || decide ((xs.length : Int) = 3))) S := by
        simp only [mB_E, mOp2_E, mCallB_E, mVar_E, lookS, look0_tup, of_someE, bind_okE, mTup_E, mArgs_cons, mFix_E, mC_E, fix_tup, fix_int, mArgs_nil, len_tupE, notin_23]
      rw [mOr_E, a1, bind_okE, if_neg (by decide), mOr_E, a2, bind_okE]
      match xs, g with
      | [], g => rfl
      | [a], g => rfl
      | [a, b], g =>
        rw [if_neg (by simp)]
        have t := ty_str_is (S := S) (l := lU q n (c + 1) (.tup [a, b])) (mOp2 opIx (mVar 3) (mC (.int 0))) (a := a) (by simp) (good2 g).1
        rw [mNot_E, mTru_E, t, bind_okE, tru_bl, of_someE, bind_okE]
        rfl
      | [a, b, e], g =>
        rw [if_neg (by simp)]
        have t := ty_str_is (S := S) (l := lU q n (c + 1) (.tup [a, b, e])) (mOp2 opIx (mVar 3) (mC (.int 0))) (a := a) (by simp) (good3 g).1
        rw [mNot_E, mTru_E, t, bind_okE, tru_bl, of_someE, bind_okE]
        rfl
      | a :: b :: e :: f :: r, g =>
        have n1 : ¬ (((a :: b :: e :: f :: r).length : Nat) : Int) = 2 := by simp; omega
        have n2 : ¬ (((a :: b :: e :: f :: r).length : Nat) : Int) = 3 := by simp; omega
        rw [decide_eq_false n1, decide_eq_false n2]
        rfl
    | _ => first | (simp [tupS, isT]; done) | cases g
  · rw [decide_eq_false z, if_pos (by decide)]; rfl
theorem in3 (s : List Nat) : opNotIn S (.str s) (.tup [.str sVAR, .str sLAM, .str sAPP]) = some (.bl (!decide (s ∈ [sVAR, sLAM, sAPP]))) := notin_strs S s [sVAR, sLAM, sAPP]
theorem eU2 (k : Nat) (g : good v = true) (ct : tupS v = true) : U2 (k + 1) (lU q n c v) S = .ok (!formT v) S := by
  unfold U2
  rcases tupS_cases ct with ⟨s, x, rfl⟩ | ⟨s, x, y, rfl⟩
  · have gx := (good2 g).2
    have rx := good_R gx
    have i2 := e_lname k x S gx
    by_cases c1 : s = sAPP
    · subst c1
      simp [formT, in3]
    · by_cases c2 : s = sVAR
      · subst c2
        simp [formT, in3, i2, fix_R rx]
      · by_cases c3 : s = sLAM
        · subst c3
          simp [formT, in3]
        · simp [formT, in3, c1, c2, c3]
  · have gx := (good3 g).2.1
    have rx := good_R gx
    have i2 := e_lname k x S gx
    by_cases c1 : s = sAPP
    · subst c1
      simp [formT, in3]
    · by_cases c2 : s = sVAR
      · subst c2
        simp [formT, in3]
      · by_cases c3 : s = sLAM
        · subst c3
          simp [formT, in3, i2, fix_R rx]
        · simp [formT, in3, c1, c2, c3]
theorem formT_tupS {v : D} (c : formT v = true) : tupS v = true := by
  rcases formT_cases c with ⟨x, rfl, _⟩ | ⟨x, y, rfl, _⟩ | ⟨x, y, rfl⟩ <;> rfl
theorem exU (c1 : formT v = true) : mFix false xU (lU q n c v) S = .ok (.lst (kidsT v)) S := by
  have f1 : ∀ xs : List D, fList S [.tup xs] = some (.tmp xs) := fun xs => rfl
  have cl : ∀ (x y : D), cutD [x, y] (some 2) none = [] := fun x y => by
    unfold cutD HT.sIx
    simp
  have cl3 : ∀ (x y z : D), cutD [x, y, z] (some 2) none = [z] := fun x y z => by
    unfold cutD HT.sIx
    simp
  unfold xU
  rcases formT_cases c1 with ⟨x, rfl, _⟩ | ⟨x, y, rfl, _⟩ | ⟨x, y, rfl⟩
  · simp [kidsT, f1, cl]
  · simp [kidsT, f1, cl3]
  · simp [kidsT, f1, cut_from1]
end
section
variable (k : Nat) (S : Store) (q : D)
theorem lawT_turn {v : D} {st : List D} {c : Nat} {p3 : Option D} (g : good v = true) (hl : st.length + 2 ≤ SL) :
    bodyU (k + 1) [some q, some (.ref S.length), some (.int c), p3] (S ++ [.lst ((v :: st).reverse)]) =
      if (decide (c + 1 ≤ 2000) && formT v) = true then .nx [some q, some (.ref S.length), some (.int (c + 1 : Nat)), some v] (S ++ [.lst (((kidsT v).reverse ++ st).reverse)])
      else .ret (.bl false) (S ++ [.lst st.reverse]) := by
  have rv := good_R g
  have hpo : fPop (S ++ [.lst ((v :: st).reverse)]) (.ref S.length) [] = .ok v (S ++ [.lst st.reverse]) := by
    rw [List.reverse_cons, pop_ref one0, one0s]
  unfold bodyU
  rw [sSeq_E, sAsg_E, mMeth_E]
  simp only [mVar_E, lookS, look0_ref, of_someE, bind_okE, isLs_ref one0, if_true, mArgs_nil, hpo, calm_okE, fix_R rv, toO_okE, bN_E]
  show sSeq _ _ [some q, some (.ref S.length), some (.int c), some v] (S ++ [.lst st.reverse]) = _
  have ha : sAsg (bN 2) false (mOp2 opAdd (mVar 2) (mC (.int 1))) [some q, some (.ref S.length), some (.int c), some v] (S ++ [.lst st.reverse]) = .nx (lU q S.length (c + 1) v) (S ++ [.lst st.reverse]) := rfl
  rw [sSeq_E, ha]
  show sSeq _ _ (lU q S.length (c + 1) v) (S ++ [.lst st.reverse]) = _
  rw [sSeq_E, sIf_E, eU1 g, toO_okE]
  by_cases c1 : (decide (c + 1 ≤ 2000) && tupS v) = true
  · obtain ⟨z1, ct⟩ := Bool.and_eq_true_iff.mp c1
    rw [c1, if_neg (by decide), sNx_E, z1, Bool.true_and]
    show sSeq _ _ (lU q S.length (c + 1) v) (S ++ [.lst st.reverse]) = _
    rw [sSeq_E, sIf_E, eU2 k g ct, toO_okE]
    by_cases c2 : formT v = true
    · rw [c2, if_neg (by decide), sNx_E, if_pos rfl]
      show sDrop _ (lU q S.length (c + 1) v) (S ++ [.lst st.reverse]) = _
      have kl := kidsT_len v
      have hex : fExt (S ++ [.lst st.reverse]) (.ref S.length) [.lst (kidsT v)] = .ok .non (S ++ [.lst (((kidsT v).reverse ++ st).reverse)]) := by
        rw [extL_ref one0 _ (by rw [List.length_reverse]; omega), one0s, List.reverse_append, List.reverse_reverse]
      rw [sDrop_E, mMeth_E]
      simp only [mVar_E, lookS, look0_ref, of_someE, bind_okE, isLs_ref one0, if_true, mArgs_cons, exU c2, mArgs_nil, hex, calm_okE, toO_okE]
    · rw [Bool.eq_false_iff.mpr c2, if_pos (by decide), if_neg (by decide)]
      rfl
  · have f : (decide (c + 1 ≤ 2000) && formT v) = false := by
      by_cases z : decide (c + 1 ≤ 2000) = true
      · rw [z, Bool.true_and] at c1 ⊢
        exact Bool.eq_false_iff.mpr fun h => c1 (formT_tupS h)
      · rw [Bool.eq_false_iff.mpr z, Bool.false_and]
    rw [f, Bool.eq_false_iff.mpr c1, if_pos (by decide), if_neg (by decide)]
    rfl
theorem lawT_loop : ∀ (f : Nat) (st : List D) (c : Nat) (p3 : Option D), wts st ≤ f → f + 2 ≤ SL → (∀ x ∈ st, good x = true) →
    ∃ W, sSeq (sWh (mB (mOp2 opNe (mVar 1) (mLst []))) (bodyU (k + 1))) (sRet (mC (.bl true))) [some q, some (.ref S.length), some (.int c), p3] (S ++ [.lst st.reverse]) = .ret (.bl (fitT f c st)) (S ++ [.lst W])
  | f, [], c, p3, _, _, _ => by
    refine ⟨[], ?_⟩
    rw [sSeq_E, sWh_step]
    have e : fitT f c [] = true := by cases f <;> rfl
    rw [e]
    simp [ne_nil (view_ref one0)]
  | 0, x :: st, c, p3, h, _, _ => by
    have := wt_pos x
    simp [wts] at h
    omega
  | f + 1, v :: st, c, p3, h, hf, g => by
    have gv := g v List.mem_cons_self
    have h : wt v + wts st ≤ f + 1 := h
    have hs := wts_len st
    have tst : mB (mOp2 opNe (mVar 1) (mLst [])) [some q, some (.ref S.length), some (.int c), p3] (S ++ [.lst ((v :: st).reverse)]) = .ok true (S ++ [.lst ((v :: st).reverse)]) := by
      simp only [mB_E, mOp2_E, mVar_E, lookS, look0_ref, of_someE, bind_okE, mLst_E, mArgs_nil, ne_nil (view_ref one0)]
      simp
    have wv := wt_pos v
    rw [sSeq_E, sWh_step, tst, toO_okE, if_pos rfl, lawT_turn k S q gv (by omega)]
    by_cases z : (decide (c + 1 ≤ 2000) && formT v) = true
    · rw [if_pos z]
      have cf : formT v = true := (Bool.and_eq_true_iff.mp z).2
      have kw := wt_kidsT cf
      obtain ⟨W, e⟩ := lawT_loop f ((kidsT v).reverse ++ st) (c + 1) (some v) (by rw [wts_app, wts_rev]; omega) (by omega) (fun x hx => by
        rcases List.mem_append.mp hx with hx | hx
        · exact good_kidsT gv cf x (List.mem_reverse.mp hx)
        · exact g x (List.mem_cons_of_mem _ hx))
      refine ⟨W, ?_⟩
      rw [sSeq_E] at e
      have er : fitT (f + 1) c (v :: st) = fitT f (c + 1) ((kidsT v).reverse ++ st) := by
        show (decide (c + 1 ≤ 2000) && (formT v && _)) = _
        rw [← Bool.and_assoc, z, Bool.true_and]
      rw [er]
      exact e
    · rw [if_neg z]
      refine ⟨st.reverse, ?_⟩
      have er : fitT (f + 1) c (v :: st) = false := by
        show (decide (c + 1 ≤ 2000) && (formT v && _)) = _
        rw [← Bool.and_assoc, Bool.eq_false_iff.mpr z, Bool.false_and]
      rw [er]
end
theorem e_lisT (k : Nat) (v : D) (S : Store) (g : good v = true) (h : wt v + 2 ≤ SL) : Φ (k + 2) 27 [v] S = .ok (.bl (fitsT v)) S := by
  have rv := good_R g
  obtain ⟨W, e⟩ := lawT_loop k S v (wt v) [v] 0 none (by simp [wts]) h (fun x hx => by rw [List.mem_singleton.mp hx]; exact g)
  have e0 : b_27 (Φ (k + 1)) [some v, none, none, none] S = .ret (.bl (fitsT v)) (S ++ [.lst W]) := by
    rw [b27_eq]
    have e2 : sPar [1, 2] [(true, mLst [(false, mVar 0)]), (false, mC (.int 0))] [some v, none, none, none] S = .nx [some v, some (.ref S.length), some (.int (0 : Nat)), none] (S ++ [.lst ([v].reverse)]) := by
      simp [look0 _ _ rv, fix_R rv]
    rw [sSeq_E, e2]
    exact e
  show runD 4 (b_27 (Φ (k + 1))) _ _ = _
  rw [run_ret e0]
  exact gc_app (by simp) (convT_pl rfl)
end k03
end

section
set_option Elab.async false
set_option linter.all false
set_option maxRecDepth 100000
set_option maxHeartbeats 4000000
/-! k03, the plain law, part 34: places, other terms at places. -/
namespace k03
open PySem PySem.Spec L2 LB

/-- places and parts, in reading order -/
def wk : Nt → List (List Nat × Nt)
  | .var s => [([], .var s)]
  | .lam s t => ([], .lam s t) :: (wk t).map fun p => (98 :: p.1, p.2)
  | .app a b => ([], .app a b) :: ((wk a).map (fun p => (102 :: p.1, p.2)) ++ (wk b).map fun p => (97 :: p.1, p.2))
theorem wk_len : ∀ t : Nt, (wk t).length = t.sz
  | .var s => rfl
  | .lam s t => by simp [wk, Nt.sz, wk_len t]
  | .app a b => by simp [wk, Nt.sz, wk_len a, wk_len b]
def pq (p : List Nat × Nt) : D := .tup [.str p.1, encN p.2]
def pr2 (z : List Nat) (p : List Nat × Nt) : List Nat × Nt := (z ++ p.1, p.2)
theorem pr2_pr2 (z : List Nat) (c : Nat) (ps : List (List Nat × Nt)) : (ps.map fun p => (c :: p.1, p.2)).map (pr2 z) = ps.map (pr2 (z ++ [c])) := by
  rw [List.map_map]
  refine List.map_congr_left fun p _ => ?_
  simp [pr2]
noncomputable def C28 : SB := mB (mOp2 opNe (mVar 2) (mLst []))
noncomputable def B28 : SS := sSeq (sAsg (bT [bN 3, bN 4]) false (mMeth isLs fPop (mVar 2) [])) (sSeq (sDrop (mMeth isLs fApp (mVar 1) [(false, mTup [(false, mVar 3), (false, mVar 4)])])) (sSeq (sIf (mB (mOp2 opEq (mOp2 opIx (mVar 4) (mC (.int 0))) (mC (.str [108, 97, 109])))) (sDrop (mMeth isLs fApp (mVar 2) [(false, mTup [(false, mOp2 opAdd (mVar 3) (mC (.str [98]))), (false, mOp2 opIx (mVar 4) (mC (.int 2)))])])) (sNx)) (sIf (mB (mOp2 opEq (mOp2 opIx (mVar 4) (mC (.int 0))) (mC (.str [97, 112, 112])))) (sDrop (mMeth isLs fExt (mVar 2) [(false, mLst [(false, mTup [(false, mOp2 opAdd (mVar 3) (mC (.str [97]))), (false, mOp2 opIx (mVar 4) (mC (.int 2)))]), (false, mTup [(false, mOp2 opAdd (mVar 3) (mC (.str [102]))), (false, mOp2 opIx (mVar 4) (mC (.int 1)))])])])) (sNx))))
theorem b28_eq (k : Nat) : b_28 (Φ k) = sSeq (sPar [1, 2] [(true, mLst []), (true, mLst [(false, mTup [(false, mC (.str [])), (false, mVar 0)])])]) (sSeq (sWh C28 B28) (sRet (mVar 1))) := rfl
section
variable (S : Store) (q : D)
abbrev lW (q : D) (n : Nat) (p3 p4 : Option D) : LB.Loc := [some q, some (.ref n), some (.ref (n + 1)), p3, p4]
def nxt (z : List Nat) : Nt → List D
  | .var _ => []
  | .lam _ t => [pq (z ++ [98], t)]
  | .app a b => [pq (z ++ [97], b), pq (z ++ [102], a)]
theorem wk_turn (z : List Nat) (t : Nt) (F W : List D) (p3 p4 : Option D) (h1 : F.length < SL) (h2 : W.length + 2 ≤ SL) (hz : z.length + 1 ≤ SL) :
    B28 (lW q S.length p3 p4) (S ++ [.lst F, .lst (W ++ [pq (z, t)])]) = .nx (lW q S.length (some (.str z)) (some (encN t))) (S ++ [.lst (F ++ [pq (z, t)]), .lst (W ++ nxt z t)]) := by
  have hpo : fPop (S ++ [.lst F, .lst (W ++ [pq (z, t)])]) (.ref (S.length + 1)) [] = .ok (pq (z, t)) (S ++ [.lst F, .lst W]) := by
    rw [pop_ref two1, two1s]
  have hap : fApp (S ++ [.lst F, .lst W]) (.ref S.length) [.tup [.str z, encN t]] = .ok .non (S ++ [.lst (F ++ [pq (z, t)]), .lst W]) := by
    rw [app_ref two0 _ h1, two0s]
    rfl
  have ad : ∀ (T : Store) (c : Nat), opAdd T (.str z) (.str [c]) = some (.str (z ++ [c])) := fun T c => add_str T _ _ (by simpa using hz)
  unfold B28
  have hb : (bT [bN 3, bN 4]).run (pq (z, t)) (lW q S.length p3 p4) = some (lW q S.length (some (.str z)) (some (encN t))) := by simp [pq]
  have e1 : sAsg (bT [bN 3, bN 4]) false (mMeth isLs fPop (mVar 2) []) (lW q S.length p3 p4) (S ++ [.lst F, .lst (W ++ [pq (z, t)])]) = .nx (lW q S.length (some (.str z)) (some (encN t))) (S ++ [.lst F, .lst W]) := by
    rw [sAsg_E, mMeth_E]
    simp only [mVar_E, lookS, look0_ref, of_someE, bind_okE, isLs_ref two1, if_true, mArgs_nil, hpo, calm_okE]
    rw [show fixD false (pq (z, t)) (S ++ [SO.lst F, .lst W]) = .ok (pq (z, t)) (S ++ [SO.lst F, .lst W]) from fix_tup _ _, toO_okE, hb]
  have e2 : sDrop (mMeth isLs fApp (mVar 1) [(false, mTup [(false, mVar 3), (false, mVar 4)])]) (lW q S.length (some (.str z)) (some (encN t))) (S ++ [.lst F, .lst W]) = .nx (lW q S.length (some (.str z)) (some (encN t))) (S ++ [.lst (F ++ [pq (z, t)]), .lst W]) := by
    rw [sDrop_E, mMeth_E]
    simp only [mVar_E, lookS, look0_ref, look0_str, look0_encN, of_someE, bind_okE, isLs_ref two0, if_true, mArgs_cons, mFix_E, mTup_E, fix_str, fix_encN, mArgs_nil, fix_tup, hap, calm_okE, toO_okE]
  rw [sSeq_E, e1]
  show sSeq _ _ (lW q S.length (some (.str z)) (some (encN t))) (S ++ [.lst F, .lst W]) = _
  rw [sSeq_E, e2]
  show sSeq _ _ (lW q S.length (some (.str z)) (some (encN t))) (S ++ [.lst (F ++ [pq (z, t)]), .lst W]) = _
  cases t with
  | var s => simp [encN, nxt]
  | lam s t =>
    have ha : fApp (S ++ [.lst (F ++ [pq (z, .lam s t)]), .lst W]) (.ref (S.length + 1)) [.tup [.str (z ++ [98]), encN t]] = .ok .non (S ++ [.lst (F ++ [pq (z, .lam s t)]), .lst (W ++ [pq (z ++ [98], t)])]) := by
      rw [app_ref two1 _ (by omega), two1s]
      rfl
    have u1 : mB (mOp2 opEq (mOp2 opIx (mVar 4) (mC (.int 0))) (mC (.str [108, 97, 109]))) (lW q S.length (some (.str z)) (some (encN (.lam s t)))) (S ++ [.lst (F ++ [pq (z, .lam s t)]), .lst W]) = .ok true (S ++ [.lst (F ++ [pq (z, .lam s t)]), .lst W]) := by simp [encN]
    have u2 : ∀ T : Store, mB (mOp2 opEq (mOp2 opIx (mVar 4) (mC (.int 0))) (mC (.str [97, 112, 112]))) (lW q S.length (some (.str z)) (some (encN (.lam s t)))) T = .ok false T := fun T => by simp [encN]
    rw [sSeq_E, sIf_E, u1, toO_okE, if_pos rfl, sDrop_E, mMeth_E]
    simp only [encN, mVar_E, lookS, look0_ref, look0_str, look0_tup, of_someE, bind_okE, isLs_ref two1, if_true, mArgs_cons, mFix_E, mTup_E, mOp2_E, mC_E, ad, ix_tupE, at2, fix_str, fix_encN, mArgs_nil, fix_tup, ha, calm_okE, toO_okE]
    have u2 := u2 (S ++ [.lst (F ++ [pq (z, .lam s t)]), .lst (W ++ [pq (z ++ [98], t)])])
    simp only [encN] at u2
    rw [sIf_E, u2, toO_okE, if_neg (by decide), sNx_E]
    rfl
  | app a b =>
    have ha : fExt (S ++ [.lst (F ++ [pq (z, .app a b)]), .lst W]) (.ref (S.length + 1)) [.lst [.tup [.str (z ++ [97]), encN b], .tup [.str (z ++ [102]), encN a]]] = .ok .non (S ++ [.lst (F ++ [pq (z, .app a b)]), .lst (W ++ [pq (z ++ [97], b), pq (z ++ [102], a)])]) := by
      rw [extL_ref two1 _ (by simpa using h2), two1s]
      rfl
    have u1 : mB (mOp2 opEq (mOp2 opIx (mVar 4) (mC (.int 0))) (mC (.str [108, 97, 109]))) (lW q S.length (some (.str z)) (some (encN (.app a b)))) (S ++ [.lst (F ++ [pq (z, .app a b)]), .lst W]) = .ok false (S ++ [.lst (F ++ [pq (z, .app a b)]), .lst W]) := by simp [encN]
    have u2 : mB (mOp2 opEq (mOp2 opIx (mVar 4) (mC (.int 0))) (mC (.str [97, 112, 112]))) (lW q S.length (some (.str z)) (some (encN (.app a b)))) (S ++ [.lst (F ++ [pq (z, .app a b)]), .lst W]) = .ok true (S ++ [.lst (F ++ [pq (z, .app a b)]), .lst W]) := by simp [encN]
    rw [sSeq_E, sIf_E, u1, toO_okE, if_neg (by decide), sNx_E]
    show sIf _ _ _ (lW q S.length (some (.str z)) (some (encN (.app a b)))) _ = _
    rw [sIf_E, u2, toO_okE, if_pos rfl, sDrop_E, mMeth_E]
    simp only [encN, mVar_E, lookS, look0_ref, look0_str, look0_tup, of_someE, bind_okE, isLs_ref two1, if_true, mArgs_cons, mFix_E, mLst_E, mTup_E, mOp2_E, mC_E, ad, ix_tupE, at1, at2, fix_str, fix_encN, mArgs_nil, fix_tup, fix_tmpF, ha, calm_okE, toO_okE]
    rfl
theorem wk_test (F W : List D) (v : D) (p3 p4 : Option D) : C28 (lW q S.length p3 p4) (S ++ [.lst F, .lst (W ++ [v])]) = .ok true (S ++ [.lst F, .lst (W ++ [v])]) := by
  unfold C28
  simp only [mB_E, mOp2_E, mVar_E, lookS, look0_ref, of_someE, bind_okE, mLst_E, mArgs_nil, ne_nil (view_ref two1)]
  simp
theorem wk_step (z : List Nat) (t : Nt) (F W : List D) (p3 p4 : Option D) (h1 : F.length < SL) (h2 : W.length + 2 ≤ SL) (hz : z.length + 1 ≤ SL) :
    sWh C28 B28 (lW q S.length p3 p4) (S ++ [.lst F, .lst (W ++ [pq (z, t)])]) = sWh C28 B28 (lW q S.length (some (.str z)) (some (encN t))) (S ++ [.lst (F ++ [pq (z, t)]), .lst (W ++ nxt z t)]) := by
  rw [sWh_step, wk_test, toO_okE, if_pos rfl, wk_turn S q z t F W p3 p4 h1 h2 hz]
theorem wk_sub : ∀ (t : Nt) (z : List Nat) (F W : List D) (p3 p4 : Option D), F.length + t.sz ≤ 100000 → W.length + 2 * t.sz ≤ 100000 → z.length + t.sz ≤ 100000 →
    ∃ p3' p4', sWh C28 B28 (lW q S.length p3 p4) (S ++ [.lst F, .lst (W ++ [pq (z, t)])]) = sWh C28 B28 (lW q S.length p3' p4') (S ++ [.lst (F ++ ((wk t).map (pr2 z)).map pq), .lst W])
  | .var s, z, F, W, p3, p4, h1, h2, h3 => by
    simp only [Nt.sz] at h1 h2 h3
    refine ⟨some (.str z), some (encN (.var s)), ?_⟩
    rw [wk_step S q z (.var s) F W p3 p4 (SL_lt (by omega)) (SL_ge (by omega)) (SL_ge (by omega))]
    simp only [nxt, List.append_nil]
    have : ((wk (.var s)).map (pr2 z)).map pq = [pq (z, .var s)] := by simp [wk, pr2]
    rw [this]
  | .lam s t, z, F, W, p3, p4, h1, h2, h3 => by
    simp only [Nt.sz] at h1 h2 h3
    have pt := t.sz_pos
    obtain ⟨x, y, e⟩ := wk_sub t (z ++ [98]) (F ++ [pq (z, .lam s t)]) W (some (.str z)) (some (encN (.lam s t))) (by simp; omega) (by omega) (by simp; omega)
    refine ⟨x, y, ?_⟩
    rw [wk_step S q z (.lam s t) F W p3 p4 (SL_lt (by omega)) (SL_ge (by omega)) (SL_ge (by omega))]
    simp only [nxt]
    rw [e]
    have : F ++ ((wk (.lam s t)).map (pr2 z)).map pq = F ++ [pq (z, .lam s t)] ++ ((wk t).map (pr2 (z ++ [98]))).map pq := by
      simp only [wk, List.map_cons, pr2_pr2]
      simp [pr2]
    rw [this]
  | .app a b, z, F, W, p3, p4, h1, h2, h3 => by
    simp only [Nt.sz] at h1 h2 h3
    have pa := a.sz_pos
    have pb := b.sz_pos
    obtain ⟨x, y, e⟩ := wk_sub a (z ++ [102]) (F ++ [pq (z, .app a b)]) (W ++ [pq (z ++ [97], b)]) (some (.str z)) (some (encN (.app a b))) (by simp; omega) (by simp; omega) (by simp; omega)
    obtain ⟨x2, y2, e2⟩ := wk_sub b (z ++ [97]) (F ++ [pq (z, .app a b)] ++ ((wk a).map (pr2 (z ++ [102]))).map pq) W x y (by simp [wk_len]; omega) (by omega) (by simp; omega)
    refine ⟨x2, y2, ?_⟩
    rw [wk_step S q z (.app a b) F W p3 p4 (SL_lt (by omega)) (SL_ge (by omega)) (SL_ge (by omega))]
    have hn : W ++ nxt z (.app a b) = W ++ [pq (z ++ [97], b)] ++ [pq (z ++ [102], a)] := by simp [nxt]
    rw [hn, e, e2]
    have : F ++ ((wk (.app a b)).map (pr2 z)).map pq = F ++ [pq (z, .app a b)] ++ ((wk a).map (pr2 (z ++ [102]))).map pq ++ ((wk b).map (pr2 (z ++ [97]))).map pq := by
      simp only [wk, List.map_cons, List.map_append, pr2_pr2]
      simp [pr2]
    rw [this]
end
theorem pl_pq (p : List Nat × Nt) : pl (pq p) = true := by
  show (true && (pl (encN p.2) && true)) = true
  rw [pl_encN]
  rfl
theorem e_walk (k : Nat) (t : Nt) (S : Store) (h : t.sz ≤ 20000) : Φ (k + 1) 28 [encN t] S = .ok (.tmp ((wk t).map pq)) S := by
  obtain ⟨x, y, e⟩ := wk_sub S (encN t) t [] [] [] none none (by simp; omega) (by simp; omega) (by simp; omega)
  have er : ((wk t).map (pr2 [])).map pq = (wk t).map pq := by
    rw [List.map_map]
    exact List.map_congr_left fun p _ => rfl
  rw [er] at e
  have e0 : b_28 (Φ k) [some (encN t), none, none, none, none] S = .ret (.ref S.length) (S ++ [.lst ((wk t).map pq), .lst []]) := by
    rw [b28_eq]
    have e2 : sPar [1, 2] [(true, mLst []), (true, mLst [(false, mTup [(false, mC (.str [])), (false, mVar 0)])])] [some (encN t), none, none, none, none] S = .nx (lW (encN t) S.length none none) (S ++ [.lst [], .lst ([] ++ [pq ([], t)])]) := by
      simp [pq]
    rw [sSeq_E, e2]
    show sSeq _ _ (lW (encN t) S.length none none) (S ++ [.lst [], .lst ([] ++ [pq ([], t)])]) = _
    rw [sSeq_E, e, sWh_step]
    have tst : C28 (lW (encN t) S.length x y) (S ++ [.lst ([] ++ (wk t).map pq), .lst []]) = .ok false (S ++ [.lst ([] ++ (wk t).map pq), .lst []]) := by
      unfold C28
      simp only [mB_E, mOp2_E, mVar_E, lookS, look0_ref, of_someE, bind_okE, mLst_E, mArgs_nil, ne_nil (view_ref two1)]
      simp
    rw [tst, toO_okE, if_neg (by decide)]
    show (sRet (mVar 1)) (lW (encN t) S.length x y) (S ++ [.lst ([] ++ (wk t).map pq), .lst []]) = _
    rw [sRet_E]
    simp only [mVar_E, lookS, look0_ref, of_someE, toO_okE, List.nil_append]
  show runD 5 (b_28 (Φ k)) _ _ = _
  rw [run_ret e0]
  exact gc_app (by simp) (convT_ref (Nat.le_refl _) two0 (pls_map pl_pq _))
/-! another value at a place -/
theorem e_with {o : D} (go : good o = true) : ∀ (t : Nt) (z : List Nat) (u : Nt) (k : Nat) (S : Store), okN t → (z, u) ∈ wk t → t.dp < k → t.dp ≤ 100000 →
    ∃ v, Φ k 29 [encN t, .str z, o] S = .ok v S ∧ good v = true ∧ wt v ≤ wt (encN t) + wt o ∧ dep v ≤ dep (encN t) + dep o ∧ z.length ≤ t.dp ∧ okN u ∧ u.sz ≤ t.sz
  | t, z, u, 0, S, _, _, hk, _ => absurd hk (Nat.not_lt_zero _)
  | t, [], u, k + 1, S, h, hz, hk, hd => by
    have ro := good_R go
    refine ⟨o, ?_, go, by omega, by omega, Nat.zero_le _, ?_⟩
    · have t1 : mB (mOp2 opEq (mVar 1) (mC (.str []))) [some (encN t), some (.str []), some o] S = .ok true S := by simp
      have e0 : b_29 (Φ k) [some (encN t), some (.str []), some o] S = .ret o S := by
        unfold b_29
        rw [sSeq_E, sIf_E, t1, toO_okE, if_pos rfl, sRet_E]
        simp only [mVar_E, lookS, look0 _ _ ro, of_someE, toO_okE]
      show runD 3 (b_29 (Φ k)) _ _ = _
      rw [run_ret e0, gc_same]
    · have : u = t := by
        cases t with
        | var s => simp [wk] at hz; exact hz
        | lam s t => simp [wk] at hz; exact hz
        | app a b => simp [wk] at hz; exact hz
      subst this
      exact ⟨h, Nat.le_refl _⟩
  | .var s, c :: z, u, k + 1, S, h, hz, hk, hd => by
    simp [wk] at hz
  | .lam s t, c :: z, u, k + 1, S, h, hz, hk, hd => by
    have ro := good_R go
    simp only [Nt.dp] at hk hd
    simp only [wk, List.mem_cons, List.mem_map, Prod.mk.injEq] at hz
    rcases hz with ⟨hz, _⟩ | ⟨⟨z', u'⟩, hm, e1, e2⟩
    · cases hz
    · simp only [List.cons.injEq] at e1
      obtain ⟨rfl, rfl⟩ := e1
      subst e2
      obtain ⟨v, e, g, w, d, l, ou, su⟩ := e_with go t z' u' k S h.2 hm (by omega) (by omega)
      have rv := good_R g
      refine ⟨.tup [.str sLAM, .str s, v], ?_, ?_, ?_, ?_, ?_, ou, by simp only [Nt.sz]; omega⟩
      · have x1 : opIx S (.str (98 :: z')) (.int 0) = some (.str [98]) := by
          rw [ix_strE (SL_ge (by simp; omega)), at0]
          rfl
        have x2 : opSl S (.str (98 :: z')) (some 1) none = some (.str z') := by
          rw [sl_strE (SL_ge (by simp; omega)), cut_from1]
        have e0 : b_29 (Φ k) [some (encN (.lam s t)), some (.str (98 :: z')), some o] S = .ret (.tup [.str sLAM, .str s, v]) S := by
          unfold b_29
          simp [encN, x1, x2, look0 _ _ ro, fix_R ro, e, fix_R rv]
        show runD 3 (b_29 (Φ k)) _ _ = _
        rw [run_ret e0, gc_same]
      · have := isNm_len h.1
        simp [good, goods, g, SL]
        omega
      · have := wt_encN t
        simp only [encN, wt, wts] at *
        omega
      · simp only [encN, dep, deps] at *
        omega
      · simp only [List.length_cons, Nt.dp]
        omega
  | .app a b, c :: z, u, k + 1, S, h, hz, hk, hd => by
    have ro := good_R go
    simp only [Nt.dp] at hk hd
    simp only [wk, List.mem_cons, List.mem_append, List.mem_map, Prod.mk.injEq] at hz
    have wa := wt_encN a
    have wb := wt_encN b
    rcases hz with ⟨hz, _⟩ | ⟨⟨z', u'⟩, hm, e1, e2⟩ | ⟨⟨z', u'⟩, hm, e1, e2⟩
    · cases hz
    · simp only [List.cons.injEq] at e1
      obtain ⟨rfl, rfl⟩ := e1
      subst e2
      obtain ⟨v, e, g, w, d, l, ou, su⟩ := e_with go a z' u' k S h.1 hm (by omega) (by omega)
      have rv := good_R g
      have gb := good_encN h.2
      refine ⟨.tup [.str sAPP, v, encN b], ?_, ?_, ?_, ?_, ?_, ou, by simp only [Nt.sz]; omega⟩
      · have x1 : opIx S (.str (102 :: z')) (.int 0) = some (.str [102]) := by
          rw [ix_strE (SL_ge (by simp; omega)), at0]
          rfl
        have x2 : opSl S (.str (102 :: z')) (some 1) none = some (.str z') := by
          rw [sl_strE (SL_ge (by simp; omega)), cut_from1]
        have e0 : b_29 (Φ k) [some (encN (.app a b)), some (.str (102 :: z')), some o] S = .ret (.tup [.str sAPP, v, encN b]) S := by
          unfold b_29
          simp [encN, x1, x2, look0 _ _ ro, fix_R ro, e, fix_R rv]
        show runD 3 (b_29 (Φ k)) _ _ = _
        rw [run_ret e0, gc_same]
      · simp [good, goods, g, gb, SL]
      · simp only [encN, wt, wts] at *
        omega
      · simp only [encN, dep, deps] at *
        omega
      · simp only [List.length_cons, Nt.dp]
        omega
    · simp only [List.cons.injEq] at e1
      obtain ⟨rfl, rfl⟩ := e1
      subst e2
      obtain ⟨v, e, g, w, d, l, ou, su⟩ := e_with go b z' u' k S h.2 hm (by omega) (by omega)
      have rv := good_R g
      have ga := good_encN h.1
      refine ⟨.tup [.str sAPP, encN a, v], ?_, ?_, ?_, ?_, ?_, ou, by simp only [Nt.sz]; omega⟩
      · have x1 : opIx S (.str (97 :: z')) (.int 0) = some (.str [97]) := by
          rw [ix_strE (SL_ge (by simp; omega)), at0]
          rfl
        have x2 : opSl S (.str (97 :: z')) (some 1) none = some (.str z') := by
          rw [sl_strE (SL_ge (by simp; omega)), cut_from1]
        have e0 : b_29 (Φ k) [some (encN (.app a b)), some (.str (97 :: z')), some o] S = .ret (.tup [.str sAPP, encN a, v]) S := by
          unfold b_29
          simp [encN, x1, x2, look0 _ _ ro, fix_R ro, e, fix_R rv]
        show runD 3 (b_29 (Φ k)) _ _ = _
        rw [run_ret e0, gc_same]
      · simp [good, goods, g, ga, SL]
      · simp only [encN, wt, wts] at *
        omega
      · simp only [encN, dep, deps] at *
        omega
      · simp only [List.length_cons, Nt.dp]
        omega
end k03
end

section
set_option Elab.async false
set_option linter.all false
set_option maxRecDepth 100000
set_option maxHeartbeats 4000000
/-! k03, the plain law, part 35: values near a term. -/
namespace k03
open PySem PySem.Spec L2 LB

theorem goods_app (a b : List D) : goods (a ++ b) = (goods a && goods b) := by
  induction a with
  | nil => simp [goods]
  | cons x a ih => simp [goods, ih, Bool.and_assoc]
theorem deps_app (a b : List D) : deps (a ++ b) = max (deps a) (deps b) := by
  induction a with
  | nil => simp [deps]
  | cons x a ih => simp [deps, ih, Nat.max_assoc]
def odd1 (xs : List D) : List D := [.tup [.str [118, 97, 114]], .tup [.str [118, 97, 114], .str []], .tup [.str [118, 97, 114], .str [97, 98, 99, 100, 101]], .tup [.str [118, 97, 114], .str [88]], .tup [.str [118, 97, 114], .str [120, 49]], .tup [.str [118, 97, 114], .non], .tup [.str [108, 97, 109], .str [120]], .tup [.str [108, 97, 109], .tup [.str [118, 97, 114], .str [120]], .tup xs], .tup [.str [108, 97, 109], .str [120], .tup xs, .tup xs], .tup [.str [97, 112, 112], .tup xs]]
def odd2 (xs : List D) : List D := [.tup [.str [97, 112, 112], .tup xs, .tup xs, .tup xs], .lst [.str [118, 97, 114], .str [120]], .tup [.str [110, 117, 109], .int 0], .tup [.str [86, 97, 114], .str [120]], .non, .str [120], .int 7, .bl true, .tup [], .tup [.str [97, 112, 112], .tup xs, .str [120]], .tup [.str [97, 112, 112], .non, .tup xs], .tup [.str [108, 97, 109], .str [120], .non], .lst xs, .tup (xs ++ [.tup xs])]
def odd3 (xs : List D) : List D := [.tup [.str [118, 97, 114], .str [97, 98, 99, 100]], .tup [.str [108, 97, 109], .str [122, 122, 122, 122], .tup xs], .tup [.str [97, 112, 112], .tup xs, .tup xs], .tup [.str [118, 97, 114], .str [120], .str [121]], .dic [] [], .tup [.str [108, 97, 109], .int 1, .tup xs], .tup [.str [102, 114, 101, 101], .str [120]]]
noncomputable def O1 : SE := (mLst [(false, mTup [(false, mC (.str [118, 97, 114]))]), (false, mTup [(false, mC (.str [118, 97, 114])), (false, mC (.str []))]), (false, mTup [(false, mC (.str [118, 97, 114])), (false, mC (.str [97, 98, 99, 100, 101]))]), (false, mTup [(false, mC (.str [118, 97, 114])), (false, mC (.str [88]))]), (false, mTup [(false, mC (.str [118, 97, 114])), (false, mC (.str [120, 49]))]), (false, mTup [(false, mC (.str [118, 97, 114])), (false, mC .non)]), (false, mTup [(false, mC (.str [108, 97, 109])), (false, mC (.str [120]))]), (false, mTup [(false, mC (.str [108, 97, 109])), (false, mTup [(false, mC (.str [118, 97, 114])), (false, mC (.str [120]))]), (false, mVar 4)]), (false, mTup [(false, mC (.str [108, 97, 109])), (false, mC (.str [120])), (false, mVar 4), (false, mVar 4)]), (false, mTup [(false, mC (.str [97, 112, 112])), (false, mVar 4)])])
noncomputable def O2 : SE := (mLst [(false, mTup [(false, mC (.str [97, 112, 112])), (false, mVar 4), (false, mVar 4), (false, mVar 4)]), (false, mLst [(false, mC (.str [118, 97, 114])), (false, mC (.str [120]))]), (false, mTup [(false, mC (.str [110, 117, 109])), (false, mC (.int 0))]), (false, mTup [(false, mC (.str [86, 97, 114])), (false, mC (.str [120]))]), (false, mC .non), (false, mC (.str [120])), (false, mC (.int 7)), (false, mC (.bl true)), (false, mTup []), (false, mTup [(false, mC (.str [97, 112, 112])), (false, mVar 4), (false, mC (.str [120]))]), (false, mTup [(false, mC (.str [97, 112, 112])), (false, mC .non), (false, mVar 4)]), (false, mTup [(false, mC (.str [108, 97, 109])), (false, mC (.str [120])), (false, mC .non)]), (false, mCallB fList [(false, mVar 4)]), (false, mOp2 opAdd (mVar 4) (mTup [(false, mVar 4)]))])
noncomputable def O3 : SE := (mLst [(false, mTup [(false, mC (.str [118, 97, 114])), (false, mC (.str [97, 98, 99, 100]))]), (false, mTup [(false, mC (.str [108, 97, 109])), (false, mC (.str [122, 122, 122, 122])), (false, mVar 4)]), (false, mTup [(false, mC (.str [97, 112, 112])), (false, mVar 4), (false, mVar 4)]), (false, mTup [(false, mC (.str [118, 97, 114])), (false, mC (.str [120])), (false, mC (.str [121]))]), (false, mDic0), (false, mTup [(false, mC (.str [108, 97, 109])), (false, mC (.int 1)), (false, mVar 4)]), (false, mTup [(false, mC (.str [102, 114, 101, 101])), (false, mC (.str [120]))])])
theorem b30o_eq (k : Nat) : b_30 (Φ k) = sSeq (sAsg (bN 2) false (mCall (Φ k 28) [(false, mVar 1)])) (sSeq (sAsg (bT [bN 3, bN 4]) false (mOp2 opIx (mVar 2) (mCall (Φ k 20) [(true, mVar 0), (false, mCallB fLen [(false, mVar 2)])]))) (sSeq (sAsg (bN 5) false O1) (sSeq (sAsg (bN 5) false (mOp2 opAdd (mVar 5) O2)) (sSeq (sAsg (bN 5) false (mOp2 opAdd (mVar 5) O3)) (sRet (mCall (Φ k 29) [(false, mVar 1), (false, mVar 3), (false, mOp2 opIx (mVar 5) (mCall (Φ k 20) [(true, mVar 0), (false, mCallB fLen [(false, mVar 5)])]))])))))) := rfl
def nearQ (xs : List D) (v : D) : Prop := good v = true ∧ wt v ≤ 3 * wt (.tup xs) + 10 ∧ dep v ≤ dep (.tup xs) + 2
theorem odd1_ok {xs : List D} (g : good (.tup xs) = true) (hl : xs.length ≤ 4) : ∀ v ∈ odd1 xs, nearQ xs v := by
  have gs : goods xs = true := (Bool.and_eq_true_iff.mp g).1
  simp only [odd1, List.forall_mem_cons, List.not_mem_nil, false_imp_iff, implies_true, and_true]
  refine ⟨?_, ?_, ?_, ?_, ?_, ?_, ?_, ?_, ?_, ?_⟩
  all_goals (refine ⟨?_, ?_, ?_⟩ <;> first | rfl | (simp [good, goods, SL, gs, goods_app]; done) | (simp [good, goods, SL, gs, goods_app]; omega) | (simp [wt, wts, wts_app]; done) | (simp [wt, wts, wts_app]; omega) | (simp [dep, deps, deps_app]; done) | (simp [dep, deps, deps_app]; omega) | decide)
theorem odd2_ok {xs : List D} (g : good (.tup xs) = true) (hl : xs.length ≤ 4) : ∀ v ∈ odd2 xs, nearQ xs v := by
  have gs : goods xs = true := (Bool.and_eq_true_iff.mp g).1
  simp only [odd2, List.forall_mem_cons, List.not_mem_nil, false_imp_iff, implies_true, and_true]
  refine ⟨?_, ?_, ?_, ?_, ?_, ?_, ?_, ?_, ?_, ?_, ?_, ?_, ?_, ?_⟩
  all_goals (refine ⟨?_, ?_, ?_⟩ <;> first | rfl | (simp [good, goods, SL, gs, goods_app]; done) | (simp [good, goods, SL, gs, goods_app]; omega) | (simp [wt, wts, wts_app]; done) | (simp [wt, wts, wts_app]; omega) | (simp [dep, deps, deps_app]; done) | (simp [dep, deps, deps_app]; omega) | decide)
theorem odd3_ok {xs : List D} (g : good (.tup xs) = true) (hl : xs.length ≤ 4) : ∀ v ∈ odd3 xs, nearQ xs v := by
  have gs : goods xs = true := (Bool.and_eq_true_iff.mp g).1
  simp only [odd3, List.forall_mem_cons, List.not_mem_nil, false_imp_iff, implies_true, and_true]
  refine ⟨?_, ?_, ?_, ?_, ?_, ?_, ?_⟩
  all_goals (refine ⟨?_, ?_, ?_⟩ <;> first | rfl | (simp [good, goods, SL, gs, goods_app]; done) | (simp [good, goods, SL, gs, goods_app]; omega) | (simp [wt, wts, wts_app]; done) | (simp [wt, wts, wts_app]; omega) | (simp [dep, deps, deps_app]; done) | (simp [dep, deps, deps_app]; omega) | decide)
theorem o1_E {l : LB.Loc} {T : Store} {xs : List D} (h4 : look l 4 = some (.tup xs)) (hl : xs.length ≤ 4) : O1 l T = .ok (.tmp (odd1 xs)) T := by
  have f1 : fList T [.tup xs] = some (.tmp xs) := rfl
  have f2 : opAdd T (.tup xs) (.tup [.tup xs]) = some (.tup (xs ++ [.tup xs])) := add_tup T xs [.tup xs] (SL_ge (by simp; omega))
  unfold O1
  simp only [mLst_E, mTup_E, mOp2_E, mCallB_E, mArgs_cons, mFix_E, mC_E, mDic0_E, mVar_E, h4, of_someE, bind_okE, fix_non, fix_int, fix_bl, fix_str, fix_tmpF, fix_tup, fix_tdicF, mArgs_nil, f1, f2]
  rfl
theorem o2_E {l : LB.Loc} {T : Store} {xs : List D} (h4 : look l 4 = some (.tup xs)) (hl : xs.length ≤ 4) : O2 l T = .ok (.tmp (odd2 xs)) T := by
  have f1 : fList T [.tup xs] = some (.tmp xs) := rfl
  have f2 : opAdd T (.tup xs) (.tup [.tup xs]) = some (.tup (xs ++ [.tup xs])) := add_tup T xs [.tup xs] (SL_ge (by simp; omega))
  unfold O2
  simp only [mLst_E, mTup_E, mOp2_E, mCallB_E, mArgs_cons, mFix_E, mC_E, mDic0_E, mVar_E, h4, of_someE, bind_okE, fix_non, fix_int, fix_bl, fix_str, fix_tmpF, fix_tup, fix_tdicF, mArgs_nil, f1, f2]
  rfl
theorem o3_E {l : LB.Loc} {T : Store} {xs : List D} (h4 : look l 4 = some (.tup xs)) (hl : xs.length ≤ 4) : O3 l T = .ok (.tmp (odd3 xs)) T := by
  have f1 : fList T [.tup xs] = some (.tmp xs) := rfl
  have f2 : opAdd T (.tup xs) (.tup [.tup xs]) = some (.tup (xs ++ [.tup xs])) := add_tup T xs [.tup xs] (SL_ge (by simp; omega))
  unfold O3
  simp only [mLst_E, mTup_E, mOp2_E, mCallB_E, mArgs_cons, mFix_E, mC_E, mDic0_E, mVar_E, h4, of_someE, bind_okE, fix_non, fix_int, fix_bl, fix_str, fix_tmpF, fix_tup, fix_tdicF, mArgs_nil, f1, f2]
  rfl
theorem encN_tup (t : Nt) : ∃ xs, encN t = .tup xs ∧ xs.length ≤ 4 := by
  cases t with
  | var s => exact ⟨_, rfl, by simp⟩
  | lam s t => exact ⟨_, rfl, by simp⟩
  | app a b => exact ⟨_, rfl, by simp⟩
section
variable {k n : Nat} {S : Store} {x : Bx} {N : Int} {t : Nt}
theorem e_lodd (h : S[n]? = some x.o) (ok : x.ok N) (hN : N + 2 < 1000000000) (ht : okN t) (hz : t.sz ≤ 60) :
    ∃ v y, Φ (k + 101) 30 [.ref n, encN t] S = .ok v (S.set n (Bx.o y)) ∧ y.ok (N + 2) ∧ good v = true ∧ wt v ≤ 800 ∧ dep v ≤ 2 * t.sz + 2 := by
  have dz := t.dp_sz
  have pz := t.sz_pos
  have ew : ∀ T : Store, Φ (k + 100) 28 [encN t] T = .ok (.tmp ((wk t).map pq)) T := fun T => e_walk (k + 99) t T (by omega)
  have wl := wk_len t
  have wl2 : ((wk t).map pq).length = t.sz := by rw [List.length_map, wl]
  obtain ⟨r1, y1, e1, a1, b1, q1⟩ := tk (k := k + 99) (m := mCallB fLen [(false, mVar 2)]) (many := (t.sz : Int)) (l := [some (.ref n), some (encN t), some (.lst ((wk t).map pq)), none, none, none]) rfl (fun T => by simp [wl]) h ok (by omega) (by omega) (by omega)
  have g1 := set_get (b := Bx.o y1) h
  obtain ⟨m1, rfl⟩ : ∃ m : Nat, r1 = m := ⟨r1.toNat, by omega⟩
  have hm1 : m1 < (wk t).length := by omega
  obtain ⟨⟨z, u⟩, hp⟩ : ∃ p, (wk t)[m1]? = some p := ⟨_, List.getElem?_eq_getElem hm1⟩
  have hmem : (z, u) ∈ wk t := List.mem_of_getElem? hp
  have hat : atI ((wk t).map pq) (m1 : Nat) = some (.tup [.str z, encN u]) := by
    rw [at_nat (x := pq (z, u)) (by rw [List.getElem?_map, hp]; rfl)]
    rfl
  obtain ⟨xs, hxs, xl⟩ := encN_tup u
  have l31 : (odd1 xs ++ odd2 xs ++ odd3 xs).length = 31 := rfl
  obtain ⟨r2, y2, e2, a2, b2, q2⟩ := tk (k := k + 99) (m := mCallB fLen [(false, mVar 5)]) (many := 31) (l := [some (.ref n), some (encN t), some (.lst ((wk t).map pq)), some (.str z), some (.tup xs), some (.lst (odd1 xs ++ odd2 xs ++ odd3 xs))]) rfl (fun T => by
    simp only [mCallB_E, mArgs_cons, mFix_E, mVar_E, lookS, look0_lst, of_someE, bind_okE, fix_lst, mArgs_nil, len_lstE, l31]
    rfl) g1 q1 (by omega) (by decide) (by decide)
  obtain ⟨m2, rfl⟩ : ∃ m : Nat, r2 = m := ⟨r2.toNat, by omega⟩
  obtain ⟨o, ho⟩ : ∃ o, (odd1 xs ++ odd2 xs ++ odd3 xs)[m2]? = some o := ⟨_, List.getElem?_eq_getElem (by rw [l31]; omega)⟩
  have homem := List.mem_of_getElem? ho
  have oat : atI (odd1 xs ++ odd2 xs ++ odd3 xs) (m2 : Nat) = some o := at_nat ho
  obtain ⟨_, _, _, _, _, _, ou, su⟩ := e_with (o := .non) rfl t z u (t.dp + 1) [] ht hmem (by omega) (by omega)
  have gu : good (.tup xs) = true := hxs ▸ good_encN ou
  have wu : wt (.tup xs) ≤ 3 * u.sz := hxs ▸ wt_encN u
  have du : dep (.tup xs) = u.dp + 1 := hxs ▸ dep_encN u
  have dzu := u.dp_sz
  have nq : nearQ xs o := by
    rcases List.mem_append.mp homem with hm | hm
    · rcases List.mem_append.mp hm with hm | hm
      · exact odd1_ok gu xl o hm
      · exact odd2_ok gu xl o hm
    · exact odd3_ok gu xl o hm
  obtain ⟨go, wo, do_⟩ := nq
  have ro := good_R go
  obtain ⟨v, ev, gv, wv, dv, zl, _, _⟩ := e_with go t z u (k + 100) ((S.set n (Bx.o y1)).set n (Bx.o y2)) ht hmem (by omega) (by omega)
  have wt' := wt_encN t
  have dt := dep_encN t
  simp only [List.set_set] at e2 ev
  refine ⟨v, y2, ?_, ok_more q2 (by omega), gv, by omega, by omega⟩
  have d1 : sAsg (bN 2) false (mCall (Φ (k + 100) 28) [(false, mVar 1)]) [some (.ref n), some (encN t), none, none, none, none] S = .nx [some (.ref n), some (encN t), some (.lst ((wk t).map pq)), none, none, none] S := by
    rw [sAsg_E]
    simp only [mCall_E, mArgs_cons, mFix_E, mVar_E, lookS, look0_encN, of_someE, bind_okE, fix_encN, mArgs_nil, ew, fix_tmpF, toO_okE, bN_E]
    rfl
  have d2 : sAsg (bT [bN 3, bN 4]) false (mOp2 opIx (mVar 2) (mCall (Φ (k + 100) 20) [(true, mVar 0), (false, mCallB fLen [(false, mVar 2)])])) [some (.ref n), some (encN t), some (.lst ((wk t).map pq)), none, none, none] S = .nx [some (.ref n), some (encN t), some (.lst ((wk t).map pq)), some (.str z), some (.tup xs), none] (S.set n (Bx.o y1)) := by
    rw [sAsg_E, mOp2_E]
    simp only [mVar_E, lookS, look0_lst, of_someE, bind_okE, e1, ix_lst, hat, fix_tup, toO_okE, hxs]
    simp
  have d3 : sAsg (bN 5) false O1 [some (.ref n), some (encN t), some (.lst ((wk t).map pq)), some (.str z), some (.tup xs), none] (S.set n (Bx.o y1)) = .nx [some (.ref n), some (encN t), some (.lst ((wk t).map pq)), some (.str z), some (.tup xs), some (.lst (odd1 xs))] (S.set n (Bx.o y1)) := by
    rw [sAsg_E, o1_E (look_R rfl rfl) xl, bind_okE, fix_tmpF, toO_okE, bN_E]
    rfl
  have d4 : sAsg (bN 5) false (mOp2 opAdd (mVar 5) O2) [some (.ref n), some (encN t), some (.lst ((wk t).map pq)), some (.str z), some (.tup xs), some (.lst (odd1 xs))] (S.set n (Bx.o y1)) = .nx [some (.ref n), some (encN t), some (.lst ((wk t).map pq)), some (.str z), some (.tup xs), some (.lst (odd1 xs ++ odd2 xs))] (S.set n (Bx.o y1)) := by
    rw [sAsg_E, mOp2_E, mVar_E, look_R (d := .lst (odd1 xs)) rfl rfl, of_someE, bind_okE, o2_E (look_R rfl rfl) xl, bind_okE, add_lt _ _ _ (SL_ge (by simp [odd1, odd2, odd3])), of_someE, bind_okE, fix_tmpF, toO_okE, bN_E]
    rfl
  have d5 : sAsg (bN 5) false (mOp2 opAdd (mVar 5) O3) [some (.ref n), some (encN t), some (.lst ((wk t).map pq)), some (.str z), some (.tup xs), some (.lst (odd1 xs ++ odd2 xs))] (S.set n (Bx.o y1)) = .nx [some (.ref n), some (encN t), some (.lst ((wk t).map pq)), some (.str z), some (.tup xs), some (.lst (odd1 xs ++ odd2 xs ++ odd3 xs))] (S.set n (Bx.o y1)) := by
    rw [sAsg_E, mOp2_E, mVar_E, look_R (d := .lst (odd1 xs ++ odd2 xs)) rfl rfl, of_someE, bind_okE, o3_E (look_R rfl rfl) xl, bind_okE, add_lt _ _ _ (SL_ge (by simp [odd1, odd2, odd3])), of_someE, bind_okE, fix_tmpF, toO_okE, bN_E]
    rfl
  have e0 : b_30 (Φ (k + 100)) [some (.ref n), some (encN t), none, none, none, none] S = .ret v (S.set n (Bx.o y2)) := by
    rw [b30o_eq, sSeq_E, d1]
    show sSeq _ _ [some (.ref n), some (encN t), some (.lst ((wk t).map pq)), none, none, none] S = _
    rw [sSeq_E, d2]
    show sSeq _ _ [some (.ref n), some (encN t), some (.lst ((wk t).map pq)), some (.str z), some (.tup xs), none] (S.set n (Bx.o y1)) = _
    rw [sSeq_E, d3]
    show sSeq _ _ [some (.ref n), some (encN t), some (.lst ((wk t).map pq)), some (.str z), some (.tup xs), some (.lst (odd1 xs))] (S.set n (Bx.o y1)) = _
    rw [sSeq_E, d4]
    show sSeq _ _ [some (.ref n), some (encN t), some (.lst ((wk t).map pq)), some (.str z), some (.tup xs), some (.lst (odd1 xs ++ odd2 xs))] (S.set n (Bx.o y1)) = _
    rw [sSeq_E, d5]
    show (sRet _) [some (.ref n), some (encN t), some (.lst ((wk t).map pq)), some (.str z), some (.tup xs), some (.lst (odd1 xs ++ odd2 xs ++ odd3 xs))] (S.set n (Bx.o y1)) = _
    rw [sRet_E]
    simp only [mCall_E, mArgs_cons, mFix_E, mVar_E, lookS, look0_encN, look0_str, look0_lst, of_someE, bind_okE, fix_encN, fix_str, mOp2_E, mArgs_nil] at e2 ⊢
    rw [e2]
    simp only [bind_okE, ix_lst, oat, of_someE, fix_R ro, mArgs_nil, ev, toO_okE]
  show runD 6 (b_30 (Φ (k + 100))) _ _ = _
  rw [run_ret e0, gc_set]
end
end k03
end

section
set_option Elab.async false
set_option linter.all false
set_option maxRecDepth 100000
set_option maxHeartbeats 4000000
/-! k03, the plain law, part 36: lams put around. -/
namespace k03
open PySem PySem.Spec L2 LB

noncomputable def many35 (k : Nat) : SE := mOp2 opIx (mLst [(false, mC (.int 2)), (false, mC (.int 3)), (false, mC (.int 5)), (false, mOp2 opAdd (mC (.int 27)) (takeS k 4))]) (takeS k 4)
noncomputable def nm35 (k : Nat) : SE := mOp2 opIx (mLst [(false, mC (.str [120])), (false, mC (.str [97])), (false, mC (.str [98])), (false, mC (.str [121])), (false, mC (.str [99])), (false, mC (.str [122]))]) (takeS k 6)
noncomputable def bcd35 (k : Nat) : SE := mOp2 opIx (mLst [(false, mC (.str [98])), (false, mC (.str [99])), (false, mC (.str [100]))]) (takeS k 3)
noncomputable def L35 (k : Nat) : SS := sAsg (bN 2) false (mTup [(false, mC (.str [108, 97, 109])), (false, nm35 k), (false, mVar 2)])
noncomputable def A35 (k : Nat) : SE := mTup [(false, mC (.str [97, 112, 112])), (false, mVar 2), (false, mTup [(false, mC (.str [97, 112, 112])), (false, mTup [(false, mC (.str [118, 97, 114])), (false, mC (.str [97]))]), (false, mTup [(false, mC (.str [118, 97, 114])), (false, bcd35 k)])])]
theorem b35_eq (k : Nat) : b_35 (Φ k) = sSeq (sAsg (bN 2) false (mVar 1)) (sSeq (sFor (mRg rg1 [(false, many35 k)]) (bN 3) (L35 k)) (sRet (mIf (mB (mOp2 opEq (takeS k 2) (mC (.int 0)))) (mVar 2) (A35 k)))) := rfl
section
variable {k n : Nat} {S : Store} {x : Bx} {N : Int} {t : Nt} {l : LB.Loc}
theorem d_many (hl : l[0]? = some (some (.ref n))) (h : S[n]? = some x.o) (ok : x.ok N) (hN : N + 2 < 1000000000) :
    ∃ (m : Nat) (y : Bx), many35 (k + 1) l S = .ok (.int (m : Nat)) (S.set n (Bx.o y)) ∧ m ≤ 30 ∧ y.ok (N + 2) := by
  obtain ⟨r1, y1, e1, a1, b1, q1⟩ := tk2 (k := k) 4 (by decide) (by decide) hl h ok (by omega)
  have g1 := set_get (b := Bx.o y1) h
  obtain ⟨r2, y2, e2, a2, b2, q2⟩ := tk2 (k := k) 4 (by decide) (by decide) hl g1 q1 (by omega)
  have go : ∀ r : Int, atI [D.int 2, .int 3, .int 5, .int (27 + r1)] r2 = some (.int r) → many35 (k + 1) l S = .ok (.int r) (S.set n (Bx.o y2)) := fun r hr => by
    simp only [List.set_set] at e2
    unfold many35
    simp only [mOp2_E, mLst_E, mArgs_cons, mFix_E, e1, bind_okE, fix_int, mC_E, add_int, of_someE, mArgs_nil, e2, ix_tmp, hr]
  have q2 := ok_more q2 (show N + 1 + 1 ≤ N + 2 by omega)
  obtain ⟨m1, rfl⟩ : ∃ m : Nat, r1 = m := ⟨r1.toNat, by omega⟩
  rcases lt4 a2 b2 with rfl | rfl | rfl | rfl
  · exact ⟨2, y2, go _ rfl, by omega, q2⟩
  · exact ⟨3, y2, go _ rfl, by omega, q2⟩
  · exact ⟨5, y2, go _ rfl, by omega, q2⟩
  · exact ⟨27 + m1, y2, by rw [go _ rfl]; congr 2, by omega, q2⟩
theorem lt6 {r : Int} (h0 : 0 ≤ r) (h : r < 6) : r = 0 ∨ r = 1 ∨ r = 2 ∨ r = 3 ∨ r = 4 ∨ r = 5 := by omega
theorem lt3 {r : Int} (h0 : 0 ≤ r) (h : r < 3) : r = 0 ∨ r = 1 ∨ r = 2 := by omega
theorem d_nm35 (hl : l[0]? = some (some (.ref n))) (h : S[n]? = some x.o) (ok : x.ok N) (hN : N + 1 < 1000000000) :
    ∃ z y, nm35 (k + 1) l S = .ok (.str z) (S.set n (Bx.o y)) ∧ isNm (.str z) = true ∧ y.ok (N + 1) := by
  obtain ⟨r, y, e, a, b, q⟩ := tk2 (k := k) 6 (by decide) (by decide) hl h ok (by omega)
  have go : ∀ z : List Nat, atI [D.str [120], .str [97], .str [98], .str [121], .str [99], .str [122]] r = some (.str z) → nm35 (k + 1) l S = .ok (.str z) (S.set n (Bx.o y)) := fun z hz => by
    unfold nm35
    simp only [mOp2_E, mLst_E, mArgs_cons, mFix_E, bind_okE, fix_str, mC_E, of_someE, mArgs_nil, e, ix_tmp, hz]
  rcases lt6 a b with rfl | rfl | rfl | rfl | rfl | rfl
  · exact ⟨_, y, go _ rfl, by decide, q⟩
  · exact ⟨_, y, go _ rfl, by decide, q⟩
  · exact ⟨_, y, go _ rfl, by decide, q⟩
  · exact ⟨_, y, go _ rfl, by decide, q⟩
  · exact ⟨_, y, go _ rfl, by decide, q⟩
  · exact ⟨_, y, go _ rfl, by decide, q⟩
theorem d_bcd (hl : l[0]? = some (some (.ref n))) (h : S[n]? = some x.o) (ok : x.ok N) (hN : N + 1 < 1000000000) :
    ∃ z y, bcd35 (k + 1) l S = .ok (.str z) (S.set n (Bx.o y)) ∧ isNm (.str z) = true ∧ y.ok (N + 1) := by
  obtain ⟨r, y, e, a, b, q⟩ := tk2 (k := k) 3 (by decide) (by decide) hl h ok (by omega)
  have go : ∀ z : List Nat, atI [D.str [98], .str [99], .str [100]] r = some (.str z) → bcd35 (k + 1) l S = .ok (.str z) (S.set n (Bx.o y)) := fun z hz => by
    unfold bcd35
    simp only [mOp2_E, mLst_E, mArgs_cons, mFix_E, bind_okE, fix_str, mC_E, of_someE, mArgs_nil, e, ix_tmp, hz]
  rcases lt3 a b with rfl | rfl | rfl
  · exact ⟨_, y, go _ rfl, by decide, q⟩
  · exact ⟨_, y, go _ rfl, by decide, q⟩
  · exact ⟨_, y, go _ rfl, by decide, q⟩
theorem l35_turn {u : Nt} {w : D} {p3 : Option D} (h : S[n]? = some x.o) (ok : x.ok N) (hN : N + 1 < 1000000000) (hu : okN u) :
    ∃ v y, bodyOf (bN 3) (L35 (k + 1)) w [some (.ref n), some (encN t), some (encN u), p3] S = .nx [some (.ref n), some (encN t), some (encN v), some w] (S.set n (Bx.o y)) ∧ okN v ∧ v.sz = u.sz + 1 ∧ y.ok (N + 1) := by
  obtain ⟨z, y, e, hz, q⟩ := d_nm35 (k := k) (l := [some (.ref n), some (encN t), some (encN u), some w]) rfl h ok hN
  refine ⟨.lam z u, y, ?_, ⟨hz, hu⟩, rfl, q⟩
  rw [bodyOf_E, bN_E]
  show L35 (k + 1) [some (.ref n), some (encN t), some (encN u), some w] S = _
  unfold L35
  rw [sAsg_E]
  simp only [mTup_E, mArgs_cons, mFix_E, mC_E, bind_okE, fix_str, e, mVar_E, lookS, look0_encN, of_someE, fix_encN, mArgs_nil]
  rfl
theorem e_renamed (h : S[n]? = some x.o) (ok : x.ok N) (hN : N + 40 < 1000000000) (ht : okN t) :
    ∃ u y, Φ (k + 3) 35 [.ref n, encN t] S = .ok (encN u) (S.set n (Bx.o y)) ∧ okN u ∧ u.sz ≤ t.sz + 34 ∧ y.ok (N + 40) := by
  obtain ⟨m, y1, e1, hm, q1⟩ := d_many (k := k + 1) (l := [some (.ref n), some (encN t), some (encN t), none]) rfl h ok (by omega)
  obtain ⟨l', S', e2, u, y2, p3, el, eS, q2, hu, su⟩ := lp_inv (b := bodyOf (bN 3) (L35 (k + 2))) (P := fun j l Z => ∃ u y p3, l = [some (.ref n), some (encN t), some (encN u), p3] ∧ Z = S.set n (Bx.o y) ∧ y.ok (N + 2 + j) ∧ okN u ∧ u.sz = t.sz + j) (M := m) (rng 0 m) 0 [some (.ref n), some (encN t), some (encN t), none] (S.set n (Bx.o y1)) (by rw [rng_len]; omega)
    ⟨t, y1, none, rfl, rfl, ok_more q1 (by omega), ht, rfl⟩ (fun d hd j l Z hj hP => by
      obtain ⟨u, y, p3, rfl, rfl, q, hu, su⟩ := hP
      obtain ⟨v, y2, e, hv, sv, q2⟩ := l35_turn (k := k + 1) (t := t) (u := u) (w := d) (p3 := p3) (set_get (b := Bx.o y) h) q (by omega) hu
      rw [List.set_set] at e
      exact ⟨_, _, e, v, y2, some d, rfl, rfl, ok_more q2 (by omega), hv, by omega⟩)
  subst el eS
  have g2 := set_get (b := Bx.o y2) h
  obtain ⟨r3, y3, e3, a3, b3, q3⟩ := tk2 (k := k + 1) 2 (by decide) (by decide) (l := [some (.ref n), some (encN t), some (encN u), p3]) rfl g2 q2 (by omega)
  have g3 := set_get (b := Bx.o y3) g2
  obtain ⟨z, y4, e4, hz, q4⟩ := d_bcd (k := k + 1) (l := [some (.ref n), some (encN t), some (encN u), p3]) rfl g3 q3 (by omega)
  simp only [List.set_set] at e3 e4
  have pre : ∀ o : O, (sRet (mIf (mB (mOp2 opEq (takeS (k + 2) 2) (mC (.int 0)))) (mVar 2) (A35 (k + 2)))) [some (.ref n), some (encN t), some (encN u), p3] (S.set n (Bx.o y2)) = o → b_35 (Φ (k + 2)) [some (.ref n), some (encN t), none, none] S = o := fun o ho => by
    have d1 : sAsg (bN 2) false (mVar 1) [some (.ref n), some (encN t), none, none] S = .nx [some (.ref n), some (encN t), some (encN t), none] S := by
      rw [sAsg_E]
      simp only [mVar_E, lookS, look0_encN, of_someE, bind_okE, fix_encN, toO_okE, bN_E]
      rfl
    have rg : rg1 [.int (m : Nat)] = some (rng 0 m, chT) := rg1_nat (SL_ge (by omega))
    have d2 : mRg rg1 [(false, many35 (k + 2))] [some (.ref n), some (encN t), some (encN t), none] S = .ok (rng 0 m, chT) (S.set n (Bx.o y1)) := by
      rw [mRg_E, mArgs_cons, mFix_E, e1, bind_okE, fix_int, bind_okE, mArgs_nil, bind_okE, bind_okE, rg, of_someE]
    rw [b35_eq, sSeq_E, d1]
    show sSeq _ _ [some (.ref n), some (encN t), some (encN t), none] S = _
    rw [sSeq_E, sFor_E, d2, toO_okE]
    show (match lp chT _ _ [some (.ref n), some (encN t), some (encN t), none] (S.set n (Bx.o y1)) with
      | .nx l' S' => _
      | o => o) = _
    rw [e2]
    exact ho
  have tst : mB (mOp2 opEq (takeS (k + 2) 2) (mC (.int 0))) [some (.ref n), some (encN t), some (encN u), p3] (S.set n (Bx.o y2)) = .ok (decide (r3 = 0)) (S.set n (Bx.o y3)) := by
    simp only [mB_E, mOp2_E, e3, bind_okE, mC_E, eq_int, of_someE]
  by_cases c : r3 = 0
  · refine ⟨u, y3, ?_, hu, by omega, ok_more q3 (by omega)⟩
    have e0 : b_35 (Φ (k + 2)) [some (.ref n), some (encN t), none, none] S = .ret (encN u) (S.set n (Bx.o y3)) := by
      refine pre _ ?_
      rw [sRet_E, mIf_E, tst, decide_eq_true c, bind_okE, if_pos rfl]
      simp only [mVar_E, lookS, look0_encN, of_someE, toO_okE]
    show runD 4 (b_35 (Φ (k + 2))) _ _ = _
    rw [run_ret e0, gc_set]
  · refine ⟨.app u (.app (.var [97]) (.var z)), y4, ?_, ⟨hu, by show isNm (.str [97]) = true; decide, hz⟩, by simp only [Nt.sz]; omega, ok_more q4 (by omega)⟩
    have e0 : b_35 (Φ (k + 2)) [some (.ref n), some (encN t), none, none] S = .ret (encN (.app u (.app (.var [97]) (.var z)))) (S.set n (Bx.o y4)) := by
      refine pre _ ?_
      rw [sRet_E, mIf_E, tst, decide_eq_false c, bind_okE, if_neg (by decide)]
      unfold A35
      simp only [mTup_E, mArgs_cons, mFix_E, mC_E, bind_okE, fix_str, fix_tup, e4, mVar_E, lookS, look0_encN, of_someE, fix_encN, mArgs_nil, toO_okE]
      rfl
    show runD 4 (b_35 (Φ (k + 2))) _ _ = _
    rw [run_ret e0, gc_set]
end
end k03
end

section
set_option Elab.async false
set_option linter.all false
set_option maxRecDepth 100000
set_option maxHeartbeats 4000000
/-! k03, the plain law, part 37: what is right. -/
namespace k03
open PySem PySem.Spec L2 LB

theorem mul_rp {T : Store} (x : D) (c : Nat) (h : c ≤ 1000) : opMul T (.tmp [x]) (.int (c : Int)) = some (.tmp (List.replicate c x)) := by
  show (if -9223372036854775808 ≤ (c : Int) ∧ (c : Int) < 9223372036854775808 ∧ [x].length * (c : Int).toNat ≤ SL then some (D.tmp (List.replicate (c : Int).toNat [x]).flatten) else none) = _
  rw [if_pos ⟨by omega, by omega, by show [x].length * (c : Int).toNat ≤ 16777216; simp; omega⟩]
  simp
theorem thrice {T : Store} (x : D) : opMul T (.tmp [x]) (.int 3) = some (.tmp [x, x, x]) := mul_rp x 3 (by decide)
theorem wraps4 (o0 o2 o3 : Option D) (q : D) (S : Store) : ∀ (us : List (List Nat)) (t : Nt) (p : Option D), ∃ p', Runs (bodyOf (bN 5) (sAsg (bN 4) false (mTup [(false, mC (.str [108, 97, 109])), (false, mVar 5), (false, mVar 4)]))) (us.map .str) [o0, some q, o2, o3, some (encN t), p] S [o0, some q, o2, o3, some (encN (us.foldl (fun t s => .lam s t) t)), p'] S
  | [], t, p => ⟨p, .nil⟩
  | u :: us, t, p => by
    obtain ⟨p', ih⟩ := wraps4 o0 o2 o3 q S us (.lam u t) (some (.str u))
    refine ⟨p', .cons ?_ ih⟩
    rw [bodyOf_E, bN_E]
    show sAsg _ _ _ [o0, some q, o2, o3, some (encN t), some (.str u)] S = _
    simp -dsimp only [bd_ok, bd_exc, tb_ok, tb_exc, sq_nx, sq_ret, sq_brk, sq_cnt, sq_exc, cd_t, cd_f, bOf_bl, andOf_bl, orOf_bl, notOf_some, chOf_bl, isOf_some, itmOf_some, getOf_some, prOf_int, nxOf_some, augOf_some, augIn_some, isVal_int, isVal_str, nxSt_some, of_someE, calm_okE, mC_E, mVar_E, lookS, look0, isR_non, isR_bl, isR_int, isR_str, isR_tup, isR_lst, isR_dic, isR_ref, isR_scr, fix_R, fix_tmpF, fix_tmpT, fix_tdicF, fix_tdicT, mFix_K, mOp2_K, mUn_K, mB_K, mTru_K, mAnd_K, mOr_K, mNot_K, mAndV_K, mOrV_K, mNotV_K, mIf_K, mChain_K, mArgs_nil, mArgs_K, mTup_K, mLst_K, mDic0_E, mCall_K, mCallP_K, mCallB_K, mMeth_K, mIs_K, mItems_K, mGet2_K, mGet1_K, mDis_K, mNo_E, mPart_K, mSl_K, mIt_K, mRg_K, sNx_E, sSeq_K, sRet_K, sRetN_E, sDrop_K, sIf_K, sAsg_K, bN_E, bT_E, bAll_nil, bAll_cons, sPar_K, sAug_K, sPut_K, sRaise_K, sFor_K, mLc_K, mYes_E, wipeL_nil, wipeL_cons, sTry_K, tr_nx, tr_ret, tr_exc, pick_nil, pick_K, out_nx, out_ret, noX_cons, noX_none, noX_nil, xfOf_exn, mXf_K, List.set_cons_succ, List.set_cons_zero, List.getElem?_cons_succ, List.getElem?_cons_zero, List.map_cons, List.map_nil, Option.bind_some, Option.map_some, eq_int, ne_int, eq_str, ne_str, lt_int, le_int, gt_int, ge_int, add_int, sub_int, neg_int, is_nonE, tru_bl, fInt_int, fInt_bl, len_tupE, len_lstE, len_scrE, ty_non, ty_bl, ty_int, ty_str, ty_tup, ty_lst, ty_tmp, ty_dic, ty_tdic, ty_scr, eq_bl, ne_bl, ne_tmpnil, ne_lstnil, eq_tmpnil, eq_lstnil, List.isEmpty_nil, List.isEmpty_cons, ix_lst, ix_tmp, ix_tupE, at0, at1, at_lit, itS_tup, itS_lst, itS_str, itS_tmp, in_str1, notin_str1, sl_tupE, reduceIte, ↓reduceIte, Bool.false_eq_true, Bool.not_true, Bool.not_false, Bool.true_and, Bool.false_and, Bool.and_true, Bool.and_false, Bool.or_true, Bool.true_or, Bool.false_or, Bool.or_false, decide_true, decide_false, if_true, if_false, beq_tt, beq_tf, beq_ft, beq_ff, lcIn_some, lpk_nx, lpk_cnt, lpk_brk, lpk_ret, lpk_exc, nxBd_some, lcl_nil, lp_nil, isR_encN]
    rfl
section
variable {k n : Nat} {S : Store} {x : Bx} {N : Int} {t : Nt}
theorem e_right (h : S[n]? = some x.o) (ok : x.ok N) (hN : N + 1 < 1000000000) (ht : okN t) (hz : t.sz ≤ 60) :
    ∃ y, Φ (k + 201) 36 [.ref n, encN t] S = .ok (.bl true) (S.set n (Bx.o y)) ∧ y.ok (N + 1) := by
  have dz := t.dp_sz
  obtain ⟨r, y, er, r0, r1, q⟩ := e_take (k := k + 199) (many := 2) h ok (by omega) (by decide) (by decide)
  have er : Φ (k + 200) 20 [.ref n, .int 2] S = .ok (.int r) (S.set n (Bx.o y)) := er
  refine ⟨y, ?_, q⟩
  have gs : gc S (.bl true) (S.set n (Bx.o y)) = .ok (.bl true) (S.set n (Bx.o y)) := gc_set _
  generalize S.set n (Bx.o y) = S' at er gs ⊢
  obtain ⟨n1, n2, n3, n4⟩ := nrm_facts ht (by omega)
  have nd := (nrm t).dp_sz
  obtain ⟨c1, c2, c3, c4⟩ := clo_facts ht
  have c4 := c4 (aok_sz (by omega))
  have cd := (clo t).dp_sz
  have okd : okT (some 0) (numL t []) 0 := okT_numL (ρ := []) ht
  have sd : (numL t []).sz = t.sz := sz_numL t []
  have dd := dp_sz (numL t [])
  have fl := frs_dpN t []
  have ll := lfr_len t []
  have ef : ∀ T, Φ (k + 200) 23 [encN t, .lst []] T = .ok (.tmp ((lfr t []).map .str)) T := fun T => e_lfree t [] (k + 200) T (by omega) (aok_sz (by omega)) (by simp; omega)
  have efc : ∀ T, Φ (k + 200) 23 [encN (clo t), .lst []] T = .ok (.tmp []) T := fun T => by
    have e := e_lfree (clo t) [] (k + 200) T (by omega) c4 (by simp; omega)
    rw [lfr_clo] at e
    exact e
  have en : ∀ T, Φ (k + 200) 34 [encN t, .lst ((lfr t []).map .str), .lst [], .lst []] T = .ok (encN (nrm t)) T := fun T => e_lnormal (lfr t []) t [] [] (k + 200) T (by omega) (by simp; omega) (by simp; omega)
  have eu : ∀ T, Φ (k + 200) 22 [encN t, .lst []] T = .ok (enc (numL t [])) T := fun T => e_lnum t [] (k + 200) T (by omega) (by simp; omega)
  have eu2 : ∀ T, Φ (k + 200) 22 [encN (nrm t), .lst []] T = .ok (enc (numL t [])) T := fun T => by
    rw [← n3]
    exact e_lnum (nrm t) [] (k + 200) T (by omega) (by simp; omega)
  have a0 : ∀ (c : Bool) (T : Store), Φ (k + 200) 33 [.int 0, encN t, .bl c] T = .ok (.tmp [.str sTOLD, encN (nrm t)]) T := fun c T => ask0_ok (k + 199) (encN t) c T (isR_encN _) (isR_encN _) (e_nnames (k + 192) t T ht (by omega))
  have a1 : ∀ (c : Bool) (T : Store), Φ (k + 200) 33 [.int 0, encN (nrm t), .bl c] T = .ok (.tmp [.str sTOLD, encN (nrm t)]) T := fun c T => by
    have e := e_nnames (k + 192) (nrm t) T n1 (by omega)
    rw [n4] at e
    exact ask0_ok (k + 199) (encN (nrm t)) c T (isR_encN _) (isR_encN _) e
  have a2 : ∀ (c : Bool) (T : Store), Φ (k + 200) 33 [.int 1, encN t, .bl c] T = .ok (.tmp [.str sTOLD, encN (clo t)]) T := fun c T => ask1_ok (k + 199) (encN t) c T (isR_encN _) (isR_encN _) (e_closure (k + 192) t T ht (by omega) (by omega))
  have a3 : ∀ (c : Bool) (T : Store), Φ (k + 200) 33 [.int 1, encN (clo t), .bl c] T = .ok (.tmp [.str sTOLD, encN (clo t)]) T := fun c T => by
    have e := e_closure (k + 192) (clo t) T c1 (by omega) (by rw [frs_clo]; simp)
    rw [clo_clo] at e
    exact ask1_ok (k + 199) (encN (clo t)) c T (isR_encN _) (isR_encN _) e
  have same : ∀ (u : Nt) (T : Store), okN u → u.dp ≤ 150 → Φ (k + 200) 21 [.lst [.lst [.str sTOLD, encN u], .lst [.str sTOLD, encN u], .lst [.str sTOLD, encN u]], .lst [.lst [.str sTOLD, encN u], .lst [.str sTOLD, encN u], .lst [.str sTOLD, encN u]]] T = .ok (.bl true) T := fun u T hu hd => by
    refine e_same (k + 200) _ T ?_ ?_
    · simp [good, goods, good_encN hu, SL]
    · have := dep_encN u
      simp [dep, deps, this]; omega
  have ne : ∀ T, opNe T (enc (numL t [])) (enc (numL t [])) = some (.bl false) := fun T => ne_enc okd (by omega)
  have ss : ∀ T, fSortSet T [.lst ((lfr t []).map .str)] = some (.tmp ((used (numL t [])).map .str)) := fun T => by
    rw [sortset T (.lst ((lfr t []).map .str)) (lfr t []) rfl (by omega), srt_lfr]
  have bk : ∀ T : Store, opBack T (.tmp ((used (numL t [])).map .str)) = some (.tmp (((used (numL t [])).reverse).map .str)) := fun T => by
    rw [List.map_reverse]; rfl
  obtain ⟨p', rr⟩ := wraps4 (some (.ref n)) (some (encN (nrm t))) (some (.bl (decide (r = 0)))) (encN t) S' (used (numL t [])).reverse t none
  have lpE := rr.lp
  rw [fold_rev] at lpE
  have lpE : lp chT (bodyOf (bN 5) (sAsg (bN 4) false (mTup [(false, mC (.str [108, 97, 109])), (false, mVar 5), (false, mVar 4)]))) ((used (numL t [])).reverse.map .str) [some (.ref n), some (encN t), some (encN (nrm t)), some (.bl (decide (r = 0))), some (encN t), none] S' = .nx [some (.ref n), some (encN t), some (encN (nrm t)), some (.bl (decide (r = 0))), some (encN (clo t)), p'] S' := lpE
  have e0 : b_36 (Φ (k + 200)) [some (.ref n), some (encN t), none, none, none, none] S = .ret (.bl true) S' := by
    unfold b_36
    simp -dsimp only [bd_ok, bd_exc, tb_ok, tb_exc, sq_nx, sq_ret, sq_brk, sq_cnt, sq_exc, cd_t, cd_f, bOf_bl, andOf_bl, orOf_bl, notOf_some, chOf_bl, isOf_some, itmOf_some, getOf_some, prOf_int, nxOf_some, augOf_some, augIn_some, isVal_int, isVal_str, nxSt_some, of_someE, calm_okE, mC_E, mVar_E, lookS, look0, isR_non, isR_bl, isR_int, isR_str, isR_tup, isR_lst, isR_dic, isR_ref, isR_scr, fix_R, fix_tmpF, fix_tmpT, fix_tdicF, fix_tdicT, mFix_K, mOp2_K, mUn_K, mB_K, mTru_K, mAnd_K, mOr_K, mNot_K, mAndV_K, mOrV_K, mNotV_K, mIf_K, mChain_K, mArgs_nil, mArgs_K, mTup_K, mLst_K, mDic0_E, mCall_K, mCallP_K, mCallB_K, mMeth_K, mIs_K, mItems_K, mGet2_K, mGet1_K, mDis_K, mNo_E, mPart_K, mSl_K, mIt_K, mRg_K, sNx_E, sSeq_K, sRet_K, sRetN_E, sDrop_K, sIf_K, sAsg_K, bN_E, bT_E, bAll_nil, bAll_cons, sPar_K, sAug_K, sPut_K, sRaise_K, sFor_K, mLc_K, mYes_E, wipeL_nil, wipeL_cons, sTry_K, tr_nx, tr_ret, tr_exc, pick_nil, pick_K, out_nx, out_ret, noX_cons, noX_none, noX_nil, xfOf_exn, mXf_K, List.set_cons_succ, List.set_cons_zero, List.getElem?_cons_succ, List.getElem?_cons_zero, List.map_cons, List.map_nil, Option.bind_some, Option.map_some, eq_int, ne_int, eq_str, ne_str, lt_int, le_int, gt_int, ge_int, add_int, sub_int, neg_int, is_nonE, tru_bl, fInt_int, fInt_bl, len_tupE, len_lstE, len_scrE, ty_non, ty_bl, ty_int, ty_str, ty_tup, ty_lst, ty_tmp, ty_dic, ty_tdic, ty_scr, eq_bl, ne_bl, ne_tmpnil, ne_lstnil, eq_tmpnil, eq_lstnil, List.isEmpty_nil, List.isEmpty_cons, ix_lst, ix_tmp, ix_tupE, at0, at1, at_lit, itS_tup, itS_lst, itS_str, itS_tmp, in_str1, notin_str1, sl_tupE, reduceIte, ↓reduceIte, Bool.false_eq_true, Bool.not_true, Bool.not_false, Bool.true_and, Bool.false_and, Bool.and_true, Bool.and_false, Bool.or_true, Bool.true_or, Bool.false_or, Bool.or_false, decide_true, decide_false, if_true, if_false, beq_tt, beq_tf, beq_ft, beq_ff, lcIn_some, lpk_nx, lpk_cnt, lpk_brk, lpk_ret, lpk_exc, nxBd_some, lcl_nil, lp_nil, isR_encN, ef, en, er, a0, a1, a2, a3, thrice, same _ _ n1 (by omega), same _ _ c1 (by omega), eu, eu2, ne, ss, bk, lpE, efc]
  show runD 6 (b_36 (Φ (k + 200))) _ _ = _
  rw [run_ret e0, gs]
end
end k03
end

section
set_option Elab.async false
set_option linter.all false
set_option maxRecDepth 100000
set_option maxHeartbeats 4000000
/-! k03, the plain law, part 38: the law. -/
namespace k03
open PySem PySem.Spec L2 LB

noncomputable def one37 (k : Nat) : SS := sIf (mNot (mTru (mCall (Φ k 36) [(true, mVar 2), (false, mVar 5)]))) (sRet (mC (.bl false))) (sNx)
noncomputable def bad37 (k : Nat) : SS := sSeq (sAsg (bN 7) false (mCall (Φ k 30) [(true, mVar 2), (false, mVar 3)])) (sIf (mAnd (mNot (mTru (mCall (Φ k 27) [(false, mVar 7)]))) (mNot (mTru (mCall (Φ k 21) [(false, mLc (mRg rg1 [(false, mC (.int 2))]) (bN 8) [8] (mYes) (mCall (Φ k 33) [(false, mVar 8), (false, mVar 7), (false, mOp2 opEq (mCall (Φ k 20) [(true, mVar 2), (false, mC (.int 2))]) (mC (.int 0)))])), (false, mOp2 opMul (mLst [(false, mLst [(false, mC (.str [116, 101, 114, 109])), (false, mVar 7)])]) (mC (.int 2)))])))) (sRet (mC (.bl false))) (sNx))
noncomputable def body37 (k : Nat) : SS := sSeq (sAsg (bN 2) true (mCall (Φ k 19) [(false, mCall (Φ k 18) [(false, mVar 0), (false, mVar 1)])])) (sSeq (sAsg (bN 3) false (mCall (Φ k 25) [(true, mVar 2)])) (sSeq (sAsg (bN 4) false (mCall (Φ k 24) [(true, mVar 2), (false, mOp2 opAdd (mC (.int 1)) (mCall (Φ k 20) [(true, mVar 2), (false, mC (.int 9))])), (false, mLst [(false, mC (.str [97])), (false, mC (.str [98])), (false, mC (.str [120])), (false, mC (.str [121])), (false, mC (.str [97, 98]))])])) (sSeq (sFor (mIt (mLst [(false, mVar 3), (false, mVar 4), (false, mCall (Φ k 35) [(true, mVar 2), (false, mVar 4)]), (false, mCall (Φ k 35) [(true, mVar 2), (false, mCall (Φ k 24) [(true, mVar 2), (false, mC (.int 5)), (false, mLst [(false, mC (.str [99])), (false, mC (.str [97]))])])])])) (bN 5) (one37 k)) (sFor (mRg rg1 [(false, mC (.int 6))]) (bN 6) (bad37 k)))))
theorem b37_eq (k : Nat) : b_37 (Φ k) = sSeq (sFor (mRg rg1 [(false, mCallB fMax [(false, mC (.int 3)), (false, mCallB fMin [(false, mC (.int 6)), (false, mCallB fLen [(false, mVar 0)])])])]) (bN 1) (body37 k)) (sRet (mC (.bl true))) := rfl
section
variable {k n : Nat} {S : Store} {x : Bx} {N : Int} {t : Nt} {ns : List Int}
theorem one_turn {p1 p3 p4 p5 p6 p7 p8 : Option D} (h : S[n]? = some x.o) (ok : x.ok N) (hN : N + 1 < 1000000000) (ht : okN t) (hz : t.sz ≤ 60) :
    ∃ y, bodyOf (bN 5) (one37 (k + 201)) (encN t) [some (.scr ns), p1, some (.ref n), p3, p4, p5, p6, p7, p8] S = .nx [some (.scr ns), p1, some (.ref n), p3, p4, some (encN t), p6, p7, p8] (S.set n (Bx.o y)) ∧ y.ok (N + 1) := by
  obtain ⟨y, e, q⟩ := e_right (k := k) h ok hN ht hz
  refine ⟨y, ?_, q⟩
  unfold one37
  simp -dsimp only [bd_ok, bd_exc, tb_ok, tb_exc, sq_nx, sq_ret, sq_brk, sq_cnt, sq_exc, cd_t, cd_f, bOf_bl, andOf_bl, orOf_bl, notOf_some, chOf_bl, isOf_some, itmOf_some, getOf_some, prOf_int, nxOf_some, augOf_some, augIn_some, isVal_int, isVal_str, nxSt_some, of_someE, calm_okE, mC_E, mVar_E, lookS, look0, isR_non, isR_bl, isR_int, isR_str, isR_tup, isR_lst, isR_dic, isR_ref, isR_scr, fix_R, fix_tmpF, fix_tmpT, fix_tdicF, fix_tdicT, mFix_K, mOp2_K, mUn_K, mB_K, mTru_K, mAnd_K, mOr_K, mNot_K, mAndV_K, mOrV_K, mNotV_K, mIf_K, mChain_K, mArgs_nil, mArgs_K, mTup_K, mLst_K, mDic0_E, mCall_K, mCallP_K, mCallB_K, mMeth_K, mIs_K, mItems_K, mGet2_K, mGet1_K, mDis_K, mNo_E, mPart_K, mSl_K, mIt_K, mRg_K, sNx_E, sSeq_K, sRet_K, sRetN_E, sDrop_K, sIf_K, sAsg_K, bN_E, bT_E, bAll_nil, bAll_cons, sPar_K, sAug_K, sPut_K, sRaise_K, sFor_K, mLc_K, mYes_E, wipeL_nil, wipeL_cons, sTry_K, tr_nx, tr_ret, tr_exc, pick_nil, pick_K, out_nx, out_ret, noX_cons, noX_none, noX_nil, xfOf_exn, mXf_K, List.set_cons_succ, List.set_cons_zero, List.getElem?_cons_succ, List.getElem?_cons_zero, List.map_cons, List.map_nil, Option.bind_some, Option.map_some, eq_int, ne_int, eq_str, ne_str, lt_int, le_int, gt_int, ge_int, add_int, sub_int, neg_int, is_nonE, tru_bl, fInt_int, fInt_bl, len_tupE, len_lstE, len_scrE, ty_non, ty_bl, ty_int, ty_str, ty_tup, ty_lst, ty_tmp, ty_dic, ty_tdic, ty_scr, eq_bl, ne_bl, ne_tmpnil, ne_lstnil, eq_tmpnil, eq_lstnil, List.isEmpty_nil, List.isEmpty_cons, ix_lst, ix_tmp, ix_tupE, at0, at1, at_lit, itS_tup, itS_lst, itS_str, itS_tmp, in_str1, notin_str1, sl_tupE, reduceIte, ↓reduceIte, Bool.false_eq_true, Bool.not_true, Bool.not_false, Bool.true_and, Bool.false_and, Bool.and_true, Bool.and_false, Bool.or_true, Bool.true_or, Bool.false_or, Bool.or_false, decide_true, decide_false, if_true, if_false, beq_tt, beq_tf, beq_ft, beq_ff, lcIn_some, lpk_nx, lpk_cnt, lpk_brk, lpk_ret, lpk_exc, nxBd_some, lcl_nil, lp_nil, bodyOf_K, isR_encN, e]
theorem bad_turn {p1 p4 p5 p6 p7 p8 : Option D} {w : D} (h : S[n]? = some x.o) (ok : x.ok N) (hN : N + 4 < 1000000000) (ht : okN t) (hz : t.sz ≤ 60) :
    ∃ y q6 q7 q8, bodyOf (bN 6) (bad37 (k + 201)) w [some (.scr ns), p1, some (.ref n), some (encN t), p4, p5, p6, p7, p8] S = .nx [some (.scr ns), p1, some (.ref n), some (encN t), p4, p5, q6, q7, q8] (S.set n (Bx.o y)) ∧ y.ok (N + 4) := by
  obtain ⟨v, y1, e1, q1, gv, wv, dv⟩ := e_lodd (k := k + 100) h ok (by omega) ht hz
  have g1 := set_get (b := Bx.o y1) h
  have rv := good_R gv
  have ei : ∀ T, Φ (k + 201) 27 [v] T = .ok (.bl (fitsT v)) T := fun T => e_lisT (k + 199) v T gv (SL_ge (by omega))
  have e1 : Φ (k + 201) 30 [.ref n, encN t] S = .ok v (S.set n (Bx.o y1)) := e1
  by_cases c : fitsT v = true
  · refine ⟨y1, some w, some v, p8, ?_, ok_more q1 (by omega)⟩
    unfold bad37
    simp -dsimp only [bd_ok, bd_exc, tb_ok, tb_exc, sq_nx, sq_ret, sq_brk, sq_cnt, sq_exc, cd_t, cd_f, bOf_bl, andOf_bl, orOf_bl, notOf_some, chOf_bl, isOf_some, itmOf_some, getOf_some, prOf_int, nxOf_some, augOf_some, augIn_some, isVal_int, isVal_str, nxSt_some, of_someE, calm_okE, mC_E, mVar_E, lookS, look0, isR_non, isR_bl, isR_int, isR_str, isR_tup, isR_lst, isR_dic, isR_ref, isR_scr, fix_R, fix_tmpF, fix_tmpT, fix_tdicF, fix_tdicT, mFix_K, mOp2_K, mUn_K, mB_K, mTru_K, mAnd_K, mOr_K, mNot_K, mAndV_K, mOrV_K, mNotV_K, mIf_K, mChain_K, mArgs_nil, mArgs_K, mTup_K, mLst_K, mDic0_E, mCall_K, mCallP_K, mCallB_K, mMeth_K, mIs_K, mItems_K, mGet2_K, mGet1_K, mDis_K, mNo_E, mPart_K, mSl_K, mIt_K, mRg_K, sNx_E, sSeq_K, sRet_K, sRetN_E, sDrop_K, sIf_K, sAsg_K, bN_E, bT_E, bAll_nil, bAll_cons, sPar_K, sAug_K, sPut_K, sRaise_K, sFor_K, mLc_K, mYes_E, wipeL_nil, wipeL_cons, sTry_K, tr_nx, tr_ret, tr_exc, pick_nil, pick_K, out_nx, out_ret, noX_cons, noX_none, noX_nil, xfOf_exn, mXf_K, List.set_cons_succ, List.set_cons_zero, List.getElem?_cons_succ, List.getElem?_cons_zero, List.map_cons, List.map_nil, Option.bind_some, Option.map_some, eq_int, ne_int, eq_str, ne_str, lt_int, le_int, gt_int, ge_int, add_int, sub_int, neg_int, is_nonE, tru_bl, fInt_int, fInt_bl, len_tupE, len_lstE, len_scrE, ty_non, ty_bl, ty_int, ty_str, ty_tup, ty_lst, ty_tmp, ty_dic, ty_tdic, ty_scr, eq_bl, ne_bl, ne_tmpnil, ne_lstnil, eq_tmpnil, eq_lstnil, List.isEmpty_nil, List.isEmpty_cons, ix_lst, ix_tmp, ix_tupE, at0, at1, at_lit, itS_tup, itS_lst, itS_str, itS_tmp, in_str1, notin_str1, sl_tupE, reduceIte, ↓reduceIte, Bool.false_eq_true, Bool.not_true, Bool.not_false, Bool.true_and, Bool.false_and, Bool.and_true, Bool.and_false, Bool.or_true, Bool.true_or, Bool.false_or, Bool.or_false, decide_true, decide_false, if_true, if_false, beq_tt, beq_tf, beq_ft, beq_ff, lcIn_some, lpk_nx, lpk_cnt, lpk_brk, lpk_ret, lpk_exc, nxBd_some, lcl_nil, lp_nil, bodyOf_K, isR_encN, e1, rv, ei, c]
  · have c := Bool.eq_false_iff.mpr c
    obtain ⟨r2, y2, e2, a2, b2, q2⟩ := e_take (k := k + 200) (many := 2) g1 q1 (by omega) (by decide) (by decide)
    have g2 := set_get (b := Bx.o y2) g1
    obtain ⟨r3, y3, e3, a3, b3, q3⟩ := e_take (k := k + 200) (many := 2) g2 q2 (by omega) (by decide) (by decide)
    simp only [List.set_set] at e2 e3
    have e2 : Φ (k + 201) 20 [.ref n, .int 2] (S.set n (Bx.o y1)) = .ok (.int r2) (S.set n (Bx.o y2)) := e2
    have e3 : Φ (k + 201) 20 [.ref n, .int 2] (S.set n (Bx.o y2)) = .ok (.int r3) (S.set n (Bx.o y3)) := e3
    have a0 : ∀ (c : Bool) (T : Store), Φ (k + 201) 33 [.int 0, v, .bl c] T = .ok (.tmp [.str sTERM, v]) T := fun b T => ask0_x2 (k + 200) v b T rv rv (e_nnames_bad (k + 193) v T gv (SL_ge (by omega)) c)
    have a1 : ∀ (c : Bool) (T : Store), Φ (k + 201) 33 [.int 1, v, .bl c] T = .ok (.tmp [.str sTERM, v]) T := fun b T => ask1_x2 (k + 200) v b T rv rv (e_closure_bad (k + 193) v T gv (SL_ge (by omega)) c)
    have same : ∀ T, Φ (k + 201) 21 [.lst [.lst [.str sTERM, v], .lst [.str sTERM, v]], .lst [.lst [.str sTERM, v], .lst [.str sTERM, v]]] T = .ok (.bl true) T := fun T => by
      refine e_same (k + 201) _ T ?_ ?_
      · simp [good, goods, gv, SL]
      · simp [dep, deps]; omega
    have r2' : rg1 [.int 2] = some ([.int 0, .int 1], chT) := rfl
    refine ⟨y3, some w, some v, p8, ?_, ok_more q3 (by omega)⟩
    unfold bad37
    simp -dsimp only [bd_ok, bd_exc, tb_ok, tb_exc, sq_nx, sq_ret, sq_brk, sq_cnt, sq_exc, cd_t, cd_f, bOf_bl, andOf_bl, orOf_bl, notOf_some, chOf_bl, isOf_some, itmOf_some, getOf_some, prOf_int, nxOf_some, augOf_some, augIn_some, isVal_int, isVal_str, nxSt_some, of_someE, calm_okE, mC_E, mVar_E, lookS, look0, isR_non, isR_bl, isR_int, isR_str, isR_tup, isR_lst, isR_dic, isR_ref, isR_scr, fix_R, fix_tmpF, fix_tmpT, fix_tdicF, fix_tdicT, mFix_K, mOp2_K, mUn_K, mB_K, mTru_K, mAnd_K, mOr_K, mNot_K, mAndV_K, mOrV_K, mNotV_K, mIf_K, mChain_K, mArgs_nil, mArgs_K, mTup_K, mLst_K, mDic0_E, mCall_K, mCallP_K, mCallB_K, mMeth_K, mIs_K, mItems_K, mGet2_K, mGet1_K, mDis_K, mNo_E, mPart_K, mSl_K, mIt_K, mRg_K, sNx_E, sSeq_K, sRet_K, sRetN_E, sDrop_K, sIf_K, sAsg_K, bN_E, bT_E, bAll_nil, bAll_cons, sPar_K, sAug_K, sPut_K, sRaise_K, sFor_K, mLc_K, mYes_E, wipeL_nil, wipeL_cons, sTry_K, tr_nx, tr_ret, tr_exc, pick_nil, pick_K, out_nx, out_ret, noX_cons, noX_none, noX_nil, xfOf_exn, mXf_K, List.set_cons_succ, List.set_cons_zero, List.getElem?_cons_succ, List.getElem?_cons_zero, List.map_cons, List.map_nil, Option.bind_some, Option.map_some, eq_int, ne_int, eq_str, ne_str, lt_int, le_int, gt_int, ge_int, add_int, sub_int, neg_int, is_nonE, tru_bl, fInt_int, fInt_bl, len_tupE, len_lstE, len_scrE, ty_non, ty_bl, ty_int, ty_str, ty_tup, ty_lst, ty_tmp, ty_dic, ty_tdic, ty_scr, eq_bl, ne_bl, ne_tmpnil, ne_lstnil, eq_tmpnil, eq_lstnil, List.isEmpty_nil, List.isEmpty_cons, ix_lst, ix_tmp, ix_tupE, at0, at1, at_lit, itS_tup, itS_lst, itS_str, itS_tmp, in_str1, notin_str1, sl_tupE, reduceIte, ↓reduceIte, Bool.false_eq_true, Bool.not_true, Bool.not_false, Bool.true_and, Bool.false_and, Bool.and_true, Bool.and_false, Bool.or_true, Bool.true_or, Bool.false_or, Bool.or_false, decide_true, decide_false, if_true, if_false, beq_tt, beq_tf, beq_ft, beq_ff, lcIn_some, lpk_nx, lpk_cnt, lpk_brk, lpk_ret, lpk_exc, nxBd_some, lcl_nil, lp_nil, bodyOf_K, isR_encN, e1, rv, ei, c, e2, e3, a0, a1, same, r2', lcl_K, List.length_nil, List.length_cons, List.nil_append, List.cons_append, Nat.reduceAdd, Nat.reduceLT, SL, twice]
theorem law_turn {p1 p2 p3 p4 p5 p6 p7 p8 : Option D} {i : Nat} (T : Store) :
    ∃ l' S', bodyOf (bN 1) (body37 (k + 201)) (.int (i : Int)) [some (.scr ns), p1, p2, p3, p4, p5, p6, p7, p8] T = .nx l' S' ∧ ∃ p1 p2 p3 p4 p5 p6 p7 p8, l' = [some (.scr ns), p1, p2, p3, p4, p5, p6, p7, p8] := by
  obtain ⟨c, ec⟩ := e_cell (k + 200) ns i T
  obtain ⟨x, eb, ok⟩ := e_box (k + 200) c T
  have ec : Φ (k + 201) 18 [.scr ns, .int (i : Int)] T = .ok (.int c) T := ec
  have eb : Φ (k + 201) 19 [.int c] T = .ok (.tmp [.int x.g, .bl x.b, .int x.m, .int x.c]) T := eb
  have bo : SO.lst [.int x.g, .bl x.b, .int x.m, .int x.c] = x.o := rfl
  have h : (T ++ [x.o])[T.length]? = some x.o := one0
  generalize hS : T ++ [x.o] = S at h
  generalize hn : T.length = n at h
  obtain ⟨t, y1, e1, q1, ht, hz⟩ := e_lsome (k := k + 158) h ok (by decide)
  have g := set_get (b := Bx.o y1) h
  obtain ⟨r, y2, e2, r0, r1, q2⟩ := e_take (k := k + 200) (many := 9) g q1 (by decide) (by decide) (by decide)
  have g := set_get (b := Bx.o y2) g
  obtain ⟨m, rfl⟩ : ∃ m : Nat, r = m := ⟨r.toNat, by omega⟩
  obtain ⟨u, y3, e3, q3, hu, uz⟩ := e_lterm (1 + m) (k + 201) _ n y2 _ [[97], [98], [120], [121], [97, 98]] (by omega) (by omega) g q2 (by omega) ⟨by simp, by decide⟩ (by simp; omega)
  have q3 := ok_more q3 (show _ ≤ (300 : Int) by omega)
  have es1 : ((1 + m : Nat) : Int) = 1 + (m : Int) := by omega
  rw [es1] at e3
  have g := set_get (b := Bx.o y3) g
  obtain ⟨v, y4, e4, hv, vz, q4⟩ := e_renamed (k := k + 198) g q3 (by decide) hu
  have g := set_get (b := Bx.o y4) g
  obtain ⟨w0, y5, e5, q5, hw0, w0z⟩ := e_lterm 5 (k + 201) _ n y4 _ [[99], [97]] (by omega) (by omega) g q4 (by decide) ⟨by simp, by decide⟩ (by simp)
  have g := set_get (b := Bx.o y5) g
  obtain ⟨w, y6, e6, hw, wz, q6⟩ := e_renamed (k := k + 198) g q5 (by decide) hw0
  have g := set_get (b := Bx.o y6) g
  have q6 := ok_more q6 (show _ ≤ (500 : Int) by decide)
  obtain ⟨y7, f1, q7⟩ := one_turn (k := k) (ns := ns) (p1 := some (.int (i : Int))) (p3 := some (encN t)) (p4 := some (encN u)) (p5 := p5) (p6 := p6) (p7 := p7) (p8 := p8) g q6 (by decide) ht (by omega)
  have g := set_get (b := Bx.o y7) g
  obtain ⟨y8, f2, q8⟩ := one_turn (k := k) (ns := ns) (p1 := some (.int (i : Int))) (p3 := some (encN t)) (p4 := some (encN u)) (p5 := some (encN t)) (p6 := p6) (p7 := p7) (p8 := p8) g q7 (by decide) hu (by omega)
  have g := set_get (b := Bx.o y8) g
  obtain ⟨y9, f3, q9⟩ := one_turn (k := k) (ns := ns) (p1 := some (.int (i : Int))) (p3 := some (encN t)) (p4 := some (encN u)) (p5 := some (encN u)) (p6 := p6) (p7 := p7) (p8 := p8) g q8 (by decide) hv (by omega)
  have g := set_get (b := Bx.o y9) g
  obtain ⟨y10, f4, q10⟩ := one_turn (k := k) (ns := ns) (p1 := some (.int (i : Int))) (p3 := some (encN t)) (p4 := some (encN u)) (p5 := some (encN v)) (p6 := p6) (p7 := p7) (p8 := p8) g q9 (by decide) hw (by omega)
  have g := set_get (b := Bx.o y10) g
  have q10 := ok_more q10 (show _ ≤ (600 : Int) by decide)
  simp only [List.set_set] at e1 e2 e3 e4 e5 e6 f1 f2 f3 f4
  obtain ⟨l', S', f5, y11, p6', p7', p8', el, eS, q11⟩ := lp_inv (b := bodyOf (bN 6) (bad37 (k + 201))) (P := fun j l Z => ∃ y p6 p7 p8, l = [some (.scr ns), some (.int (i : Int)), some (.ref n), some (encN t), some (encN u), some (encN w), p6, p7, p8] ∧ Z = S.set n (Bx.o y) ∧ y.ok (600 + 4 * j)) (M := 6) (rng 0 6) 0 [some (.scr ns), some (.int (i : Int)), some (.ref n), some (encN t), some (encN u), some (encN w), p6, p7, p8] (S.set n (Bx.o y10)) (by rfl)
    ⟨y10, p6, p7, p8, rfl, rfl, ok_more q10 (by omega)⟩ (fun d hd j l Z hj hP => by
      obtain ⟨y, p6, p7, p8, rfl, rfl, q⟩ := hP
      obtain ⟨y2, p6', p7', p8', e, q2⟩ := bad_turn (k := k) (ns := ns) (p1 := some (.int (i : Int))) (t := t) (p4 := some (encN u)) (p5 := some (encN w)) (p6 := p6) (p7 := p7) (p8 := p8) (w := d) (set_get (b := Bx.o y) h) q (by omega) ht (by omega)
      rw [List.set_set] at e
      exact ⟨_, _, e, y2, p6', p7', p8', rfl, rfl, ok_more q2 (by omega)⟩)
  subst el eS
  have e1 : Φ (k + 201) 25 [.ref n] S = .ok (encN t) (S.set n (Bx.o y1)) := e1
  have e2 : Φ (k + 201) 20 [.ref n, .int 9] (S.set n (Bx.o y1)) = .ok (.int m) (S.set n (Bx.o y2)) := e2
  have e3 : Φ (k + 201) 24 [.ref n, .int (1 + m), .lst [.str [97], .str [98], .str [120], .str [121], .str [97, 98]]] (S.set n (Bx.o y2)) = .ok (encN u) (S.set n (Bx.o y3)) := e3
  have e4 : Φ (k + 201) 35 [.ref n, encN u] (S.set n (Bx.o y3)) = .ok (encN v) (S.set n (Bx.o y4)) := e4
  have e5 : Φ (k + 201) 24 [.ref n, .int 5, .lst [.str [99], .str [97]]] (S.set n (Bx.o y4)) = .ok (encN w0) (S.set n (Bx.o y5)) := e5
  have e6 : Φ (k + 201) 35 [.ref n, encN w0] (S.set n (Bx.o y5)) = .ok (encN w) (S.set n (Bx.o y6)) := e6
  have r6 : rg1 [.int 6] = some (rng 0 6, chT) := rg1_nat (SL_ge (by decide))
  refine ⟨[some (.scr ns), some (.int (i : Int)), some (.ref n), some (encN t), some (encN u), some (encN w), p6', p7', p8'], S.set n (Bx.o y11), ?_, _, _, _, _, _, _, _, _, rfl⟩
  rw [bodyOf_E, bN_E]
  unfold body37
  simp -dsimp only [bd_ok, bd_exc, tb_ok, tb_exc, sq_nx, sq_ret, sq_brk, sq_cnt, sq_exc, cd_t, cd_f, bOf_bl, andOf_bl, orOf_bl, notOf_some, chOf_bl, isOf_some, itmOf_some, getOf_some, prOf_int, nxOf_some, augOf_some, augIn_some, isVal_int, isVal_str, nxSt_some, of_someE, calm_okE, mC_E, mVar_E, lookS, look0, isR_non, isR_bl, isR_int, isR_str, isR_tup, isR_lst, isR_dic, isR_ref, isR_scr, fix_R, fix_tmpF, fix_tmpT, fix_tdicF, fix_tdicT, mFix_K, mOp2_K, mUn_K, mB_K, mTru_K, mAnd_K, mOr_K, mNot_K, mAndV_K, mOrV_K, mNotV_K, mIf_K, mChain_K, mArgs_nil, mArgs_K, mTup_K, mLst_K, mDic0_E, mCall_K, mCallP_K, mCallB_K, mMeth_K, mIs_K, mItems_K, mGet2_K, mGet1_K, mDis_K, mNo_E, mPart_K, mSl_K, mIt_K, mRg_K, sNx_E, sSeq_K, sRet_K, sRetN_E, sDrop_K, sIf_K, sAsg_K, bN_E, bT_E, bAll_nil, bAll_cons, sPar_K, sAug_K, sPut_K, sRaise_K, sFor_K, mLc_K, mYes_E, wipeL_nil, wipeL_cons, sTry_K, tr_nx, tr_ret, tr_exc, pick_nil, pick_K, out_nx, out_ret, noX_cons, noX_none, noX_nil, xfOf_exn, mXf_K, List.set_cons_succ, List.set_cons_zero, List.getElem?_cons_succ, List.getElem?_cons_zero, List.map_cons, List.map_nil, Option.bind_some, Option.map_some, eq_int, ne_int, eq_str, ne_str, lt_int, le_int, gt_int, ge_int, add_int, sub_int, neg_int, is_nonE, tru_bl, fInt_int, fInt_bl, len_tupE, len_lstE, len_scrE, ty_non, ty_bl, ty_int, ty_str, ty_tup, ty_lst, ty_tmp, ty_dic, ty_tdic, ty_scr, eq_bl, ne_bl, ne_tmpnil, ne_lstnil, eq_tmpnil, eq_lstnil, List.isEmpty_nil, List.isEmpty_cons, ix_lst, ix_tmp, ix_tupE, at0, at1, at_lit, itS_tup, itS_lst, itS_str, itS_tmp, in_str1, notin_str1, sl_tupE, reduceIte, ↓reduceIte, Bool.false_eq_true, Bool.not_true, Bool.not_false, Bool.true_and, Bool.false_and, Bool.and_true, Bool.and_false, Bool.or_true, Bool.true_or, Bool.false_or, Bool.or_false, decide_true, decide_false, if_true, if_false, beq_tt, beq_tf, beq_ft, beq_ff, lcIn_some, lpk_nx, lpk_cnt, lpk_brk, lpk_ret, lpk_exc, nxBd_some, lcl_nil, lp_nil, isR_encN, ec, eb, bo, hS, hn, e1, e2, e3, e4, e5, e6, lp_K, f1, f2, f3, f4, r6, f5]
end
theorem e_law (k : Nat) (ns : List Int) (hn : ns.length ≤ 63) : Φ (k + 202) 37 [.scr ns] [] = .ok (.bl true) [] := by
  obtain ⟨m, hm, em⟩ : ∃ m : Nat, m ≤ 6 ∧ ∀ Z : Store, mRg rg1 [(false, mCallB fMax [(false, mC (.int 3)), (false, mCallB fMin [(false, mC (.int 6)), (false, mCallB fLen [(false, mVar 0)])])])] [some (.scr ns), none, none, none, none, none, none, none, none] Z = .ok (rng 0 m, chT) Z := by
    refine ⟨max 3 (min 6 ns.length), by omega, fun Z => ?_⟩
    have e1 : fMin Z [.int 6, .int (ns.length : Int)] = some (.int ((min 6 ns.length : Nat) : Int)) := by
      show some (D.int (if (ns.length : Int) < 6 then (ns.length : Int) else 6)) = _
      congr 2
      split <;> omega
    have e2 : fMax Z [.int 3, .int ((min 6 ns.length : Nat) : Int)] = some (.int ((max 3 (min 6 ns.length) : Nat) : Int)) := by
      show some (D.int (if ((min 6 ns.length : Nat) : Int) > 3 then ((min 6 ns.length : Nat) : Int) else 3)) = _
      congr 2
      split <;> omega
    have rg : rg1 [.int ((max 3 (min 6 ns.length) : Nat) : Int)] = some (rng 0 (max 3 (min 6 ns.length)), chT) := rg1_nat (SL_ge (by omega))
    simp -dsimp only [bd_ok, bd_exc, tb_ok, tb_exc, sq_nx, sq_ret, sq_brk, sq_cnt, sq_exc, cd_t, cd_f, bOf_bl, andOf_bl, orOf_bl, notOf_some, chOf_bl, isOf_some, itmOf_some, getOf_some, prOf_int, nxOf_some, augOf_some, augIn_some, isVal_int, isVal_str, nxSt_some, of_someE, calm_okE, mC_E, mVar_E, lookS, look0, isR_non, isR_bl, isR_int, isR_str, isR_tup, isR_lst, isR_dic, isR_ref, isR_scr, fix_R, fix_tmpF, fix_tmpT, fix_tdicF, fix_tdicT, mFix_K, mOp2_K, mUn_K, mB_K, mTru_K, mAnd_K, mOr_K, mNot_K, mAndV_K, mOrV_K, mNotV_K, mIf_K, mChain_K, mArgs_nil, mArgs_K, mTup_K, mLst_K, mDic0_E, mCall_K, mCallP_K, mCallB_K, mMeth_K, mIs_K, mItems_K, mGet2_K, mGet1_K, mDis_K, mNo_E, mPart_K, mSl_K, mIt_K, mRg_K, sNx_E, sSeq_K, sRet_K, sRetN_E, sDrop_K, sIf_K, sAsg_K, bN_E, bT_E, bAll_nil, bAll_cons, sPar_K, sAug_K, sPut_K, sRaise_K, sFor_K, mLc_K, mYes_E, wipeL_nil, wipeL_cons, sTry_K, tr_nx, tr_ret, tr_exc, pick_nil, pick_K, out_nx, out_ret, noX_cons, noX_none, noX_nil, xfOf_exn, mXf_K, List.set_cons_succ, List.set_cons_zero, List.getElem?_cons_succ, List.getElem?_cons_zero, List.map_cons, List.map_nil, Option.bind_some, Option.map_some, eq_int, ne_int, eq_str, ne_str, lt_int, le_int, gt_int, ge_int, add_int, sub_int, neg_int, is_nonE, tru_bl, fInt_int, fInt_bl, len_tupE, len_lstE, len_scrE, ty_non, ty_bl, ty_int, ty_str, ty_tup, ty_lst, ty_tmp, ty_dic, ty_tdic, ty_scr, eq_bl, ne_bl, ne_tmpnil, ne_lstnil, eq_tmpnil, eq_lstnil, List.isEmpty_nil, List.isEmpty_cons, ix_lst, ix_tmp, ix_tupE, at0, at1, at_lit, itS_tup, itS_lst, itS_str, itS_tmp, in_str1, notin_str1, sl_tupE, reduceIte, ↓reduceIte, Bool.false_eq_true, Bool.not_true, Bool.not_false, Bool.true_and, Bool.false_and, Bool.and_true, Bool.and_false, Bool.or_true, Bool.true_or, Bool.false_or, Bool.or_false, decide_true, decide_false, if_true, if_false, beq_tt, beq_tf, beq_ft, beq_ff, lcIn_some, lpk_nx, lpk_cnt, lpk_brk, lpk_ret, lpk_exc, nxBd_some, lcl_nil, lp_nil, e1, e2, rg]
  obtain ⟨l', S', e, p⟩ := lp_inv (b := bodyOf (bN 1) (body37 (k + 201))) (P := fun _ l _ => ∃ p1 p2 p3 p4 p5 p6 p7 p8, l = [some (.scr ns), p1, p2, p3, p4, p5, p6, p7, p8]) (M := (rng 0 m).length) (rng 0 m) 0 [some (.scr ns), none, none, none, none, none, none, none, none] [] (Nat.zero_add _) ⟨_, _, _, _, _, _, _, _, rfl⟩ (fun d hd _ l Z _ hP => by
    obtain ⟨p1, p2, p3, p4, p5, p6, p7, p8, rfl⟩ := hP
    obtain ⟨i, _, rfl⟩ := rng_mem hd
    exact law_turn (k := k) (ns := ns) (i := i) Z)
  have e0 : b_37 (Φ (k + 201)) [some (.scr ns), none, none, none, none, none, none, none, none] [] = .ret (.bl true) S' := by
    rw [b37_eq, sSeq_K, sFor_K, em]
    simp -dsimp only [bd_ok, bd_exc, tb_ok, tb_exc, sq_nx, sq_ret, sq_brk, sq_cnt, sq_exc, cd_t, cd_f, bOf_bl, andOf_bl, orOf_bl, notOf_some, chOf_bl, isOf_some, itmOf_some, getOf_some, prOf_int, nxOf_some, augOf_some, augIn_some, isVal_int, isVal_str, nxSt_some, of_someE, calm_okE, mC_E, mVar_E, lookS, look0, isR_non, isR_bl, isR_int, isR_str, isR_tup, isR_lst, isR_dic, isR_ref, isR_scr, fix_R, fix_tmpF, fix_tmpT, fix_tdicF, fix_tdicT, mFix_K, mOp2_K, mUn_K, mB_K, mTru_K, mAnd_K, mOr_K, mNot_K, mAndV_K, mOrV_K, mNotV_K, mIf_K, mChain_K, mArgs_nil, mArgs_K, mTup_K, mLst_K, mDic0_E, mCall_K, mCallP_K, mCallB_K, mMeth_K, mIs_K, mItems_K, mGet2_K, mGet1_K, mDis_K, mNo_E, mPart_K, mSl_K, mIt_K, mRg_K, sNx_E, sSeq_K, sRet_K, sRetN_E, sDrop_K, sIf_K, sAsg_K, bN_E, bT_E, bAll_nil, bAll_cons, sPar_K, sAug_K, sPut_K, sRaise_K, sFor_K, mLc_K, mYes_E, wipeL_nil, wipeL_cons, sTry_K, tr_nx, tr_ret, tr_exc, pick_nil, pick_K, out_nx, out_ret, noX_cons, noX_none, noX_nil, xfOf_exn, mXf_K, List.set_cons_succ, List.set_cons_zero, List.getElem?_cons_succ, List.getElem?_cons_zero, List.map_cons, List.map_nil, Option.bind_some, Option.map_some, eq_int, ne_int, eq_str, ne_str, lt_int, le_int, gt_int, ge_int, add_int, sub_int, neg_int, is_nonE, tru_bl, fInt_int, fInt_bl, len_tupE, len_lstE, len_scrE, ty_non, ty_bl, ty_int, ty_str, ty_tup, ty_lst, ty_tmp, ty_dic, ty_tdic, ty_scr, eq_bl, ne_bl, ne_tmpnil, ne_lstnil, eq_tmpnil, eq_lstnil, List.isEmpty_nil, List.isEmpty_cons, ix_lst, ix_tmp, ix_tupE, at0, at1, at_lit, itS_tup, itS_lst, itS_str, itS_tmp, in_str1, notin_str1, sl_tupE, reduceIte, ↓reduceIte, Bool.false_eq_true, Bool.not_true, Bool.not_false, Bool.true_and, Bool.false_and, Bool.and_true, Bool.and_false, Bool.or_true, Bool.true_or, Bool.false_or, Bool.or_false, decide_true, decide_false, if_true, if_false, beq_tt, beq_tf, beq_ft, beq_ff, lcIn_some, lpk_nx, lpk_cnt, lpk_brk, lpk_ret, lpk_exc, nxBd_some, lcl_nil, lp_nil, e]
  show runD 9 (b_37 (Φ (k + 201))) _ _ = _
  rw [run_ret e0]
  by_cases c : S' = []
  · subst c
    exact gc_same _
  · have g := gc_app (S := []) (T := S') (d := .bl true) (d' := .bl true) c (convT_pl rfl)
    exact g
end k03
end

section
set_option Elab.async false
set_option linter.all false
set_option maxRecDepth 100000
set_option maxHeartbeats 0
/-! k03: each def means what D says. Printed by gen.py. -/
namespace k03
open PySem PySem.Spec L2 LB
open PyProof.Rows hiding St
def top (i : Nat) : Stmt := PySem.Challenge.pw_lambdabench_k03_normal_names_and_closure.main.body.getD i (.Pass ⟨0, 0, 0, 0⟩)
def inCls (s : Stmt) : Stmt := match s with
  | .ClassDef _ _ _ b _ _ _ _ _ _ _ => b.getD 0 (.Pass ⟨0, 0, 0, 0⟩)
  | s => s
abbrev st_0 : Stmt := top 6
abbrev st_1 : Stmt := top 7
abbrev st_2 : Stmt := top 8
abbrev st_3 : Stmt := top 9
abbrev st_4 : Stmt := top 13
abbrev st_5 : Stmt := top 14
abbrev st_6 : Stmt := top 15
abbrev st_7 : Stmt := top 16
abbrev st_8 : Stmt := top 17
abbrev st_9 : Stmt := top 18
abbrev st_10 : Stmt := top 19
abbrev st_11 : Stmt := top 22
abbrev st_12 : Stmt := top 23
abbrev st_13 : Stmt := top 24
abbrev st_14 : Stmt := top 26
abbrev st_15 : Stmt := top 27
abbrev st_16 : Stmt := top 28
abbrev st_17 : Stmt := top 29
abbrev st_18 : Stmt := top 31
abbrev st_19 : Stmt := top 32
abbrev st_20 : Stmt := top 33
abbrev st_21 : Stmt := top 34
abbrev st_22 : Stmt := top 35
abbrev st_23 : Stmt := top 36
abbrev st_24 : Stmt := top 37
abbrev st_25 : Stmt := top 38
abbrev st_26 : Stmt := top 39
abbrev st_27 : Stmt := top 40
abbrev st_28 : Stmt := top 41
abbrev st_29 : Stmt := top 42
abbrev st_30 : Stmt := top 43
abbrev st_31 : Stmt := top 44
abbrev st_32 : Stmt := top 45
abbrev st_33 : Stmt := top 46
abbrev st_34 : Stmt := top 47
abbrev st_35 : Stmt := top 48
abbrev st_36 : Stmt := top 49
abbrev st_37 : Stmt := top 50
abbrev ci_1 : Stmt := inCls (top 2)
abbrev kw_0 : List Str := ["term"]
abbrev kw_1 : List Str := ["term"]
def ps : Nat → List Str
  | 0 => ["value", "most"]
  | 1 => ["value"]
  | 2 => ["index"]
  | 3 => ["used", "many"]
  | 4 => ["part"]
  | 5 => ["head"]
  | 6 => ["heads"]
  | 7 => ["heads"]
  | 8 => ["term"]
  | 9 => ["heads"]
  | 10 => ["heads", "names"]
  | 11 => ["value"]
  | 12 => ["value"]
  | 13 => ["term"]
  | 14 => ["term"]
  | 15 => ["heads"]
  | 16 => ["term"]
  | 17 => ["term"]
  | 18 => ["script", "k"]
  | 19 => ["great"]
  | 20 => ["box", "many"]
  | 21 => ["told", "due"]
  | 22 => ["term", "around"]
  | 23 => ["term", "around"]
  | 24 => ["box", "size", "names"]
  | 25 => ["box"]
  | 26 => ["value"]
  | 27 => ["value"]
  | 28 => ["term"]
  | 29 => ["term", "place", "other"]
  | 30 => ["box", "term"]
  | 31 => ["k"]
  | 32 => ["taken"]
  | 33 => ["which", "term", "by_name"]
  | 34 => ["term", "free", "around", "known"]
  | 35 => ["box", "term"]
  | 36 => ["box", "term"]
  | 37 => ["script"]
  | _ => []
structure En (P : Program) (w : World) (mg : Str → Option Value) (base : Heap) (κ : Kx) (fds xfds : Nat → FuncData) : Prop where
  p : ∀ i, i < nF → PySem.W.keepIn κ.K (.ref (κ.fnA i)) = true
  F_0 : FunD κ.K "is_letters" "is_letters" (defArgs st_0) (defBody st_0) (defScope st_0) [] [] (κ.fnA 0) (fds 0)
  g_0 : mg "is_letters" = some (.ref (κ.fnA 0))
  b_0 : Binds κ.K (fds 0) (ps 0) []
  F_1 : FunD κ.K "is_name" "is_name" (defArgs st_1) (defBody st_1) (defScope st_1) [] [] (κ.fnA 1) (fds 1)
  g_1 : mg "is_name" = some (.ref (κ.fnA 1))
  b_1 : Binds κ.K (fds 1) (ps 1) []
  F_2 : FunD κ.K "name_at" "name_at" (defArgs st_2) (defBody st_2) (defScope st_2) [] [] (κ.fnA 2) (fds 2)
  g_2 : mg "name_at" = some (.ref (κ.fnA 2))
  b_2 : Binds κ.K (fds 2) (ps 2) []
  F_3 : FunD κ.K "fresh_names" "fresh_names" (defArgs st_3) (defBody st_3) (defScope st_3) [] [] (κ.fnA 3) (fds 3)
  g_3 : mg "fresh_names" = some (.ref (κ.fnA 3))
  b_3 : Binds κ.K (fds 3) (ps 3) []
  F_4 : FunD κ.K "parts_of" "parts_of" (defArgs st_4) (defBody st_4) (defScope st_4) [] [] (κ.fnA 4) (fds 4)
  g_4 : mg "parts_of" = some (.ref (κ.fnA 4))
  b_4 : Binds κ.K (fds 4) (ps 4) []
  F_5 : FunD κ.K "count_of" "count_of" (defArgs st_5) (defBody st_5) (defScope st_5) [] [] (κ.fnA 5) (fds 5)
  g_5 : mg "count_of" = some (.ref (κ.fnA 5))
  b_5 : Binds κ.K (fds 5) (ps 5) []
  F_6 : FunD κ.K "built" "built" (defArgs st_6) (defBody st_6) (defScope st_6) [] [] (κ.fnA 6) (fds 6)
  g_6 : mg "built" = some (.ref (κ.fnA 6))
  b_6 : Binds κ.K (fds 6) (ps 6) []
  F_7 : FunD κ.K "depths_of" "depths_of" (defArgs st_7) (defBody st_7) (defScope st_7) [] [] (κ.fnA 7) (fds 7)
  g_7 : mg "depths_of" = some (.ref (κ.fnA 7))
  b_7 : Binds κ.K (fds 7) (ps 7) []
  F_8 : FunD κ.K "numbered_heads" "numbered_heads" (defArgs st_8) (defBody st_8) (defScope st_8) [] [] (κ.fnA 8) (fds 8)
  g_8 : mg "numbered_heads" = some (.ref (κ.fnA 8))
  b_8 : Binds κ.K (fds 8) (ps 8) []
  F_9 : FunD κ.K "free_in" "free_in" (defArgs st_9) (defBody st_9) (defScope st_9) [] [] (κ.fnA 9) (fds 9)
  g_9 : mg "free_in" = some (.ref (κ.fnA 9))
  b_9 : Binds κ.K (fds 9) (ps 9) []
  F_10 : FunD κ.K "named_heads" "named_heads" (defArgs st_10) (defBody st_10) (defScope st_10) [] [] (κ.fnA 10) (fds 10)
  g_10 : mg "named_heads" = some (.ref (κ.fnA 10))
  b_10 : Binds κ.K (fds 10) (ps 10) []
  F_11 : FunD κ.K "has_form" "has_form" (defArgs st_11) (defBody st_11) (defScope st_11) [] [] (κ.fnA 11) (fds 11)
  g_11 : mg "has_form" = some (.ref (κ.fnA 11))
  b_11 : Binds κ.K (fds 11) (ps 11) []
  F_12 : FunD κ.K "fits_term" "fits_term" (defArgs st_12) (defBody st_12) (defScope st_12) [] [] (κ.fnA 12) (fds 12)
  g_12 : mg "fits_term" = some (.ref (κ.fnA 12))
  b_12 : Binds κ.K (fds 12) (ps 12) []
  F_13 : FunD κ.K "check_term" "check_term" (defArgs st_13) (defBody st_13) (defScope st_13) [] [] (κ.fnA 13) (fds 13)
  g_13 : mg "check_term" = some (.ref (κ.fnA 13))
  b_13 : Binds κ.K (fds 13) (ps 13) []
  F_14 : FunD κ.K "free_of" "free_of" (defArgs st_14) (defBody st_14) (defScope st_14) [] [] (κ.fnA 14) (fds 14)
  g_14 : mg "free_of" = some (.ref (κ.fnA 14))
  b_14 : Binds κ.K (fds 14) (ps 14) []
  F_15 : FunD κ.K "in_normal_names" "in_normal_names" (defArgs st_15) (defBody st_15) (defScope st_15) [] [] (κ.fnA 15) (fds 15)
  g_15 : mg "in_normal_names" = some (.ref (κ.fnA 15))
  b_15 : Binds κ.K (fds 15) (ps 15) []
  F_16 : FunD κ.K "normal_names" "normal_names" (defArgs st_16) (defBody st_16) (defScope st_16) [] [] (κ.fnA 16) (fds 16)
  g_16 : mg "normal_names" = some (.ref (κ.fnA 16))
  b_16 : Binds κ.K (fds 16) (ps 16) []
  F_17 : FunD κ.K "closure" "closure" (defArgs st_17) (defBody st_17) (defScope st_17) [] [] (κ.fnA 17) (fds 17)
  g_17 : mg "closure" = some (.ref (κ.fnA 17))
  b_17 : Binds κ.K (fds 17) (ps 17) []
  F_18 : FunD κ.K "_law_cell" "_law_cell" (defArgs st_18) (defBody st_18) (defScope st_18) [] [] (κ.fnA 18) (fds 18)
  g_18 : mg "_law_cell" = some (.ref (κ.fnA 18))
  b_18 : Binds κ.K (fds 18) (ps 18) []
  F_19 : FunD κ.K "_law_box" "_law_box" (defArgs st_19) (defBody st_19) (defScope st_19) [] [] (κ.fnA 19) (fds 19)
  g_19 : mg "_law_box" = some (.ref (κ.fnA 19))
  b_19 : Binds κ.K (fds 19) (ps 19) []
  F_20 : FunD κ.K "_law_take" "_law_take" (defArgs st_20) (defBody st_20) (defScope st_20) [] [] (κ.fnA 20) (fds 20)
  g_20 : mg "_law_take" = some (.ref (κ.fnA 20))
  b_20 : Binds κ.K (fds 20) (ps 20) []
  F_21 : FunD κ.K "_law_same" "_law_same" (defArgs st_21) (defBody st_21) (defScope st_21) [] [] (κ.fnA 21) (fds 21)
  g_21 : mg "_law_same" = some (.ref (κ.fnA 21))
  b_21 : Binds κ.K (fds 21) (ps 21) []
  F_22 : FunD κ.K "_law_numbered" "_law_numbered" (defArgs st_22) (defBody st_22) (defScope st_22) [] [] (κ.fnA 22) (fds 22)
  g_22 : mg "_law_numbered" = some (.ref (κ.fnA 22))
  b_22 : Binds κ.K (fds 22) (ps 22) []
  F_23 : FunD κ.K "_law_free" "_law_free" (defArgs st_23) (defBody st_23) (defScope st_23) [] [] (κ.fnA 23) (fds 23)
  g_23 : mg "_law_free" = some (.ref (κ.fnA 23))
  b_23 : Binds κ.K (fds 23) (ps 23) []
  F_24 : FunD κ.K "_law_term" "_law_term" (defArgs st_24) (defBody st_24) (defScope st_24) [] [] (κ.fnA 24) (fds 24)
  g_24 : mg "_law_term" = some (.ref (κ.fnA 24))
  b_24 : Binds κ.K (fds 24) (ps 24) []
  F_25 : FunD κ.K "_law_some" "_law_some" (defArgs st_25) (defBody st_25) (defScope st_25) [] [] (κ.fnA 25) (fds 25)
  g_25 : mg "_law_some" = some (.ref (κ.fnA 25))
  b_25 : Binds κ.K (fds 25) (ps 25) []
  F_26 : FunD κ.K "_law_is_name" "_law_is_name" (defArgs st_26) (defBody st_26) (defScope st_26) [] [] (κ.fnA 26) (fds 26)
  g_26 : mg "_law_is_name" = some (.ref (κ.fnA 26))
  b_26 : Binds κ.K (fds 26) (ps 26) []
  F_27 : FunD κ.K "_law_is_term" "_law_is_term" (defArgs st_27) (defBody st_27) (defScope st_27) [] [] (κ.fnA 27) (fds 27)
  g_27 : mg "_law_is_term" = some (.ref (κ.fnA 27))
  b_27 : Binds κ.K (fds 27) (ps 27) []
  F_28 : FunD κ.K "_law_walk" "_law_walk" (defArgs st_28) (defBody st_28) (defScope st_28) [] [] (κ.fnA 28) (fds 28)
  g_28 : mg "_law_walk" = some (.ref (κ.fnA 28))
  b_28 : Binds κ.K (fds 28) (ps 28) []
  F_29 : FunD κ.K "_law_with" "_law_with" (defArgs st_29) (defBody st_29) (defScope st_29) [] [] (κ.fnA 29) (fds 29)
  g_29 : mg "_law_with" = some (.ref (κ.fnA 29))
  b_29 : Binds κ.K (fds 29) (ps 29) []
  F_30 : FunD κ.K "_law_odd" "_law_odd" (defArgs st_30) (defBody st_30) (defScope st_30) [] [] (κ.fnA 30) (fds 30)
  g_30 : mg "_law_odd" = some (.ref (κ.fnA 30))
  b_30 : Binds κ.K (fds 30) (ps 30) []
  F_31 : FunD κ.K "_law_name" "_law_name" (defArgs st_31) (defBody st_31) (defScope st_31) [] [] (κ.fnA 31) (fds 31)
  g_31 : mg "_law_name" = some (.ref (κ.fnA 31))
  b_31 : Binds κ.K (fds 31) (ps 31) []
  F_32 : FunD κ.K "_law_fresh" "_law_fresh" (defArgs st_32) (defBody st_32) (defScope st_32) [] [] (κ.fnA 32) (fds 32)
  g_32 : mg "_law_fresh" = some (.ref (κ.fnA 32))
  b_32 : Binds κ.K (fds 32) (ps 32) []
  F_33 : FunD κ.K "_law_asked" "_law_asked" (defArgs st_33) (defBody st_33) (defScope st_33) [] [] (κ.fnA 33) (fds 33)
  g_33 : mg "_law_asked" = some (.ref (κ.fnA 33))
  b_33 : Binds κ.K (fds 33) (ps 33) []
  F_34 : FunD κ.K "_law_normal" "_law_normal" (defArgs st_34) (defBody st_34) (defScope st_34) [] [] (κ.fnA 34) (fds 34)
  g_34 : mg "_law_normal" = some (.ref (κ.fnA 34))
  b_34 : Binds κ.K (fds 34) (ps 34) []
  F_35 : FunD κ.K "_law_renamed_lams" "_law_renamed_lams" (defArgs st_35) (defBody st_35) (defScope st_35) [] [] (κ.fnA 35) (fds 35)
  g_35 : mg "_law_renamed_lams" = some (.ref (κ.fnA 35))
  b_35 : Binds κ.K (fds 35) (ps 35) []
  F_36 : FunD κ.K "_law_right" "_law_right" (defArgs st_36) (defBody st_36) (defScope st_36) [] [] (κ.fnA 36) (fds 36)
  g_36 : mg "_law_right" = some (.ref (κ.fnA 36))
  b_36 : Binds κ.K (fds 36) (ps 36) []
  F_37 : FunD κ.K "law" "law" (defArgs st_37) (defBody st_37) (defScope st_37) [] [] (κ.fnA 37) (fds 37)
  g_37 : mg "law" = some (.ref (κ.fnA 37))
  b_37 : Binds κ.K (fds 37) (ps 37) []
  w_0 : KwB κ.K (fds 16) (ps 16) kw_0 [0]
  w_1 : KwB κ.K (fds 17) (ps 17) kw_1 [0]
  u_abs : mg "abs" = none
  u_all : mg "all" = none
  u_bool : mg "bool" = none
  u_dict : mg "dict" = none
  u_int : mg "int" = none
  u_isinstance : mg "isinstance" = none
  u_len : mg "len" = none
  u_list : mg "list" = none
  u_max : mg "max" = none
  u_min : mg "min" = none
  u_range : mg "range" = none
  u_set : mg "set" = none
  u_sorted : mg "sorted" = none
  u_str : mg "str" = none
  u_sum : mg "sum" = none
  u_tuple : mg "tuple" = none
  u_zip : mg "zip" = none
  k_APP : mg "APP" = some (.ref (He.ga κ.K "APP"))
  t_APP : ∀ H, SqT κ.K H (He.ga κ.K "APP") [.str "app"]
  d_APP : ∀ (z : Kx) g H, RDs z g H [.str [97, 112, 112]] [.str "app"]
  k_LAM : mg "LAM" = some (.ref (He.ga κ.K "LAM"))
  t_LAM : ∀ H, SqT κ.K H (He.ga κ.K "LAM") [.str "lam"]
  d_LAM : ∀ (z : Kx) g H, RDs z g H [.str [108, 97, 109]] [.str "lam"]
  k_LETTERS : ∃ t, mg "LETTERS" = some (.str "abcdefghijklmnopqrstuvwxyz" t)
  k_MOST_LETTERS : ∃ t, mg "MOST_LETTERS" = some (.int 4 t)
  k_MOST_SIZE : ∃ t, mg "MOST_SIZE" = some (.int 2000 t)
  c_1 : mg "InvalidTerm" = some (.ref (κ.clA 1))
  l_1 : κ.fld 1 = "given"
  x_1 : XC P w κ.K mg base 1 (κ.clA 1) "given" (He.ma κ.K (κ.clA 1) "__init__") (xfds 1) ["self", "given"]
  ex : ∀ c, c < nC → ∀ d, d < nC → PySem.W.exmOne κ.K (.ref (κ.clA c)) (.ref (κ.clA d)) = some (subC c d)
def Tab (P : Program) (w : World) (mg : Str → Option Value) (base : Heap) (κ : Kx) (fds : Nat → FuncData) (k : Nat) : Prop := ∀ i, i < nF → FnOk P w κ.K mg base (L2.CX P w) (k + 2) (κ.fnA i) (fds i) (ps i) (spOf κ (ps i).length (Φ k i))
section
variable {P : Program} {w : World} {mg : Str → Option Value} {base : Heap} {κ : Kx} {fds xfds : Nat → FuncData} {k : Nat}
theorem sc_0 : FnScope ["value", "most", "sign"] (ps 0) (defScope st_0) := ⟨rfl, rfl, rfl, by decide +kernel, rfl, by decide +kernel, by decide +kernel⟩
theorem ok_0 (G : En P w mg base κ fds xfds) (T : Tab P w mg base κ fds k) : FnOk P w κ.K mg base (L2.CX P w) (k + 3) (κ.fnA 0) (fds 0) (ps 0) (spOf κ 2 (Φ (k + 1) 0)) := fn_ok G.F_0 sc_0 rfl fun gx cdv A outer s H E fx => (s_one (s_ret (p_and (p_is1 (n := "str") fx.hK rfl G.u_isinstance rfl G.u_str (p_var (i := 0) rfl (by first | exact .inl rfl | exact .inr (.inl rfl) | exact .inr (.inr rfl))) (by first | rfl | decide +kernel)) (p_and (p_chain fx.hK fx.hu (p_int) (p_callB (fLen_ok fx.hK) rfl G.u_len (by first | rfl | decide +kernel) (a_cons (k := false) (p_var (i := 0) rfl (by first | exact .inl rfl | exact .inr (.inl rfl) | exact .inr (.inr rfl))) (a_nil))) (p_var (i := 1) rfl (by first | exact .inl rfl | exact .inr (.inl rfl) | exact .inr (.inr rfl)))) (p_one (p_callB (fAll_ok rfl) rfl G.u_all (by first | rfl | decide +kernel) (a_cons (k := false) (p_lc (own := [("sign", 2)]) rfl fx.nd (i_sq fx.hK (p_var (i := 0) rfl (by first | exact .inl rfl | exact .inr (.inl rfl) | exact .inr (.inr rfl)))) (by first | rfl | decide +kernel) (fun _ _ _ _ _ => g_name (i := 2) fx.nd rfl (by first | exact .inl rfl | exact .inr rfl)) (fun _ _ _ _ _ => ts_nil) (fun _ _ _ _ _ => p_cmp fx.hK fx.hu (p_var (i := 2) rfl (by first | exact .inl rfl | exact .inr (.inl rfl) | exact .inr (.inr rfl))) (p_gstr [97, 98, 99, 100, 101, 102, 103, 104, 105, 106, 107, 108, 109, 110, 111, 112, 113, 114, 115, 116, 117, 118, 119, 120, 121, 122] rfl G.k_LETTERS (by rfl)))) (a_nil))))))))
theorem sc_1 : FnScope ["value"] (ps 1) (defScope st_1) := ⟨rfl, rfl, rfl, by decide +kernel, rfl, by decide +kernel, by decide +kernel⟩
theorem ok_1 (G : En P w mg base κ fds xfds) (T : Tab P w mg base κ fds k) : FnOk P w κ.K mg base (L2.CX P w) (k + 3) (κ.fnA 1) (fds 1) (ps 1) (spOf κ 1 (Φ (k + 1) 1)) := fn_ok G.F_1 sc_1 rfl fun gx cdv A outer s H E fx => (s_one (s_ret (p_call (n := 2) (T 0 (by decide)) fx.hr fx.tk (G.p 0 (by decide)) G.b_0 G.g_0 rfl (a_cons (k := false) (p_var (i := 0) rfl (by first | exact .inl rfl | exact .inr (.inl rfl) | exact .inr (.inr rfl))) (a_cons (k := false) (p_gint rfl G.k_MOST_LETTERS) (a_nil))))))
theorem sc_2 : FnScope ["index", "found", "left"] (ps 2) (defScope st_2) := ⟨rfl, rfl, rfl, by decide +kernel, rfl, by decide +kernel, by decide +kernel⟩
theorem ok_2 (G : En P w mg base κ fds xfds) (T : Tab P w mg base κ fds k) : FnOk P w κ.K mg base (L2.CX P w) (k + 3) (κ.fnA 2) (fds 2) (ps 2) (spOf κ 1 (Φ (k + 1) 2)) := fn_ok G.F_2 sc_2 rfl fun gx cdv A outer s H E fx => (s_cons (s_par rfl fx.nd (a_cons (k := false) (p_str [] (by rfl)) (a_cons (k := false) (p_bin fx.hK (p_var (i := 0) rfl (by first | exact .inl rfl | exact .inr (.inl rfl) | exact .inr (.inr rfl))) (p_int)) (a_nil)))) (s_cons (s_while (passes_of rfl) (q_cmp fx.hK fx.hu (p_var (i := 2) rfl (by first | exact .inl rfl | exact .inr (.inl rfl) | exact .inr (.inr rfl))) (p_int)) (s_cons (s_set (i := 1) (k := false) fx.nd rfl (by first | exact .inl rfl | exact .inr rfl) (p_bin fx.hK (p_ix fx.hK fx.hu (p_gstr [97, 98, 99, 100, 101, 102, 103, 104, 105, 106, 107, 108, 109, 110, 111, 112, 113, 114, 115, 116, 117, 118, 119, 120, 121, 122] rfl G.k_LETTERS (by rfl)) (p_bin fx.hK (p_bin fx.hK (p_var (i := 2) rfl (by first | exact .inl rfl | exact .inr (.inl rfl) | exact .inr (.inr rfl))) (p_int)) (p_callB (fLen_ok fx.hK) rfl G.u_len (by first | rfl | decide +kernel) (a_cons (k := false) (p_gstr [97, 98, 99, 100, 101, 102, 103, 104, 105, 106, 107, 108, 109, 110, 111, 112, 113, 114, 115, 116, 117, 118, 119, 120, 121, 122] rfl G.k_LETTERS (by rfl)) (a_nil))))) (p_var (i := 1) rfl (by first | exact .inl rfl | exact .inr (.inl rfl) | exact .inr (.inr rfl))))) (s_one (s_set (i := 2) (k := false) fx.nd rfl (by first | exact .inl rfl | exact .inr rfl) (p_bin fx.hK (p_bin fx.hK (p_var (i := 2) rfl (by first | exact .inl rfl | exact .inr (.inl rfl) | exact .inr (.inr rfl))) (p_int)) (p_callB (fLen_ok fx.hK) rfl G.u_len (by first | rfl | decide +kernel) (a_cons (k := false) (p_gstr [97, 98, 99, 100, 101, 102, 103, 104, 105, 106, 107, 108, 109, 110, 111, 112, 113, 114, 115, 116, 117, 118, 119, 120, 121, 122] rfl G.k_LETTERS (by rfl)) (a_nil)))))))) (s_one (s_ret (p_var (i := 1) rfl (by first | exact .inl rfl | exact .inr (.inl rfl) | exact .inr (.inr rfl)))))))
theorem sc_3 : FnScope ["used", "many", "taken", "found", "index", "name"] (ps 3) (defScope st_3) := ⟨rfl, rfl, rfl, by decide +kernel, rfl, by decide +kernel, by decide +kernel⟩
theorem ok_3 (G : En P w mg base κ fds xfds) (T : Tab P w mg base κ fds k) : FnOk P w κ.K mg base (L2.CX P w) (k + 3) (κ.fnA 3) (fds 3) (ps 3) (spOf κ 2 (Φ (k + 1) 3)) := fn_ok G.F_3 sc_3 rfl fun gx cdv A outer s H E fx => (s_cons (s_par3 rfl fx.nd (a_cons (k := false) (p_callTy (fDict_ok rfl fx.hK) rfl G.u_dict (by first | rfl | decide +kernel) (a_cons (k := false) (p_lc (own := [("name", 5)]) rfl fx.nd (i_sq fx.hK (p_var (i := 0) rfl (by first | exact .inl rfl | exact .inr (.inl rfl) | exact .inr (.inr rfl)))) (by first | rfl | decide +kernel) (fun _ _ _ _ _ => g_name (i := 5) fx.nd rfl (by first | exact .inl rfl | exact .inr rfl)) (fun _ _ _ _ _ => ts_nil) (fun _ _ _ _ _ => p_tup (a_cons (k := false) (p_var (i := 5) rfl (by first | exact .inl rfl | exact .inr (.inl rfl) | exact .inr (.inr rfl))) (a_cons (k := false) (p_bl) (a_nil))))) (a_nil))) (a_cons (k := true) (p_lst (a_nil)) (a_cons (k := false) (p_int) (a_nil))))) (s_cons (s_while (passes_of rfl) (q_cmp fx.hK fx.hu (p_callB (fLen_ok fx.hK) rfl G.u_len (by first | rfl | decide +kernel) (a_cons (k := false) (p_var (i := 3) rfl (by first | exact .inl rfl | exact .inr (.inl rfl) | exact .inr (.inr rfl))) (a_nil))) (p_var (i := 1) rfl (by first | exact .inl rfl | exact .inr (.inl rfl) | exact .inr (.inr rfl)))) (s_cons (s_if (q_cmp fx.hK fx.hu (p_call (n := 1) (T 2 (by decide)) fx.hr fx.tk (G.p 2 (by decide)) G.b_2 G.g_2 rfl (a_cons (k := false) (p_var (i := 4) rfl (by first | exact .inl rfl | exact .inr (.inl rfl) | exact .inr (.inr rfl))) (a_nil))) (p_var (i := 2) rfl (by first | exact .inl rfl | exact .inr (.inl rfl) | exact .inr (.inr rfl)))) (s_one (s_drop (p_app fx.hK (p_var (i := 3) rfl (by first | exact .inl rfl | exact .inr (.inl rfl) | exact .inr (.inr rfl))) (a_cons (k := false) (p_call (n := 1) (T 2 (by decide)) fx.hr fx.tk (G.p 2 (by decide)) G.b_2 G.g_2 rfl (a_cons (k := false) (p_var (i := 4) rfl (by first | exact .inl rfl | exact .inr (.inl rfl) | exact .inr (.inr rfl))) (a_nil))) (a_nil))))) (s_nil)) (s_one (s_aug (j := 4) fx.nd rfl (by first | exact .inl rfl | exact .inr rfl) (p_int))))) (s_one (s_ret (p_var (i := 3) rfl (by first | exact .inl rfl | exact .inr (.inl rfl) | exact .inr (.inr rfl)))))))
theorem sc_4 : FnScope ["part"] (ps 4) (defScope st_4) := ⟨rfl, rfl, rfl, by decide +kernel, rfl, by decide +kernel, by decide +kernel⟩
theorem ok_4 (G : En P w mg base κ fds xfds) (T : Tab P w mg base κ fds k) : FnOk P w κ.K mg base (L2.CX P w) (k + 3) (κ.fnA 4) (fds 4) (ps 4) (spOf κ 1 (Φ (k + 1) 4)) := fn_ok G.F_4 sc_4 rfl fun gx cdv A outer s H E fx => (s_cons (s_if (q_cmp fx.hK fx.hu (p_ix fx.hK fx.hu (p_var (i := 0) rfl (by first | exact .inl rfl | exact .inr (.inl rfl) | exact .inr (.inr rfl))) (p_int)) (p_str [97, 112, 112] (by rfl))) (s_one (s_ret (p_sl fx.hK (p_var (i := 0) rfl (by first | exact .inl rfl | exact .inr (.inl rfl) | exact .inr (.inr rfl))) (o_some (p_int)) (o_none)))) (s_nil)) (s_one (s_ret (p_if (q_cmp fx.hK fx.hu (p_ix fx.hK fx.hu (p_var (i := 0) rfl (by first | exact .inl rfl | exact .inr (.inl rfl) | exact .inr (.inr rfl))) (p_int)) (p_str [108, 97, 109] (by rfl))) (p_sl fx.hK (p_var (i := 0) rfl (by first | exact .inl rfl | exact .inr (.inl rfl) | exact .inr (.inr rfl))) (o_some (p_neg (p_int))) (o_none)) (p_tup (a_nil))))))
theorem sc_5 : FnScope ["head"] (ps 5) (defScope st_5) := ⟨rfl, rfl, rfl, by decide +kernel, rfl, by decide +kernel, by decide +kernel⟩
theorem ok_5 (G : En P w mg base κ fds xfds) (T : Tab P w mg base κ fds k) : FnOk P w κ.K mg base (L2.CX P w) (k + 3) (κ.fnA 5) (fds 5) (ps 5) (spOf κ 1 (Φ (k + 1) 5)) := fn_ok G.F_5 sc_5 rfl fun gx cdv A outer s H E fx => (s_cons (s_if (q_cmp fx.hK fx.hu (p_ix fx.hK fx.hu (p_var (i := 0) rfl (by first | exact .inl rfl | exact .inr (.inl rfl) | exact .inr (.inr rfl))) (p_int)) (p_str [97, 112, 112] (by rfl))) (s_one (s_ret (p_int))) (s_nil)) (s_one (s_ret (p_if (q_cmp fx.hK fx.hu (p_ix fx.hK fx.hu (p_var (i := 0) rfl (by first | exact .inl rfl | exact .inr (.inl rfl) | exact .inr (.inr rfl))) (p_int)) (p_str [108, 97, 109] (by rfl))) (p_int) (p_int)))))
theorem sc_6 : FnScope ["heads", "done", "head", "parts", "_"] (ps 6) (defScope st_6) := ⟨rfl, rfl, rfl, by decide +kernel, rfl, by decide +kernel, by decide +kernel⟩
theorem ok_6 (G : En P w mg base κ fds xfds) (T : Tab P w mg base κ fds k) : FnOk P w κ.K mg base (L2.CX P w) (k + 3) (κ.fnA 6) (fds 6) (ps 6) (spOf κ 1 (Φ (k + 1) 6)) := fn_ok G.F_6 sc_6 rfl fun gx cdv A outer s H E fx => (s_cons (s_set (i := 1) (k := true) fx.nd rfl (by first | exact .inl rfl | exact .inr rfl) (p_lst (a_nil))) (s_cons (s_for (passes_of rfl) rfl (i_sq fx.hK (p_back fx.hK (p_var (i := 0) rfl (by first | exact .inl rfl | exact .inr (.inl rfl) | exact .inr (.inr rfl))))) (g_name (i := 2) fx.nd rfl (by first | exact .inl rfl | exact .inr rfl)) (s_cons (s_setLc (i := 3) (k := false) (own := [("_", 4)]) rfl fx.nd rfl rfl (by rfl) (i_rg1 rfl G.u_range (a_cons (k := false) (p_call (n := 1) (T 5 (by decide)) fx.hr fx.tk (G.p 5 (by decide)) G.b_5 G.g_5 rfl (a_cons (k := false) (p_var (i := 2) rfl (by first | exact .inl rfl | exact .inr (.inl rfl) | exact .inr (.inr rfl))) (a_nil))) (a_nil))) (by first | rfl | decide +kernel) (fun _ _ _ _ _ => g_name (i := 4) fx.nd rfl (by first | exact .inl rfl | exact .inr rfl)) (fun _ _ _ _ _ => ts_nil) (fun _ _ _ _ _ => p_pop (p_var (i := 1) rfl (by first | exact .inl rfl | exact .inr (.inl rfl) | exact .inr (.inr rfl))))) (s_one (s_drop (p_app fx.hK (p_var (i := 1) rfl (by first | exact .inl rfl | exact .inr (.inl rfl) | exact .inr (.inr rfl))) (a_cons (k := false) (p_bin fx.hK (p_var (i := 2) rfl (by first | exact .inl rfl | exact .inr (.inl rfl) | exact .inr (.inr rfl))) (p_callTy (fTuple_ok fx.hK) rfl G.u_tuple (by first | rfl | decide +kernel) (a_cons (k := false) (p_var (i := 3) rfl (by first | exact .inl rfl | exact .inr (.inl rfl) | exact .inr (.inr rfl))) (a_nil)))) (a_nil))))))) (s_one (s_ret (p_ix fx.hK fx.hu (p_var (i := 1) rfl (by first | exact .inl rfl | exact .inr (.inl rfl) | exact .inr (.inr rfl))) (p_int))))))
theorem sc_7 : FnScope ["heads", "found", "waiting", "head", "depth"] (ps 7) (defScope st_7) := ⟨rfl, rfl, rfl, by decide +kernel, rfl, by decide +kernel, by decide +kernel⟩
theorem ok_7 (G : En P w mg base κ fds xfds) (T : Tab P w mg base κ fds k) : FnOk P w κ.K mg base (L2.CX P w) (k + 3) (κ.fnA 7) (fds 7) (ps 7) (spOf κ 1 (Φ (k + 1) 7)) := fn_ok G.F_7 sc_7 rfl fun gx cdv A outer s H E fx => (s_cons (s_par rfl fx.nd (a_cons (k := true) (p_lst (a_nil)) (a_cons (k := true) (p_lst (a_cons (k := false) (p_int) (a_nil))) (a_nil)))) (s_cons (s_for (passes_of rfl) rfl (i_sq fx.hK (p_var (i := 0) rfl (by first | exact .inl rfl | exact .inr (.inl rfl) | exact .inr (.inr rfl)))) (g_name (i := 3) fx.nd rfl (by first | exact .inl rfl | exact .inr rfl)) (s_cons (s_set (i := 4) (k := false) fx.nd rfl (by first | exact .inl rfl | exact .inr rfl) (p_pop (p_var (i := 2) rfl (by first | exact .inl rfl | exact .inr (.inl rfl) | exact .inr (.inr rfl))))) (s_cons (s_drop (p_app fx.hK (p_var (i := 1) rfl (by first | exact .inl rfl | exact .inr (.inl rfl) | exact .inr (.inr rfl))) (a_cons (k := false) (p_var (i := 4) rfl (by first | exact .inl rfl | exact .inr (.inl rfl) | exact .inr (.inr rfl))) (a_nil)))) (s_one (s_drop (p_ext fx.hK (p_var (i := 2) rfl (by first | exact .inl rfl | exact .inr (.inl rfl) | exact .inr (.inr rfl))) (a_cons (k := false) (p_bin fx.hK (p_lst (a_cons (k := false) (p_bin fx.hK (p_var (i := 4) rfl (by first | exact .inl rfl | exact .inr (.inl rfl) | exact .inr (.inr rfl))) (p_if (q_cmp fx.hK fx.hu (p_ix fx.hK fx.hu (p_var (i := 3) rfl (by first | exact .inl rfl | exact .inr (.inl rfl) | exact .inr (.inr rfl))) (p_int)) (p_str [108, 97, 109] (by rfl))) (p_int) (p_int))) (a_nil))) (p_call (n := 1) (T 5 (by decide)) fx.hr fx.tk (G.p 5 (by decide)) G.b_5 G.g_5 rfl (a_cons (k := false) (p_var (i := 3) rfl (by first | exact .inl rfl | exact .inr (.inl rfl) | exact .inr (.inr rfl))) (a_nil)))) (a_nil)))))))) (s_one (s_ret (p_var (i := 1) rfl (by first | exact .inl rfl | exact .inr (.inl rfl) | exact .inr (.inr rfl)))))))
theorem sc_8 : FnScope ["term", "found", "waiting", "around", "depth", "part", "rows"] (ps 8) (defScope st_8) := ⟨rfl, rfl, rfl, by decide +kernel, rfl, by decide +kernel, by decide +kernel⟩
theorem ok_8 (G : En P w mg base κ fds xfds) (T : Tab P w mg base κ fds k) : FnOk P w κ.K mg base (L2.CX P w) (k + 3) (κ.fnA 8) (fds 8) (ps 8) (spOf κ 1 (Φ (k + 1) 8)) := fn_ok G.F_8 sc_8 rfl fun gx cdv A outer s H E fx => (s_cons (s_asg (k := false) (p_tup (a_cons (k := true) (p_lst (a_nil)) (a_cons (k := true) (p_lst (a_cons (k := false) (p_var (i := 0) rfl (by first | exact .inl rfl | exact .inr (.inl rfl) | exact .inr (.inr rfl))) (a_nil))) (a_cons (k := true) (p_dic0) (a_cons (k := false) (p_int) (a_nil)))))) (g_tup fx.hK rfl (gs_cons (g_name (i := 1) fx.nd rfl (by first | exact .inl rfl | exact .inr rfl)) (gs_cons (g_name (i := 2) fx.nd rfl (by first | exact .inl rfl | exact .inr rfl)) (gs_cons (g_name (i := 3) fx.nd rfl (by first | exact .inl rfl | exact .inr rfl)) (gs_cons (g_name (i := 4) fx.nd rfl (by first | exact .inl rfl | exact .inr rfl)) (gs_nil))))) rfl)) (s_cons (s_while (passes_of rfl) (q_cmp fx.hK fx.hu (p_var (i := 2) rfl (by first | exact .inl rfl | exact .inr (.inl rfl) | exact .inr (.inr rfl))) (p_lst (a_nil))) (s_cons (s_set (i := 5) (k := false) fx.nd rfl (by first | exact .inl rfl | exact .inr rfl) (p_pop (p_var (i := 2) rfl (by first | exact .inl rfl | exact .inr (.inl rfl) | exact .inr (.inr rfl))))) (s_one (s_if (q_cmp fx.hK fx.hu (p_ix fx.hK fx.hu (p_var (i := 5) rfl (by first | exact .inl rfl | exact .inr (.inl rfl) | exact .inr (.inr rfl))) (p_int)) (p_str [118, 97, 114] (by rfl))) (s_cons (s_set (i := 6) (k := false) fx.nd rfl (by first | exact .inl rfl | exact .inr rfl) (p_get2 fx.hu (p_var (i := 3) rfl (by first | exact .inl rfl | exact .inr (.inl rfl) | exact .inr (.inr rfl))) (p_ix fx.hK fx.hu (p_var (i := 5) rfl (by first | exact .inl rfl | exact .inr (.inl rfl) | exact .inr (.inr rfl))) (p_int)) (p_lst (a_nil)))) (s_one (s_drop (p_app fx.hK (p_var (i := 1) rfl (by first | exact .inl rfl | exact .inr (.inl rfl) | exact .inr (.inr rfl))) (a_cons (k := false) (p_if (q_cmp fx.hK fx.hu (p_var (i := 6) rfl (by first | exact .inl rfl | exact .inr (.inl rfl) | exact .inr (.inr rfl))) (p_lst (a_nil))) (p_tup (a_cons (k := false) (p_str [110, 117, 109] (by rfl)) (a_cons (k := false) (p_bin fx.hK (p_bin fx.hK (p_var (i := 4) rfl (by first | exact .inl rfl | exact .inr (.inl rfl) | exact .inr (.inr rfl))) (p_int)) (p_ix fx.hK fx.hu (p_var (i := 6) rfl (by first | exact .inl rfl | exact .inr (.inl rfl) | exact .inr (.inr rfl))) (p_neg (p_int)))) (a_nil)))) (p_tup (a_cons (k := false) (p_str [102, 114, 101, 101] (by rfl)) (a_cons (k := false) (p_ix fx.hK fx.hu (p_var (i := 5) rfl (by first | exact .inl rfl | exact .inr (.inl rfl) | exact .inr (.inr rfl))) (p_int)) (a_nil))))) (a_nil)))))) (s_one (s_if (q_cmp fx.hK fx.hu (p_ix fx.hK fx.hu (p_var (i := 5) rfl (by first | exact .inl rfl | exact .inr (.inl rfl) | exact .inr (.inr rfl))) (p_int)) (p_str [97, 112, 112] (by rfl))) (s_cons (s_drop (p_app fx.hK (p_var (i := 1) rfl (by first | exact .inl rfl | exact .inr (.inl rfl) | exact .inr (.inr rfl))) (a_cons (k := false) (p_gtup rfl G.k_APP G.t_APP (G.d_APP _)) (a_nil)))) (s_one (s_drop (p_ext fx.hK (p_var (i := 2) rfl (by first | exact .inl rfl | exact .inr (.inl rfl) | exact .inr (.inr rfl))) (a_cons (k := false) (p_lst (a_cons (k := false) (p_ix fx.hK fx.hu (p_var (i := 5) rfl (by first | exact .inl rfl | exact .inr (.inl rfl) | exact .inr (.inr rfl))) (p_int)) (a_cons (k := false) (p_ix fx.hK fx.hu (p_var (i := 5) rfl (by first | exact .inl rfl | exact .inr (.inl rfl) | exact .inr (.inr rfl))) (p_int)) (a_nil)))) (a_nil)))))) (s_one (s_if (q_cmp fx.hK fx.hu (p_ix fx.hK fx.hu (p_var (i := 5) rfl (by first | exact .inl rfl | exact .inr (.inl rfl) | exact .inr (.inr rfl))) (p_int)) (p_str [108, 97, 109] (by rfl))) (s_cons (s_drop (p_app fx.hK (p_var (i := 1) rfl (by first | exact .inl rfl | exact .inr (.inl rfl) | exact .inr (.inr rfl))) (a_cons (k := false) (p_gtup rfl G.k_LAM G.t_LAM (G.d_LAM _)) (a_nil)))) (s_cons (s_put (k := false) fx.hu (p_bin fx.hK (p_get2 fx.hu (p_var (i := 3) rfl (by first | exact .inl rfl | exact .inr (.inl rfl) | exact .inr (.inr rfl))) (p_ix fx.hK fx.hu (p_var (i := 5) rfl (by first | exact .inl rfl | exact .inr (.inl rfl) | exact .inr (.inr rfl))) (p_int)) (p_lst (a_nil))) (p_lst (a_cons (k := false) (p_var (i := 4) rfl (by first | exact .inl rfl | exact .inr (.inl rfl) | exact .inr (.inr rfl))) (a_nil)))) (p_var (i := 3) rfl (by first | exact .inl rfl | exact .inr (.inl rfl) | exact .inr (.inr rfl))) (p_ix fx.hK fx.hu (p_var (i := 5) rfl (by first | exact .inl rfl | exact .inr (.inl rfl) | exact .inr (.inr rfl))) (p_int))) (s_cons (s_aug (j := 4) fx.nd rfl (by first | exact .inl rfl | exact .inr rfl) (p_int)) (s_one (s_drop (p_ext fx.hK (p_var (i := 2) rfl (by first | exact .inl rfl | exact .inr (.inl rfl) | exact .inr (.inr rfl))) (a_cons (k := false) (p_lst (a_cons (k := false) (p_tup (a_cons (k := false) (p_str [101, 110, 100] (by rfl)) (a_cons (k := false) (p_ix fx.hK fx.hu (p_var (i := 5) rfl (by first | exact .inl rfl | exact .inr (.inl rfl) | exact .inr (.inr rfl))) (p_int)) (a_nil)))) (a_cons (k := false) (p_ix fx.hK fx.hu (p_var (i := 5) rfl (by first | exact .inl rfl | exact .inr (.inl rfl) | exact .inr (.inr rfl))) (p_int)) (a_nil)))) (a_nil)))))))) (s_cons (s_put (k := false) fx.hu (p_sl fx.hK (p_ix fx.hK fx.hu (p_var (i := 3) rfl (by first | exact .inl rfl | exact .inr (.inl rfl) | exact .inr (.inr rfl))) (p_ix fx.hK fx.hu (p_var (i := 5) rfl (by first | exact .inl rfl | exact .inr (.inl rfl) | exact .inr (.inr rfl))) (p_int))) (o_none) (o_some (p_neg (p_int)))) (p_var (i := 3) rfl (by first | exact .inl rfl | exact .inr (.inl rfl) | exact .inr (.inr rfl))) (p_ix fx.hK fx.hu (p_var (i := 5) rfl (by first | exact .inl rfl | exact .inr (.inl rfl) | exact .inr (.inr rfl))) (p_int))) (s_one (s_aug (j := 4) fx.nd rfl (by first | exact .inl rfl | exact .inr rfl) (p_int)))))))))))) (s_one (s_ret (p_var (i := 1) rfl (by first | exact .inl rfl | exact .inr (.inl rfl) | exact .inr (.inr rfl)))))))
theorem sc_9 : FnScope ["heads", "head"] (ps 9) (defScope st_9) := ⟨rfl, rfl, rfl, by decide +kernel, rfl, by decide +kernel, by decide +kernel⟩
theorem ok_9 (G : En P w mg base κ fds xfds) (T : Tab P w mg base κ fds k) : FnOk P w κ.K mg base (L2.CX P w) (k + 3) (κ.fnA 9) (fds 9) (ps 9) (spOf κ 1 (Φ (k + 1) 9)) := fn_ok G.F_9 sc_9 rfl fun gx cdv A outer s H E fx => (s_one (s_ret (p_callB (fSorted_ok rfl) rfl G.u_sorted (by first | rfl | decide +kernel) (a_cons (k := false) (p_callTy (fDict_ok rfl fx.hK) rfl G.u_dict (by first | rfl | decide +kernel) (a_cons (k := false) (p_lc (own := [("head", 1)]) rfl fx.nd (i_sq fx.hK (p_var (i := 0) rfl (by first | exact .inl rfl | exact .inr (.inl rfl) | exact .inr (.inr rfl)))) (by first | rfl | decide +kernel) (fun _ _ _ _ _ => g_name (i := 1) fx.nd rfl (by first | exact .inl rfl | exact .inr rfl)) (fun _ _ _ _ _ => ts_one (q_cmp fx.hK fx.hu (p_ix fx.hK fx.hu (p_var (i := 1) rfl (by first | exact .inl rfl | exact .inr (.inl rfl) | exact .inr (.inr rfl))) (p_int)) (p_str [102, 114, 101, 101] (by rfl)))) (fun _ _ _ _ _ => p_tup (a_cons (k := false) (p_ix fx.hK fx.hu (p_var (i := 1) rfl (by first | exact .inl rfl | exact .inr (.inl rfl) | exact .inr (.inr rfl))) (p_int)) (a_cons (k := false) (p_bl) (a_nil))))) (a_nil))) (a_nil)))))
theorem sc_10 : FnScope ["heads", "names", "found", "head", "depth"] (ps 10) (defScope st_10) := ⟨rfl, rfl, rfl, by decide +kernel, rfl, by decide +kernel, by decide +kernel⟩
theorem ok_10 (G : En P w mg base κ fds xfds) (T : Tab P w mg base κ fds k) : FnOk P w κ.K mg base (L2.CX P w) (k + 3) (κ.fnA 10) (fds 10) (ps 10) (spOf κ 2 (Φ (k + 1) 10)) := fn_ok G.F_10 sc_10 rfl fun gx cdv A outer s H E fx => (s_cons (s_set (i := 2) (k := true) fx.nd rfl (by first | exact .inl rfl | exact .inr rfl) (p_lst (a_nil))) (s_cons (s_for (passes_of rfl) rfl (i_zip fx.hK rfl G.u_zip (a_cons (k := false) (p_var (i := 0) rfl (by first | exact .inl rfl | exact .inr (.inl rfl) | exact .inr (.inr rfl))) (a_cons (k := false) (p_call (n := 1) (T 7 (by decide)) fx.hr fx.tk (G.p 7 (by decide)) G.b_7 G.g_7 rfl (a_cons (k := false) (p_var (i := 0) rfl (by first | exact .inl rfl | exact .inr (.inl rfl) | exact .inr (.inr rfl))) (a_nil))) (a_nil)))) (g_tup fx.hK rfl (gs_cons (g_name (i := 3) fx.nd rfl (by first | exact .inl rfl | exact .inr rfl)) (gs_cons (g_name (i := 4) fx.nd rfl (by first | exact .inl rfl | exact .inr rfl)) (gs_nil))) rfl) (s_one (s_if (q_cmp fx.hK fx.hu (p_ix fx.hK fx.hu (p_var (i := 3) rfl (by first | exact .inl rfl | exact .inr (.inl rfl) | exact .inr (.inr rfl))) (p_int)) (p_str [108, 97, 109] (by rfl))) (s_one (s_drop (p_app fx.hK (p_var (i := 2) rfl (by first | exact .inl rfl | exact .inr (.inl rfl) | exact .inr (.inr rfl))) (a_cons (k := false) (p_tup (a_cons (k := false) (p_str [108, 97, 109] (by rfl)) (a_cons (k := false) (p_ix fx.hK fx.hu (p_var (i := 1) rfl (by first | exact .inl rfl | exact .inr (.inl rfl) | exact .inr (.inr rfl))) (p_var (i := 4) rfl (by first | exact .inl rfl | exact .inr (.inl rfl) | exact .inr (.inr rfl)))) (a_nil)))) (a_nil))))) (s_one (s_if (q_cmp fx.hK fx.hu (p_ix fx.hK fx.hu (p_var (i := 3) rfl (by first | exact .inl rfl | exact .inr (.inl rfl) | exact .inr (.inr rfl))) (p_int)) (p_str [110, 117, 109] (by rfl))) (s_one (s_drop (p_app fx.hK (p_var (i := 2) rfl (by first | exact .inl rfl | exact .inr (.inl rfl) | exact .inr (.inr rfl))) (a_cons (k := false) (p_tup (a_cons (k := false) (p_str [118, 97, 114] (by rfl)) (a_cons (k := false) (p_ix fx.hK fx.hu (p_var (i := 1) rfl (by first | exact .inl rfl | exact .inr (.inl rfl) | exact .inr (.inr rfl))) (p_bin fx.hK (p_bin fx.hK (p_var (i := 4) rfl (by first | exact .inl rfl | exact .inr (.inl rfl) | exact .inr (.inr rfl))) (p_int)) (p_ix fx.hK fx.hu (p_var (i := 3) rfl (by first | exact .inl rfl | exact .inr (.inl rfl) | exact .inr (.inr rfl))) (p_int)))) (a_nil)))) (a_nil))))) (s_one (s_drop (p_app fx.hK (p_var (i := 2) rfl (by first | exact .inl rfl | exact .inr (.inl rfl) | exact .inr (.inr rfl))) (a_cons (k := false) (p_if (q_cmp fx.hK fx.hu (p_ix fx.hK fx.hu (p_var (i := 3) rfl (by first | exact .inl rfl | exact .inr (.inl rfl) | exact .inr (.inr rfl))) (p_int)) (p_str [102, 114, 101, 101] (by rfl))) (p_tup (a_cons (k := false) (p_str [118, 97, 114] (by rfl)) (a_cons (k := false) (p_ix fx.hK fx.hu (p_var (i := 3) rfl (by first | exact .inl rfl | exact .inr (.inl rfl) | exact .inr (.inr rfl))) (p_int)) (a_nil)))) (p_var (i := 3) rfl (by first | exact .inl rfl | exact .inr (.inl rfl) | exact .inr (.inr rfl)))) (a_nil)))))))))) (s_one (s_ret (p_var (i := 2) rfl (by first | exact .inl rfl | exact .inr (.inl rfl) | exact .inr (.inr rfl)))))))
theorem sc_11 : FnScope ["value"] (ps 11) (defScope st_11) := ⟨rfl, rfl, rfl, by decide +kernel, rfl, by decide +kernel, by decide +kernel⟩
theorem ok_11 (G : En P w mg base κ fds xfds) (T : Tab P w mg base κ fds k) : FnOk P w κ.K mg base (L2.CX P w) (k + 3) (κ.fnA 11) (fds 11) (ps 11) (spOf κ 1 (Φ (k + 1) 11)) := fn_ok G.F_11 sc_11 rfl fun gx cdv A outer s H E fx => (s_cons (s_if (L2.PW.pt (q_or (q_not (q_tru fx.hK (p_is1 (n := "tuple") fx.hK rfl G.u_isinstance rfl G.u_tuple (p_var (i := 0) rfl (by first | exact .inl rfl | exact .inr (.inl rfl) | exact .inr (.inr rfl))) (by first | rfl | decide +kernel)))) (q_or (q_not (q_chain fx.hK fx.hu (p_int) (p_callB (fLen_ok fx.hK) rfl G.u_len (by first | rfl | decide +kernel) (a_cons (k := false) (p_var (i := 0) rfl (by first | exact .inl rfl | exact .inr (.inl rfl) | exact .inr (.inr rfl))) (a_nil))) (p_int))) (q_or1 (q_not (q_tru fx.hK (p_is1 (n := "str") fx.hK rfl G.u_isinstance rfl G.u_str (p_ix fx.hK fx.hu (p_var (i := 0) rfl (by first | exact .inl rfl | exact .inr (.inl rfl) | exact .inr (.inr rfl))) (p_int)) (by first | rfl | decide +kernel)))))))) (s_one (s_ret (p_bl))) (s_nil)) (s_cons (s_if (q_cmp fx.hK fx.hu (p_ix fx.hK fx.hu (p_var (i := 0) rfl (by first | exact .inl rfl | exact .inr (.inl rfl) | exact .inr (.inr rfl))) (p_int)) (p_str [97, 112, 112] (by rfl))) (s_one (s_ret (p_cmp fx.hK fx.hu (p_callB (fLen_ok fx.hK) rfl G.u_len (by first | rfl | decide +kernel) (a_cons (k := false) (p_var (i := 0) rfl (by first | exact .inl rfl | exact .inr (.inl rfl) | exact .inr (.inr rfl))) (a_nil))) (p_int)))) (s_nil)) (s_one (s_ret (p_and (p_cmp fx.hK fx.hu (p_callB (fLen_ok fx.hK) rfl G.u_len (by first | rfl | decide +kernel) (a_cons (k := false) (p_var (i := 0) rfl (by first | exact .inl rfl | exact .inr (.inl rfl) | exact .inr (.inr rfl))) (a_nil))) (p_get2 fx.hu (p_disp (x_pairs (kb := false) [118, 97, 114] (by rfl) (p_int) (x_pairs (kb := false) [108, 97, 109] (by rfl) (p_int) (x_pairs_nil)))) (p_ix fx.hK fx.hu (p_var (i := 0) rfl (by first | exact .inl rfl | exact .inr (.inl rfl) | exact .inr (.inr rfl))) (p_int)) (p_int))) (p_one (p_call (n := 1) (T 1 (by decide)) fx.hr fx.tk (G.p 1 (by decide)) G.b_1 G.g_1 rfl (a_cons (k := false) (p_ix fx.hK fx.hu (p_var (i := 0) rfl (by first | exact .inl rfl | exact .inr (.inl rfl) | exact .inr (.inr rfl))) (p_int)) (a_nil)))))))))
theorem sc_12 : FnScope ["value", "waiting", "count", "item"] (ps 12) (defScope st_12) := ⟨rfl, rfl, rfl, by decide +kernel, rfl, by decide +kernel, by decide +kernel⟩
theorem ok_12 (G : En P w mg base κ fds xfds) (T : Tab P w mg base κ fds k) : FnOk P w κ.K mg base (L2.CX P w) (k + 3) (κ.fnA 12) (fds 12) (ps 12) (spOf κ 1 (Φ (k + 1) 12)) := fn_ok G.F_12 sc_12 rfl fun gx cdv A outer s H E fx => (s_cons (s_par rfl fx.nd (a_cons (k := true) (p_lst (a_cons (k := false) (p_var (i := 0) rfl (by first | exact .inl rfl | exact .inr (.inl rfl) | exact .inr (.inr rfl))) (a_nil))) (a_cons (k := false) (p_int) (a_nil)))) (s_cons (s_while (passes_of rfl) (q_cmp fx.hK fx.hu (p_var (i := 1) rfl (by first | exact .inl rfl | exact .inr (.inl rfl) | exact .inr (.inr rfl))) (p_lst (a_nil))) (s_cons (s_set (i := 3) (k := false) fx.nd rfl (by first | exact .inl rfl | exact .inr rfl) (p_pop (p_var (i := 1) rfl (by first | exact .inl rfl | exact .inr (.inl rfl) | exact .inr (.inr rfl))))) (s_cons (s_aug (j := 2) fx.nd rfl (by first | exact .inl rfl | exact .inr rfl) (p_int)) (s_cons (s_if (L2.PW.pt (q_or (q_cmp fx.hK fx.hu (p_var (i := 2) rfl (by first | exact .inl rfl | exact .inr (.inl rfl) | exact .inr (.inr rfl))) (p_gint rfl G.k_MOST_SIZE)) (q_or1 (q_not (q_tru fx.hK (p_call (n := 1) (T 11 (by decide)) fx.hr fx.tk (G.p 11 (by decide)) G.b_11 G.g_11 rfl (a_cons (k := false) (p_var (i := 3) rfl (by first | exact .inl rfl | exact .inr (.inl rfl) | exact .inr (.inr rfl))) (a_nil)))))))) (s_one (s_ret (p_bl))) (s_nil)) (s_one (s_drop (p_ext fx.hK (p_var (i := 1) rfl (by first | exact .inl rfl | exact .inr (.inl rfl) | exact .inr (.inr rfl))) (a_cons (k := false) (p_call (n := 1) (T 4 (by decide)) fx.hr fx.tk (G.p 4 (by decide)) G.b_4 G.g_4 rfl (a_cons (k := false) (p_var (i := 3) rfl (by first | exact .inl rfl | exact .inr (.inl rfl) | exact .inr (.inr rfl))) (a_nil))) (a_nil))))))))) (s_one (s_ret (p_bl)))))
theorem sc_13 : FnScope ["term"] (ps 13) (defScope st_13) := ⟨rfl, rfl, rfl, by decide +kernel, rfl, by decide +kernel, by decide +kernel⟩
theorem ok_13 (G : En P w mg base κ fds xfds) (T : Tab P w mg base κ fds k) : FnOk P w κ.K mg base (L2.CX P w) (k + 3) (κ.fnA 13) (fds 13) (ps 13) (spOf κ 1 (Φ (k + 1) 13)) := fn_ok G.F_13 sc_13 rfl fun gx cdv A outer s H E fx => (s_one (s_if (q_not (q_tru fx.hK (p_call (n := 1) (T 12 (by decide)) fx.hr fx.tk (G.p 12 (by decide)) G.b_12 G.g_12 rfl (a_cons (k := false) (p_var (i := 0) rfl (by first | exact .inl rfl | exact .inr (.inl rfl) | exact .inr (.inr rfl))) (a_nil))))) (s_one (s_raise (κ := κ.at gx) rfl fx.tk G.x_1 G.l_1 (fx.hr.mono (Nat.le_add_left 2 k)) G.c_1 rfl (p_var (i := 0) rfl (by first | exact .inl rfl | exact .inr (.inl rfl) | exact .inr (.inr rfl))))) (s_nil)))
theorem sc_14 : FnScope ["term"] (ps 14) (defScope st_14) := ⟨rfl, rfl, rfl, by decide +kernel, rfl, by decide +kernel, by decide +kernel⟩
theorem ok_14 (G : En P w mg base κ fds xfds) (T : Tab P w mg base κ fds k) : FnOk P w κ.K mg base (L2.CX P w) (k + 3) (κ.fnA 14) (fds 14) (ps 14) (spOf κ 1 (Φ (k + 1) 14)) := fn_ok G.F_14 sc_14 rfl fun gx cdv A outer s H E fx => (s_one (s_ret (p_call (n := 1) (T 9 (by decide)) fx.hr fx.tk (G.p 9 (by decide)) G.b_9 G.g_9 rfl (a_cons (k := false) (p_call (n := 1) (T 8 (by decide)) fx.hr fx.tk (G.p 8 (by decide)) G.b_8 G.g_8 rfl (a_cons (k := false) (p_var (i := 0) rfl (by first | exact .inl rfl | exact .inr (.inl rfl) | exact .inr (.inr rfl))) (a_nil))) (a_nil)))))
theorem sc_15 : FnScope ["heads", "many", "head"] (ps 15) (defScope st_15) := ⟨rfl, rfl, rfl, by decide +kernel, rfl, by decide +kernel, by decide +kernel⟩
theorem ok_15 (G : En P w mg base κ fds xfds) (T : Tab P w mg base κ fds k) : FnOk P w κ.K mg base (L2.CX P w) (k + 3) (κ.fnA 15) (fds 15) (ps 15) (spOf κ 1 (Φ (k + 1) 15)) := fn_ok G.F_15 sc_15 rfl fun gx cdv A outer s H E fx => (s_cons (s_set (i := 1) (k := false) fx.nd rfl (by first | exact .inl rfl | exact .inr rfl) (p_callB (fLen_ok fx.hK) rfl G.u_len (by first | rfl | decide +kernel) (a_cons (k := false) (p_lc (own := [("head", 2)]) rfl fx.nd (i_sq fx.hK (p_var (i := 0) rfl (by first | exact .inl rfl | exact .inr (.inl rfl) | exact .inr (.inr rfl)))) (by first | rfl | decide +kernel) (fun _ _ _ _ _ => g_name (i := 2) fx.nd rfl (by first | exact .inl rfl | exact .inr rfl)) (fun _ _ _ _ _ => ts_one (q_cmp fx.hK fx.hu (p_ix fx.hK fx.hu (p_var (i := 2) rfl (by first | exact .inl rfl | exact .inr (.inl rfl) | exact .inr (.inr rfl))) (p_int)) (p_str [108, 97, 109] (by rfl)))) (fun _ _ _ _ _ => p_var (i := 2) rfl (by first | exact .inl rfl | exact .inr (.inl rfl) | exact .inr (.inr rfl)))) (a_nil)))) (s_one (s_ret (p_call (n := 1) (T 6 (by decide)) fx.hr fx.tk (G.p 6 (by decide)) G.b_6 G.g_6 rfl (a_cons (k := false) (p_call (n := 2) (T 10 (by decide)) fx.hr fx.tk (G.p 10 (by decide)) G.b_10 G.g_10 rfl (a_cons (k := false) (p_var (i := 0) rfl (by first | exact .inl rfl | exact .inr (.inl rfl) | exact .inr (.inr rfl))) (a_cons (k := false) (p_call (n := 2) (T 3 (by decide)) fx.hr fx.tk (G.p 3 (by decide)) G.b_3 G.g_3 rfl (a_cons (k := false) (p_call (n := 1) (T 9 (by decide)) fx.hr fx.tk (G.p 9 (by decide)) G.b_9 G.g_9 rfl (a_cons (k := false) (p_var (i := 0) rfl (by first | exact .inl rfl | exact .inr (.inl rfl) | exact .inr (.inr rfl))) (a_nil))) (a_cons (k := false) (p_var (i := 1) rfl (by first | exact .inl rfl | exact .inr (.inl rfl) | exact .inr (.inr rfl))) (a_nil)))) (a_nil)))) (a_nil))))))
theorem sc_16 : FnScope ["term"] (ps 16) (defScope st_16) := ⟨rfl, rfl, rfl, by decide +kernel, rfl, by decide +kernel, by decide +kernel⟩
theorem ok_16 (G : En P w mg base κ fds xfds) (T : Tab P w mg base κ fds k) : FnOk P w κ.K mg base (L2.CX P w) (k + 3) (κ.fnA 16) (fds 16) (ps 16) (spOf κ 1 (Φ (k + 1) 16)) := fn_ok G.F_16 sc_16 rfl fun gx cdv A outer s H E fx => (s_cons (s_drop (p_call (n := 1) (T 13 (by decide)) fx.hr fx.tk (G.p 13 (by decide)) G.b_13 G.g_13 rfl (a_cons (k := false) (p_var (i := 0) rfl (by first | exact .inl rfl | exact .inr (.inl rfl) | exact .inr (.inr rfl))) (a_nil)))) (s_one (s_ret (p_call (n := 1) (T 15 (by decide)) fx.hr fx.tk (G.p 15 (by decide)) G.b_15 G.g_15 rfl (a_cons (k := false) (p_call (n := 1) (T 8 (by decide)) fx.hr fx.tk (G.p 8 (by decide)) G.b_8 G.g_8 rfl (a_cons (k := false) (p_var (i := 0) rfl (by first | exact .inl rfl | exact .inr (.inl rfl) | exact .inr (.inr rfl))) (a_nil))) (a_nil))))))
theorem sc_17 : FnScope ["term", "found", "name"] (ps 17) (defScope st_17) := ⟨rfl, rfl, rfl, by decide +kernel, rfl, by decide +kernel, by decide +kernel⟩
theorem ok_17 (G : En P w mg base κ fds xfds) (T : Tab P w mg base κ fds k) : FnOk P w κ.K mg base (L2.CX P w) (k + 3) (κ.fnA 17) (fds 17) (ps 17) (spOf κ 1 (Φ (k + 1) 17)) := fn_ok G.F_17 sc_17 rfl fun gx cdv A outer s H E fx => (s_cons (s_drop (p_call (n := 1) (T 13 (by decide)) fx.hr fx.tk (G.p 13 (by decide)) G.b_13 G.g_13 rfl (a_cons (k := false) (p_var (i := 0) rfl (by first | exact .inl rfl | exact .inr (.inl rfl) | exact .inr (.inr rfl))) (a_nil)))) (s_cons (s_set (i := 1) (k := false) fx.nd rfl (by first | exact .inl rfl | exact .inr rfl) (p_var (i := 0) rfl (by first | exact .inl rfl | exact .inr (.inl rfl) | exact .inr (.inr rfl)))) (s_cons (s_for (passes_of rfl) rfl (i_sq fx.hK (p_back fx.hK (p_call (n := 1) (T 14 (by decide)) fx.hr fx.tk (G.p 14 (by decide)) G.b_14 G.g_14 rfl (a_cons (k := false) (p_var (i := 0) rfl (by first | exact .inl rfl | exact .inr (.inl rfl) | exact .inr (.inr rfl))) (a_nil))))) (g_name (i := 2) fx.nd rfl (by first | exact .inl rfl | exact .inr rfl)) (s_one (s_set (i := 1) (k := false) fx.nd rfl (by first | exact .inl rfl | exact .inr rfl) (p_tup (a_cons (k := false) (p_str [108, 97, 109] (by rfl)) (a_cons (k := false) (p_var (i := 2) rfl (by first | exact .inl rfl | exact .inr (.inl rfl) | exact .inr (.inr rfl))) (a_cons (k := false) (p_var (i := 1) rfl (by first | exact .inl rfl | exact .inr (.inl rfl) | exact .inr (.inr rfl))) (a_nil)))))))) (s_one (s_ret (p_var (i := 1) rfl (by first | exact .inl rfl | exact .inr (.inl rfl) | exact .inr (.inr rfl))))))))
theorem sc_18 : FnScope ["script", "k"] (ps 18) (defScope st_18) := ⟨rfl, rfl, rfl, by decide +kernel, rfl, by decide +kernel, by decide +kernel⟩
theorem ok_18 (G : En P w mg base κ fds xfds) (T : Tab P w mg base κ fds k) : FnOk P w κ.K mg base (L2.CX P w) (k + 3) (κ.fnA 18) (fds 18) (ps 18) (spOf κ 2 (Φ (k + 1) 18)) := fn_ok G.F_18 sc_18 rfl fun gx cdv A outer s H E fx => (s_one (s_ret (p_if (q_cmp fx.hK fx.hu (p_var (i := 1) rfl (by first | exact .inl rfl | exact .inr (.inl rfl) | exact .inr (.inr rfl))) (p_callB (fLen_ok fx.hK) rfl G.u_len (by first | rfl | decide +kernel) (a_cons (k := false) (p_var (i := 0) rfl (by first | exact .inl rfl | exact .inr (.inl rfl) | exact .inr (.inr rfl))) (a_nil)))) (p_ix fx.hK fx.hu (p_var (i := 0) rfl (by first | exact .inl rfl | exact .inr (.inl rfl) | exact .inr (.inr rfl))) (p_var (i := 1) rfl (by first | exact .inl rfl | exact .inr (.inl rfl) | exact .inr (.inr rfl)))) (p_bin fx.hK (p_bin fx.hK (p_int) (p_var (i := 1) rfl (by first | exact .inl rfl | exact .inr (.inl rfl) | exact .inr (.inr rfl)))) (p_bin fx.hK (p_callTy fInt_ok rfl G.u_int (by first | rfl | decide +kernel) (a_cons (k := false) (p_callB (fSum_ok rfl) rfl G.u_sum (by first | rfl | decide +kernel) (a_cons (k := false) (p_sl fx.hK (p_var (i := 0) rfl (by first | exact .inl rfl | exact .inr (.inl rfl) | exact .inr (.inr rfl))) (o_none) (o_some (p_int))) (a_nil))) (a_nil))) (p_int))))))
theorem sc_19 : FnScope ["great"] (ps 19) (defScope st_19) := ⟨rfl, rfl, rfl, by decide +kernel, rfl, by decide +kernel, by decide +kernel⟩
theorem ok_19 (G : En P w mg base κ fds xfds) (T : Tab P w mg base κ fds k) : FnOk P w κ.K mg base (L2.CX P w) (k + 3) (κ.fnA 19) (fds 19) (ps 19) (spOf κ 1 (Φ (k + 1) 19)) := fn_ok G.F_19 sc_19 rfl fun gx cdv A outer s H E fx => (s_one (s_ret (p_lst (a_cons (k := false) (p_callB fAbs_ok rfl G.u_abs (by first | rfl | decide +kernel) (a_cons (k := false) (p_var (i := 0) rfl (by first | exact .inl rfl | exact .inr (.inl rfl) | exact .inr (.inr rfl))) (a_nil))) (a_cons (k := false) (p_cmp fx.hK fx.hu (p_callB fAbs_ok rfl G.u_abs (by first | rfl | decide +kernel) (a_cons (k := false) (p_var (i := 0) rfl (by first | exact .inl rfl | exact .inr (.inl rfl) | exact .inr (.inr rfl))) (a_nil))) (p_bin fx.hK (p_int) (p_int))) (a_cons (k := false) (p_bin fx.hK (p_callTy fInt_ok rfl G.u_int (by first | rfl | decide +kernel) (a_cons (k := false) (p_callB fAbs_ok rfl G.u_abs (by first | rfl | decide +kernel) (a_cons (k := false) (p_var (i := 0) rfl (by first | exact .inl rfl | exact .inr (.inl rfl) | exact .inr (.inr rfl))) (a_nil))) (a_nil))) (p_int)) (a_cons (k := false) (p_int) (a_nil))))))))
theorem sc_20 : FnScope ["box", "many", "digit", "mixed"] (ps 20) (defScope st_20) := ⟨rfl, rfl, rfl, by decide +kernel, rfl, by decide +kernel, by decide +kernel⟩
theorem ok_20 (G : En P w mg base κ fds xfds) (T : Tab P w mg base κ fds k) : FnOk P w κ.K mg base (L2.CX P w) (k + 3) (κ.fnA 20) (fds 20) (ps 20) (spOf κ 2 (Φ (k + 1) 20)) := fn_ok G.F_20 sc_20 rfl fun gx cdv A outer s H E fx => (s_cons (s_if (L2.PW.pt (q_and (q_tru fx.hK (p_ix fx.hK fx.hu (p_var (i := 0) rfl (by first | exact .inl rfl | exact .inr (.inl rfl) | exact .inr (.inr rfl))) (p_int))) (q_and1 (q_cmp fx.hK fx.hu (p_ix fx.hK fx.hu (p_var (i := 0) rfl (by first | exact .inl rfl | exact .inr (.inl rfl) | exact .inr (.inr rfl))) (p_int)) (p_int))))) (s_cons (s_set (i := 2) (k := false) fx.nd rfl (by first | exact .inl rfl | exact .inr rfl) (p_bin fx.hK (p_callTy fInt_ok rfl G.u_int (by first | rfl | decide +kernel) (a_cons (k := false) (p_ix fx.hK fx.hu (p_var (i := 0) rfl (by first | exact .inl rfl | exact .inr (.inl rfl) | exact .inr (.inr rfl))) (p_int)) (a_nil))) (p_var (i := 1) rfl (by first | exact .inl rfl | exact .inr (.inl rfl) | exact .inr (.inr rfl))))) (s_cons (s_put (k := false) fx.hu (p_bin fx.hK (p_ix fx.hK fx.hu (p_var (i := 0) rfl (by first | exact .inl rfl | exact .inr (.inl rfl) | exact .inr (.inr rfl))) (p_int)) (p_var (i := 1) rfl (by first | exact .inl rfl | exact .inr (.inl rfl) | exact .inr (.inr rfl)))) (p_var (i := 0) rfl (by first | exact .inl rfl | exact .inr (.inl rfl) | exact .inr (.inr rfl))) (p_int)) (s_one (s_ret (p_var (i := 2) rfl (by first | exact .inl rfl | exact .inr (.inl rfl) | exact .inr (.inr rfl))))))) (s_nil)) (s_cons (s_put (k := false) fx.hu (p_bin fx.hK (p_ix fx.hK fx.hu (p_var (i := 0) rfl (by first | exact .inl rfl | exact .inr (.inl rfl) | exact .inr (.inr rfl))) (p_int)) (p_int)) (p_var (i := 0) rfl (by first | exact .inl rfl | exact .inr (.inl rfl) | exact .inr (.inr rfl))) (p_int)) (s_cons (s_set (i := 3) (k := false) fx.nd rfl (by first | exact .inl rfl | exact .inr rfl) (p_bin fx.hK (p_callTy fInt_ok rfl G.u_int (by first | rfl | decide +kernel) (a_cons (k := false) (p_bin fx.hK (p_bin fx.hK (p_bin fx.hK (p_ix fx.hK fx.hu (p_var (i := 0) rfl (by first | exact .inl rfl | exact .inr (.inl rfl) | exact .inr (.inr rfl))) (p_int)) (p_bin fx.hK (p_int) (p_ix fx.hK fx.hu (p_var (i := 0) rfl (by first | exact .inl rfl | exact .inr (.inl rfl) | exact .inr (.inr rfl))) (p_int)))) (p_int)) (p_int)) (a_nil))) (p_int))) (s_one (s_ret (p_bin fx.hK (p_callTy fInt_ok rfl G.u_int (by first | rfl | decide +kernel) (a_cons (k := false) (p_bin fx.hK (p_bin fx.hK (p_callTy fInt_ok rfl G.u_int (by first | rfl | decide +kernel) (a_cons (k := false) (p_bin fx.hK (p_bin fx.hK (p_bin fx.hK (p_var (i := 3) rfl (by first | exact .inl rfl | exact .inr (.inl rfl) | exact .inr (.inr rfl))) (p_int)) (p_bin fx.hK (p_int) (p_ix fx.hK fx.hu (p_var (i := 0) rfl (by first | exact .inl rfl | exact .inr (.inl rfl) | exact .inr (.inr rfl))) (p_int)))) (p_int)) (a_nil))) (p_int)) (p_int)) (a_nil))) (p_var (i := 1) rfl (by first | exact .inl rfl | exact .inr (.inl rfl) | exact .inr (.inr rfl)))))))))
theorem sc_21 : FnScope ["told", "due", "same", "k"] (ps 21) (defScope st_21) := ⟨rfl, rfl, rfl, by decide +kernel, rfl, by decide +kernel, by decide +kernel⟩
theorem ok_21 (G : En P w mg base κ fds xfds) (T : Tab P w mg base κ fds k) : FnOk P w κ.K mg base (L2.CX P w) (k + 3) (κ.fnA 21) (fds 21) (ps 21) (spOf κ 2 (Φ (k + 1) 21)) := fn_ok G.F_21 sc_21 rfl fun gx cdv A outer s H E fx => (s_cons (s_if (L2.PW.pt (q_or (q_cmp fx.hK fx.hu (p_var (i := 1) rfl (by first | exact .inl rfl | exact .inr (.inl rfl) | exact .inr (.inr rfl))) (p_non)) (q_or1 (q_tru fx.hK (p_is1 (n := "bool") fx.hK rfl G.u_isinstance rfl G.u_bool (p_var (i := 1) rfl (by first | exact .inl rfl | exact .inr (.inl rfl) | exact .inr (.inr rfl))) (by first | rfl | decide +kernel)))))) (s_one (s_ret (p_if (q_cmp fx.hK fx.hu (p_var (i := 1) rfl (by first | exact .inl rfl | exact .inr (.inl rfl) | exact .inr (.inr rfl))) (p_non)) (p_cmp fx.hK fx.hu (p_var (i := 0) rfl (by first | exact .inl rfl | exact .inr (.inl rfl) | exact .inr (.inr rfl))) (p_non)) (p_and (p_is1 (n := "bool") fx.hK rfl G.u_isinstance rfl G.u_bool (p_var (i := 0) rfl (by first | exact .inl rfl | exact .inr (.inl rfl) | exact .inr (.inr rfl))) (by first | rfl | decide +kernel)) (p_one (p_cmp fx.hK fx.hu (p_cmp fx.hK fx.hu (p_var (i := 0) rfl (by first | exact .inl rfl | exact .inr (.inl rfl) | exact .inr (.inr rfl))) (p_bl)) (p_cmp fx.hK fx.hu (p_var (i := 1) rfl (by first | exact .inl rfl | exact .inr (.inl rfl) | exact .inr (.inr rfl))) (p_bl)))))))) (s_nil)) (s_cons (s_if (q_tru fx.hK (p_is1 (n := "int") fx.hK rfl G.u_isinstance rfl G.u_int (p_var (i := 1) rfl (by first | exact .inl rfl | exact .inr (.inl rfl) | exact .inr (.inr rfl))) (by first | rfl | decide +kernel))) (s_one (s_ret (p_and (p_is1 (n := "int") fx.hK rfl G.u_isinstance rfl G.u_int (p_var (i := 0) rfl (by first | exact .inl rfl | exact .inr (.inl rfl) | exact .inr (.inr rfl))) (by first | rfl | decide +kernel)) (p_and (p_not fx.hK (p_is1 (n := "bool") fx.hK rfl G.u_isinstance rfl G.u_bool (p_var (i := 0) rfl (by first | exact .inl rfl | exact .inr (.inl rfl) | exact .inr (.inr rfl))) (by first | rfl | decide +kernel))) (p_one (p_cmp fx.hK fx.hu (p_bin fx.hK (p_callTy fInt_ok rfl G.u_int (by first | rfl | decide +kernel) (a_cons (k := false) (p_var (i := 0) rfl (by first | exact .inl rfl | exact .inr (.inl rfl) | exact .inr (.inr rfl))) (a_nil))) (p_var (i := 1) rfl (by first | exact .inl rfl | exact .inr (.inl rfl) | exact .inr (.inr rfl)))) (p_int))))))) (s_nil)) (s_cons (s_if (q_tru fx.hK (p_is1 (n := "str") fx.hK rfl G.u_isinstance rfl G.u_str (p_var (i := 1) rfl (by first | exact .inl rfl | exact .inr (.inl rfl) | exact .inr (.inr rfl))) (by first | rfl | decide +kernel))) (s_cons (s_set (i := 2) (k := false) fx.nd rfl (by first | exact .inl rfl | exact .inr rfl) (p_and (p_is1 (n := "str") fx.hK rfl G.u_isinstance rfl G.u_str (p_var (i := 0) rfl (by first | exact .inl rfl | exact .inr (.inl rfl) | exact .inr (.inr rfl))) (by first | rfl | decide +kernel)) (p_one (p_cmp fx.hK fx.hu (p_callB (fLen_ok fx.hK) rfl G.u_len (by first | rfl | decide +kernel) (a_cons (k := false) (p_var (i := 0) rfl (by first | exact .inl rfl | exact .inr (.inl rfl) | exact .inr (.inr rfl))) (a_nil))) (p_callB (fLen_ok fx.hK) rfl G.u_len (by first | rfl | decide +kernel) (a_cons (k := false) (p_var (i := 1) rfl (by first | exact .inl rfl | exact .inr (.inl rfl) | exact .inr (.inr rfl))) (a_nil))))))) (s_one (s_ret (p_and (p_var (i := 2) rfl (by first | exact .inl rfl | exact .inr (.inl rfl) | exact .inr (.inr rfl))) (p_one (p_cmp fx.hK fx.hu (p_lc (own := [("k", 3)]) rfl fx.nd (i_rg1 rfl G.u_range (a_cons (k := false) (p_callB (fLen_ok fx.hK) rfl G.u_len (by first | rfl | decide +kernel) (a_cons (k := false) (p_var (i := 1) rfl (by first | exact .inl rfl | exact .inr (.inl rfl) | exact .inr (.inr rfl))) (a_nil))) (a_nil))) (by first | rfl | decide +kernel) (fun _ _ _ _ _ => g_name (i := 3) fx.nd rfl (by first | exact .inl rfl | exact .inr rfl)) (fun _ _ _ _ _ => ts_one (q_cmp fx.hK fx.hu (p_sl fx.hK (p_var (i := 0) rfl (by first | exact .inl rfl | exact .inr (.inl rfl) | exact .inr (.inr rfl))) (o_some (p_var (i := 3) rfl (by first | exact .inl rfl | exact .inr (.inl rfl) | exact .inr (.inr rfl)))) (o_some (p_bin fx.hK (p_var (i := 3) rfl (by first | exact .inl rfl | exact .inr (.inl rfl) | exact .inr (.inr rfl))) (p_int)))) (p_ix fx.hK fx.hu (p_var (i := 1) rfl (by first | exact .inl rfl | exact .inr (.inl rfl) | exact .inr (.inr rfl))) (p_var (i := 3) rfl (by first | exact .inl rfl | exact .inr (.inl rfl) | exact .inr (.inr rfl)))))) (fun _ _ _ _ _ => p_var (i := 3) rfl (by first | exact .inl rfl | exact .inr (.inl rfl) | exact .inr (.inr rfl)))) (p_lst (a_nil)))))))) (s_nil)) (s_cons (s_if (q_tru fx.hK (p_is1 (n := "dict") fx.hK rfl G.u_isinstance rfl G.u_dict (p_var (i := 1) rfl (by first | exact .inl rfl | exact .inr (.inl rfl) | exact .inr (.inr rfl))) (by first | rfl | decide +kernel))) (s_one (s_ret (p_and (p_is1 (n := "dict") fx.hK rfl G.u_isinstance rfl G.u_dict (p_var (i := 0) rfl (by first | exact .inl rfl | exact .inr (.inl rfl) | exact .inr (.inr rfl))) (by first | rfl | decide +kernel)) (p_one (p_call (n := 2) (T 21 (by decide)) fx.hr fx.tk (G.p 21 (by decide)) G.b_21 G.g_21 rfl (a_cons (k := false) (p_items rfl (p_var (i := 0) rfl (by first | exact .inl rfl | exact .inr (.inl rfl) | exact .inr (.inr rfl))) rfl G.u_list (by first | rfl | decide +kernel)) (a_cons (k := false) (p_items rfl (p_var (i := 1) rfl (by first | exact .inl rfl | exact .inr (.inl rfl) | exact .inr (.inr rfl))) rfl G.u_list (by first | rfl | decide +kernel)) (a_nil)))))))) (s_nil)) (s_cons (s_if (L2.PW.pt (q_or (q_cmp fx.hK fx.hu (p_is1 (n := "list") fx.hK rfl G.u_isinstance rfl G.u_list (p_var (i := 0) rfl (by first | exact .inl rfl | exact .inr (.inl rfl) | exact .inr (.inr rfl))) (by first | rfl | decide +kernel)) (p_is1 (n := "list") fx.hK rfl G.u_isinstance rfl G.u_list (p_var (i := 1) rfl (by first | exact .inl rfl | exact .inr (.inl rfl) | exact .inr (.inr rfl))) (by first | rfl | decide +kernel))) (q_or1 (q_cmp fx.hK fx.hu (p_is1 (n := "tuple") fx.hK rfl G.u_isinstance rfl G.u_tuple (p_var (i := 0) rfl (by first | exact .inl rfl | exact .inr (.inl rfl) | exact .inr (.inr rfl))) (by first | rfl | decide +kernel)) (p_is1 (n := "tuple") fx.hK rfl G.u_isinstance rfl G.u_tuple (p_var (i := 1) rfl (by first | exact .inl rfl | exact .inr (.inl rfl) | exact .inr (.inr rfl))) (by first | rfl | decide +kernel)))))) (s_one (s_ret (p_bl))) (s_nil)) (s_cons (s_if (L2.PW.pt (q_or (q_not (q_tru fx.hK (p_isT (ns := ["list", "tuple"]) fx.hK rfl G.u_isinstance (p_var (i := 0) rfl (by first | exact .inl rfl | exact .inr (.inl rfl) | exact .inr (.inr rfl))) (ty_cons (n := "list") rfl G.u_list (by first | rfl | decide +kernel) (ty_cons (n := "tuple") rfl G.u_tuple (by first | rfl | decide +kernel) (ty_nil)))))) (q_or1 (q_cmp fx.hK fx.hu (p_callB (fLen_ok fx.hK) rfl G.u_len (by first | rfl | decide +kernel) (a_cons (k := false) (p_var (i := 0) rfl (by first | exact .inl rfl | exact .inr (.inl rfl) | exact .inr (.inr rfl))) (a_nil))) (p_callB (fLen_ok fx.hK) rfl G.u_len (by first | rfl | decide +kernel) (a_cons (k := false) (p_var (i := 1) rfl (by first | exact .inl rfl | exact .inr (.inl rfl) | exact .inr (.inr rfl))) (a_nil))))))) (s_one (s_ret (p_bl))) (s_nil)) (s_one (s_ret (p_cmp fx.hK fx.hu (p_lc (own := [("k", 3)]) rfl fx.nd (i_rg1 rfl G.u_range (a_cons (k := false) (p_callB (fLen_ok fx.hK) rfl G.u_len (by first | rfl | decide +kernel) (a_cons (k := false) (p_var (i := 1) rfl (by first | exact .inl rfl | exact .inr (.inl rfl) | exact .inr (.inr rfl))) (a_nil))) (a_nil))) (by first | rfl | decide +kernel) (fun _ _ _ _ _ => g_name (i := 3) fx.nd rfl (by first | exact .inl rfl | exact .inr rfl)) (fun _ _ _ _ _ => ts_one (q_not (q_tru fx.hK (p_call (n := 2) (T 21 (by decide)) fx.hr takes0 (G.p 21 (by decide)) G.b_21 G.g_21 rfl (a_cons (k := false) (p_ix fx.hK fx.hu (p_var (i := 0) rfl (by first | exact .inl rfl | exact .inr (.inl rfl) | exact .inr (.inr rfl))) (p_var (i := 3) rfl (by first | exact .inl rfl | exact .inr (.inl rfl) | exact .inr (.inr rfl)))) (a_cons (k := false) (p_ix fx.hK fx.hu (p_var (i := 1) rfl (by first | exact .inl rfl | exact .inr (.inl rfl) | exact .inr (.inr rfl))) (p_var (i := 3) rfl (by first | exact .inl rfl | exact .inr (.inl rfl) | exact .inr (.inr rfl)))) (a_nil))))))) (fun _ _ _ _ _ => p_var (i := 3) rfl (by first | exact .inl rfl | exact .inr (.inl rfl) | exact .inr (.inr rfl)))) (p_lst (a_nil)))))))))))
theorem sc_22 : FnScope ["term", "around"] (ps 22) (defScope st_22) := ⟨rfl, rfl, rfl, by decide +kernel, rfl, by decide +kernel, by decide +kernel⟩
theorem ok_22 (G : En P w mg base κ fds xfds) (T : Tab P w mg base κ fds k) : FnOk P w κ.K mg base (L2.CX P w) (k + 3) (κ.fnA 22) (fds 22) (ps 22) (spOf κ 2 (Φ (k + 1) 22)) := fn_ok G.F_22 sc_22 rfl fun gx cdv A outer s H E fx => (s_cons (s_if (q_cmp fx.hK fx.hu (p_ix fx.hK fx.hu (p_var (i := 0) rfl (by first | exact .inl rfl | exact .inr (.inl rfl) | exact .inr (.inr rfl))) (p_int)) (p_str [118, 97, 114] (by rfl))) (s_one (s_ret (p_if (q_cmp fx.hK fx.hu (p_ix fx.hK fx.hu (p_var (i := 0) rfl (by first | exact .inl rfl | exact .inr (.inl rfl) | exact .inr (.inr rfl))) (p_int)) (p_var (i := 1) rfl (by first | exact .inl rfl | exact .inr (.inl rfl) | exact .inr (.inr rfl)))) (p_tup (a_cons (k := false) (p_str [110, 117, 109] (by rfl)) (a_cons (k := false) (p_index (p_var (i := 1) rfl (by first | exact .inl rfl | exact .inr (.inl rfl) | exact .inr (.inr rfl))) (a_cons (k := false) (p_ix fx.hK fx.hu (p_var (i := 0) rfl (by first | exact .inl rfl | exact .inr (.inl rfl) | exact .inr (.inr rfl))) (p_int)) (a_nil))) (a_nil)))) (p_tup (a_cons (k := false) (p_str [102, 114, 101, 101] (by rfl)) (a_cons (k := false) (p_ix fx.hK fx.hu (p_var (i := 0) rfl (by first | exact .inl rfl | exact .inr (.inl rfl) | exact .inr (.inr rfl))) (p_int)) (a_nil))))))) (s_nil)) (s_cons (s_if (q_cmp fx.hK fx.hu (p_ix fx.hK fx.hu (p_var (i := 0) rfl (by first | exact .inl rfl | exact .inr (.inl rfl) | exact .inr (.inr rfl))) (p_int)) (p_str [108, 97, 109] (by rfl))) (s_one (s_ret (p_tup (a_cons (k := false) (p_str [108, 97, 109] (by rfl)) (a_cons (k := false) (p_call (n := 2) (T 22 (by decide)) fx.hr fx.tk (G.p 22 (by decide)) G.b_22 G.g_22 rfl (a_cons (k := false) (p_ix fx.hK fx.hu (p_var (i := 0) rfl (by first | exact .inl rfl | exact .inr (.inl rfl) | exact .inr (.inr rfl))) (p_int)) (a_cons (k := false) (p_bin fx.hK (p_lst (a_cons (k := false) (p_ix fx.hK fx.hu (p_var (i := 0) rfl (by first | exact .inl rfl | exact .inr (.inl rfl) | exact .inr (.inr rfl))) (p_int)) (a_nil))) (p_var (i := 1) rfl (by first | exact .inl rfl | exact .inr (.inl rfl) | exact .inr (.inr rfl)))) (a_nil)))) (a_nil)))))) (s_nil)) (s_one (s_ret (p_tup (a_cons (k := false) (p_str [97, 112, 112] (by rfl)) (a_cons (k := false) (p_call (n := 2) (T 22 (by decide)) fx.hr fx.tk (G.p 22 (by decide)) G.b_22 G.g_22 rfl (a_cons (k := false) (p_ix fx.hK fx.hu (p_var (i := 0) rfl (by first | exact .inl rfl | exact .inr (.inl rfl) | exact .inr (.inr rfl))) (p_int)) (a_cons (k := false) (p_var (i := 1) rfl (by first | exact .inl rfl | exact .inr (.inl rfl) | exact .inr (.inr rfl))) (a_nil)))) (a_cons (k := false) (p_call (n := 2) (T 22 (by decide)) fx.hr fx.tk (G.p 22 (by decide)) G.b_22 G.g_22 rfl (a_cons (k := false) (p_ix fx.hK fx.hu (p_var (i := 0) rfl (by first | exact .inl rfl | exact .inr (.inl rfl) | exact .inr (.inr rfl))) (p_int)) (a_cons (k := false) (p_var (i := 1) rfl (by first | exact .inl rfl | exact .inr (.inl rfl) | exact .inr (.inr rfl))) (a_nil)))) (a_nil)))))))))
theorem sc_23 : FnScope ["term", "around"] (ps 23) (defScope st_23) := ⟨rfl, rfl, rfl, by decide +kernel, rfl, by decide +kernel, by decide +kernel⟩
theorem ok_23 (G : En P w mg base κ fds xfds) (T : Tab P w mg base κ fds k) : FnOk P w κ.K mg base (L2.CX P w) (k + 3) (κ.fnA 23) (fds 23) (ps 23) (spOf κ 2 (Φ (k + 1) 23)) := fn_ok G.F_23 sc_23 rfl fun gx cdv A outer s H E fx => (s_cons (s_if (q_cmp fx.hK fx.hu (p_ix fx.hK fx.hu (p_var (i := 0) rfl (by first | exact .inl rfl | exact .inr (.inl rfl) | exact .inr (.inr rfl))) (p_int)) (p_str [118, 97, 114] (by rfl))) (s_one (s_ret (p_bin fx.hK (p_lst (a_cons (k := false) (p_ix fx.hK fx.hu (p_var (i := 0) rfl (by first | exact .inl rfl | exact .inr (.inl rfl) | exact .inr (.inr rfl))) (p_int)) (a_nil))) (p_callTy fInt_ok rfl G.u_int (by first | rfl | decide +kernel) (a_cons (k := false) (p_cmp fx.hK fx.hu (p_ix fx.hK fx.hu (p_var (i := 0) rfl (by first | exact .inl rfl | exact .inr (.inl rfl) | exact .inr (.inr rfl))) (p_int)) (p_var (i := 1) rfl (by first | exact .inl rfl | exact .inr (.inl rfl) | exact .inr (.inr rfl)))) (a_nil)))))) (s_nil)) (s_cons (s_if (q_cmp fx.hK fx.hu (p_ix fx.hK fx.hu (p_var (i := 0) rfl (by first | exact .inl rfl | exact .inr (.inl rfl) | exact .inr (.inr rfl))) (p_int)) (p_str [108, 97, 109] (by rfl))) (s_one (s_ret (p_call (n := 2) (T 23 (by decide)) fx.hr fx.tk (G.p 23 (by decide)) G.b_23 G.g_23 rfl (a_cons (k := false) (p_ix fx.hK fx.hu (p_var (i := 0) rfl (by first | exact .inl rfl | exact .inr (.inl rfl) | exact .inr (.inr rfl))) (p_int)) (a_cons (k := false) (p_bin fx.hK (p_var (i := 1) rfl (by first | exact .inl rfl | exact .inr (.inl rfl) | exact .inr (.inr rfl))) (p_lst (a_cons (k := false) (p_ix fx.hK fx.hu (p_var (i := 0) rfl (by first | exact .inl rfl | exact .inr (.inl rfl) | exact .inr (.inr rfl))) (p_int)) (a_nil)))) (a_nil)))))) (s_nil)) (s_one (s_ret (p_sortSet rfl rfl G.u_sorted (by first | rfl | decide +kernel) rfl G.u_set (by first | rfl | decide +kernel) (a_cons (k := false) (p_bin fx.hK (p_call (n := 2) (T 23 (by decide)) fx.hr fx.tk (G.p 23 (by decide)) G.b_23 G.g_23 rfl (a_cons (k := false) (p_ix fx.hK fx.hu (p_var (i := 0) rfl (by first | exact .inl rfl | exact .inr (.inl rfl) | exact .inr (.inr rfl))) (p_int)) (a_cons (k := false) (p_var (i := 1) rfl (by first | exact .inl rfl | exact .inr (.inl rfl) | exact .inr (.inr rfl))) (a_nil)))) (p_call (n := 2) (T 23 (by decide)) fx.hr fx.tk (G.p 23 (by decide)) G.b_23 G.g_23 rfl (a_cons (k := false) (p_ix fx.hK fx.hu (p_var (i := 0) rfl (by first | exact .inl rfl | exact .inr (.inl rfl) | exact .inr (.inr rfl))) (p_int)) (a_cons (k := false) (p_var (i := 1) rfl (by first | exact .inl rfl | exact .inr (.inl rfl) | exact .inr (.inr rfl))) (a_nil))))) (a_nil)))))))
theorem sc_24 : FnScope ["box", "size", "names", "way", "name", "left"] (ps 24) (defScope st_24) := ⟨rfl, rfl, rfl, by decide +kernel, rfl, by decide +kernel, by decide +kernel⟩
theorem ok_24 (G : En P w mg base κ fds xfds) (T : Tab P w mg base κ fds k) : FnOk P w κ.K mg base (L2.CX P w) (k + 3) (κ.fnA 24) (fds 24) (ps 24) (spOf κ 3 (Φ (k + 1) 24)) := fn_ok G.F_24 sc_24 rfl fun gx cdv A outer s H E fx => (s_cons (s_if (q_cmp fx.hK fx.hu (p_var (i := 1) rfl (by first | exact .inl rfl | exact .inr (.inl rfl) | exact .inr (.inr rfl))) (p_int)) (s_one (s_ret (p_tup (a_cons (k := false) (p_str [118, 97, 114] (by rfl)) (a_cons (k := false) (p_ix fx.hK fx.hu (p_var (i := 2) rfl (by first | exact .inl rfl | exact .inr (.inl rfl) | exact .inr (.inr rfl))) (p_call (n := 2) (T 20 (by decide)) fx.hr fx.tk (G.p 20 (by decide)) G.b_20 G.g_20 rfl (a_cons (k := true) (p_var (i := 0) rfl (by first | exact .inl rfl | exact .inr (.inl rfl) | exact .inr (.inr rfl))) (a_cons (k := false) (p_callB (fLen_ok fx.hK) rfl G.u_len (by first | rfl | decide +kernel) (a_cons (k := false) (p_var (i := 2) rfl (by first | exact .inl rfl | exact .inr (.inl rfl) | exact .inr (.inr rfl))) (a_nil))) (a_nil))))) (a_nil)))))) (s_nil)) (s_cons (s_set (i := 3) (k := false) fx.nd rfl (by first | exact .inl rfl | exact .inr rfl) (p_call (n := 2) (T 20 (by decide)) fx.hr fx.tk (G.p 20 (by decide)) G.b_20 G.g_20 rfl (a_cons (k := true) (p_var (i := 0) rfl (by first | exact .inl rfl | exact .inr (.inl rfl) | exact .inr (.inr rfl))) (a_cons (k := false) (p_int) (a_nil))))) (s_cons (s_if (L2.PW.pt (q_or (q_cmp fx.hK fx.hu (p_var (i := 3) rfl (by first | exact .inl rfl | exact .inr (.inl rfl) | exact .inr (.inr rfl))) (p_int)) (q_or1 (q_cmp fx.hK fx.hu (p_var (i := 1) rfl (by first | exact .inl rfl | exact .inr (.inl rfl) | exact .inr (.inr rfl))) (p_int))))) (s_cons (s_set (i := 4) (k := false) fx.nd rfl (by first | exact .inl rfl | exact .inr rfl) (p_ix fx.hK fx.hu (p_str [120, 121, 122, 117, 118, 119] (by rfl)) (p_call (n := 2) (T 20 (by decide)) fx.hr fx.tk (G.p 20 (by decide)) G.b_20 G.g_20 rfl (a_cons (k := true) (p_var (i := 0) rfl (by first | exact .inl rfl | exact .inr (.inl rfl) | exact .inr (.inr rfl))) (a_cons (k := false) (p_int) (a_nil)))))) (s_one (s_ret (p_tup (a_cons (k := false) (p_str [108, 97, 109] (by rfl)) (a_cons (k := false) (p_var (i := 4) rfl (by first | exact .inl rfl | exact .inr (.inl rfl) | exact .inr (.inr rfl))) (a_cons (k := false) (p_call (n := 3) (T 24 (by decide)) fx.hr fx.tk (G.p 24 (by decide)) G.b_24 G.g_24 rfl (a_cons (k := true) (p_var (i := 0) rfl (by first | exact .inl rfl | exact .inr (.inl rfl) | exact .inr (.inr rfl))) (a_cons (k := false) (p_bin fx.hK (p_var (i := 1) rfl (by first | exact .inl rfl | exact .inr (.inl rfl) | exact .inr (.inr rfl))) (p_int)) (a_cons (k := false) (p_bin fx.hK (p_var (i := 2) rfl (by first | exact .inl rfl | exact .inr (.inl rfl) | exact .inr (.inr rfl))) (p_lst (a_cons (k := false) (p_var (i := 4) rfl (by first | exact .inl rfl | exact .inr (.inl rfl) | exact .inr (.inr rfl))) (a_cons (k := false) (p_var (i := 4) rfl (by first | exact .inl rfl | exact .inr (.inl rfl) | exact .inr (.inr rfl))) (a_nil))))) (a_nil))))) (a_nil)))))))) (s_nil)) (s_cons (s_set (i := 5) (k := false) fx.nd rfl (by first | exact .inl rfl | exact .inr rfl) (p_bin fx.hK (p_int) (p_call (n := 2) (T 20 (by decide)) fx.hr fx.tk (G.p 20 (by decide)) G.b_20 G.g_20 rfl (a_cons (k := true) (p_var (i := 0) rfl (by first | exact .inl rfl | exact .inr (.inl rfl) | exact .inr (.inr rfl))) (a_cons (k := false) (p_bin fx.hK (p_var (i := 1) rfl (by first | exact .inl rfl | exact .inr (.inl rfl) | exact .inr (.inr rfl))) (p_int)) (a_nil)))))) (s_cons (s_if (L2.PW.pt (q_and (q_cmp fx.hK fx.hu (p_var (i := 3) rfl (by first | exact .inl rfl | exact .inr (.inl rfl) | exact .inr (.inr rfl))) (p_int)) (q_and1 (q_cmp fx.hK fx.hu (p_var (i := 5) rfl (by first | exact .inl rfl | exact .inr (.inl rfl) | exact .inr (.inr rfl))) (p_int))))) (s_cons (s_set (i := 4) (k := false) fx.nd rfl (by first | exact .inl rfl | exact .inr rfl) (p_ix fx.hK fx.hu (p_str [120, 121, 122, 117, 118, 119] (by rfl)) (p_call (n := 2) (T 20 (by decide)) fx.hr fx.tk (G.p 20 (by decide)) G.b_20 G.g_20 rfl (a_cons (k := true) (p_var (i := 0) rfl (by first | exact .inl rfl | exact .inr (.inl rfl) | exact .inr (.inr rfl))) (a_cons (k := false) (p_int) (a_nil)))))) (s_one (s_ret (p_tup (a_cons (k := false) (p_str [97, 112, 112] (by rfl)) (a_cons (k := false) (p_tup (a_cons (k := false) (p_str [108, 97, 109] (by rfl)) (a_cons (k := false) (p_var (i := 4) rfl (by first | exact .inl rfl | exact .inr (.inl rfl) | exact .inr (.inr rfl))) (a_cons (k := false) (p_call (n := 3) (T 24 (by decide)) fx.hr fx.tk (G.p 24 (by decide)) G.b_24 G.g_24 rfl (a_cons (k := true) (p_var (i := 0) rfl (by first | exact .inl rfl | exact .inr (.inl rfl) | exact .inr (.inr rfl))) (a_cons (k := false) (p_bin fx.hK (p_var (i := 5) rfl (by first | exact .inl rfl | exact .inr (.inl rfl) | exact .inr (.inr rfl))) (p_int)) (a_cons (k := false) (p_bin fx.hK (p_var (i := 2) rfl (by first | exact .inl rfl | exact .inr (.inl rfl) | exact .inr (.inr rfl))) (p_lst (a_cons (k := false) (p_var (i := 4) rfl (by first | exact .inl rfl | exact .inr (.inl rfl) | exact .inr (.inr rfl))) (a_cons (k := false) (p_var (i := 4) rfl (by first | exact .inl rfl | exact .inr (.inl rfl) | exact .inr (.inr rfl))) (a_nil))))) (a_nil))))) (a_nil))))) (a_cons (k := false) (p_call (n := 3) (T 24 (by decide)) fx.hr fx.tk (G.p 24 (by decide)) G.b_24 G.g_24 rfl (a_cons (k := true) (p_var (i := 0) rfl (by first | exact .inl rfl | exact .inr (.inl rfl) | exact .inr (.inr rfl))) (a_cons (k := false) (p_bin fx.hK (p_bin fx.hK (p_var (i := 1) rfl (by first | exact .inl rfl | exact .inr (.inl rfl) | exact .inr (.inr rfl))) (p_int)) (p_var (i := 5) rfl (by first | exact .inl rfl | exact .inr (.inl rfl) | exact .inr (.inr rfl)))) (a_cons (k := false) (p_var (i := 2) rfl (by first | exact .inl rfl | exact .inr (.inl rfl) | exact .inr (.inr rfl))) (a_nil))))) (a_nil)))))))) (s_nil)) (s_one (s_ret (p_tup (a_cons (k := false) (p_str [97, 112, 112] (by rfl)) (a_cons (k := false) (p_call (n := 3) (T 24 (by decide)) fx.hr fx.tk (G.p 24 (by decide)) G.b_24 G.g_24 rfl (a_cons (k := true) (p_var (i := 0) rfl (by first | exact .inl rfl | exact .inr (.inl rfl) | exact .inr (.inr rfl))) (a_cons (k := false) (p_var (i := 5) rfl (by first | exact .inl rfl | exact .inr (.inl rfl) | exact .inr (.inr rfl))) (a_cons (k := false) (p_var (i := 2) rfl (by first | exact .inl rfl | exact .inr (.inl rfl) | exact .inr (.inr rfl))) (a_nil))))) (a_cons (k := false) (p_call (n := 3) (T 24 (by decide)) fx.hr fx.tk (G.p 24 (by decide)) G.b_24 G.g_24 rfl (a_cons (k := true) (p_var (i := 0) rfl (by first | exact .inl rfl | exact .inr (.inl rfl) | exact .inr (.inr rfl))) (a_cons (k := false) (p_bin fx.hK (p_bin fx.hK (p_var (i := 1) rfl (by first | exact .inl rfl | exact .inr (.inl rfl) | exact .inr (.inr rfl))) (p_int)) (p_var (i := 5) rfl (by first | exact .inl rfl | exact .inr (.inl rfl) | exact .inr (.inr rfl)))) (a_cons (k := false) (p_var (i := 2) rfl (by first | exact .inl rfl | exact .inr (.inl rfl) | exact .inr (.inr rfl))) (a_nil))))) (a_nil))))))))))))
theorem sc_25 : FnScope ["box", "size"] (ps 25) (defScope st_25) := ⟨rfl, rfl, rfl, by decide +kernel, rfl, by decide +kernel, by decide +kernel⟩
theorem ok_25 (G : En P w mg base κ fds xfds) (T : Tab P w mg base κ fds k) : FnOk P w κ.K mg base (L2.CX P w) (k + 3) (κ.fnA 25) (fds 25) (ps 25) (spOf κ 1 (Φ (k + 1) 25)) := fn_ok G.F_25 sc_25 rfl fun gx cdv A outer s H E fx => (s_cons (s_set (i := 1) (k := false) fx.nd rfl (by first | exact .inl rfl | exact .inr rfl) (p_ix fx.hK fx.hu (p_lst (a_cons (k := false) (p_int) (a_cons (k := false) (p_int) (a_cons (k := false) (p_int) (a_cons (k := false) (p_int) (a_cons (k := false) (p_int) (a_cons (k := false) (p_int) (a_cons (k := false) (p_bin fx.hK (p_int) (p_call (n := 2) (T 20 (by decide)) fx.hr fx.tk (G.p 20 (by decide)) G.b_20 G.g_20 rfl (a_cons (k := true) (p_var (i := 0) rfl (by first | exact .inl rfl | exact .inr (.inl rfl) | exact .inr (.inr rfl))) (a_cons (k := false) (p_int) (a_nil))))) (a_cons (k := false) (p_bin fx.hK (p_int) (p_call (n := 2) (T 20 (by decide)) fx.hr fx.tk (G.p 20 (by decide)) G.b_20 G.g_20 rfl (a_cons (k := true) (p_var (i := 0) rfl (by first | exact .inl rfl | exact .inr (.inl rfl) | exact .inr (.inr rfl))) (a_cons (k := false) (p_int) (a_nil))))) (a_nil)))))))))) (p_call (n := 2) (T 20 (by decide)) fx.hr fx.tk (G.p 20 (by decide)) G.b_20 G.g_20 rfl (a_cons (k := true) (p_var (i := 0) rfl (by first | exact .inl rfl | exact .inr (.inl rfl) | exact .inr (.inr rfl))) (a_cons (k := false) (p_int) (a_nil)))))) (s_one (s_ret (p_call (n := 3) (T 24 (by decide)) fx.hr fx.tk (G.p 24 (by decide)) G.b_24 G.g_24 rfl (a_cons (k := true) (p_var (i := 0) rfl (by first | exact .inl rfl | exact .inr (.inl rfl) | exact .inr (.inr rfl))) (a_cons (k := false) (p_var (i := 1) rfl (by first | exact .inl rfl | exact .inr (.inl rfl) | exact .inr (.inr rfl))) (a_cons (k := false) (p_ix fx.hK fx.hu (p_lst (a_cons (k := false) (p_lst (a_cons (k := false) (p_str [120] (by rfl)) (a_cons (k := false) (p_str [121] (by rfl)) (a_nil)))) (a_cons (k := false) (p_lst (a_cons (k := false) (p_str [120] (by rfl)) (a_cons (k := false) (p_str [121] (by rfl)) (a_cons (k := false) (p_str [122] (by rfl)) (a_nil))))) (a_cons (k := false) (p_lst (a_cons (k := false) (p_str [97] (by rfl)) (a_cons (k := false) (p_str [98] (by rfl)) (a_cons (k := false) (p_str [120] (by rfl)) (a_nil))))) (a_cons (k := false) (p_lst (a_cons (k := false) (p_str [121] (by rfl)) (a_nil))) (a_nil)))))) (p_call (n := 2) (T 20 (by decide)) fx.hr fx.tk (G.p 20 (by decide)) G.b_20 G.g_20 rfl (a_cons (k := true) (p_var (i := 0) rfl (by first | exact .inl rfl | exact .inr (.inl rfl) | exact .inr (.inr rfl))) (a_cons (k := false) (p_int) (a_nil))))) (a_nil))))))))
theorem sc_26 : FnScope ["value", "sign"] (ps 26) (defScope st_26) := ⟨rfl, rfl, rfl, by decide +kernel, rfl, by decide +kernel, by decide +kernel⟩
theorem ok_26 (G : En P w mg base κ fds xfds) (T : Tab P w mg base κ fds k) : FnOk P w κ.K mg base (L2.CX P w) (k + 3) (κ.fnA 26) (fds 26) (ps 26) (spOf κ 1 (Φ (k + 1) 26)) := fn_ok G.F_26 sc_26 rfl fun gx cdv A outer s H E fx => (s_one (s_ret (p_and (p_is1 (n := "str") fx.hK rfl G.u_isinstance rfl G.u_str (p_var (i := 0) rfl (by first | exact .inl rfl | exact .inr (.inl rfl) | exact .inr (.inr rfl))) (by first | rfl | decide +kernel)) (p_and (p_chain fx.hK fx.hu (p_int) (p_callB (fLen_ok fx.hK) rfl G.u_len (by first | rfl | decide +kernel) (a_cons (k := false) (p_var (i := 0) rfl (by first | exact .inl rfl | exact .inr (.inl rfl) | exact .inr (.inr rfl))) (a_nil))) (p_int)) (p_one (p_cmp fx.hK fx.hu (p_lc (own := [("sign", 1)]) rfl fx.nd (i_sq fx.hK (p_var (i := 0) rfl (by first | exact .inl rfl | exact .inr (.inl rfl) | exact .inr (.inr rfl)))) (by first | rfl | decide +kernel) (fun _ _ _ _ _ => g_name (i := 1) fx.nd rfl (by first | exact .inl rfl | exact .inr rfl)) (fun _ _ _ _ _ => ts_one (q_cmp fx.hK fx.hu (p_var (i := 1) rfl (by first | exact .inl rfl | exact .inr (.inl rfl) | exact .inr (.inr rfl))) (p_str [97, 98, 99, 100, 101, 102, 103, 104, 105, 106, 107, 108, 109, 110, 111, 112, 113, 114, 115, 116, 117, 118, 119, 120, 121, 122] (by rfl)))) (fun _ _ _ _ _ => p_var (i := 1) rfl (by first | exact .inl rfl | exact .inr (.inl rfl) | exact .inr (.inr rfl)))) (p_lst (a_nil))))))))
theorem sc_27 : FnScope ["value", "waiting", "count", "item"] (ps 27) (defScope st_27) := ⟨rfl, rfl, rfl, by decide +kernel, rfl, by decide +kernel, by decide +kernel⟩
theorem ok_27 (G : En P w mg base κ fds xfds) (T : Tab P w mg base κ fds k) : FnOk P w κ.K mg base (L2.CX P w) (k + 3) (κ.fnA 27) (fds 27) (ps 27) (spOf κ 1 (Φ (k + 1) 27)) := fn_ok G.F_27 sc_27 rfl fun gx cdv A outer s H E fx => (s_cons (s_par rfl fx.nd (a_cons (k := true) (p_lst (a_cons (k := false) (p_var (i := 0) rfl (by first | exact .inl rfl | exact .inr (.inl rfl) | exact .inr (.inr rfl))) (a_nil))) (a_cons (k := false) (p_int) (a_nil)))) (s_cons (s_while (passes_of rfl) (q_cmp fx.hK fx.hu (p_var (i := 1) rfl (by first | exact .inl rfl | exact .inr (.inl rfl) | exact .inr (.inr rfl))) (p_lst (a_nil))) (s_cons (s_set (i := 3) (k := false) fx.nd rfl (by first | exact .inl rfl | exact .inr rfl) (p_pop (p_var (i := 1) rfl (by first | exact .inl rfl | exact .inr (.inl rfl) | exact .inr (.inr rfl))))) (s_cons (s_set (i := 2) (k := false) fx.nd rfl (by first | exact .inl rfl | exact .inr rfl) (p_bin fx.hK (p_var (i := 2) rfl (by first | exact .inl rfl | exact .inr (.inl rfl) | exact .inr (.inr rfl))) (p_int))) (s_cons (s_if (L2.PW.pt (q_or (q_cmp fx.hK fx.hu (p_var (i := 2) rfl (by first | exact .inl rfl | exact .inr (.inl rfl) | exact .inr (.inr rfl))) (p_int)) (q_or (q_not (q_tru fx.hK (p_is1 (n := "tuple") fx.hK rfl G.u_isinstance rfl G.u_tuple (p_var (i := 3) rfl (by first | exact .inl rfl | exact .inr (.inl rfl) | exact .inr (.inr rfl))) (by first | rfl | decide +kernel)))) (q_or (q_cmp fx.hK fx.hu (p_callB (fLen_ok fx.hK) rfl G.u_len (by first | rfl | decide +kernel) (a_cons (k := false) (p_var (i := 3) rfl (by first | exact .inl rfl | exact .inr (.inl rfl) | exact .inr (.inr rfl))) (a_nil))) (p_tup (a_cons (k := false) (p_int) (a_cons (k := false) (p_int) (a_nil))))) (q_or1 (q_not (q_tru fx.hK (p_is1 (n := "str") fx.hK rfl G.u_isinstance rfl G.u_str (p_ix fx.hK fx.hu (p_var (i := 3) rfl (by first | exact .inl rfl | exact .inr (.inl rfl) | exact .inr (.inr rfl))) (p_int)) (by first | rfl | decide +kernel))))))))) (s_one (s_ret (p_bl))) (s_nil)) (s_cons (s_if (L2.PW.pt (q_or (q_cmp fx.hK fx.hu (p_ix fx.hK fx.hu (p_var (i := 3) rfl (by first | exact .inl rfl | exact .inr (.inl rfl) | exact .inr (.inr rfl))) (p_int)) (p_tup (a_cons (k := false) (p_str [118, 97, 114] (by rfl)) (a_cons (k := false) (p_str [108, 97, 109] (by rfl)) (a_cons (k := false) (p_str [97, 112, 112] (by rfl)) (a_nil)))))) (q_or (q_cmp fx.hK fx.hu (p_callB (fLen_ok fx.hK) rfl G.u_len (by first | rfl | decide +kernel) (a_cons (k := false) (p_var (i := 3) rfl (by first | exact .inl rfl | exact .inr (.inl rfl) | exact .inr (.inr rfl))) (a_nil))) (p_bin fx.hK (p_int) (p_callTy fInt_ok rfl G.u_int (by first | rfl | decide +kernel) (a_cons (k := false) (p_cmp fx.hK fx.hu (p_ix fx.hK fx.hu (p_var (i := 3) rfl (by first | exact .inl rfl | exact .inr (.inl rfl) | exact .inr (.inr rfl))) (p_int)) (p_str [118, 97, 114] (by rfl))) (a_nil))))) (q_or1 (L2.PW.pt (q_and (q_cmp fx.hK fx.hu (p_ix fx.hK fx.hu (p_var (i := 3) rfl (by first | exact .inl rfl | exact .inr (.inl rfl) | exact .inr (.inr rfl))) (p_int)) (p_str [97, 112, 112] (by rfl))) (q_and1 (q_not (q_tru fx.hK (p_call (n := 1) (T 26 (by decide)) fx.hr fx.tk (G.p 26 (by decide)) G.b_26 G.g_26 rfl (a_cons (k := false) (p_ix fx.hK fx.hu (p_var (i := 3) rfl (by first | exact .inl rfl | exact .inr (.inl rfl) | exact .inr (.inr rfl))) (p_int)) (a_nil)))))))))))) (s_one (s_ret (p_bl))) (s_nil)) (s_one (s_drop (p_ext fx.hK (p_var (i := 1) rfl (by first | exact .inl rfl | exact .inr (.inl rfl) | exact .inr (.inr rfl))) (a_cons (k := false) (p_if (q_cmp fx.hK fx.hu (p_ix fx.hK fx.hu (p_var (i := 3) rfl (by first | exact .inl rfl | exact .inr (.inl rfl) | exact .inr (.inr rfl))) (p_int)) (p_str [97, 112, 112] (by rfl))) (p_callTy (fList_ok fx.hK) rfl G.u_list (by first | rfl | decide +kernel) (a_cons (k := false) (p_sl fx.hK (p_var (i := 3) rfl (by first | exact .inl rfl | exact .inr (.inl rfl) | exact .inr (.inr rfl))) (o_some (p_int)) (o_none)) (a_nil))) (p_callTy (fList_ok fx.hK) rfl G.u_list (by first | rfl | decide +kernel) (a_cons (k := false) (p_sl fx.hK (p_var (i := 3) rfl (by first | exact .inl rfl | exact .inr (.inl rfl) | exact .inr (.inr rfl))) (o_some (p_int)) (o_none)) (a_nil)))) (a_nil)))))))))) (s_one (s_ret (p_bl)))))
theorem sc_28 : FnScope ["term", "found", "waiting", "place", "part"] (ps 28) (defScope st_28) := ⟨rfl, rfl, rfl, by decide +kernel, rfl, by decide +kernel, by decide +kernel⟩
theorem ok_28 (G : En P w mg base κ fds xfds) (T : Tab P w mg base κ fds k) : FnOk P w κ.K mg base (L2.CX P w) (k + 3) (κ.fnA 28) (fds 28) (ps 28) (spOf κ 1 (Φ (k + 1) 28)) := fn_ok G.F_28 sc_28 rfl fun gx cdv A outer s H E fx => (s_cons (s_par rfl fx.nd (a_cons (k := true) (p_lst (a_nil)) (a_cons (k := true) (p_lst (a_cons (k := false) (p_tup (a_cons (k := false) (p_str [] (by rfl)) (a_cons (k := false) (p_var (i := 0) rfl (by first | exact .inl rfl | exact .inr (.inl rfl) | exact .inr (.inr rfl))) (a_nil)))) (a_nil))) (a_nil)))) (s_cons (s_while (passes_of rfl) (q_cmp fx.hK fx.hu (p_var (i := 2) rfl (by first | exact .inl rfl | exact .inr (.inl rfl) | exact .inr (.inr rfl))) (p_lst (a_nil))) (s_cons (s_asg (k := false) (p_pop (p_var (i := 2) rfl (by first | exact .inl rfl | exact .inr (.inl rfl) | exact .inr (.inr rfl)))) (g_tup fx.hK rfl (gs_cons (g_name (i := 3) fx.nd rfl (by first | exact .inl rfl | exact .inr rfl)) (gs_cons (g_name (i := 4) fx.nd rfl (by first | exact .inl rfl | exact .inr rfl)) (gs_nil))) rfl)) (s_cons (s_drop (p_app fx.hK (p_var (i := 1) rfl (by first | exact .inl rfl | exact .inr (.inl rfl) | exact .inr (.inr rfl))) (a_cons (k := false) (p_tup (a_cons (k := false) (p_var (i := 3) rfl (by first | exact .inl rfl | exact .inr (.inl rfl) | exact .inr (.inr rfl))) (a_cons (k := false) (p_var (i := 4) rfl (by first | exact .inl rfl | exact .inr (.inl rfl) | exact .inr (.inr rfl))) (a_nil)))) (a_nil)))) (s_cons (s_if (q_cmp fx.hK fx.hu (p_ix fx.hK fx.hu (p_var (i := 4) rfl (by first | exact .inl rfl | exact .inr (.inl rfl) | exact .inr (.inr rfl))) (p_int)) (p_str [108, 97, 109] (by rfl))) (s_one (s_drop (p_app fx.hK (p_var (i := 2) rfl (by first | exact .inl rfl | exact .inr (.inl rfl) | exact .inr (.inr rfl))) (a_cons (k := false) (p_tup (a_cons (k := false) (p_bin fx.hK (p_var (i := 3) rfl (by first | exact .inl rfl | exact .inr (.inl rfl) | exact .inr (.inr rfl))) (p_str [98] (by rfl))) (a_cons (k := false) (p_ix fx.hK fx.hu (p_var (i := 4) rfl (by first | exact .inl rfl | exact .inr (.inl rfl) | exact .inr (.inr rfl))) (p_int)) (a_nil)))) (a_nil))))) (s_nil)) (s_one (s_if (q_cmp fx.hK fx.hu (p_ix fx.hK fx.hu (p_var (i := 4) rfl (by first | exact .inl rfl | exact .inr (.inl rfl) | exact .inr (.inr rfl))) (p_int)) (p_str [97, 112, 112] (by rfl))) (s_one (s_drop (p_ext fx.hK (p_var (i := 2) rfl (by first | exact .inl rfl | exact .inr (.inl rfl) | exact .inr (.inr rfl))) (a_cons (k := false) (p_lst (a_cons (k := false) (p_tup (a_cons (k := false) (p_bin fx.hK (p_var (i := 3) rfl (by first | exact .inl rfl | exact .inr (.inl rfl) | exact .inr (.inr rfl))) (p_str [97] (by rfl))) (a_cons (k := false) (p_ix fx.hK fx.hu (p_var (i := 4) rfl (by first | exact .inl rfl | exact .inr (.inl rfl) | exact .inr (.inr rfl))) (p_int)) (a_nil)))) (a_cons (k := false) (p_tup (a_cons (k := false) (p_bin fx.hK (p_var (i := 3) rfl (by first | exact .inl rfl | exact .inr (.inl rfl) | exact .inr (.inr rfl))) (p_str [102] (by rfl))) (a_cons (k := false) (p_ix fx.hK fx.hu (p_var (i := 4) rfl (by first | exact .inl rfl | exact .inr (.inl rfl) | exact .inr (.inr rfl))) (p_int)) (a_nil)))) (a_nil)))) (a_nil))))) (s_nil))))))) (s_one (s_ret (p_var (i := 1) rfl (by first | exact .inl rfl | exact .inr (.inl rfl) | exact .inr (.inr rfl)))))))
theorem sc_29 : FnScope ["term", "place", "other"] (ps 29) (defScope st_29) := ⟨rfl, rfl, rfl, by decide +kernel, rfl, by decide +kernel, by decide +kernel⟩
theorem ok_29 (G : En P w mg base κ fds xfds) (T : Tab P w mg base κ fds k) : FnOk P w κ.K mg base (L2.CX P w) (k + 3) (κ.fnA 29) (fds 29) (ps 29) (spOf κ 3 (Φ (k + 1) 29)) := fn_ok G.F_29 sc_29 rfl fun gx cdv A outer s H E fx => (s_cons (s_if (q_cmp fx.hK fx.hu (p_var (i := 1) rfl (by first | exact .inl rfl | exact .inr (.inl rfl) | exact .inr (.inr rfl))) (p_str [] (by rfl))) (s_one (s_ret (p_var (i := 2) rfl (by first | exact .inl rfl | exact .inr (.inl rfl) | exact .inr (.inr rfl))))) (s_nil)) (s_cons (s_if (q_cmp fx.hK fx.hu (p_ix fx.hK fx.hu (p_var (i := 1) rfl (by first | exact .inl rfl | exact .inr (.inl rfl) | exact .inr (.inr rfl))) (p_int)) (p_str [98] (by rfl))) (s_one (s_ret (p_tup (a_cons (k := false) (p_str [108, 97, 109] (by rfl)) (a_cons (k := false) (p_ix fx.hK fx.hu (p_var (i := 0) rfl (by first | exact .inl rfl | exact .inr (.inl rfl) | exact .inr (.inr rfl))) (p_int)) (a_cons (k := false) (p_call (n := 3) (T 29 (by decide)) fx.hr fx.tk (G.p 29 (by decide)) G.b_29 G.g_29 rfl (a_cons (k := false) (p_ix fx.hK fx.hu (p_var (i := 0) rfl (by first | exact .inl rfl | exact .inr (.inl rfl) | exact .inr (.inr rfl))) (p_int)) (a_cons (k := false) (p_sl fx.hK (p_var (i := 1) rfl (by first | exact .inl rfl | exact .inr (.inl rfl) | exact .inr (.inr rfl))) (o_some (p_int)) (o_none)) (a_cons (k := false) (p_var (i := 2) rfl (by first | exact .inl rfl | exact .inr (.inl rfl) | exact .inr (.inr rfl))) (a_nil))))) (a_nil))))))) (s_nil)) (s_cons (s_if (q_cmp fx.hK fx.hu (p_ix fx.hK fx.hu (p_var (i := 1) rfl (by first | exact .inl rfl | exact .inr (.inl rfl) | exact .inr (.inr rfl))) (p_int)) (p_str [102] (by rfl))) (s_one (s_ret (p_tup (a_cons (k := false) (p_str [97, 112, 112] (by rfl)) (a_cons (k := false) (p_call (n := 3) (T 29 (by decide)) fx.hr fx.tk (G.p 29 (by decide)) G.b_29 G.g_29 rfl (a_cons (k := false) (p_ix fx.hK fx.hu (p_var (i := 0) rfl (by first | exact .inl rfl | exact .inr (.inl rfl) | exact .inr (.inr rfl))) (p_int)) (a_cons (k := false) (p_sl fx.hK (p_var (i := 1) rfl (by first | exact .inl rfl | exact .inr (.inl rfl) | exact .inr (.inr rfl))) (o_some (p_int)) (o_none)) (a_cons (k := false) (p_var (i := 2) rfl (by first | exact .inl rfl | exact .inr (.inl rfl) | exact .inr (.inr rfl))) (a_nil))))) (a_cons (k := false) (p_ix fx.hK fx.hu (p_var (i := 0) rfl (by first | exact .inl rfl | exact .inr (.inl rfl) | exact .inr (.inr rfl))) (p_int)) (a_nil))))))) (s_nil)) (s_one (s_ret (p_tup (a_cons (k := false) (p_str [97, 112, 112] (by rfl)) (a_cons (k := false) (p_ix fx.hK fx.hu (p_var (i := 0) rfl (by first | exact .inl rfl | exact .inr (.inl rfl) | exact .inr (.inr rfl))) (p_int)) (a_cons (k := false) (p_call (n := 3) (T 29 (by decide)) fx.hr fx.tk (G.p 29 (by decide)) G.b_29 G.g_29 rfl (a_cons (k := false) (p_ix fx.hK fx.hu (p_var (i := 0) rfl (by first | exact .inl rfl | exact .inr (.inl rfl) | exact .inr (.inr rfl))) (p_int)) (a_cons (k := false) (p_sl fx.hK (p_var (i := 1) rfl (by first | exact .inl rfl | exact .inr (.inl rfl) | exact .inr (.inr rfl))) (o_some (p_int)) (o_none)) (a_cons (k := false) (p_var (i := 2) rfl (by first | exact .inl rfl | exact .inr (.inl rfl) | exact .inr (.inr rfl))) (a_nil))))) (a_nil))))))))))
theorem sc_30 : FnScope ["box", "term", "rows", "place", "part", "some"] (ps 30) (defScope st_30) := ⟨rfl, rfl, rfl, by decide +kernel, rfl, by decide +kernel, by decide +kernel⟩
theorem ok_30 (G : En P w mg base κ fds xfds) (T : Tab P w mg base κ fds k) : FnOk P w κ.K mg base (L2.CX P w) (k + 3) (κ.fnA 30) (fds 30) (ps 30) (spOf κ 2 (Φ (k + 1) 30)) := fn_ok G.F_30 sc_30 rfl fun gx cdv A outer s H E fx => (s_cons (s_set (i := 2) (k := false) fx.nd rfl (by first | exact .inl rfl | exact .inr rfl) (p_call (n := 1) (T 28 (by decide)) fx.hr fx.tk (G.p 28 (by decide)) G.b_28 G.g_28 rfl (a_cons (k := false) (p_var (i := 1) rfl (by first | exact .inl rfl | exact .inr (.inl rfl) | exact .inr (.inr rfl))) (a_nil)))) (s_cons (s_asg (k := false) (p_ix fx.hK fx.hu (p_var (i := 2) rfl (by first | exact .inl rfl | exact .inr (.inl rfl) | exact .inr (.inr rfl))) (p_call (n := 2) (T 20 (by decide)) fx.hr fx.tk (G.p 20 (by decide)) G.b_20 G.g_20 rfl (a_cons (k := true) (p_var (i := 0) rfl (by first | exact .inl rfl | exact .inr (.inl rfl) | exact .inr (.inr rfl))) (a_cons (k := false) (p_callB (fLen_ok fx.hK) rfl G.u_len (by first | rfl | decide +kernel) (a_cons (k := false) (p_var (i := 2) rfl (by first | exact .inl rfl | exact .inr (.inl rfl) | exact .inr (.inr rfl))) (a_nil))) (a_nil))))) (g_tup fx.hK rfl (gs_cons (g_name (i := 3) fx.nd rfl (by first | exact .inl rfl | exact .inr rfl)) (gs_cons (g_name (i := 4) fx.nd rfl (by first | exact .inl rfl | exact .inr rfl)) (gs_nil))) rfl)) (s_cons (s_set (i := 5) (k := false) fx.nd rfl (by first | exact .inl rfl | exact .inr rfl) (p_lst (a_cons (k := false) (p_tup (a_cons (k := false) (p_str [118, 97, 114] (by rfl)) (a_nil))) (a_cons (k := false) (p_tup (a_cons (k := false) (p_str [118, 97, 114] (by rfl)) (a_cons (k := false) (p_str [] (by rfl)) (a_nil)))) (a_cons (k := false) (p_tup (a_cons (k := false) (p_str [118, 97, 114] (by rfl)) (a_cons (k := false) (p_str [97, 98, 99, 100, 101] (by rfl)) (a_nil)))) (a_cons (k := false) (p_tup (a_cons (k := false) (p_str [118, 97, 114] (by rfl)) (a_cons (k := false) (p_str [88] (by rfl)) (a_nil)))) (a_cons (k := false) (p_tup (a_cons (k := false) (p_str [118, 97, 114] (by rfl)) (a_cons (k := false) (p_str [120, 49] (by rfl)) (a_nil)))) (a_cons (k := false) (p_tup (a_cons (k := false) (p_str [118, 97, 114] (by rfl)) (a_cons (k := false) (p_non) (a_nil)))) (a_cons (k := false) (p_tup (a_cons (k := false) (p_str [108, 97, 109] (by rfl)) (a_cons (k := false) (p_str [120] (by rfl)) (a_nil)))) (a_cons (k := false) (p_tup (a_cons (k := false) (p_str [108, 97, 109] (by rfl)) (a_cons (k := false) (p_tup (a_cons (k := false) (p_str [118, 97, 114] (by rfl)) (a_cons (k := false) (p_str [120] (by rfl)) (a_nil)))) (a_cons (k := false) (p_var (i := 4) rfl (by first | exact .inl rfl | exact .inr (.inl rfl) | exact .inr (.inr rfl))) (a_nil))))) (a_cons (k := false) (p_tup (a_cons (k := false) (p_str [108, 97, 109] (by rfl)) (a_cons (k := false) (p_str [120] (by rfl)) (a_cons (k := false) (p_var (i := 4) rfl (by first | exact .inl rfl | exact .inr (.inl rfl) | exact .inr (.inr rfl))) (a_cons (k := false) (p_var (i := 4) rfl (by first | exact .inl rfl | exact .inr (.inl rfl) | exact .inr (.inr rfl))) (a_nil)))))) (a_cons (k := false) (p_tup (a_cons (k := false) (p_str [97, 112, 112] (by rfl)) (a_cons (k := false) (p_var (i := 4) rfl (by first | exact .inl rfl | exact .inr (.inl rfl) | exact .inr (.inr rfl))) (a_nil)))) (a_nil))))))))))))) (s_cons (s_set (i := 5) (k := false) fx.nd rfl (by first | exact .inl rfl | exact .inr rfl) (p_bin fx.hK (p_var (i := 5) rfl (by first | exact .inl rfl | exact .inr (.inl rfl) | exact .inr (.inr rfl))) (p_lst (a_cons (k := false) (p_tup (a_cons (k := false) (p_str [97, 112, 112] (by rfl)) (a_cons (k := false) (p_var (i := 4) rfl (by first | exact .inl rfl | exact .inr (.inl rfl) | exact .inr (.inr rfl))) (a_cons (k := false) (p_var (i := 4) rfl (by first | exact .inl rfl | exact .inr (.inl rfl) | exact .inr (.inr rfl))) (a_cons (k := false) (p_var (i := 4) rfl (by first | exact .inl rfl | exact .inr (.inl rfl) | exact .inr (.inr rfl))) (a_nil)))))) (a_cons (k := false) (p_lst (a_cons (k := false) (p_str [118, 97, 114] (by rfl)) (a_cons (k := false) (p_str [120] (by rfl)) (a_nil)))) (a_cons (k := false) (p_tup (a_cons (k := false) (p_str [110, 117, 109] (by rfl)) (a_cons (k := false) (p_int) (a_nil)))) (a_cons (k := false) (p_tup (a_cons (k := false) (p_str [86, 97, 114] (by rfl)) (a_cons (k := false) (p_str [120] (by rfl)) (a_nil)))) (a_cons (k := false) (p_non) (a_cons (k := false) (p_str [120] (by rfl)) (a_cons (k := false) (p_int) (a_cons (k := false) (p_bl) (a_cons (k := false) (p_tup (a_nil)) (a_cons (k := false) (p_tup (a_cons (k := false) (p_str [97, 112, 112] (by rfl)) (a_cons (k := false) (p_var (i := 4) rfl (by first | exact .inl rfl | exact .inr (.inl rfl) | exact .inr (.inr rfl))) (a_cons (k := false) (p_str [120] (by rfl)) (a_nil))))) (a_cons (k := false) (p_tup (a_cons (k := false) (p_str [97, 112, 112] (by rfl)) (a_cons (k := false) (p_non) (a_cons (k := false) (p_var (i := 4) rfl (by first | exact .inl rfl | exact .inr (.inl rfl) | exact .inr (.inr rfl))) (a_nil))))) (a_cons (k := false) (p_tup (a_cons (k := false) (p_str [108, 97, 109] (by rfl)) (a_cons (k := false) (p_str [120] (by rfl)) (a_cons (k := false) (p_non) (a_nil))))) (a_cons (k := false) (p_callTy (fList_ok fx.hK) rfl G.u_list (by first | rfl | decide +kernel) (a_cons (k := false) (p_var (i := 4) rfl (by first | exact .inl rfl | exact .inr (.inl rfl) | exact .inr (.inr rfl))) (a_nil))) (a_cons (k := false) (p_bin fx.hK (p_var (i := 4) rfl (by first | exact .inl rfl | exact .inr (.inl rfl) | exact .inr (.inr rfl))) (p_tup (a_cons (k := false) (p_var (i := 4) rfl (by first | exact .inl rfl | exact .inr (.inl rfl) | exact .inr (.inr rfl))) (a_nil)))) (a_nil)))))))))))))))))) (s_cons (s_set (i := 5) (k := false) fx.nd rfl (by first | exact .inl rfl | exact .inr rfl) (p_bin fx.hK (p_var (i := 5) rfl (by first | exact .inl rfl | exact .inr (.inl rfl) | exact .inr (.inr rfl))) (p_lst (a_cons (k := false) (p_tup (a_cons (k := false) (p_str [118, 97, 114] (by rfl)) (a_cons (k := false) (p_str [97, 98, 99, 100] (by rfl)) (a_nil)))) (a_cons (k := false) (p_tup (a_cons (k := false) (p_str [108, 97, 109] (by rfl)) (a_cons (k := false) (p_str [122, 122, 122, 122] (by rfl)) (a_cons (k := false) (p_var (i := 4) rfl (by first | exact .inl rfl | exact .inr (.inl rfl) | exact .inr (.inr rfl))) (a_nil))))) (a_cons (k := false) (p_tup (a_cons (k := false) (p_str [97, 112, 112] (by rfl)) (a_cons (k := false) (p_var (i := 4) rfl (by first | exact .inl rfl | exact .inr (.inl rfl) | exact .inr (.inr rfl))) (a_cons (k := false) (p_var (i := 4) rfl (by first | exact .inl rfl | exact .inr (.inl rfl) | exact .inr (.inr rfl))) (a_nil))))) (a_cons (k := false) (p_tup (a_cons (k := false) (p_str [118, 97, 114] (by rfl)) (a_cons (k := false) (p_str [120] (by rfl)) (a_cons (k := false) (p_str [121] (by rfl)) (a_nil))))) (a_cons (k := false) (p_dic0) (a_cons (k := false) (p_tup (a_cons (k := false) (p_str [108, 97, 109] (by rfl)) (a_cons (k := false) (p_int) (a_cons (k := false) (p_var (i := 4) rfl (by first | exact .inl rfl | exact .inr (.inl rfl) | exact .inr (.inr rfl))) (a_nil))))) (a_cons (k := false) (p_tup (a_cons (k := false) (p_str [102, 114, 101, 101] (by rfl)) (a_cons (k := false) (p_str [120] (by rfl)) (a_nil)))) (a_nil))))))))))) (s_one (s_ret (p_call (n := 3) (T 29 (by decide)) fx.hr fx.tk (G.p 29 (by decide)) G.b_29 G.g_29 rfl (a_cons (k := false) (p_var (i := 1) rfl (by first | exact .inl rfl | exact .inr (.inl rfl) | exact .inr (.inr rfl))) (a_cons (k := false) (p_var (i := 3) rfl (by first | exact .inl rfl | exact .inr (.inl rfl) | exact .inr (.inr rfl))) (a_cons (k := false) (p_ix fx.hK fx.hu (p_var (i := 5) rfl (by first | exact .inl rfl | exact .inr (.inl rfl) | exact .inr (.inr rfl))) (p_call (n := 2) (T 20 (by decide)) fx.hr fx.tk (G.p 20 (by decide)) G.b_20 G.g_20 rfl (a_cons (k := true) (p_var (i := 0) rfl (by first | exact .inl rfl | exact .inr (.inl rfl) | exact .inr (.inr rfl))) (a_cons (k := false) (p_callB (fLen_ok fx.hK) rfl G.u_len (by first | rfl | decide +kernel) (a_cons (k := false) (p_var (i := 5) rfl (by first | exact .inl rfl | exact .inr (.inl rfl) | exact .inr (.inr rfl))) (a_nil))) (a_nil))))) (a_nil))))))))))))
theorem sc_31 : FnScope ["k", "letters", "found", "turn"] (ps 31) (defScope st_31) := ⟨rfl, rfl, rfl, by decide +kernel, rfl, by decide +kernel, by decide +kernel⟩
theorem ok_31 (G : En P w mg base κ fds xfds) (T : Tab P w mg base κ fds k) : FnOk P w κ.K mg base (L2.CX P w) (k + 3) (κ.fnA 31) (fds 31) (ps 31) (spOf κ 1 (Φ (k + 1) 31)) := fn_ok G.F_31 sc_31 rfl fun gx cdv A outer s H E fx => (s_cons (s_par rfl fx.nd (a_cons (k := false) (p_str [97, 98, 99, 100, 101, 102, 103, 104, 105, 106, 107, 108, 109, 110, 111, 112, 113, 114, 115, 116, 117, 118, 119, 120, 121, 122] (by rfl)) (a_cons (k := false) (p_bin fx.hK (p_var (i := 0) rfl (by first | exact .inl rfl | exact .inr (.inl rfl) | exact .inr (.inr rfl))) (p_int)) (a_nil)))) (s_cons (s_set (i := 2) (k := false) fx.nd rfl (by first | exact .inl rfl | exact .inr rfl) (p_str [] (by rfl))) (s_cons (s_for (passes_of rfl) rfl (i_rg1 rfl G.u_range (a_cons (k := false) (p_int) (a_nil))) (g_name (i := 3) fx.nd rfl (by first | exact .inl rfl | exact .inr rfl)) (s_one (s_if (q_cmp fx.hK fx.hu (p_var (i := 0) rfl (by first | exact .inl rfl | exact .inr (.inl rfl) | exact .inr (.inr rfl))) (p_int)) (s_cons (s_set (i := 2) (k := false) fx.nd rfl (by first | exact .inl rfl | exact .inr rfl) (p_bin fx.hK (p_ix fx.hK fx.hu (p_var (i := 1) rfl (by first | exact .inl rfl | exact .inr (.inl rfl) | exact .inr (.inr rfl))) (p_bin fx.hK (p_callTy fInt_ok rfl G.u_int (by first | rfl | decide +kernel) (a_cons (k := false) (p_bin fx.hK (p_var (i := 0) rfl (by first | exact .inl rfl | exact .inr (.inl rfl) | exact .inr (.inr rfl))) (p_int)) (a_nil))) (p_int))) (p_var (i := 2) rfl (by first | exact .inl rfl | exact .inr (.inl rfl) | exact .inr (.inr rfl))))) (s_one (s_set (i := 0) (k := false) fx.nd rfl (by first | exact .inl rfl | exact .inr rfl) (p_bin fx.hK (p_bin fx.hK (p_var (i := 0) rfl (by first | exact .inl rfl | exact .inr (.inl rfl) | exact .inr (.inr rfl))) (p_int)) (p_int))))) (s_nil)))) (s_one (s_ret (p_var (i := 2) rfl (by first | exact .inl rfl | exact .inr (.inl rfl) | exact .inr (.inr rfl))))))))
theorem sc_32 : FnScope ["taken", "k"] (ps 32) (defScope st_32) := ⟨rfl, rfl, rfl, by decide +kernel, rfl, by decide +kernel, by decide +kernel⟩
theorem ok_32 (G : En P w mg base κ fds xfds) (T : Tab P w mg base κ fds k) : FnOk P w κ.K mg base (L2.CX P w) (k + 3) (κ.fnA 32) (fds 32) (ps 32) (spOf κ 1 (Φ (k + 1) 32)) := fn_ok G.F_32 sc_32 rfl fun gx cdv A outer s H E fx => (s_cons (s_set (i := 1) (k := false) fx.nd rfl (by first | exact .inl rfl | exact .inr rfl) (p_int)) (s_cons (s_while (passes_of rfl) (q_cmp fx.hK fx.hu (p_call (n := 1) (T 31 (by decide)) fx.hr fx.tk (G.p 31 (by decide)) G.b_31 G.g_31 rfl (a_cons (k := false) (p_var (i := 1) rfl (by first | exact .inl rfl | exact .inr (.inl rfl) | exact .inr (.inr rfl))) (a_nil))) (p_var (i := 0) rfl (by first | exact .inl rfl | exact .inr (.inl rfl) | exact .inr (.inr rfl)))) (s_one (s_set (i := 1) (k := false) fx.nd rfl (by first | exact .inl rfl | exact .inr rfl) (p_bin fx.hK (p_var (i := 1) rfl (by first | exact .inl rfl | exact .inr (.inl rfl) | exact .inr (.inr rfl))) (p_int))))) (s_one (s_ret (p_call (n := 1) (T 31 (by decide)) fx.hr fx.tk (G.p 31 (by decide)) G.b_31 G.g_31 rfl (a_cons (k := false) (p_var (i := 1) rfl (by first | exact .inl rfl | exact .inr (.inl rfl) | exact .inr (.inr rfl))) (a_nil)))))))
theorem sc_33 : FnScope ["which", "term", "by_name", "e"] (ps 33) (defScope st_33) := ⟨rfl, rfl, rfl, by decide +kernel, rfl, by decide +kernel, by decide +kernel⟩
theorem ok_33 (G : En P w mg base κ fds xfds) (T : Tab P w mg base κ fds k) : FnOk P w κ.K mg base (L2.CX P w) (k + 3) (κ.fnA 33) (fds 33) (ps 33) (spOf κ 3 (Φ (k + 1) 33)) := fn_ok G.F_33 sc_33 rfl fun gx cdv A outer s H E fx => (s_one (s_try (nC := nC) rfl rfl fx.nd fx.tk (fun W1 pn1 xe1 tk1 po1 => s_cons (s_if (q_cmp fx.hK fx.hu (p_var (i := 0) rfl (by first | exact .inl rfl | exact .inr (.inl rfl) | exact .inr (.inr rfl))) (p_int)) (s_one (s_ret (p_lst (a_cons (k := false) (p_str [116, 111, 108, 100] (by rfl)) (a_cons (k := false) (p_if (q_tru fx.hK (p_var (i := 2) rfl (by first | exact .inl rfl | exact .inr (.inl rfl) | exact .inr (.inr rfl)))) (p_callP (n := 1) (ks := kw_0) (pm := [0]) (T 16 (by decide)) fx.hr tk1 (G.p 16 (by decide)) G.w_0 G.g_16 (k_cons (k := false) (p_var (i := 1) rfl (by first | exact .inl rfl | exact .inr (.inl rfl) | exact .inr (.inr rfl))) (k_nil))) (p_call (n := 1) (T 16 (by decide)) fx.hr tk1 (G.p 16 (by decide)) G.b_16 G.g_16 rfl (a_cons (k := false) (p_var (i := 1) rfl (by first | exact .inl rfl | exact .inr (.inl rfl) | exact .inr (.inr rfl))) (a_nil)))) (a_nil)))))) (s_nil)) (s_one (s_ret (p_lst (a_cons (k := false) (p_str [116, 111, 108, 100] (by rfl)) (a_cons (k := false) (p_if (q_tru fx.hK (p_var (i := 2) rfl (by first | exact .inl rfl | exact .inr (.inl rfl) | exact .inr (.inr rfl)))) (p_callP (n := 1) (ks := kw_1) (pm := [0]) (T 17 (by decide)) fx.hr tk1 (G.p 17 (by decide)) G.w_1 G.g_17 (k_cons (k := false) (p_var (i := 1) rfl (by first | exact .inl rfl | exact .inr (.inl rfl) | exact .inr (.inr rfl))) (k_nil))) (p_call (n := 1) (T 17 (by decide)) fx.hr tk1 (G.p 17 (by decide)) G.b_17 G.g_17 rfl (a_cons (k := false) (p_var (i := 1) rfl (by first | exact .inl rfl | exact .inr (.inl rfl) | exact .inr (.inr rfl))) (a_nil)))) (a_nil))))))) (.cons ⟨rfl, by decide, .inl G.c_1⟩ rfl rfl (fun c hc => G.ex c hc 1 (by decide)) (fun a oe c d pn hz hd => s_one (s_ret (p_lst (a_cons (k := false) (p_str [116, 101, 114, 109] (by rfl)) (a_cons (k := false) (p_xf (κ := κ.at gx) (G.x_1).x (G.x_1).n G.l_1 hz hd (i := 3) rfl (by first | exact .inl rfl | exact .inr (.inl rfl) | exact .inr (.inr rfl))) (a_nil)))))) (.nil))))
theorem sc_34 : FnScope ["term", "free", "around", "known", "new", "pair"] (ps 34) (defScope st_34) := ⟨rfl, rfl, rfl, by decide +kernel, rfl, by decide +kernel, by decide +kernel⟩
theorem ok_34 (G : En P w mg base κ fds xfds) (T : Tab P w mg base κ fds k) : FnOk P w κ.K mg base (L2.CX P w) (k + 3) (κ.fnA 34) (fds 34) (ps 34) (spOf κ 4 (Φ (k + 1) 34)) := fn_ok G.F_34 sc_34 rfl fun gx cdv A outer s H E fx => (s_cons (s_if (q_cmp fx.hK fx.hu (p_ix fx.hK fx.hu (p_var (i := 0) rfl (by first | exact .inl rfl | exact .inr (.inl rfl) | exact .inr (.inr rfl))) (p_int)) (p_str [118, 97, 114] (by rfl))) (s_cons (s_setLc (i := 4) (k := false) (own := [("pair", 5)]) rfl fx.nd rfl rfl (by rfl) (i_sq fx.hK (p_var (i := 3) rfl (by first | exact .inl rfl | exact .inr (.inl rfl) | exact .inr (.inr rfl)))) (by first | rfl | decide +kernel) (fun _ _ _ _ _ => g_name (i := 5) fx.nd rfl (by first | exact .inl rfl | exact .inr rfl)) (fun _ _ _ _ _ => ts_one (q_cmp fx.hK fx.hu (p_ix fx.hK fx.hu (p_var (i := 5) rfl (by first | exact .inl rfl | exact .inr (.inl rfl) | exact .inr (.inr rfl))) (p_int)) (p_ix fx.hK fx.hu (p_var (i := 0) rfl (by first | exact .inl rfl | exact .inr (.inl rfl) | exact .inr (.inr rfl))) (p_int)))) (fun _ _ _ _ _ => p_ix fx.hK fx.hu (p_var (i := 5) rfl (by first | exact .inl rfl | exact .inr (.inl rfl) | exact .inr (.inr rfl))) (p_int))) (s_one (s_ret (p_tup (a_cons (k := false) (p_str [118, 97, 114] (by rfl)) (a_cons (k := false) (p_if (q_cmp fx.hK fx.hu (p_var (i := 4) rfl (by first | exact .inl rfl | exact .inr (.inl rfl) | exact .inr (.inr rfl))) (p_lst (a_nil))) (p_ix fx.hK fx.hu (p_var (i := 4) rfl (by first | exact .inl rfl | exact .inr (.inl rfl) | exact .inr (.inr rfl))) (p_int)) (p_ix fx.hK fx.hu (p_var (i := 0) rfl (by first | exact .inl rfl | exact .inr (.inl rfl) | exact .inr (.inr rfl))) (p_int))) (a_nil))))))) (s_nil)) (s_cons (s_if (q_cmp fx.hK fx.hu (p_ix fx.hK fx.hu (p_var (i := 0) rfl (by first | exact .inl rfl | exact .inr (.inl rfl) | exact .inr (.inr rfl))) (p_int)) (p_str [97, 112, 112] (by rfl))) (s_one (s_ret (p_tup (a_cons (k := false) (p_str [97, 112, 112] (by rfl)) (a_cons (k := false) (p_call (n := 4) (T 34 (by decide)) fx.hr fx.tk (G.p 34 (by decide)) G.b_34 G.g_34 rfl (a_cons (k := false) (p_ix fx.hK fx.hu (p_var (i := 0) rfl (by first | exact .inl rfl | exact .inr (.inl rfl) | exact .inr (.inr rfl))) (p_int)) (a_cons (k := false) (p_var (i := 1) rfl (by first | exact .inl rfl | exact .inr (.inl rfl) | exact .inr (.inr rfl))) (a_cons (k := false) (p_var (i := 2) rfl (by first | exact .inl rfl | exact .inr (.inl rfl) | exact .inr (.inr rfl))) (a_cons (k := false) (p_var (i := 3) rfl (by first | exact .inl rfl | exact .inr (.inl rfl) | exact .inr (.inr rfl))) (a_nil)))))) (a_cons (k := false) (p_call (n := 4) (T 34 (by decide)) fx.hr fx.tk (G.p 34 (by decide)) G.b_34 G.g_34 rfl (a_cons (k := false) (p_ix fx.hK fx.hu (p_var (i := 0) rfl (by first | exact .inl rfl | exact .inr (.inl rfl) | exact .inr (.inr rfl))) (p_int)) (a_cons (k := false) (p_var (i := 1) rfl (by first | exact .inl rfl | exact .inr (.inl rfl) | exact .inr (.inr rfl))) (a_cons (k := false) (p_var (i := 2) rfl (by first | exact .inl rfl | exact .inr (.inl rfl) | exact .inr (.inr rfl))) (a_cons (k := false) (p_var (i := 3) rfl (by first | exact .inl rfl | exact .inr (.inl rfl) | exact .inr (.inr rfl))) (a_nil)))))) (a_nil))))))) (s_nil)) (s_cons (s_set (i := 4) (k := false) fx.nd rfl (by first | exact .inl rfl | exact .inr rfl) (p_call (n := 1) (T 32 (by decide)) fx.hr fx.tk (G.p 32 (by decide)) G.b_32 G.g_32 rfl (a_cons (k := false) (p_bin fx.hK (p_var (i := 1) rfl (by first | exact .inl rfl | exact .inr (.inl rfl) | exact .inr (.inr rfl))) (p_var (i := 2) rfl (by first | exact .inl rfl | exact .inr (.inl rfl) | exact .inr (.inr rfl)))) (a_nil)))) (s_one (s_ret (p_tup (a_cons (k := false) (p_str [108, 97, 109] (by rfl)) (a_cons (k := false) (p_var (i := 4) rfl (by first | exact .inl rfl | exact .inr (.inl rfl) | exact .inr (.inr rfl))) (a_cons (k := false) (p_call (n := 4) (T 34 (by decide)) fx.hr fx.tk (G.p 34 (by decide)) G.b_34 G.g_34 rfl (a_cons (k := false) (p_ix fx.hK fx.hu (p_var (i := 0) rfl (by first | exact .inl rfl | exact .inr (.inl rfl) | exact .inr (.inr rfl))) (p_int)) (a_cons (k := false) (p_var (i := 1) rfl (by first | exact .inl rfl | exact .inr (.inl rfl) | exact .inr (.inr rfl))) (a_cons (k := false) (p_bin fx.hK (p_var (i := 2) rfl (by first | exact .inl rfl | exact .inr (.inl rfl) | exact .inr (.inr rfl))) (p_lst (a_cons (k := false) (p_var (i := 4) rfl (by first | exact .inl rfl | exact .inr (.inl rfl) | exact .inr (.inr rfl))) (a_nil)))) (a_cons (k := false) (p_bin fx.hK (p_lst (a_cons (k := false) (p_tup (a_cons (k := false) (p_ix fx.hK fx.hu (p_var (i := 0) rfl (by first | exact .inl rfl | exact .inr (.inl rfl) | exact .inr (.inr rfl))) (p_int)) (a_cons (k := false) (p_var (i := 4) rfl (by first | exact .inl rfl | exact .inr (.inl rfl) | exact .inr (.inr rfl))) (a_nil)))) (a_nil))) (p_var (i := 3) rfl (by first | exact .inl rfl | exact .inr (.inl rfl) | exact .inr (.inr rfl)))) (a_nil)))))) (a_nil))))))))))
theorem sc_35 : FnScope ["box", "term", "found", "k"] (ps 35) (defScope st_35) := ⟨rfl, rfl, rfl, by decide +kernel, rfl, by decide +kernel, by decide +kernel⟩
theorem ok_35 (G : En P w mg base κ fds xfds) (T : Tab P w mg base κ fds k) : FnOk P w κ.K mg base (L2.CX P w) (k + 3) (κ.fnA 35) (fds 35) (ps 35) (spOf κ 2 (Φ (k + 1) 35)) := fn_ok G.F_35 sc_35 rfl fun gx cdv A outer s H E fx => (s_cons (s_set (i := 2) (k := false) fx.nd rfl (by first | exact .inl rfl | exact .inr rfl) (p_var (i := 1) rfl (by first | exact .inl rfl | exact .inr (.inl rfl) | exact .inr (.inr rfl)))) (s_cons (s_for (passes_of rfl) rfl (i_rg1 rfl G.u_range (a_cons (k := false) (p_ix fx.hK fx.hu (p_lst (a_cons (k := false) (p_int) (a_cons (k := false) (p_int) (a_cons (k := false) (p_int) (a_cons (k := false) (p_bin fx.hK (p_int) (p_call (n := 2) (T 20 (by decide)) fx.hr fx.tk (G.p 20 (by decide)) G.b_20 G.g_20 rfl (a_cons (k := true) (p_var (i := 0) rfl (by first | exact .inl rfl | exact .inr (.inl rfl) | exact .inr (.inr rfl))) (a_cons (k := false) (p_int) (a_nil))))) (a_nil)))))) (p_call (n := 2) (T 20 (by decide)) fx.hr fx.tk (G.p 20 (by decide)) G.b_20 G.g_20 rfl (a_cons (k := true) (p_var (i := 0) rfl (by first | exact .inl rfl | exact .inr (.inl rfl) | exact .inr (.inr rfl))) (a_cons (k := false) (p_int) (a_nil))))) (a_nil))) (g_name (i := 3) fx.nd rfl (by first | exact .inl rfl | exact .inr rfl)) (s_one (s_set (i := 2) (k := false) fx.nd rfl (by first | exact .inl rfl | exact .inr rfl) (p_tup (a_cons (k := false) (p_str [108, 97, 109] (by rfl)) (a_cons (k := false) (p_ix fx.hK fx.hu (p_lst (a_cons (k := false) (p_str [120] (by rfl)) (a_cons (k := false) (p_str [97] (by rfl)) (a_cons (k := false) (p_str [98] (by rfl)) (a_cons (k := false) (p_str [121] (by rfl)) (a_cons (k := false) (p_str [99] (by rfl)) (a_cons (k := false) (p_str [122] (by rfl)) (a_nil)))))))) (p_call (n := 2) (T 20 (by decide)) fx.hr fx.tk (G.p 20 (by decide)) G.b_20 G.g_20 rfl (a_cons (k := true) (p_var (i := 0) rfl (by first | exact .inl rfl | exact .inr (.inl rfl) | exact .inr (.inr rfl))) (a_cons (k := false) (p_int) (a_nil))))) (a_cons (k := false) (p_var (i := 2) rfl (by first | exact .inl rfl | exact .inr (.inl rfl) | exact .inr (.inr rfl))) (a_nil)))))))) (s_one (s_ret (p_if (q_cmp fx.hK fx.hu (p_call (n := 2) (T 20 (by decide)) fx.hr fx.tk (G.p 20 (by decide)) G.b_20 G.g_20 rfl (a_cons (k := true) (p_var (i := 0) rfl (by first | exact .inl rfl | exact .inr (.inl rfl) | exact .inr (.inr rfl))) (a_cons (k := false) (p_int) (a_nil)))) (p_int)) (p_var (i := 2) rfl (by first | exact .inl rfl | exact .inr (.inl rfl) | exact .inr (.inr rfl))) (p_tup (a_cons (k := false) (p_str [97, 112, 112] (by rfl)) (a_cons (k := false) (p_var (i := 2) rfl (by first | exact .inl rfl | exact .inr (.inl rfl) | exact .inr (.inr rfl))) (a_cons (k := false) (p_tup (a_cons (k := false) (p_str [97, 112, 112] (by rfl)) (a_cons (k := false) (p_tup (a_cons (k := false) (p_str [118, 97, 114] (by rfl)) (a_cons (k := false) (p_str [97] (by rfl)) (a_nil)))) (a_cons (k := false) (p_tup (a_cons (k := false) (p_str [118, 97, 114] (by rfl)) (a_cons (k := false) (p_ix fx.hK fx.hu (p_lst (a_cons (k := false) (p_str [98] (by rfl)) (a_cons (k := false) (p_str [99] (by rfl)) (a_cons (k := false) (p_str [100] (by rfl)) (a_nil))))) (p_call (n := 2) (T 20 (by decide)) fx.hr fx.tk (G.p 20 (by decide)) G.b_20 G.g_20 rfl (a_cons (k := true) (p_var (i := 0) rfl (by first | exact .inl rfl | exact .inr (.inl rfl) | exact .inr (.inr rfl))) (a_cons (k := false) (p_int) (a_nil))))) (a_nil)))) (a_nil))))) (a_nil))))))))))
theorem sc_36 : FnScope ["box", "term", "due", "by_name", "closed", "name"] (ps 36) (defScope st_36) := ⟨rfl, rfl, rfl, by decide +kernel, rfl, by decide +kernel, by decide +kernel⟩
theorem ok_36 (G : En P w mg base κ fds xfds) (T : Tab P w mg base κ fds k) : FnOk P w κ.K mg base (L2.CX P w) (k + 3) (κ.fnA 36) (fds 36) (ps 36) (spOf κ 2 (Φ (k + 1) 36)) := fn_ok G.F_36 sc_36 rfl fun gx cdv A outer s H E fx => (s_cons (s_par rfl fx.nd (a_cons (k := false) (p_call (n := 4) (T 34 (by decide)) fx.hr fx.tk (G.p 34 (by decide)) G.b_34 G.g_34 rfl (a_cons (k := false) (p_var (i := 1) rfl (by first | exact .inl rfl | exact .inr (.inl rfl) | exact .inr (.inr rfl))) (a_cons (k := false) (p_call (n := 2) (T 23 (by decide)) fx.hr fx.tk (G.p 23 (by decide)) G.b_23 G.g_23 rfl (a_cons (k := false) (p_var (i := 1) rfl (by first | exact .inl rfl | exact .inr (.inl rfl) | exact .inr (.inr rfl))) (a_cons (k := false) (p_lst (a_nil)) (a_nil)))) (a_cons (k := false) (p_lst (a_nil)) (a_cons (k := false) (p_lst (a_nil)) (a_nil)))))) (a_cons (k := false) (p_cmp fx.hK fx.hu (p_call (n := 2) (T 20 (by decide)) fx.hr fx.tk (G.p 20 (by decide)) G.b_20 G.g_20 rfl (a_cons (k := true) (p_var (i := 0) rfl (by first | exact .inl rfl | exact .inr (.inl rfl) | exact .inr (.inr rfl))) (a_cons (k := false) (p_int) (a_nil)))) (p_int)) (a_nil)))) (s_cons (s_if (q_not (q_tru fx.hK (p_call (n := 2) (T 21 (by decide)) fx.hr fx.tk (G.p 21 (by decide)) G.b_21 G.g_21 rfl (a_cons (k := false) (p_lst (a_cons (k := false) (p_call (n := 3) (T 33 (by decide)) fx.hr fx.tk (G.p 33 (by decide)) G.b_33 G.g_33 rfl (a_cons (k := false) (p_int) (a_cons (k := false) (p_var (i := 1) rfl (by first | exact .inl rfl | exact .inr (.inl rfl) | exact .inr (.inr rfl))) (a_cons (k := false) (p_var (i := 3) rfl (by first | exact .inl rfl | exact .inr (.inl rfl) | exact .inr (.inr rfl))) (a_nil))))) (a_cons (k := false) (p_call (n := 3) (T 33 (by decide)) fx.hr fx.tk (G.p 33 (by decide)) G.b_33 G.g_33 rfl (a_cons (k := false) (p_int) (a_cons (k := false) (p_var (i := 1) rfl (by first | exact .inl rfl | exact .inr (.inl rfl) | exact .inr (.inr rfl))) (a_cons (k := false) (p_not fx.hK (p_var (i := 3) rfl (by first | exact .inl rfl | exact .inr (.inl rfl) | exact .inr (.inr rfl)))) (a_nil))))) (a_cons (k := false) (p_call (n := 3) (T 33 (by decide)) fx.hr fx.tk (G.p 33 (by decide)) G.b_33 G.g_33 rfl (a_cons (k := false) (p_int) (a_cons (k := false) (p_var (i := 2) rfl (by first | exact .inl rfl | exact .inr (.inl rfl) | exact .inr (.inr rfl))) (a_cons (k := false) (p_var (i := 3) rfl (by first | exact .inl rfl | exact .inr (.inl rfl) | exact .inr (.inr rfl))) (a_nil))))) (a_nil))))) (a_cons (k := false) (p_bin fx.hK (p_lst (a_cons (k := false) (p_lst (a_cons (k := false) (p_str [116, 111, 108, 100] (by rfl)) (a_cons (k := false) (p_var (i := 2) rfl (by first | exact .inl rfl | exact .inr (.inl rfl) | exact .inr (.inr rfl))) (a_nil)))) (a_nil))) (p_int)) (a_nil)))))) (s_one (s_ret (p_bl))) (s_nil)) (s_cons (s_if (q_cmp fx.hK fx.hu (p_call (n := 2) (T 22 (by decide)) fx.hr fx.tk (G.p 22 (by decide)) G.b_22 G.g_22 rfl (a_cons (k := false) (p_var (i := 2) rfl (by first | exact .inl rfl | exact .inr (.inl rfl) | exact .inr (.inr rfl))) (a_cons (k := false) (p_lst (a_nil)) (a_nil)))) (p_call (n := 2) (T 22 (by decide)) fx.hr fx.tk (G.p 22 (by decide)) G.b_22 G.g_22 rfl (a_cons (k := false) (p_var (i := 1) rfl (by first | exact .inl rfl | exact .inr (.inl rfl) | exact .inr (.inr rfl))) (a_cons (k := false) (p_lst (a_nil)) (a_nil))))) (s_one (s_ret (p_bl))) (s_nil)) (s_cons (s_set (i := 4) (k := false) fx.nd rfl (by first | exact .inl rfl | exact .inr rfl) (p_var (i := 1) rfl (by first | exact .inl rfl | exact .inr (.inl rfl) | exact .inr (.inr rfl)))) (s_cons (s_for (passes_of rfl) rfl (i_sq fx.hK (p_back fx.hK (p_sortSet rfl rfl G.u_sorted (by first | rfl | decide +kernel) rfl G.u_set (by first | rfl | decide +kernel) (a_cons (k := false) (p_call (n := 2) (T 23 (by decide)) fx.hr fx.tk (G.p 23 (by decide)) G.b_23 G.g_23 rfl (a_cons (k := false) (p_var (i := 1) rfl (by first | exact .inl rfl | exact .inr (.inl rfl) | exact .inr (.inr rfl))) (a_cons (k := false) (p_lst (a_nil)) (a_nil)))) (a_nil))))) (g_name (i := 5) fx.nd rfl (by first | exact .inl rfl | exact .inr rfl)) (s_one (s_set (i := 4) (k := false) fx.nd rfl (by first | exact .inl rfl | exact .inr rfl) (p_tup (a_cons (k := false) (p_str [108, 97, 109] (by rfl)) (a_cons (k := false) (p_var (i := 5) rfl (by first | exact .inl rfl | exact .inr (.inl rfl) | exact .inr (.inr rfl))) (a_cons (k := false) (p_var (i := 4) rfl (by first | exact .inl rfl | exact .inr (.inl rfl) | exact .inr (.inr rfl))) (a_nil)))))))) (s_cons (s_if (q_cmp fx.hK fx.hu (p_call (n := 2) (T 23 (by decide)) fx.hr fx.tk (G.p 23 (by decide)) G.b_23 G.g_23 rfl (a_cons (k := false) (p_var (i := 4) rfl (by first | exact .inl rfl | exact .inr (.inl rfl) | exact .inr (.inr rfl))) (a_cons (k := false) (p_lst (a_nil)) (a_nil)))) (p_lst (a_nil))) (s_one (s_ret (p_bl))) (s_nil)) (s_one (s_ret (p_call (n := 2) (T 21 (by decide)) fx.hr fx.tk (G.p 21 (by decide)) G.b_21 G.g_21 rfl (a_cons (k := false) (p_lst (a_cons (k := false) (p_call (n := 3) (T 33 (by decide)) fx.hr fx.tk (G.p 33 (by decide)) G.b_33 G.g_33 rfl (a_cons (k := false) (p_int) (a_cons (k := false) (p_var (i := 1) rfl (by first | exact .inl rfl | exact .inr (.inl rfl) | exact .inr (.inr rfl))) (a_cons (k := false) (p_var (i := 3) rfl (by first | exact .inl rfl | exact .inr (.inl rfl) | exact .inr (.inr rfl))) (a_nil))))) (a_cons (k := false) (p_call (n := 3) (T 33 (by decide)) fx.hr fx.tk (G.p 33 (by decide)) G.b_33 G.g_33 rfl (a_cons (k := false) (p_int) (a_cons (k := false) (p_var (i := 1) rfl (by first | exact .inl rfl | exact .inr (.inl rfl) | exact .inr (.inr rfl))) (a_cons (k := false) (p_not fx.hK (p_var (i := 3) rfl (by first | exact .inl rfl | exact .inr (.inl rfl) | exact .inr (.inr rfl)))) (a_nil))))) (a_cons (k := false) (p_call (n := 3) (T 33 (by decide)) fx.hr fx.tk (G.p 33 (by decide)) G.b_33 G.g_33 rfl (a_cons (k := false) (p_int) (a_cons (k := false) (p_var (i := 4) rfl (by first | exact .inl rfl | exact .inr (.inl rfl) | exact .inr (.inr rfl))) (a_cons (k := false) (p_var (i := 3) rfl (by first | exact .inl rfl | exact .inr (.inl rfl) | exact .inr (.inr rfl))) (a_nil))))) (a_nil))))) (a_cons (k := false) (p_bin fx.hK (p_lst (a_cons (k := false) (p_lst (a_cons (k := false) (p_str [116, 111, 108, 100] (by rfl)) (a_cons (k := false) (p_var (i := 4) rfl (by first | exact .inl rfl | exact .inr (.inl rfl) | exact .inr (.inr rfl))) (a_nil)))) (a_nil))) (p_int)) (a_nil))))))))))))
theorem sc_37 : FnScope ["script", "k", "box", "term", "small", "one", "turn", "bad", "which"] (ps 37) (defScope st_37) := ⟨rfl, rfl, rfl, by decide +kernel, rfl, by decide +kernel, by decide +kernel⟩
theorem ok_37 (G : En P w mg base κ fds xfds) (T : Tab P w mg base κ fds k) : FnOk P w κ.K mg base (L2.CX P w) (k + 3) (κ.fnA 37) (fds 37) (ps 37) (spOf κ 1 (Φ (k + 1) 37)) := fn_ok G.F_37 sc_37 rfl fun gx cdv A outer s H E fx => (s_cons (s_for (passes_of rfl) rfl (i_rg1 rfl G.u_range (a_cons (k := false) (p_callB (fMax_ok rfl) rfl G.u_max (by first | rfl | decide +kernel) (a_cons (k := false) (p_int) (a_cons (k := false) (p_callB (fMin_ok rfl) rfl G.u_min (by first | rfl | decide +kernel) (a_cons (k := false) (p_int) (a_cons (k := false) (p_callB (fLen_ok fx.hK) rfl G.u_len (by first | rfl | decide +kernel) (a_cons (k := false) (p_var (i := 0) rfl (by first | exact .inl rfl | exact .inr (.inl rfl) | exact .inr (.inr rfl))) (a_nil))) (a_nil)))) (a_nil)))) (a_nil))) (g_name (i := 1) fx.nd rfl (by first | exact .inl rfl | exact .inr rfl)) (s_cons (s_set (i := 2) (k := true) fx.nd rfl (by first | exact .inl rfl | exact .inr rfl) (p_call (n := 1) (T 19 (by decide)) fx.hr fx.tk (G.p 19 (by decide)) G.b_19 G.g_19 rfl (a_cons (k := false) (p_call (n := 2) (T 18 (by decide)) fx.hr fx.tk (G.p 18 (by decide)) G.b_18 G.g_18 rfl (a_cons (k := false) (p_var (i := 0) rfl (by first | exact .inl rfl | exact .inr (.inl rfl) | exact .inr (.inr rfl))) (a_cons (k := false) (p_var (i := 1) rfl (by first | exact .inl rfl | exact .inr (.inl rfl) | exact .inr (.inr rfl))) (a_nil)))) (a_nil)))) (s_cons (s_set (i := 3) (k := false) fx.nd rfl (by first | exact .inl rfl | exact .inr rfl) (p_call (n := 1) (T 25 (by decide)) fx.hr fx.tk (G.p 25 (by decide)) G.b_25 G.g_25 rfl (a_cons (k := true) (p_var (i := 2) rfl (by first | exact .inl rfl | exact .inr (.inl rfl) | exact .inr (.inr rfl))) (a_nil)))) (s_cons (s_set (i := 4) (k := false) fx.nd rfl (by first | exact .inl rfl | exact .inr rfl) (p_call (n := 3) (T 24 (by decide)) fx.hr fx.tk (G.p 24 (by decide)) G.b_24 G.g_24 rfl (a_cons (k := true) (p_var (i := 2) rfl (by first | exact .inl rfl | exact .inr (.inl rfl) | exact .inr (.inr rfl))) (a_cons (k := false) (p_bin fx.hK (p_int) (p_call (n := 2) (T 20 (by decide)) fx.hr fx.tk (G.p 20 (by decide)) G.b_20 G.g_20 rfl (a_cons (k := true) (p_var (i := 2) rfl (by first | exact .inl rfl | exact .inr (.inl rfl) | exact .inr (.inr rfl))) (a_cons (k := false) (p_int) (a_nil))))) (a_cons (k := false) (p_lst (a_cons (k := false) (p_str [97] (by rfl)) (a_cons (k := false) (p_str [98] (by rfl)) (a_cons (k := false) (p_str [120] (by rfl)) (a_cons (k := false) (p_str [121] (by rfl)) (a_cons (k := false) (p_str [97, 98] (by rfl)) (a_nil))))))) (a_nil)))))) (s_cons (s_for (passes_of rfl) rfl (i_sq fx.hK (p_lst (a_cons (k := false) (p_var (i := 3) rfl (by first | exact .inl rfl | exact .inr (.inl rfl) | exact .inr (.inr rfl))) (a_cons (k := false) (p_var (i := 4) rfl (by first | exact .inl rfl | exact .inr (.inl rfl) | exact .inr (.inr rfl))) (a_cons (k := false) (p_call (n := 2) (T 35 (by decide)) fx.hr fx.tk (G.p 35 (by decide)) G.b_35 G.g_35 rfl (a_cons (k := true) (p_var (i := 2) rfl (by first | exact .inl rfl | exact .inr (.inl rfl) | exact .inr (.inr rfl))) (a_cons (k := false) (p_var (i := 4) rfl (by first | exact .inl rfl | exact .inr (.inl rfl) | exact .inr (.inr rfl))) (a_nil)))) (a_cons (k := false) (p_call (n := 2) (T 35 (by decide)) fx.hr fx.tk (G.p 35 (by decide)) G.b_35 G.g_35 rfl (a_cons (k := true) (p_var (i := 2) rfl (by first | exact .inl rfl | exact .inr (.inl rfl) | exact .inr (.inr rfl))) (a_cons (k := false) (p_call (n := 3) (T 24 (by decide)) fx.hr fx.tk (G.p 24 (by decide)) G.b_24 G.g_24 rfl (a_cons (k := true) (p_var (i := 2) rfl (by first | exact .inl rfl | exact .inr (.inl rfl) | exact .inr (.inr rfl))) (a_cons (k := false) (p_int) (a_cons (k := false) (p_lst (a_cons (k := false) (p_str [99] (by rfl)) (a_cons (k := false) (p_str [97] (by rfl)) (a_nil)))) (a_nil))))) (a_nil)))) (a_nil))))))) (g_name (i := 5) fx.nd rfl (by first | exact .inl rfl | exact .inr rfl)) (s_one (s_if (q_not (q_tru fx.hK (p_call (n := 2) (T 36 (by decide)) fx.hr fx.tk (G.p 36 (by decide)) G.b_36 G.g_36 rfl (a_cons (k := true) (p_var (i := 2) rfl (by first | exact .inl rfl | exact .inr (.inl rfl) | exact .inr (.inr rfl))) (a_cons (k := false) (p_var (i := 5) rfl (by first | exact .inl rfl | exact .inr (.inl rfl) | exact .inr (.inr rfl))) (a_nil)))))) (s_one (s_ret (p_bl))) (s_nil)))) (s_one (s_for (passes_of rfl) rfl (i_rg1 rfl G.u_range (a_cons (k := false) (p_int) (a_nil))) (g_name (i := 6) fx.nd rfl (by first | exact .inl rfl | exact .inr rfl)) (s_cons (s_set (i := 7) (k := false) fx.nd rfl (by first | exact .inl rfl | exact .inr rfl) (p_call (n := 2) (T 30 (by decide)) fx.hr fx.tk (G.p 30 (by decide)) G.b_30 G.g_30 rfl (a_cons (k := true) (p_var (i := 2) rfl (by first | exact .inl rfl | exact .inr (.inl rfl) | exact .inr (.inr rfl))) (a_cons (k := false) (p_var (i := 3) rfl (by first | exact .inl rfl | exact .inr (.inl rfl) | exact .inr (.inr rfl))) (a_nil))))) (s_one (s_if (L2.PW.pt (q_and (q_not (q_tru fx.hK (p_call (n := 1) (T 27 (by decide)) fx.hr fx.tk (G.p 27 (by decide)) G.b_27 G.g_27 rfl (a_cons (k := false) (p_var (i := 7) rfl (by first | exact .inl rfl | exact .inr (.inl rfl) | exact .inr (.inr rfl))) (a_nil))))) (q_and1 (q_not (q_tru fx.hK (p_call (n := 2) (T 21 (by decide)) fx.hr fx.tk (G.p 21 (by decide)) G.b_21 G.g_21 rfl (a_cons (k := false) (p_lc (own := [("which", 8)]) rfl fx.nd (i_rg1 rfl G.u_range (a_cons (k := false) (p_int) (a_nil))) (by first | rfl | decide +kernel) (fun _ _ _ _ _ => g_name (i := 8) fx.nd rfl (by first | exact .inl rfl | exact .inr rfl)) (fun _ _ _ _ _ => ts_nil) (fun _ _ _ _ _ => p_call (n := 3) (T 33 (by decide)) fx.hr takes0 (G.p 33 (by decide)) G.b_33 G.g_33 rfl (a_cons (k := false) (p_var (i := 8) rfl (by first | exact .inl rfl | exact .inr (.inl rfl) | exact .inr (.inr rfl))) (a_cons (k := false) (p_var (i := 7) rfl (by first | exact .inl rfl | exact .inr (.inl rfl) | exact .inr (.inr rfl))) (a_cons (k := false) (p_cmp fx.hK fx.hu (p_call (n := 2) (T 20 (by decide)) fx.hr takes0 (G.p 20 (by decide)) G.b_20 G.g_20 rfl (a_cons (k := true) (p_var (i := 2) rfl (by first | exact .inl rfl | exact .inr (.inl rfl) | exact .inr (.inr rfl))) (a_cons (k := false) (p_int) (a_nil)))) (p_int)) (a_nil)))))) (a_cons (k := false) (p_bin fx.hK (p_lst (a_cons (k := false) (p_lst (a_cons (k := false) (p_str [116, 101, 114, 109] (by rfl)) (a_cons (k := false) (p_var (i := 7) rfl (by first | exact .inl rfl | exact .inr (.inl rfl) | exact .inr (.inr rfl))) (a_nil)))) (a_nil))) (p_int)) (a_nil))))))))) (s_one (s_ret (p_bl))) (s_nil))))))))))) (s_one (s_ret (p_bl))))
theorem tab0 : Tab P w mg base κ fds 0 := fun i hi => ⟨fun vs H Q E h => h.1, fun A outer s H args us vs Q E hr e0 hb hv ⟨_, gx, g, S, ds, rs, rd, h⟩ => h.elim⟩
theorem tab_step (G : En P w mg base κ fds xfds) (T : Tab P w mg base κ fds k) : Tab P w mg base κ fds (k + 1) := fun i hi => match i, hi with
  | 0, _ => ok_0 G T
  | 1, _ => ok_1 G T
  | 2, _ => ok_2 G T
  | 3, _ => ok_3 G T
  | 4, _ => ok_4 G T
  | 5, _ => ok_5 G T
  | 6, _ => ok_6 G T
  | 7, _ => ok_7 G T
  | 8, _ => ok_8 G T
  | 9, _ => ok_9 G T
  | 10, _ => ok_10 G T
  | 11, _ => ok_11 G T
  | 12, _ => ok_12 G T
  | 13, _ => ok_13 G T
  | 14, _ => ok_14 G T
  | 15, _ => ok_15 G T
  | 16, _ => ok_16 G T
  | 17, _ => ok_17 G T
  | 18, _ => ok_18 G T
  | 19, _ => ok_19 G T
  | 20, _ => ok_20 G T
  | 21, _ => ok_21 G T
  | 22, _ => ok_22 G T
  | 23, _ => ok_23 G T
  | 24, _ => ok_24 G T
  | 25, _ => ok_25 G T
  | 26, _ => ok_26 G T
  | 27, _ => ok_27 G T
  | 28, _ => ok_28 G T
  | 29, _ => ok_29 G T
  | 30, _ => ok_30 G T
  | 31, _ => ok_31 G T
  | 32, _ => ok_32 G T
  | 33, _ => ok_33 G T
  | 34, _ => ok_34 G T
  | 35, _ => ok_35 G T
  | 36, _ => ok_36 G T
  | 37, _ => ok_37 G T
  | n + 38, hi => absurd hi (Nat.not_lt.mpr (Nat.le_add_left 38 n))
theorem tab (G : En P w mg base κ fds xfds) : ∀ k, Tab P w mg base κ fds k
  | 0 => tab0
  | k + 1 => tab_step G (tab G k)
end
end k03
end

section
set_option Elab.async false
set_option linter.all false
set_option maxRecDepth 100000
set_option maxHeartbeats 0
/-! k03: the head. Printed by gen.py. -/
namespace k03
open PySem PySem.Spec L2 LB
open PyProof.Rows hiding St
def nm : Nat → Str
  | 0 => "is_letters"
  | 1 => "is_name"
  | 2 => "name_at"
  | 3 => "fresh_names"
  | 4 => "parts_of"
  | 5 => "count_of"
  | 6 => "built"
  | 7 => "depths_of"
  | 8 => "numbered_heads"
  | 9 => "free_in"
  | 10 => "named_heads"
  | 11 => "has_form"
  | 12 => "fits_term"
  | 13 => "check_term"
  | 14 => "free_of"
  | 15 => "in_normal_names"
  | 16 => "normal_names"
  | 17 => "closure"
  | 18 => "_law_cell"
  | 19 => "_law_box"
  | 20 => "_law_take"
  | 21 => "_law_same"
  | 22 => "_law_numbered"
  | 23 => "_law_free"
  | 24 => "_law_term"
  | 25 => "_law_some"
  | 26 => "_law_is_name"
  | 27 => "_law_is_term"
  | 28 => "_law_walk"
  | 29 => "_law_with"
  | 30 => "_law_odd"
  | 31 => "_law_name"
  | 32 => "_law_fresh"
  | 33 => "_law_asked"
  | 34 => "_law_normal"
  | 35 => "_law_renamed_lams"
  | 36 => "_law_right"
  | 37 => "law"
  | _ => ""
def cnm : Nat → Str
  | 0 => "LambdaError"
  | 1 => "InvalidTerm"
  | _ => ""
def fnm : Nat → Str
  | 1 => "given"
  | _ => ""
def kap (K : PySem.W.Frag) : Kx := ⟨K, fun i => He.ga K (nm i), fun c => He.ga K (cnm c), fnm, fun _ => True⟩
def fn : List He.DefD := [⟨("is_letters", none), "is_letters", "is_letters", defArgs st_0, defBody st_0, defScope st_0, [], []⟩,
  ⟨("is_name", none), "is_name", "is_name", defArgs st_1, defBody st_1, defScope st_1, [], []⟩,
  ⟨("name_at", none), "name_at", "name_at", defArgs st_2, defBody st_2, defScope st_2, [], []⟩,
  ⟨("fresh_names", none), "fresh_names", "fresh_names", defArgs st_3, defBody st_3, defScope st_3, [], []⟩,
  ⟨("parts_of", none), "parts_of", "parts_of", defArgs st_4, defBody st_4, defScope st_4, [], []⟩,
  ⟨("count_of", none), "count_of", "count_of", defArgs st_5, defBody st_5, defScope st_5, [], []⟩,
  ⟨("built", none), "built", "built", defArgs st_6, defBody st_6, defScope st_6, [], []⟩,
  ⟨("depths_of", none), "depths_of", "depths_of", defArgs st_7, defBody st_7, defScope st_7, [], []⟩,
  ⟨("numbered_heads", none), "numbered_heads", "numbered_heads", defArgs st_8, defBody st_8, defScope st_8, [], []⟩,
  ⟨("free_in", none), "free_in", "free_in", defArgs st_9, defBody st_9, defScope st_9, [], []⟩,
  ⟨("named_heads", none), "named_heads", "named_heads", defArgs st_10, defBody st_10, defScope st_10, [], []⟩,
  ⟨("has_form", none), "has_form", "has_form", defArgs st_11, defBody st_11, defScope st_11, [], []⟩,
  ⟨("fits_term", none), "fits_term", "fits_term", defArgs st_12, defBody st_12, defScope st_12, [], []⟩,
  ⟨("check_term", none), "check_term", "check_term", defArgs st_13, defBody st_13, defScope st_13, [], []⟩,
  ⟨("free_of", none), "free_of", "free_of", defArgs st_14, defBody st_14, defScope st_14, [], []⟩,
  ⟨("in_normal_names", none), "in_normal_names", "in_normal_names", defArgs st_15, defBody st_15, defScope st_15, [], []⟩,
  ⟨("normal_names", none), "normal_names", "normal_names", defArgs st_16, defBody st_16, defScope st_16, [], []⟩,
  ⟨("closure", none), "closure", "closure", defArgs st_17, defBody st_17, defScope st_17, [], []⟩,
  ⟨("_law_cell", none), "_law_cell", "_law_cell", defArgs st_18, defBody st_18, defScope st_18, [], []⟩,
  ⟨("_law_box", none), "_law_box", "_law_box", defArgs st_19, defBody st_19, defScope st_19, [], []⟩,
  ⟨("_law_take", none), "_law_take", "_law_take", defArgs st_20, defBody st_20, defScope st_20, [], []⟩,
  ⟨("_law_same", none), "_law_same", "_law_same", defArgs st_21, defBody st_21, defScope st_21, [], []⟩,
  ⟨("_law_numbered", none), "_law_numbered", "_law_numbered", defArgs st_22, defBody st_22, defScope st_22, [], []⟩,
  ⟨("_law_free", none), "_law_free", "_law_free", defArgs st_23, defBody st_23, defScope st_23, [], []⟩,
  ⟨("_law_term", none), "_law_term", "_law_term", defArgs st_24, defBody st_24, defScope st_24, [], []⟩,
  ⟨("_law_some", none), "_law_some", "_law_some", defArgs st_25, defBody st_25, defScope st_25, [], []⟩,
  ⟨("_law_is_name", none), "_law_is_name", "_law_is_name", defArgs st_26, defBody st_26, defScope st_26, [], []⟩,
  ⟨("_law_is_term", none), "_law_is_term", "_law_is_term", defArgs st_27, defBody st_27, defScope st_27, [], []⟩,
  ⟨("_law_walk", none), "_law_walk", "_law_walk", defArgs st_28, defBody st_28, defScope st_28, [], []⟩,
  ⟨("_law_with", none), "_law_with", "_law_with", defArgs st_29, defBody st_29, defScope st_29, [], []⟩,
  ⟨("_law_odd", none), "_law_odd", "_law_odd", defArgs st_30, defBody st_30, defScope st_30, [], []⟩,
  ⟨("_law_name", none), "_law_name", "_law_name", defArgs st_31, defBody st_31, defScope st_31, [], []⟩,
  ⟨("_law_fresh", none), "_law_fresh", "_law_fresh", defArgs st_32, defBody st_32, defScope st_32, [], []⟩,
  ⟨("_law_asked", none), "_law_asked", "_law_asked", defArgs st_33, defBody st_33, defScope st_33, [], []⟩,
  ⟨("_law_normal", none), "_law_normal", "_law_normal", defArgs st_34, defBody st_34, defScope st_34, [], []⟩,
  ⟨("_law_renamed_lams", none), "_law_renamed_lams", "_law_renamed_lams", defArgs st_35, defBody st_35, defScope st_35, [], []⟩,
  ⟨("_law_right", none), "_law_right", "_law_right", defArgs st_36, defBody st_36, defScope st_36, [], []⟩,
  ⟨("law", none), "law", "law", defArgs st_37, defBody st_37, defScope st_37, [], []⟩,
  ⟨("InvalidTerm", some "__init__"), "__init__", "InvalidTerm.__init__", defArgs ci_1, defBody ci_1, defScope ci_1, [], []⟩]
def fa : List He.Fa := [.glo "is_letters", .glo "is_name", .glo "name_at", .glo "fresh_names", .glo "parts_of", .glo "count_of", .glo "built", .glo "depths_of", .glo "numbered_heads", .glo "free_in", .glo "named_heads", .glo "has_form", .glo "fits_term", .glo "check_term", .glo "free_of", .glo "in_normal_names", .glo "normal_names", .glo "closure", .glo "_law_cell", .glo "_law_box", .glo "_law_take", .glo "_law_same", .glo "_law_numbered", .glo "_law_free", .glo "_law_term", .glo "_law_some", .glo "_law_is_name", .glo "_law_is_term", .glo "_law_walk", .glo "_law_with", .glo "_law_odd", .glo "_law_name", .glo "_law_fresh", .glo "_law_asked", .glo "_law_normal", .glo "_law_renamed_lams", .glo "_law_right", .glo "law", .free "abs", .free "all", .free "bool", .free "dict", .free "int", .free "isinstance", .free "len", .free "list", .free "max", .free "min", .free "range", .free "set", .free "sorted", .free "str", .free "sum", .free "tuple", .free "zip", .glo "InvalidTerm", .glo "APP", .glo "LAM", .str "LETTERS" "abcdefghijklmnopqrstuvwxyz", .int "MOST_LETTERS" 4, .int "MOST_SIZE" 2000, .exm "LambdaError" "LambdaError" true, .exm "LambdaError" "InvalidTerm" false, .exm "InvalidTerm" "LambdaError" true, .exm "InvalidTerm" "InvalidTerm" true]
def bsF (K : PySem.W.Frag) : Bool := xcB K "InvalidTerm" "given" && (He.tupB K "APP" [.str "app"] && (He.tupB K "LAM" [.str "lam"] && (true)))
section
variable {P : Program} {w : World} {mg : Str → Option Value} {base h : Heap} {K : PySem.W.Frag}
theorem sci_1 : FnScope ["self", "given"] ["self", "given"] (defScope ci_1) := ⟨rfl, rfl, rfl, by decide +kernel, rfl, by decide +kernel, by decide +kernel⟩
theorem env (X : K.In h) (Gn : h.Ns mainGlobals mg) (c : He.SaysD fa fn K) (cb : bsF K = true) : ∃ fds : Nat → FuncData, (∀ (s : Shared) (v : Value), BindsTo s (fds 37) ⟨[v], []⟩ [("script", v)]) ∧ ∀ base : Heap, ∃ xfds : Nat → FuncData, En P w mg base (kap K) fds xfds := by
  obtain ⟨fd_0, F_0⟩ := c.def_ 0 rfl
  obtain ⟨fd_1, F_1⟩ := c.def_ 1 rfl
  obtain ⟨fd_2, F_2⟩ := c.def_ 2 rfl
  obtain ⟨fd_3, F_3⟩ := c.def_ 3 rfl
  obtain ⟨fd_4, F_4⟩ := c.def_ 4 rfl
  obtain ⟨fd_5, F_5⟩ := c.def_ 5 rfl
  obtain ⟨fd_6, F_6⟩ := c.def_ 6 rfl
  obtain ⟨fd_7, F_7⟩ := c.def_ 7 rfl
  obtain ⟨fd_8, F_8⟩ := c.def_ 8 rfl
  obtain ⟨fd_9, F_9⟩ := c.def_ 9 rfl
  obtain ⟨fd_10, F_10⟩ := c.def_ 10 rfl
  obtain ⟨fd_11, F_11⟩ := c.def_ 11 rfl
  obtain ⟨fd_12, F_12⟩ := c.def_ 12 rfl
  obtain ⟨fd_13, F_13⟩ := c.def_ 13 rfl
  obtain ⟨fd_14, F_14⟩ := c.def_ 14 rfl
  obtain ⟨fd_15, F_15⟩ := c.def_ 15 rfl
  obtain ⟨fd_16, F_16⟩ := c.def_ 16 rfl
  obtain ⟨fd_17, F_17⟩ := c.def_ 17 rfl
  obtain ⟨fd_18, F_18⟩ := c.def_ 18 rfl
  obtain ⟨fd_19, F_19⟩ := c.def_ 19 rfl
  obtain ⟨fd_20, F_20⟩ := c.def_ 20 rfl
  obtain ⟨fd_21, F_21⟩ := c.def_ 21 rfl
  obtain ⟨fd_22, F_22⟩ := c.def_ 22 rfl
  obtain ⟨fd_23, F_23⟩ := c.def_ 23 rfl
  obtain ⟨fd_24, F_24⟩ := c.def_ 24 rfl
  obtain ⟨fd_25, F_25⟩ := c.def_ 25 rfl
  obtain ⟨fd_26, F_26⟩ := c.def_ 26 rfl
  obtain ⟨fd_27, F_27⟩ := c.def_ 27 rfl
  obtain ⟨fd_28, F_28⟩ := c.def_ 28 rfl
  obtain ⟨fd_29, F_29⟩ := c.def_ 29 rfl
  obtain ⟨fd_30, F_30⟩ := c.def_ 30 rfl
  obtain ⟨fd_31, F_31⟩ := c.def_ 31 rfl
  obtain ⟨fd_32, F_32⟩ := c.def_ 32 rfl
  obtain ⟨fd_33, F_33⟩ := c.def_ 33 rfl
  obtain ⟨fd_34, F_34⟩ := c.def_ 34 rfl
  obtain ⟨fd_35, F_35⟩ := c.def_ 35 rfl
  obtain ⟨fd_36, F_36⟩ := c.def_ 36 rfl
  obtain ⟨fd_37, F_37⟩ := c.def_ 37 rfl
  obtain ⟨xd_1, X_1⟩ := c.def_ 38 rfl
  obtain ⟨z_0, y_0⟩ := Bool.and_eq_true_iff.mp (show (_ && _) = true from cb)
  obtain ⟨z_1, y_1⟩ := Bool.and_eq_true_iff.mp (show (_ && _) = true from y_0)
  obtain ⟨z_2, y_2⟩ := Bool.and_eq_true_iff.mp (show (_ && _) = true from y_1)
  refine ⟨fun i => match i with
    | 0 => fd_0
    | 1 => fd_1
    | 2 => fd_2
    | 3 => fd_3
    | 4 => fd_4
    | 5 => fd_5
    | 6 => fd_6
    | 7 => fd_7
    | 8 => fd_8
    | 9 => fd_9
    | 10 => fd_10
    | 11 => fd_11
    | 12 => fd_12
    | 13 => fd_13
    | 14 => fd_14
    | 15 => fd_15
    | 16 => fd_16
    | 17 => fd_17
    | 18 => fd_18
    | 19 => fd_19
    | 20 => fd_20
    | 21 => fd_21
    | 22 => fd_22
    | 23 => fd_23
    | 24 => fd_24
    | 25 => fd_25
    | 26 => fd_26
    | 27 => fd_27
    | 28 => fd_28
    | 29 => fd_29
    | 30 => fd_30
    | 31 => fd_31
    | 32 => fd_32
    | 33 => fd_33
    | 34 => fd_34
    | 35 => fd_35
    | 36 => fd_36
    | 37 => fd_37
    | _ => fd_0, fun s v => FunD.bindsA (ps := ["script"]) F_37 (fun _ _ _ _ _ _ us hl => match us, hl with | [_], _ => rfl) s [v] rfl, fun base => ⟨fun i => match i with
    | 1 => xd_1
    | _ => fd_0, ?_⟩⟩
  exact ⟨fun i hi => match i, hi with
      | 0, _ => F_0.kp
      | 1, _ => F_1.kp
      | 2, _ => F_2.kp
      | 3, _ => F_3.kp
      | 4, _ => F_4.kp
      | 5, _ => F_5.kp
      | 6, _ => F_6.kp
      | 7, _ => F_7.kp
      | 8, _ => F_8.kp
      | 9, _ => F_9.kp
      | 10, _ => F_10.kp
      | 11, _ => F_11.kp
      | 12, _ => F_12.kp
      | 13, _ => F_13.kp
      | 14, _ => F_14.kp
      | 15, _ => F_15.kp
      | 16, _ => F_16.kp
      | 17, _ => F_17.kp
      | 18, _ => F_18.kp
      | 19, _ => F_19.kp
      | 20, _ => F_20.kp
      | 21, _ => F_21.kp
      | 22, _ => F_22.kp
      | 23, _ => F_23.kp
      | 24, _ => F_24.kp
      | 25, _ => F_25.kp
      | 26, _ => F_26.kp
      | 27, _ => F_27.kp
      | 28, _ => F_28.kp
      | 29, _ => F_29.kp
      | 30, _ => F_30.kp
      | 31, _ => F_31.kp
      | 32, _ => F_32.kp
      | 33, _ => F_33.kp
      | 34, _ => F_34.kp
      | 35, _ => F_35.kp
      | 36, _ => F_36.kp
      | 37, _ => F_37.kp
      | n + 38, hi => absurd hi (Nat.not_lt.mpr (Nat.le_add_left 38 n)),
    F_0,
    He.glo_ok X Gn (c.fact 0 rfl),
    FunD.bindsN (ps := ps 0) F_0 (fun _ _ _ _ _ _ us hl => match us, hl with | [_, _], _ => rfl),
    F_1,
    He.glo_ok X Gn (c.fact 1 rfl),
    FunD.bindsN (ps := ps 1) F_1 (fun _ _ _ _ _ _ us hl => match us, hl with | [_], _ => rfl),
    F_2,
    He.glo_ok X Gn (c.fact 2 rfl),
    FunD.bindsN (ps := ps 2) F_2 (fun _ _ _ _ _ _ us hl => match us, hl with | [_], _ => rfl),
    F_3,
    He.glo_ok X Gn (c.fact 3 rfl),
    FunD.bindsN (ps := ps 3) F_3 (fun _ _ _ _ _ _ us hl => match us, hl with | [_, _], _ => rfl),
    F_4,
    He.glo_ok X Gn (c.fact 4 rfl),
    FunD.bindsN (ps := ps 4) F_4 (fun _ _ _ _ _ _ us hl => match us, hl with | [_], _ => rfl),
    F_5,
    He.glo_ok X Gn (c.fact 5 rfl),
    FunD.bindsN (ps := ps 5) F_5 (fun _ _ _ _ _ _ us hl => match us, hl with | [_], _ => rfl),
    F_6,
    He.glo_ok X Gn (c.fact 6 rfl),
    FunD.bindsN (ps := ps 6) F_6 (fun _ _ _ _ _ _ us hl => match us, hl with | [_], _ => rfl),
    F_7,
    He.glo_ok X Gn (c.fact 7 rfl),
    FunD.bindsN (ps := ps 7) F_7 (fun _ _ _ _ _ _ us hl => match us, hl with | [_], _ => rfl),
    F_8,
    He.glo_ok X Gn (c.fact 8 rfl),
    FunD.bindsN (ps := ps 8) F_8 (fun _ _ _ _ _ _ us hl => match us, hl with | [_], _ => rfl),
    F_9,
    He.glo_ok X Gn (c.fact 9 rfl),
    FunD.bindsN (ps := ps 9) F_9 (fun _ _ _ _ _ _ us hl => match us, hl with | [_], _ => rfl),
    F_10,
    He.glo_ok X Gn (c.fact 10 rfl),
    FunD.bindsN (ps := ps 10) F_10 (fun _ _ _ _ _ _ us hl => match us, hl with | [_, _], _ => rfl),
    F_11,
    He.glo_ok X Gn (c.fact 11 rfl),
    FunD.bindsN (ps := ps 11) F_11 (fun _ _ _ _ _ _ us hl => match us, hl with | [_], _ => rfl),
    F_12,
    He.glo_ok X Gn (c.fact 12 rfl),
    FunD.bindsN (ps := ps 12) F_12 (fun _ _ _ _ _ _ us hl => match us, hl with | [_], _ => rfl),
    F_13,
    He.glo_ok X Gn (c.fact 13 rfl),
    FunD.bindsN (ps := ps 13) F_13 (fun _ _ _ _ _ _ us hl => match us, hl with | [_], _ => rfl),
    F_14,
    He.glo_ok X Gn (c.fact 14 rfl),
    FunD.bindsN (ps := ps 14) F_14 (fun _ _ _ _ _ _ us hl => match us, hl with | [_], _ => rfl),
    F_15,
    He.glo_ok X Gn (c.fact 15 rfl),
    FunD.bindsN (ps := ps 15) F_15 (fun _ _ _ _ _ _ us hl => match us, hl with | [_], _ => rfl),
    F_16,
    He.glo_ok X Gn (c.fact 16 rfl),
    FunD.bindsN (ps := ps 16) F_16 (fun _ _ _ _ _ _ us hl => match us, hl with | [_], _ => rfl),
    F_17,
    He.glo_ok X Gn (c.fact 17 rfl),
    FunD.bindsN (ps := ps 17) F_17 (fun _ _ _ _ _ _ us hl => match us, hl with | [_], _ => rfl),
    F_18,
    He.glo_ok X Gn (c.fact 18 rfl),
    FunD.bindsN (ps := ps 18) F_18 (fun _ _ _ _ _ _ us hl => match us, hl with | [_, _], _ => rfl),
    F_19,
    He.glo_ok X Gn (c.fact 19 rfl),
    FunD.bindsN (ps := ps 19) F_19 (fun _ _ _ _ _ _ us hl => match us, hl with | [_], _ => rfl),
    F_20,
    He.glo_ok X Gn (c.fact 20 rfl),
    FunD.bindsN (ps := ps 20) F_20 (fun _ _ _ _ _ _ us hl => match us, hl with | [_, _], _ => rfl),
    F_21,
    He.glo_ok X Gn (c.fact 21 rfl),
    FunD.bindsN (ps := ps 21) F_21 (fun _ _ _ _ _ _ us hl => match us, hl with | [_, _], _ => rfl),
    F_22,
    He.glo_ok X Gn (c.fact 22 rfl),
    FunD.bindsN (ps := ps 22) F_22 (fun _ _ _ _ _ _ us hl => match us, hl with | [_, _], _ => rfl),
    F_23,
    He.glo_ok X Gn (c.fact 23 rfl),
    FunD.bindsN (ps := ps 23) F_23 (fun _ _ _ _ _ _ us hl => match us, hl with | [_, _], _ => rfl),
    F_24,
    He.glo_ok X Gn (c.fact 24 rfl),
    FunD.bindsN (ps := ps 24) F_24 (fun _ _ _ _ _ _ us hl => match us, hl with | [_, _, _], _ => rfl),
    F_25,
    He.glo_ok X Gn (c.fact 25 rfl),
    FunD.bindsN (ps := ps 25) F_25 (fun _ _ _ _ _ _ us hl => match us, hl with | [_], _ => rfl),
    F_26,
    He.glo_ok X Gn (c.fact 26 rfl),
    FunD.bindsN (ps := ps 26) F_26 (fun _ _ _ _ _ _ us hl => match us, hl with | [_], _ => rfl),
    F_27,
    He.glo_ok X Gn (c.fact 27 rfl),
    FunD.bindsN (ps := ps 27) F_27 (fun _ _ _ _ _ _ us hl => match us, hl with | [_], _ => rfl),
    F_28,
    He.glo_ok X Gn (c.fact 28 rfl),
    FunD.bindsN (ps := ps 28) F_28 (fun _ _ _ _ _ _ us hl => match us, hl with | [_], _ => rfl),
    F_29,
    He.glo_ok X Gn (c.fact 29 rfl),
    FunD.bindsN (ps := ps 29) F_29 (fun _ _ _ _ _ _ us hl => match us, hl with | [_, _, _], _ => rfl),
    F_30,
    He.glo_ok X Gn (c.fact 30 rfl),
    FunD.bindsN (ps := ps 30) F_30 (fun _ _ _ _ _ _ us hl => match us, hl with | [_, _], _ => rfl),
    F_31,
    He.glo_ok X Gn (c.fact 31 rfl),
    FunD.bindsN (ps := ps 31) F_31 (fun _ _ _ _ _ _ us hl => match us, hl with | [_], _ => rfl),
    F_32,
    He.glo_ok X Gn (c.fact 32 rfl),
    FunD.bindsN (ps := ps 32) F_32 (fun _ _ _ _ _ _ us hl => match us, hl with | [_], _ => rfl),
    F_33,
    He.glo_ok X Gn (c.fact 33 rfl),
    FunD.bindsN (ps := ps 33) F_33 (fun _ _ _ _ _ _ us hl => match us, hl with | [_, _, _], _ => rfl),
    F_34,
    He.glo_ok X Gn (c.fact 34 rfl),
    FunD.bindsN (ps := ps 34) F_34 (fun _ _ _ _ _ _ us hl => match us, hl with | [_, _, _, _], _ => rfl),
    F_35,
    He.glo_ok X Gn (c.fact 35 rfl),
    FunD.bindsN (ps := ps 35) F_35 (fun _ _ _ _ _ _ us hl => match us, hl with | [_, _], _ => rfl),
    F_36,
    He.glo_ok X Gn (c.fact 36 rfl),
    FunD.bindsN (ps := ps 36) F_36 (fun _ _ _ _ _ _ us hl => match us, hl with | [_, _], _ => rfl),
    F_37,
    He.glo_ok X Gn (c.fact 37 rfl),
    FunD.bindsN (ps := ps 37) F_37 (fun _ _ _ _ _ _ us hl => match us, hl with | [_], _ => rfl),
    kwB_of (ps := ps 16) (ks := kw_0) F_16 (fun _ _ _ _ _ _ ws hl => match ws, hl with | [_], _ => rfl),
    kwB_of (ps := ps 17) (ks := kw_1) F_17 (fun _ _ _ _ _ _ ws hl => match ws, hl with | [_], _ => rfl),
    He.free_ok X Gn (c.fact 38 rfl),
    He.free_ok X Gn (c.fact 39 rfl),
    He.free_ok X Gn (c.fact 40 rfl),
    He.free_ok X Gn (c.fact 41 rfl),
    He.free_ok X Gn (c.fact 42 rfl),
    He.free_ok X Gn (c.fact 43 rfl),
    He.free_ok X Gn (c.fact 44 rfl),
    He.free_ok X Gn (c.fact 45 rfl),
    He.free_ok X Gn (c.fact 46 rfl),
    He.free_ok X Gn (c.fact 47 rfl),
    He.free_ok X Gn (c.fact 48 rfl),
    He.free_ok X Gn (c.fact 49 rfl),
    He.free_ok X Gn (c.fact 50 rfl),
    He.free_ok X Gn (c.fact 51 rfl),
    He.free_ok X Gn (c.fact 52 rfl),
    He.free_ok X Gn (c.fact 53 rfl),
    He.free_ok X Gn (c.fact 54 rfl),
    He.glo_ok X Gn (c.fact 56 rfl),
    fun H => He.tupB_ok z_1 H,
    fun _ _ _ => .cons (.str [97, 112, 112]) (.nil),
    He.glo_ok X Gn (c.fact 57 rfl),
    fun H => He.tupB_ok z_2 H,
    fun _ _ _ => .cons (.str [108, 97, 109]) (.nil),
    He.str_ok X Gn (c.fact 58 rfl),
    He.int_ok X Gn (c.fact 59 rfl),
    He.int_ok X Gn (c.fact 60 rfl),
    He.glo_ok X Gn (c.fact 55 rfl),
    rfl,
    xcB_ok z_0 0 (fun T n => ini_ok T n X_1 sci_1 (.inl rfl) (.inl rfl) (by decide) (by decide) (by intro _; rfl)) (FunD.bindsN X_1 (fun _ _ _ _ _ _ us hl => match us, hl with | [_, _], _ => rfl)),
    fun a ha b hb => match a, ha, b, hb with
      | 0, _, 0, _ => of_decide_eq_true (c.fact 61 rfl)
      | 0, _, 1, _ => of_decide_eq_true (c.fact 62 rfl)
      | 1, _, 0, _ => of_decide_eq_true (c.fact 63 rfl)
      | 1, _, 1, _ => of_decide_eq_true (c.fact 64 rfl)
      | n + 2, ha, _, _ => absurd ha (Nat.not_lt.mpr (Nat.le_add_left 2 n))
      | _, _, n + 2, hb => absurd hb (Nat.not_lt.mpr (Nat.le_add_left 2 n))⟩
end
abbrev R : PySem.W.OpenRow := PySem.W.OpenLaw.row PySem.Challenge.rw_lambdabench_k03_normal_names_and_closure
abbrev hk : PySem.W.Hook := hookB 6 fa fn bsF
def ob (s : PySem.W.SharedT) : He.AlD × Bool := obB 6 fa fn bsF (HandSHeadRun.getT s)
def loose : List Str := [("LambdaError" : Str), ("InvalidTerm" : Str), ("LETTERS" : Str), ("MOST_LETTERS" : Str), ("is_letters" : Str), ("is_name" : Str), ("name_at" : Str), ("fresh_names" : Str), ("APP" : Str), ("LAM" : Str), ("parts_of" : Str), ("count_of" : Str), ("built" : Str), ("depths_of" : Str), ("numbered_heads" : Str), ("free_in" : Str), ("named_heads" : Str), ("MOST_SIZE" : Str), ("has_form" : Str), ("fits_term" : Str), ("check_term" : Str), ("free_of" : Str), ("in_normal_names" : Str), ("normal_names" : Str), ("closure" : Str), ("_law_cell" : Str), ("_law_box" : Str), ("_law_take" : Str), ("_law_same" : Str), ("_law_numbered" : Str), ("_law_free" : Str), ("_law_term" : Str), ("_law_some" : Str), ("_law_is_name" : Str), ("_law_is_term" : Str), ("_law_walk" : Str), ("_law_with" : Str), ("_law_odd" : Str), ("_law_name" : Str), ("_law_fresh" : Str), ("_law_asked" : Str), ("_law_normal" : Str), ("_law_renamed_lams" : Str), ("_law_right" : Str)]
theorem run (w : World) : HandSHeadRun.RunEq R (PySem.W.view R.prog [50]) hk ob 4000 loose w := by
  intro os
  kernel_rfl
end k03
open PySem PySem.W PySem.Calls PyProof.Rows in
theorem k03.holds_of (k : Nat) (hr : L2.Room (k + 2) callerA) (pure : ∀ ns : List Int, ns.length ≤ 63 → k03.Φ k 37 [.scr ns] [] = .ok (.bl true) []) : PySem.Challenge.rw_lambdabench_k03_normal_names_and_closure.Holds := by
  w_on; o_law
  refine HandSHeadRun.head_any (r := OpenLaw.row PySem.Challenge.rw_lambdabench_k03_normal_names_and_closure) (q := view (OpenLaw.row PySem.Challenge.rw_lambdabench_k03_normal_names_and_closure).prog [50]) (H := k03.hk) (ob := k03.ob) (M := 4000) (loose := k03.loose) (d := HandSHeadRun.topDef (OpenLaw.row PySem.Challenge.rw_lambdabench_k03_normal_names_and_closure).prog 50) (kwd := []) (fun s => LB.obB_eq s)
    (by kernel_rfl) (fun s => by kernel_rfl) k03.run (by kernel_rfl) (by kernel_rfl) (by kernel_rfl) (by rfl) (by first | assumption | decide +kernel) (by decide +kernel) ⟨rfl, rfl, rfl, rfl, rfl, by decide +kernel⟩ ?hw ?hc
  case hw => w_witness2
  case hc =>
    refine L2.walk_ofE (l := PySem.Challenge.rw_lambdabench_k03_normal_names_and_closure) (n := 63) (k := k + 2) (x := "script") (CX := LB.CXe (PySem.Challenge.rw_lambdabench_k03_normal_names_and_closure).prog) rfl (by decide) (by kernel_rfl) hr ?F (fun H s e s' z => LB.cx0 H s e s' z)
    intro w mg fa h Y G hmg0
    obtain ⟨K, KX, c, cb⟩ := Y
    have hmg : mg ("law" : PySem.Str) = some (.ref fa) := by
      have e : (HandSHeadRun.topDef (OpenLaw.row PySem.Challenge.rw_lambdabench_k03_normal_names_and_closure).prog 50).name = ("law" : PySem.Str) := by kernel_rfl
      rw [← e]
      exact hmg0
    obtain ⟨fds, hb, hE⟩ := k03.env (P := (PySem.Challenge.rw_lambdabench_k03_normal_names_and_closure).prog) (w := w) KX G c cb
    have ef : fa = He.ga K "law" := by
      have e := hmg.symm.trans (He.glo_ok KX G (c.fact 37 (f := .glo "law") rfl))
      cases e
      rfl
    subst ef
    refine ⟨K, fds 37, LB.spOf (k03.kap K) 1 (k03.Φ k 37), KX, hb, fun H a ns hl hO hS => LB.law_sp rfl hO hS (pure ns hl), fun base _ _ => ?_⟩
    obtain ⟨xfds, E⟩ := hE base
    exact LB.fn_cx (k03.tab E k 37 (by decide))
end

theorem PySem.Challenge.cw_lambdabench_k03_normal_names_and_closure_holds : PySem.Challenge.rw_lambdabench_k03_normal_names_and_closure.Holds :=
  k03.holds_of 202 (by constructor <;> decide +kernel) (fun ns hn => k03.e_law 0 ns hn)
